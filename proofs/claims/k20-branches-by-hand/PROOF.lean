import PyProof.Rows.All
import Wide.All
import OpenK.AllK
import Wide.FinOn
import HandS.ForMost
import HandS.Exc
import HandS.Slots
import HandS.Lambda
import KE.KDictKeyed
import KE.KDictLaw
import HandS.TupAny
import HandS.TupMul
import HandS.Style
import HandS.Deep
import HandS.TupLe
import HandS.IsInst
import HandS.Zip
import HandS.DictComp
import HandS.Words
import HandS.WordsList
import HandS.WordsExc
import HandS.Star
import HandS.SlotsOwn
import HandS.NamedTupGet
import KE.GoesEnum
import HandS.FStr
import HandS.Text
import HandS.Conv
import PyProof.ReprRoads
import PyProof.CallFns
import HandS.Defaults
import HandS.HeadHook1
import HandS.HeadHook2
import HandS.Dict
import HandS.Ends
import HandS.HeadEnd
import HandS.HeadHook3
import HandS.HeadHook4
import HandS.Head0
import HandS.Head1
import HandS.Head2
import KE.KStateDown
import KE.KExcSuper
import KE.KExcInit
import HandS.ExcInit
import PyProof.ExcBaseAll.OverflowError
import PyProof.ExcBaseAll.ValueError
import PyProof.InstStoreFacts
import HandS.ExcValue
import HandS.ExcField
import KE.KExcIs
import HandS.ExcIs
import KE.KTryMore
import HandS.ExcBuiltin
import PyProof.ReprLen
import PyProof.FitsInt
import KE.KDflt
import KE.DataMinMax
import KE.SortData
import HandS.Flow
import PySem.Challenge.RW_faceabout_k20_branches_by_hand
set_option Elab.async false
set_option linter.all false
set_option maxRecDepth 100000
set_option maxHeartbeats 4000000
namespace Dn
open PySem PySem.Spec PyProof.Rows L2

/-! data -/
inductive D where
  | non | bl (b : Bool) | int (i : Int) | str (x : Str)
  | tup (l : List D) | lst (l : List D)
  | obj (c : Nat) (d : D)
  | dct (l : List (Key × D))
  | exc (c : Nat) (l : List D)
  | drw
  | scr (ns : List Int)
  | dcn (l : List (NestedKey × D))
  | cel (k : Nat)
/-! keys as data -/
mutual
def kD : NestedKey → D
  | .none => .non
  | .num i => .int i
  | .text x => .str x
  | .tup l => .tup (kDs l)
def kDs : List NestedKey → List D
  | [] => []
  | k :: r => kD k :: kDs r
end
/-- the draws' dict, the objects that change -/
abbrev Ad := Option (Addr × List Addr)

abbrev AP := Addr → Prop
/-- the written part and the classes -/
structure Cl where
  K : PySem.W.Frag
  cl : Nat → Addr
  xc : Nat → Addr
  xf : Nat → Option Str
  T : List (Addr × Str)
  w : World

def Ext (A : AP) (H H' : Hp) : Prop := ∀ b o, ¬ A b → (∀ ps, o ≠ .tbl ps) → H b = some o → H' b = some o
abbrev Non : AP := fun _ => False
theorem Ext.refl {A : AP} {H : Hp} : Ext A H H := fun _ _ _ _ h => h
theorem Ext.trans {A : AP} {H H1 H2 : Hp} (a : Ext A H H1) (b : Ext A H1 H2) : Ext A H H2 := fun x o n t h => b x o n t (a x o n t h)
theorem Ext.imp {A B : AP} {H H1 : Hp} (a : Ext A H H1) (h : ∀ b, A b → B b) : Ext B H H1 := fun x o n t q => a x o (fun z => n (h x z)) t q
theorem Ext.new {A : AP} {H : Hp} {p : Addr} {o : HO} (h : H p = none) : Ext A H (upd H p o) := fun a u _ _ e => by
  rw [upd_ne (ne_of_none e h)]
  exact e
/-- no table of code objects, no code object -/
def Fre (H : Hp) (p : Addr) : Prop := ∀ u, H p = some u → (∀ ps, u ≠ .tbl ps) ∧ ∀ c q, u ≠ LamX.CodeO c q
theorem Fre.none {H : Hp} {p : Addr} (h : H p = Option.none) : Fre H p := fun u z => by
  rw [h] at z
  cases z
theorem Fre.of {H : Hp} {p : Addr} {u : HO} (h : H p = some u) (t : ∀ ps, u ≠ .tbl ps) (c : ∀ c q, u ≠ LamX.CodeO c q) : Fre H p := fun v z => by
  rw [h] at z
  cases z
  exact ⟨t, c⟩
theorem Fre.lst {H : Hp} {p : Addr} {vs : List V} (h : H p = some (.lst vs)) : Fre H p := .of h (fun ps z => by cases z) fun c q z => by
  unfold LamX.CodeO at z
  cases z
theorem Fre.dK {H : Hp} {p : Addr} {vs : List (Key × V)} (h : H p = some (.dK vs)) : Fre H p := .of h (fun ps z => by cases z) fun c q z => by
  unfold LamX.CodeO at z
  cases z
theorem Fre.own {H : Hp} {p a : Addr} (h : H p = some (.own a)) : Fre H p := .of h (fun ps z => by cases z) fun c q z => by
  unfold LamX.CodeO at z
  cases z
theorem Fre.ins {H : Hp} {p C d : Addr} {fs : List (Str × V)} (h : H p = some (.ins C d fs)) : Fre H p := .of h (fun ps z => by cases z) fun c q z => by
  unfold LamX.CodeO at z
  cases z
theorem tabS_upd {H : Hp} {p P : Addr} {q : Str} {o : HO} (t : LamX.TabS H P q) (f : Fre H p) : LamX.TabS (upd H p o) P q := by
  obtain ⟨ps, h1, h2, h3⟩ := t
  refine ⟨ps, ?_, h2, fun pos cv hc => ?_⟩
  · rw [upd_ne fun z => (f (.tbl ps) (by rw [← z]; exact h1)).1 ps rfl]
    exact h1
  · obtain ⟨c, e1, e2⟩ := h3 pos cv hc
    refine ⟨c, e1, ?_⟩
    rw [upd_ne fun z => (f (LamX.CodeO c q) (by rw [← z]; exact e2)).2 c q rfl]
    exact e2
theorem tabs_upd {H : Hp} {p : Addr} {T : List (Addr × Str)} {o : HO} (t : LamX.Tabs T H) (f : Fre H p) : LamX.Tabs T (upd H p o) := fun x hx => tabS_upd (t x hx) f
/-- new objects alone -/
structure ExN (H H' : Hp) : Prop where
  k : Ext Non H H'
  t : ∀ P q, LamX.TabS H P q → LamX.TabS H' P q
theorem ExN.tabs {H H' : Hp} {T : List (Addr × Str)} (e : ExN H H') (h : LamX.Tabs T H) : LamX.Tabs T H' := fun p hp => e.t _ _ (h p hp)
theorem ExN.refl {H : Hp} : ExN H H := ⟨.refl, fun _ _ h => h⟩
theorem ExN.trans {H H1 H2 : Hp} (a : ExN H H1) (b : ExN H1 H2) : ExN H H2 := ⟨a.k.trans b.k, fun P q h => b.t P q (a.t P q h)⟩
theorem ExN.new {H : Hp} {p : Addr} {o : HO} (h : H p = none) : ExN H (upd H p o) := ⟨.new h, fun P q t => tabS_upd t (.none h)⟩
theorem Ext.rd {A : AP} {H H' : Hp} {a : Addr} {u : HO} (e : Ext A H H') (n : ¬ A a) (h : Rd H a u) (nt : ∀ ps, u ≠ .tbl ps) : Rd H' a u := by
  rcases h with h | ⟨o, h⟩
  · exact .inl (e a _ n nt h)
  · exact .inr ⟨o, e a _ n (fun ps z => by cases z) h⟩
theorem Ext.seqL {A : AP} {K : PySem.W.Frag} {H H' : Hp} {a : Addr} {xs : List V} (e : Ext A H H') (n : ¬ A a) (h : SqL K H a xs) : SqL K H' a xs := by
  rcases h with h | h
  · exact .inl (e.rd n h fun ps z => by cases z)
  · exact .inr h
theorem Ext.seqT {A : AP} {K : PySem.W.Frag} {H H' : Hp} {a : Addr} {xs : List V} (e : Ext A H H') (n : ¬ A a) (h : SqT K H a xs) : SqT K H' a xs := by
  rcases h with h | h
  · exact .inl (e.rd n h fun ps z => by cases z)
  · exact .inr h
/-- two addresses apart -/
theorem Rd.some {H : Hp} {a : Addr} {u : HO} (h : Rd H a u) : H a ≠ none := by
  rcases h with h | ⟨o, h⟩ <;> rw [h] <;> exact fun z => nomatch z

def Liv (H : Hp) (b : Addr) : Prop := ∃ o, H b = some o ∧ ∀ ps, o ≠ .tbl ps
theorem Liv.ne {H : Hp} {b : Addr} (h : Liv H b) : H b ≠ none := by
  obtain ⟨o, q, _⟩ := h
  rw [q]
  exact fun z => nomatch z
theorem Liv.ext {A : AP} {H H' : Hp} {b : Addr} (h : Liv H b) (e : Ext A H H') (n : ¬ A b) : Liv H' b := by
  obtain ⟨o, q, t⟩ := h
  exact ⟨o, e b o n t q, t⟩
theorem Liv.nq {H : Hp} {a p : Addr} {o : HO} (n : ¬ Liv H p) (h : H a = some o) (t : ∀ ps, o ≠ .tbl ps) : a ≠ p := fun z => n (z ▸ ⟨o, h, t⟩)
theorem Liv.none {H : Hp} {p : Addr} (h : H p = Option.none) : ¬ Liv H p := fun l => l.ne h
/-- an address that H does not hold may change later -/
theorem Ext.chg {A : AP} {H H' : Hp} {p : Addr} {o : HO} (e : Ext A H H') (h : ¬ Liv H p ∨ A p) : Ext A H (upd H' p o) := fun a u n t q => by
  have ne : a ≠ p := by
    rcases h with h | h
    · exact Liv.nq h q t
    · intro z
      subst z
      exact n h
  rw [upd_ne ne]
  exact e a u n t q
/-- an exception's object that stands -/
def xob (a C : Addr) (dd : Option Addr) : HO := .ext fun h => ∃ (o : Obj) (vs : Array Value), h.get? a = some o ∧ o.cls = .ref C ∧ o.dict = dd ∧ o.data = .fields vs
theorem xob_ntbl {a C : Addr} {dd : Option Addr} (ps : Array Value) : xob a C dd ≠ .tbl ps := fun z => by
  unfold xob at z
  cases z
/-- a dict whose keys are tuples: the keys, where they stand, the values -/
def dN (w : World) (a : Addr) (kvs : List (NestedKey × Addr × V) × Obj) : HO := .ext fun h => h.get? a = some kvs.2 ∧ kvs.1.length ≤ sizeLine ∧ (a == sysModules) = false ∧ (∀ p ∈ kvs.1, p.1.depth ≤ 8) ∧ ∃ xs : List (NestedKey × Addr × Value),
  Paired (fun p q => p.1 = q.1 ∧ p.2.1 = q.2.1 ∧ RelV p.2.2 q.2.2) kvs.1 xs ∧
    ∃ (es : Array DictEntry) (ep : Nat), kvs.2.ExactDict ∧ kvs.2.data = .dict es ep ∧ es.toList = xs.map (fun x => (⟨NestedKey.hash w x.1, .ref x.2.1, x.2.2⟩ : DictEntry)) ∧ (xs.map (·.1)).Nodup
theorem dN_ntbl {w : World} {a : Addr} {kvs : List (NestedKey × Addr × V) × Obj} (ps : Array Value) : dN w a kvs ≠ .tbl ps := fun z => by
  unfold dN at z
  cases z
theorem dN_ncode {w : World} {a c : Addr} {q : Str} {vs : List (NestedKey × Addr × V) × Obj} : dN w a vs ≠ LamX.CodeO c q := fun z => by
  let ob : Obj := { cls := .none, data := .fields #[.none, .str q default] }
  let h1 : Heap := { objs := Array.replicate (a + c + 1) ob }
  have at_ : ∀ b, b < a + c + 1 → h1.get? b = some ob := fun b hb => by
    show (match (Array.replicate (a + c + 1) ob)[b]? with
      | some ⟨_, _, .freed, _⟩ => none
      | o => o) = some ob
    rw [Array.getElem?_replicate, if_pos hb]
  unfold dN LamX.CodeO at z
  have z2 := congrFun (HO.ext.inj z) h1
  obtain ⟨h3, _, _, _, xs, _, es, ep, h4, h5, _⟩ := z2.mpr ⟨ob, _, _, at_ c (Nat.lt_succ_of_le (Nat.le_add_left c a)), rfl, rfl⟩
  rw [at_ a (Nat.lt_succ_of_le (Nat.le_add_right a c))] at h3
  rw [← Option.some.inj h3] at h5
  cases h5
theorem Fre.dN {H : Hp} {p : Addr} {w : World} {a : Addr} {vs : List (NestedKey × Addr × V) × Obj} (h : H p = some (Dn.dN w a vs)) : Fre H p := .of h dN_ntbl fun c q z => dN_ncode z
mutual
/-- v is the data d, at addresses that M does not hold -/
inductive Rep (G : Cl) (ma : Ad) (M : AP) (H : Hp) : V → D → Prop
  | non : Rep G ma M H .non .non
  | bl (b : Bool) : Rep G ma M H (.bl b) (.bl b)
  | int (i : Int) : Rep G ma M H (.int i) (.int i)
  | str (x : Str) : Rep G ma M H (.str x) (.str x)
  | tup {a : Addr} {vs : List V} {ds : List D} (h : H a = some (.tup vs)) (n : ¬ M a) (r : Reps G ma M H vs ds) : Rep G ma M H (.ref a) (.tup ds)
  | lst {a : Addr} {vs : List V} {ds : List D} (h : H a = some (.lst vs)) (n : ¬ M a) (r : Reps G ma M H vs ds) : Rep G ma M H (.ref a) (.lst ds)
  | obj {a dx : Addr} {c : Nat} {v : V} {d : D} (h : H a = some (SlX.SlO a (G.cl c) dx [some v])) (hx : H dx = some (.xd [])) (n : ¬ M a) (nx : ¬ M dx) (r : Rep G ma M H v d) : Rep G ma M H (.ref a) (.obj c d)
  | dct {a : Addr} {kvs : List (Key × V)} {l : List (Key × D)} (h : H a = some (.dK kvs)) (n : ¬ M a) (e : kvs.map (·.1) = l.map (·.1)) (r : Reps G ma M H (kvs.map (·.2)) (l.map (·.2))) : Rep G ma M H (.ref a) (.dct l)
  | drw {a : Addr} {l : List Addr} (h : ma = some (a, l)) : Rep G ma M H (.ref a) .drw
  | cel {a b : Addr} {l : List Addr} {k : Nat} (h : ma = some (b, l)) (hk : l[k]? = some a) : Rep G ma M H (.ref a) (.cel k)
  | dcn {a : Addr} {kvs : List (NestedKey × Addr × V) × Obj} {l : List (NestedKey × D)} (h : H a = some (dN G.w a kvs)) (n : ¬ M a) (e : kvs.1.map (·.1) = l.map (·.1)) (rk : Reps G ma M H (kvs.1.map fun p => V.ref p.2.1) (kDs (l.map (·.1)))) (r : Reps G ma M H (kvs.1.map (·.2.2)) (l.map (·.2))) : Rep G ma M H (.ref a) (.dcn l)
  | exc0 {a : Addr} {c : Nat} (h : H a = some (xob a (G.xc c) Option.none)) (n : ¬ M a) (q : G.xf c = Option.none) : Rep G ma M H (.ref a) (.exc c [])
  | exc1 {a dx : Addr} {c : Nat} {f : Str} {v : V} {d : D} (h : H a = some (xob a (G.xc c) (Option.some dx))) (hx : H dx = some (.xd [(f, v)])) (n : ¬ M a) (nx : ¬ M dx) (q : G.xf c = Option.some f) (r : Rep G ma M H v d) : Rep G ma M H (.ref a) (.exc c [d])
  | scrF {a : Addr} {o : Obj} {ns : List Int} (h : H a = some (.frz o (.lst (ns.map V.int)))) (n : ¬ M a) : Rep G ma M H (.ref a) (.scr ns)
  | scrK {a : Addr} {ns : List Int} (h : ∀ H' : Hp, SqL G.K H' a (ns.map V.int)) : Rep G ma M H (.ref a) (.scr ns)
inductive Reps (G : Cl) (ma : Ad) (M : AP) (H : Hp) : List V → List D → Prop
  | nil : Reps G ma M H [] []
  | cons {v : V} {vs : List V} {d : D} {ds : List D} (r : Rep G ma M H v d) (rs : Reps G ma M H vs ds) : Reps G ma M H (v :: vs) (d :: ds)
end
section
variable {G : Cl} {ma : Ad} {M M' A : AP} {H H' : Hp}
theorem slO_ntbl {a C dx : Addr} {vs : List (Option V)} (ps : Array Value) : SlX.SlO a C dx vs ≠ .tbl ps := fun z => by
  unfold SlX.SlO at z
  cases z
mutual
theorem Rep.mono (e : Ext A H H') (hA : ∀ b, A b → M b) (hM : ∀ b, M' b → M b) : ∀ {v : V} {d : D}, Rep G ma M H v d → Rep G ma M' H' v d
  | _, _, .non => .non
  | _, _, .bl b => .bl b
  | _, _, .int i => .int i
  | _, _, .str x => .str x
  | _, _, .tup h n r => .tup (e _ _ (fun z => n (hA _ z)) (fun ps z => by cases z) h) (fun z => n (hM _ z)) (Reps.mono e hA hM r)
  | _, _, .lst h n r => .lst (e _ _ (fun z => n (hA _ z)) (fun ps z => by cases z) h) (fun z => n (hM _ z)) (Reps.mono e hA hM r)
  | _, _, .obj h hx n nx r => .obj (e _ _ (fun z => n (hA _ z)) slO_ntbl h) (e _ _ (fun z => nx (hA _ z)) (fun ps z => by cases z) hx) (fun z => n (hM _ z)) (fun z => nx (hM _ z)) (Rep.mono e hA hM r)
  | _, _, .dct h n e1 r => .dct (e _ _ (fun z => n (hA _ z)) (fun ps z => by cases z) h) (fun z => n (hM _ z)) e1 (Reps.mono e hA hM r)
  | _, _, .drw h => .drw h
  | _, _, .cel h hk => .cel h hk
  | _, _, .dcn h n e1 rk r => .dcn (e _ _ (fun z => n (hA _ z)) dN_ntbl h) (fun z => n (hM _ z)) e1 (Reps.mono e hA hM rk) (Reps.mono e hA hM r)
  | _, _, .exc0 h n q => .exc0 (e _ _ (fun z => n (hA _ z)) xob_ntbl h) (fun z => n (hM _ z)) q
  | _, _, .exc1 h hx n nx q r => .exc1 (e _ _ (fun z => n (hA _ z)) xob_ntbl h) (e _ _ (fun z => nx (hA _ z)) (fun ps z => by cases z) hx) (fun z => n (hM _ z)) (fun z => nx (hM _ z)) q (Rep.mono e hA hM r)
  | _, _, .scrF h n => .scrF (e _ _ (fun z => n (hA _ z)) (fun ps z => by cases z) h) (fun z => n (hM _ z))
  | _, _, .scrK h => .scrK h
theorem Reps.mono (e : Ext A H H') (hA : ∀ b, A b → M b) (hM : ∀ b, M' b → M b) : ∀ {vs : List V} {ds : List D}, Reps G ma M H vs ds → Reps G ma M' H' vs ds
  | _, _, .nil => .nil
  | _, _, .cons r rs => .cons (Rep.mono e hA hM r) (Reps.mono e hA hM rs)
end
theorem Rep.ext (e : Ext A H H') (hA : ∀ b, A b → M b) {v : V} {d : D} (r : Rep G ma M H v d) : Rep G ma M H' v d := r.mono e hA fun _ h => h
theorem Reps.ext (e : Ext A H H') (hA : ∀ b, A b → M b) {vs : List V} {ds : List D} (r : Reps G ma M H vs ds) : Reps G ma M H' vs ds := r.mono e hA fun _ h => h
theorem Rep.less (hM : ∀ b, M' b → M b) {v : V} {d : D} (r : Rep G ma M H v d) : Rep G ma M' H v d := r.mono (A := Non) Ext.refl (fun _ h => h.elim) hM
theorem Reps.less (hM : ∀ b, M' b → M b) {vs : List V} {ds : List D} (r : Reps G ma M H vs ds) : Reps G ma M' H vs ds := r.mono (A := Non) Ext.refl (fun _ h => h.elim) hM
mutual
theorem Rep.off {p : Addr} (o : ¬ Liv H p) : ∀ {v : V} {d : D}, Rep G ma M H v d → Rep G ma (fun b => M b ∨ b = p) H v d
  | _, _, .non => .non
  | _, _, .bl b => .bl b
  | _, _, .int i => .int i
  | _, _, .str x => .str x
  | _, _, .tup h n r => .tup h (fun z => z.elim n (Liv.nq o h fun ps z => by cases z)) (Reps.off o r)
  | _, _, .lst h n r => .lst h (fun z => z.elim n (Liv.nq o h fun ps z => by cases z)) (Reps.off o r)
  | _, _, .obj h hx n nx r => .obj h hx (fun z => z.elim n (Liv.nq o h slO_ntbl)) (fun z => z.elim nx (Liv.nq o hx fun ps z => by cases z)) (Rep.off o r)
  | _, _, .dct h n e r => .dct h (fun z => z.elim n (Liv.nq o h fun ps z => by cases z)) e (Reps.off o r)
  | _, _, .drw h => .drw h
  | _, _, .cel h hk => .cel h hk
  | _, _, .dcn h n e rk r => .dcn h (fun z => z.elim n (Liv.nq o h dN_ntbl)) e (Reps.off o rk) (Reps.off o r)
  | _, _, .exc0 h n q => .exc0 h (fun z => z.elim n (Liv.nq o h xob_ntbl)) q
  | _, _, .exc1 h hx n nx q r => .exc1 h hx (fun z => z.elim n (Liv.nq o h xob_ntbl)) (fun z => z.elim nx (Liv.nq o hx fun ps z => by cases z)) q (Rep.off o r)
  | _, _, .scrF h n => .scrF h (fun z => z.elim n (Liv.nq o h fun ps z => by cases z))
  | _, _, .scrK h => .scrK h
theorem Reps.off {p : Addr} (o : ¬ Liv H p) : ∀ {vs : List V} {ds : List D}, Reps G ma M H vs ds → Reps G ma (fun b => M b ∨ b = p) H vs ds
  | _, _, .nil => .nil
  | _, _, .cons r rs => .cons (Rep.off o r) (Reps.off o rs)
end
mutual
theorem Rep.or {N : AP} (o : ∀ b, N b → M b ∨ ¬ Liv H b) : ∀ {v : V} {d : D}, Rep G ma M H v d → Rep G ma (fun b => M b ∨ N b) H v d
  | _, _, .non => .non
  | _, _, .bl b => .bl b
  | _, _, .int i => .int i
  | _, _, .str x => .str x
  | _, _, .tup h n r => .tup h (fun z => z.elim n fun y => (o _ y).elim n fun w => w ⟨_, h, fun ps z => by cases z⟩) (Reps.or o r)
  | _, _, .lst h n r => .lst h (fun z => z.elim n fun y => (o _ y).elim n fun w => w ⟨_, h, fun ps z => by cases z⟩) (Reps.or o r)
  | _, _, .obj h hx n nx r => .obj h hx (fun z => z.elim n fun y => (o _ y).elim n fun w => w ⟨_, h, slO_ntbl⟩) (fun z => z.elim nx fun y => (o _ y).elim nx fun w => w ⟨_, hx, fun ps z => by cases z⟩) (Rep.or o r)
  | _, _, .dct h n e r => .dct h (fun z => z.elim n fun y => (o _ y).elim n fun w => w ⟨_, h, fun ps z => by cases z⟩) e (Reps.or o r)
  | _, _, .drw h => .drw h
  | _, _, .cel h hk => .cel h hk
  | _, _, .dcn h n e rk r => .dcn h (fun z => z.elim n fun y => (o _ y).elim n fun w => w ⟨_, h, dN_ntbl⟩) e (Reps.or o rk) (Reps.or o r)
  | _, _, .exc0 h n q => .exc0 h (fun z => z.elim n fun y => (o _ y).elim n fun w => w ⟨_, h, xob_ntbl⟩) q
  | _, _, .exc1 h hx n nx q r => .exc1 h hx (fun z => z.elim n fun y => (o _ y).elim n fun w => w ⟨_, h, xob_ntbl⟩) (fun z => z.elim nx fun y => (o _ y).elim nx fun w => w ⟨_, hx, fun ps z => by cases z⟩) q (Rep.or o r)
  | _, _, .scrF h n => .scrF h (fun z => z.elim n fun y => (o _ y).elim n fun w => w ⟨_, h, fun ps z => by cases z⟩)
  | _, _, .scrK h => .scrK h
theorem Reps.or {N : AP} (o : ∀ b, N b → M b ∨ ¬ Liv H b) : ∀ {vs : List V} {ds : List D}, Reps G ma M H vs ds → Reps G ma (fun b => M b ∨ N b) H vs ds
  | _, _, .nil => .nil
  | _, _, .cons r rs => .cons (Rep.or o r) (Reps.or o rs)
end
theorem Reps.length : ∀ {vs : List V} {ds : List D}, Reps G ma M H vs ds → vs.length = ds.length
  | _, _, .nil => rfl
  | _, _, .cons _ rs => congrArg (· + 1) (Reps.length rs)
theorem Reps.get : ∀ {vs : List V} {ds : List D} {i : Nat} {v : V}, Reps G ma M H vs ds → vs[i]? = some v → ∃ d, ds[i]? = some d ∧ Rep G ma M H v d
  | _, _, _, _, .nil, e => by simp at e
  | _, _, 0, _, .cons r _, e => by simp at e; subst e; exact ⟨_, rfl, r⟩
  | _, _, i + 1, x, .cons _ t, e => by
    obtain ⟨u, h1, h2⟩ := Reps.get (i := i) (v := x) t (by simpa using e)
    exact ⟨u, by simpa using h1, h2⟩
theorem Reps.getD : ∀ {vs : List V} {ds : List D} {i : Nat} {d : D}, Reps G ma M H vs ds → ds[i]? = some d → ∃ v, vs[i]? = some v ∧ Rep G ma M H v d
  | _, _, _, _, .nil, e => by simp at e
  | _, _, 0, _, .cons r _, e => by simp at e; subst e; exact ⟨_, rfl, r⟩
  | _, _, i + 1, x, .cons _ t, e => by
    obtain ⟨u, h1, h2⟩ := Reps.getD (i := i) (d := x) t (by simpa using e)
    exact ⟨u, by simpa using h1, h2⟩
theorem Reps.append : ∀ {vs ws : List V} {ds es : List D}, Reps G ma M H vs ds → Reps G ma M H ws es → Reps G ma M H (vs ++ ws) (ds ++ es)
  | _, _, _, _, .nil, s => s
  | _, _, _, _, .cons r t, s => .cons r (Reps.append t s)
theorem Reps.one {v : V} {d : D} (r : Rep G ma M H v d) : Reps G ma M H [v] [d] := .cons r .nil
theorem Reps.take : ∀ {vs : List V} {ds : List D} (n : Nat), Reps G ma M H vs ds → Reps G ma M H (vs.take n) (ds.take n)
  | _, _, 0, _ => .nil
  | _, _, _ + 1, .nil => .nil
  | _, _, n + 1, .cons r t => .cons r (Reps.take n t)
theorem Reps.drop : ∀ {vs : List V} {ds : List D} (n : Nat), Reps G ma M H vs ds → Reps G ma M H (vs.drop n) (ds.drop n)
  | _, _, 0, r => r
  | _, _, _ + 1, .nil => .nil
  | _, _, n + 1, .cons _ t => Reps.drop n t
theorem Reps.set {v : V} {d : D} (r : Rep G ma M H v d) : ∀ {vs : List V} {ds : List D} (i : Nat), Reps G ma M H vs ds → Reps G ma M H (vs.set i v) (ds.set i d)
  | _, _, _, .nil => .nil
  | _, _, 0, .cons _ t => .cons r t
  | _, _, i + 1, .cons q t => .cons q (Reps.set r i t)
theorem Reps.rev {vs : List V} {ds : List D} (h : Reps G ma M H vs ds) : Reps G ma M H vs.reverse ds.reverse := by
  induction vs generalizing ds with
  | nil =>
    cases h
    exact .nil
  | cons v vs ih =>
    cases h with
    | cons r rs =>
      rw [List.reverse_cons, List.reverse_cons]
      exact (ih rs).append (.one r)
theorem reps_ints : ∀ ns : List Int, Reps G ma M H (ns.map V.int) (ns.map D.int)
  | [] => .nil
  | n :: r => .cons (.int n) (reps_ints r)
theorem reps_bls : ∀ ns : List Bool, Reps G ma M H (ns.map V.bl) (ns.map D.bl)
  | [] => .nil
  | n :: r => .cons (.bl n) (reps_bls r)
end

/-- any world -/
def w00 : World := ⟨fun _ _ => 0, { strHash := fun _ => 0, shareClass := fun a => a, mergeTok := fun t => t, idOf := fun _ => 0, idOfShared := fun _ _ => 0, followText := fun _ => false, idOfImm := fun _ => 0 }⟩
/-! the state of the draws, the objects that change -/
inductive Fd where
  | v (d : D)
  | mn (p : Addr) (l : List (NestedKey × D))
/-- an object that changes: where it stands, its dict, its class, its fields -/
structure Cel where
  a : Addr
  dx : Addr
  c : Nat
  fs : List (Str × Fd)
def Fd.ads : Fd → List Addr
  | .v _ => []
  | .mn p _ => [p]
def Cel.ads (c : Cel) : List Addr := c.a :: c.dx :: c.fs.flatMap fun f => f.2.ads
structure MS where
  am : Addr
  ac : Addr
  ag : Addr
  cells : List Int
  great : List Int
  spot : Nat
  cs : List Cel := []
abbrev Mo := Option MS
def MS.ads (r : MS) : List Addr := r.cs.flatMap Cel.ads
def Mo.ad : Mo → Ad
  | none => none
  | some r => some (r.am, r.cs.map (·.a))
def Mo.has : Mo → AP
  | none => Non
  | some r => fun b => b = r.am ∨ b = r.ac ∨ b = r.ag ∨ b ∈ r.ads
def MRec (H : Hp) (r : MS) : Prop :=
  H r.am = some (.dK [(Sum.inr "cells", V.ref r.ac), (Sum.inr "great", V.ref r.ag), (Sum.inr "spot", V.int r.spot)]) ∧ H r.ac = some (.lst (r.cells.map V.int)) ∧ H r.ag = some (.lst (r.great.map V.int)) ∧ r.ac ≠ r.ag ∧
    r.cells.length = 64 ∧ (∀ c ∈ r.cells, 0 ≤ c ∧ c < 2147483647) ∧ r.great.length ≤ 63
def FdR (G : Cl) (ad : Ad) (M : AP) (H : Hp) (v : V) : Fd → Prop
  | .v d => Rep G ad M H v d
  | .mn p l => v = .ref p ∧ ∃ kvs : List (NestedKey × Addr × V) × Obj, H p = some (dN G.w p kvs) ∧ kvs.1.map (·.1) = l.map (·.1) ∧ Reps G ad M H (kvs.1.map fun p => V.ref p.2.1) (kDs (l.map (·.1))) ∧ Reps G ad M H (kvs.1.map (·.2.2)) (l.map (·.2))
abbrev FsR (G : Cl) (ad : Ad) (M : AP) (H : Hp) : List (Str × V) → List (Str × Fd) → Prop := Paired fun p q => p.1 = q.1 ∧ FdR G ad M H p.2 q.2
structure CRec (G : Cl) (ad : Ad) (M : AP) (H : Hp) (c : Cel) : Prop where
  at_ : ∃ vs : List (Str × V), H c.a = some (.ins (G.cl c.c) c.dx vs) ∧ FsR G ad M H vs c.fs
  own : H c.dx = some (.own c.a)
  len : c.fs.length ≤ 900
structure CsR (G : Cl) (M : AP) (H : Hp) (r : MS) : Prop where
  c : ∀ c ∈ r.cs, CRec G (Mo.ad (some r)) M H c
  nd : r.ads.Nodup
  ap : ∀ b ∈ r.ads, b ≠ r.am ∧ b ≠ r.ac ∧ b ≠ r.ag
def MRep (G : Cl) (M : AP) (H : Hp) : Mo → Prop
  | none => True
  | some r => MRec H r ∧ CsR G M H r
section
variable {G : Cl} {ad : Ad} {M M' A : AP} {H H' : Hp}
theorem FdR.live {v : V} {f : Fd} (h : FdR G ad M H v f) : ∀ b ∈ f.ads, ∃ o, H b = some o ∧ ∀ ps, o ≠ .tbl ps := fun b hb => by
  cases f with
  | v d => cases hb
  | mn p l =>
    obtain ⟨_, kvs, h1, _⟩ := h
    cases List.mem_singleton.mp hb
    exact ⟨_, h1, dN_ntbl⟩
theorem FsR.live : ∀ {vs : List (Str × V)} {fs : List (Str × Fd)}, FsR G ad M H vs fs → ∀ b ∈ fs.flatMap (fun f => f.2.ads), ∃ o, H b = some o ∧ ∀ ps, o ≠ .tbl ps
  | _, _, .nil, b, hb => by cases hb
  | _, _, .cons r t, b, hb => by
    rw [List.flatMap_cons, List.mem_append] at hb
    exact hb.elim (r.2.live b) (FsR.live t b)
theorem CRec.live {c : Cel} (h : CRec G ad M H c) : ∀ b ∈ c.ads, ∃ o, H b = some o ∧ ∀ ps, o ≠ .tbl ps := fun b hb => by
  obtain ⟨vs, h1, h2⟩ := h.at_
  rcases List.mem_cons.mp hb with rfl | hb
  · exact ⟨_, h1, fun ps z => by cases z⟩
  · rcases List.mem_cons.mp hb with rfl | hb
    · exact ⟨_, h.own, fun ps z => by cases z⟩
    · exact h2.live b hb
theorem FdR.mono {v : V} {f : Fd} (h : FdR G ad M H v f) (e : Ext A H H') (hA : ∀ b, A b → M b) (hM : ∀ b, M' b → M b) (hn : ∀ b ∈ f.ads, ¬ A b) : FdR G ad M' H' v f := by
  cases f with
  | v d => exact Rep.mono e hA hM h
  | mn p l =>
    obtain ⟨h0, kvs, h1, h2, h3, h4⟩ := h
    exact ⟨h0, kvs, e _ _ (hn p (List.mem_singleton.mpr rfl)) dN_ntbl h1, h2, h3.mono e hA hM, h4.mono e hA hM⟩
theorem FsR.mono (e : Ext A H H') (hA : ∀ b, A b → M b) (hM : ∀ b, M' b → M b) : ∀ {vs : List (Str × V)} {fs : List (Str × Fd)}, FsR G ad M H vs fs → (∀ b ∈ fs.flatMap (fun f => f.2.ads), ¬ A b) → FsR G ad M' H' vs fs
  | _, _, .nil, _ => .nil
  | _, _, .cons r t, hn => .cons ⟨r.1, r.2.mono e hA hM fun b hb => hn b (by rw [List.flatMap_cons, List.mem_append]; exact .inl hb)⟩ (FsR.mono e hA hM t fun b hb => hn b (by rw [List.flatMap_cons, List.mem_append]; exact .inr hb))
theorem CRec.mono {c : Cel} (h : CRec G ad M H c) (e : Ext A H H') (hA : ∀ b, A b → M b) (hM : ∀ b, M' b → M b) (hn : ∀ b ∈ c.ads, ¬ A b) : CRec G ad M' H' c := by
  obtain ⟨vs, h1, h2⟩ := h.at_
  refine ⟨⟨vs, e _ _ (hn _ (by unfold Cel.ads; simp)) (fun ps z => by cases z) h1, h2.mono e hA hM fun b hb => hn b (by unfold Cel.ads; simp only [List.mem_cons]; exact .inr (.inr hb))⟩, e _ _ (hn _ (by unfold Cel.ads; simp)) (fun ps z => by cases z) h.own, h.len⟩
theorem FdR.off {v : V} {f : Fd} {p : Addr} (o : ¬ Liv H p) (h : FdR G ad M H v f) : FdR G ad (fun b => M b ∨ b = p) H v f := by
  cases f with
  | v d => exact Rep.off o h
  | mn q l =>
    obtain ⟨h0, kvs, h1, h2, h3, h4⟩ := h
    exact ⟨h0, kvs, h1, h2, h3.off o, h4.off o⟩
theorem FsR.off {p : Addr} (o : ¬ Liv H p) : ∀ {vs : List (Str × V)} {fs : List (Str × Fd)}, FsR G ad M H vs fs → FsR G ad (fun b => M b ∨ b = p) H vs fs
  | _, _, .nil => .nil
  | _, _, .cons r t => .cons ⟨r.1, r.2.off o⟩ (FsR.off o t)
theorem FdR.or {N : AP} {v : V} {f : Fd} (o : ∀ b, N b → M b ∨ ¬ Liv H b) (h : FdR G ad M H v f) : FdR G ad (fun b => M b ∨ N b) H v f := by
  cases f with
  | v d => exact Rep.or o h
  | mn q l =>
    obtain ⟨h0, kvs, h1, h2, h3, h4⟩ := h
    exact ⟨h0, kvs, h1, h2, h3.or o, h4.or o⟩
theorem FsR.or {N : AP} (o : ∀ b, N b → M b ∨ ¬ Liv H b) : ∀ {vs : List (Str × V)} {fs : List (Str × Fd)}, FsR G ad M H vs fs → FsR G ad (fun b => M b ∨ N b) H vs fs
  | _, _, .nil => .nil
  | _, _, .cons r t => .cons ⟨r.1, r.2.or o⟩ (FsR.or o t)
end
section
variable {G : Cl} {M M' A : AP} {H H' : Hp} {m : Mo}
theorem mem_ads {r : MS} {c : Cel} (hc : c ∈ r.cs) {b : Addr} (hb : b ∈ c.ads) : b ∈ r.ads := List.mem_flatMap.mpr ⟨c, hc, hb⟩
theorem CsR.mono {r : MS} (h : CsR G M H r) (e : Ext A H H') (hA : ∀ b, A b → M b) (hM : ∀ b, M' b → M b) (hn : ∀ b ∈ r.ads, ¬ A b) : CsR G M' H' r :=
  ⟨fun c hc => (h.c c hc).mono e hA hM fun b hb => hn b (mem_ads hc hb), h.nd, h.ap⟩
theorem MRep.has : ∀ {m : Mo}, MRep G M H m → ∀ b, m.has b → ∃ o, H b = some o ∧ ∀ ps, o ≠ .tbl ps
  | none, _, _, h => h.elim
  | some r, ⟨⟨h1, h2, h3, _⟩, hc⟩, b, h => by
    rcases h with h | h | h | h
    · exact ⟨_, by rw [h]; exact h1, fun ps z => by cases z⟩
    · exact ⟨_, by rw [h]; exact h2, fun ps z => by cases z⟩
    · exact ⟨_, by rw [h]; exact h3, fun ps z => by cases z⟩
    · obtain ⟨c, h4, h5⟩ := List.mem_flatMap.mp h
      exact (hc.c c h4).live b h5
/-- the heap changes elsewhere -/
theorem MRep.mono (r : MRep G M H m) (e : Ext A H H') (hA : ∀ b, A b → M b) (hM : ∀ b, M' b → M b) (hn : ∀ b, m.has b → ¬ A b) : MRep G M' H' m := by
  cases m with
  | none => exact True.intro
  | some q =>
    obtain ⟨⟨h1, h2, h3, h4⟩, hc⟩ := r
    exact ⟨⟨e _ _ (hn _ (.inl rfl)) (fun ps z => by cases z) h1, e _ _ (hn _ (.inr (.inl rfl))) (fun ps z => by cases z) h2, e _ _ (hn _ (.inr (.inr (.inl rfl)))) (fun ps z => by cases z) h3, h4⟩,
      hc.mono e hA hM fun b hb => hn b (.inr (.inr (.inr hb)))⟩
theorem MRep.ext (r : MRep G M H m) (e : Ext Non H H') : MRep G M H' m := r.mono e (fun _ z => z.elim) (fun _ h => h) fun _ _ z => z
theorem MRep.less (r : MRep G M H m) (hM : ∀ b, M' b → M b) : MRep G M' H m := r.mono (A := Non) Ext.refl (fun _ z => z.elim) hM fun _ _ z => z
theorem MRep.off {p : Addr} (r : MRep G M H m) (o : ¬ Liv H p) : MRep G (fun b => M b ∨ b = p) H m := by
  cases m with
  | none => exact True.intro
  | some q =>
    obtain ⟨h1, hc⟩ := r
    exact ⟨h1, fun c hc' => ⟨let ⟨vs, a, b⟩ := (hc.c c hc').at_; ⟨vs, a, b.off o⟩, (hc.c c hc').own, (hc.c c hc').len⟩, hc.nd, hc.ap⟩
theorem MRep.or {N : AP} (r : MRep G M H m) (o : ∀ b, N b → M b ∨ ¬ Liv H b) : MRep G (fun b => M b ∨ N b) H m := by
  cases m with
  | none => exact True.intro
  | some q =>
    obtain ⟨h1, hc⟩ := r
    exact ⟨h1, fun c hc' => ⟨let ⟨vs, a, b⟩ := (hc.c c hc').at_; ⟨vs, a, b.or o⟩, (hc.c c hc').own, (hc.c c hc').len⟩, hc.nd, hc.ap⟩
end

/-! the frame -/
inductive Sv where
  | v (d : D)
  | ml (ds : List D)
  | mk (l : List (Key × D))
  | mn (l : List (NestedKey × D))
abbrev Ro := List (Option Sv)
def Sv.mu : Sv → Bool
  | .v _ => false
  | _ => true
def isM (ρ : Ro) (i : Nat) : Prop := ∃ s, ρ[i]? = some (some s) ∧ s.mu = true
/-- what stays in a def: the heap at its entry, what others may change, the draws' addresses -/
structure Bx where
  H0 : Hp
  X : AP
  ad : Ad
  A : AP
  T : List (Addr × Str)
structure EnvR (G : Cl) (B : Bx) (M : AP) (pm : Nat → Addr) (ρ : Ro) (m : Mo) (σ : L2.St) (H : Hp) : Prop where
  em : ∀ b, (B.A b ∨ B.X b ∨ ∃ i, isM ρ i ∧ pm i = b) → M b
  hl : ∀ b, M b → Liv H b
  ea : m.ad = B.ad
  eh : m.has = B.A
  len : σ.length = ρ.length
  sv : ∀ (i : Nat) (d : D), ρ[i]? = some (some (Sv.v d)) → ∃ v, σ[i]? = some (some v) ∧ Rep G B.ad M H v d
  sl : ∀ (i : Nat) (ds : List D), ρ[i]? = some (some (Sv.ml ds)) → ∃ vs, σ[i]? = some (some (V.ref (pm i))) ∧ H (pm i) = some (.lst vs) ∧ Reps G B.ad M H vs ds
  sk : ∀ (i : Nat) (l : List (Key × D)), ρ[i]? = some (some (Sv.mk l)) → ∃ kvs : List (Key × V), σ[i]? = some (some (V.ref (pm i))) ∧ H (pm i) = some (.dK kvs) ∧ kvs.map (·.1) = l.map (·.1) ∧ Reps G B.ad M H (kvs.map (·.2)) (l.map (·.2))
  sn : ∀ (i : Nat) (l : List (NestedKey × D)), ρ[i]? = some (some (Sv.mn l)) → ∃ kvs : List (NestedKey × Addr × V) × Obj, σ[i]? = some (some (V.ref (pm i))) ∧ H (pm i) = some (dN G.w (pm i) kvs) ∧ kvs.1.map (·.1) = l.map (·.1) ∧ Reps G B.ad M H (kvs.1.map fun p => V.ref p.2.1) (kDs (l.map (·.1))) ∧ Reps G B.ad M H (kvs.1.map (·.2.2)) (l.map (·.2))
  inj : ∀ i j : Nat, isM ρ i → isM ρ j → pm i = pm j → i = j
  fr : ∀ i : Nat, isM ρ i → ¬ Liv B.H0 (pm i) ∧ ¬ B.X (pm i)
  xs : ∀ b, B.X b → Liv H b
  mr : MRep G M H m
  mx : ∀ b, B.A b → ¬ B.X b
  mta : ∀ i : Nat, isM ρ i → ¬ B.A (pm i)
  ext : Ext B.A B.H0 H
  tb : LamX.Tabs B.T H
  tt : B.T = G.T

/-! what comes of an expression -/
inductive R (α : Type) where
  | bad
  | ok (a : α) (m : Mo)
  | exc (c : Nat) (l : List D) (m : Mo)
def R.bind {α β : Type} (r : R α) (f : α → Mo → R β) : R β := match r with
  | .bad => .bad
  | .ok a m => f a m
  | .exc c l m => .exc c l m
def R.of {α : Type} (o : Option α) (m : Mo) : R α := match o with
  | some a => .ok a m
  | none => .bad
structure Go (G : Cl) (B : Bx) (M : AP) (m' : Mo) (H H' : Hp) : Prop where
  x : Ext B.A H H'
  ea : m'.ad = B.ad
  eh : m'.has = B.A
  mr : MRep G M H' m'
  tb : LamX.Tabs B.T H'
theorem Go.trans {G : Cl} {B : Bx} {M : AP} {m1 m2 : Mo} {H H1 H2 : Hp} (a : Go G B M m1 H H1) (b : Go G B M m2 H1 H2) : Go G B M m2 H H2 := ⟨a.x.trans b.x, b.ea, b.eh, b.mr, b.tb⟩
theorem Go.less {G : Cl} {B : Bx} {M M' : AP} {m' : Mo} {H H' : Hp} (a : Go G B M m' H H') (hM : ∀ b, M' b → M b) : Go G B M' m' H H' := ⟨a.x, a.ea, a.eh, a.mr.less hM, a.tb⟩
theorem EnvR.here {G : Cl} {B : Bx} {M : AP} {pm : Nat → Addr} {ρ : Ro} {m : Mo} {σ : L2.St} {H : Hp} (e : EnvR G B M pm ρ m σ H) : Go G B M m H H := ⟨.refl, e.ea, e.eh, e.mr, e.tb⟩
theorem EnvR.same {G : Cl} {B : Bx} {M : AP} {pm : Nat → Addr} {ρ : Ro} {m : Mo} {σ : L2.St} {H H' : Hp} (e : EnvR G B M pm ρ m σ H) (x : ExN H H') : Go G B M m H H' := ⟨x.k.imp fun _ z => z.elim, e.ea, e.eh, e.mr.ext x.k, x.tabs e.tb⟩
section
variable {G : Cl} {B : Bx} {M : AP} {pm : Nat → Addr} {ρ : Ro} {m m' : Mo} {σ : L2.St} {H H' : Hp}
theorem EnvR.hm (e : EnvR G B M pm ρ m σ H) : ∀ b, M b → H b ≠ none := fun b h => (e.hl b h).ne
theorem EnvR.mut (e : EnvR G B M pm ρ m σ H) : ∀ i, isM ρ i → ¬ B.A (pm i) := e.mta
theorem EnvR.aM (e : EnvR G B M pm ρ m σ H) : ∀ b, B.A b → M b := fun b h => e.em b (.inl h)
/-- the frame behind an expression -/
theorem EnvR.go (e : EnvR G B M pm ρ m σ H) (g : Go G B M m' H H') : EnvR G B M pm ρ m' σ H' := by
  have x := g.x
  refine ⟨e.em, fun b hb => ?_, g.ea, g.eh, e.len, fun i d hd => ?_, fun i ds hd => ?_, fun i l hd => ?_, fun i l hd => ?_, e.inj, e.fr, fun b hb => (e.xs b hb).ext x fun z => e.mx b z hb, g.mr, e.mx, e.mta, e.ext.trans x, g.tb, e.tt⟩
  · by_cases hA : B.A b
    · exact g.mr.has b (by rw [g.eh]; exact hA)
    · exact (e.hl b hb).ext x hA
  · obtain ⟨v, h1, h2⟩ := e.sv i d hd
    exact ⟨v, h1, h2.ext x e.aM⟩
  · obtain ⟨vs, h1, h2, h3⟩ := e.sl i ds hd
    exact ⟨vs, h1, x _ _ (e.mut i ⟨_, hd, rfl⟩) (fun ps z => by cases z) h2, h3.ext x e.aM⟩
  · obtain ⟨vs, h1, h2, h3, h4⟩ := e.sk i l hd
    exact ⟨vs, h1, x _ _ (e.mut i ⟨_, hd, rfl⟩) (fun ps z => by cases z) h2, h3, h4.ext x e.aM⟩
  · obtain ⟨vs, h1, h2, h3, h4, h5⟩ := e.sn i l hd
    exact ⟨vs, h1, x _ _ (e.mut i ⟨_, hd, rfl⟩) dN_ntbl h2, h3, h4.ext x e.aM, h5.ext x e.aM⟩
end
/-- an exception's class and fields -/
def XRep (G : Cl) (ad : Ad) (M : AP) (H : Hp) (c : Nat) (l : List D) (cls : Value) (dd : Option Addr) : Prop :=
  cls = .ref (G.xc c) ∧ match G.xf c, l with
    | none, [] => dd = none
    | some f, [d] => ∃ a v, dd = some a ∧ H a = some (.xd [(f, v)]) ∧ ¬ M a ∧ Rep G ad M H v d
    | _, _ => False
theorem XRep.ext {G : Cl} {ad : Ad} {M A : AP} {H H' : Hp} {c : Nat} {l : List D} {cls : Value} {dd : Option Addr} (h : XRep G ad M H c l cls dd) (e : Ext A H H') (hA : ∀ b, A b → M b) : XRep G ad M H' c l cls dd := by
  obtain ⟨h1, h2⟩ := h
  refine ⟨h1, ?_⟩
  cases q : G.xf c with
  | none =>
    rw [q] at h2
    cases l with
    | nil => exact h2
    | cons a r => exact h2.elim
  | some f =>
    rw [q] at h2
    cases l with
    | nil => exact h2.elim
    | cons d r =>
      cases r with
      | cons _ _ => exact h2.elim
      | nil =>
        obtain ⟨a, v, e1, e2, e3, e4⟩ := h2
        exact ⟨a, v, e1, e _ _ (fun z => e3 (hA _ z)) (fun ps z => by cases z) e2, e3, e4.ext e hA⟩
def Post (G : Cl) (E : XK) (B : Bx) (M : AP) (H : Hp) {α β : Type} (rel : Hp → β → α → Prop) (r : R α) (Q : β → Hp → Prop) : Prop := match r with
  | .bad => False
  | .ok a m' => ∀ b H', Go G B M m' H H' → rel H' b a → Q b H'
  | .exc c l m' => ∀ cls dd H', Go G B M m' H H' → XRep G B.ad M H' c l cls dd → E cls dd H'
section
variable {G : Cl} {E : XK} {B : Bx} {M : AP} {H H1 : Hp} {α β α' β' : Type} {rel : Hp → β → α → Prop} {rel' : Hp → β' → α' → Prop} {m1 : Mo}
theorem Post.later {r : R α} {Q : β → Hp → Prop} (h : Post G E B M H rel r Q) (g : Go G B M m1 H H1) : Post G E B M H1 rel r Q := by
  cases r with
  | bad => exact h
  | ok a m' => exact fun b H' g' hr => h b H' (g.trans g') hr
  | exc c l m' => exact fun cls dd H' g' hx => h cls dd H' (g.trans g') hx
theorem Post.bind {r : R α} {k : α → Mo → R α'} {Q : β' → Hp → Prop} (h : Post G E B M H rel' (r.bind k) Q) :
    Post G E B M H rel r (fun b H1 => ∃ a m1, Go G B M m1 H H1 ∧ rel H1 b a ∧ Post G E B M H1 rel' (k a m1) Q) := by
  cases r with
  | bad => exact h
  | ok a m1 => exact fun b H' g hr => ⟨a, m1, g, hr, Post.later (show Post G E B M H rel' (k a m1) Q from h) g⟩
  | exc c l m' => exact h
end

theorem Post.weak {G : Cl} {E : XK} {B : Bx} {M : AP} {H : Hp} {α β : Type} {rel rel' : Hp → β → α → Prop} {r : R α} {Q : β → Hp → Prop} (h : Post G E B M H rel' r Q) (w : ∀ H' b a, rel H' b a → rel' H' b a) : Post G E B M H rel r Q := by
  cases r with
  | bad => exact h
  | ok a m' => exact fun b H' g hr => h b H' g (w _ _ _ hr)
  | exc c l m' => exact h
/-- the same, the relation knows the state -/
def PostM (G : Cl) (E : XK) (B : Bx) (M : AP) (H : Hp) {α β : Type} (rel : Mo → Hp → β → α → Prop) (r : R α) (Q : β → Hp → Prop) : Prop := match r with
  | .bad => False
  | .ok a m' => ∀ b H', Go G B M m' H H' → rel m' H' b a → Q b H'
  | .exc c l m' => ∀ cls dd H', Go G B M m' H H' → XRep G B.ad M H' c l cls dd → E cls dd H'
section
variable {G : Cl} {E : XK} {B : Bx} {M : AP} {H H1 : Hp} {α β α' β' : Type} {rel : Hp → β → α → Prop} {relM : Mo → Hp → β → α → Prop} {rel' : Mo → Hp → β' → α' → Prop} {m1 : Mo}
theorem PostM.later {r : R α} {Q : β → Hp → Prop} (h : PostM G E B M H relM r Q) (g : Go G B M m1 H H1) : PostM G E B M H1 relM r Q := by
  cases r with
  | bad => exact h
  | ok a m' => exact fun b H' g' hr => h b H' (g.trans g') hr
  | exc c l m' => exact fun cls dd H' g' hx => h cls dd H' (g.trans g') hx
theorem PostM.bind {r : R α} {k : α → Mo → R α'} {Q : β' → Hp → Prop} (h : PostM G E B M H rel' (r.bind k) Q) :
    Post G E B M H rel r (fun b H1 => ∃ a m1, Go G B M m1 H H1 ∧ rel H1 b a ∧ PostM G E B M H1 rel' (k a m1) Q) := by
  cases r with
  | bad => exact h
  | ok a m1 => exact fun b H' g hr => ⟨a, m1, g, hr, PostM.later (show PostM G E B M H rel' (k a m1) Q from h) g⟩
  | exc c l m' => exact h
theorem PostM.bindM {r : R α} {k : α → Mo → R α'} {Q : β' → Hp → Prop} (h : PostM G E B M H rel' (r.bind k) Q) :
    PostM G E B M H relM r (fun b H1 => ∃ a m1, Go G B M m1 H H1 ∧ relM m1 H1 b a ∧ PostM G E B M H1 rel' (k a m1) Q) := by
  cases r with
  | bad => exact h
  | ok a m1 => exact fun b H' g hr => ⟨a, m1, g, hr, PostM.later (show PostM G E B M H rel' (k a m1) Q from h) g⟩
  | exc c l m' => exact h
theorem PostM.imp' {r : R α} {Q Q' : β → Hp → Prop} (h : PostM G E B M H relM r Q) (w : ∀ b H', Q b H' → Q' b H') : PostM G E B M H relM r Q' := by
  cases r with
  | bad => exact h
  | ok a m' => exact fun b H' g hr => w _ _ (h b H' g hr)
  | exc c l m' => exact h
theorem Post.bindM {rel2 : Hp → β' → α' → Prop} {r : R α} {k : α → Mo → R α'} {Q : β' → Hp → Prop} (h : Post G E B M H rel2 (r.bind k) Q) :
    PostM G E B M H relM r (fun b H1 => ∃ a m1, Go G B M m1 H H1 ∧ relM m1 H1 b a ∧ Post G E B M H1 rel2 (k a m1) Q) := by
  cases r with
  | bad => exact h
  | ok a m1 => exact fun b H' g hr => ⟨a, m1, g, hr, Post.later (show Post G E B M H rel2 (k a m1) Q from h) g⟩
  | exc c l m' => exact h
end
/-! a value that is read: its own address may be one that is changed later -/
inductive RepT (G : Cl) (ad : Ad) (A M : AP) (H : Hp) : V → D → Prop
  | r {v : V} {d : D} (h : Rep G ad M H v d) : RepT G ad A M H v d
  | ml {a : Addr} {vs : List V} {ds : List D} (n : ¬ A a) (h : H a = some (.lst vs)) (r : Reps G ad M H vs ds) : RepT G ad A M H (.ref a) (.lst ds)
  | mk {a : Addr} {kvs : List (Key × V)} {l : List (Key × D)} (n : ¬ A a) (h : H a = some (.dK kvs)) (e : kvs.map (·.1) = l.map (·.1)) (r : Reps G ad M H (kvs.map (·.2)) (l.map (·.2))) : RepT G ad A M H (.ref a) (.dct l)
  | mn {a : Addr} {kvs : List (NestedKey × Addr × V) × Obj} {l : List (NestedKey × D)} (h : H a = some (dN G.w a kvs)) (e : kvs.1.map (·.1) = l.map (·.1)) (rk : Reps G ad M H (kvs.1.map fun p => V.ref p.2.1) (kDs (l.map (·.1)))) (r : Reps G ad M H (kvs.1.map (·.2.2)) (l.map (·.2))) (n : ¬ A a) : RepT G ad A M H (.ref a) (.dcn l)
theorem RepT.ext {G : Cl} {ad : Ad} {A M : AP} {H H' : Hp} {v : V} {d : D} (h : RepT G ad A M H v d) (e : Ext A H H') (hA : ∀ b, A b → M b) : RepT G ad A M H' v d := by
  cases h with
  | r h => exact .r (h.ext e hA)
  | ml n h r => exact .ml n (e _ _ n (fun ps z => by cases z) h) (r.ext e hA)
  | mk n h e1 r => exact .mk n (e _ _ n (fun ps z => by cases z) h) e1 (r.ext e hA)
  | mn h e1 rk r n => exact .mn (e _ _ n dN_ntbl h) e1 (rk.ext e hA) (r.ext e hA) n
abbrev DE := Ro → Mo → R D
abbrev DT := Ro → Mo → R Bool
abbrev DA := Ro → Mo → R (List D)
structure De (G : Cl) (E : XK) (t : TE) (f : DE) : Prop where
  run : ∀ {B : Bx} {M : AP} {pm : Nat → Addr} {ρ : Ro} {m : Mo} {σ : L2.St} {H : Hp}, EnvR G B M pm ρ m σ H → ∀ Q : VK, Post G E B M H (Rep G B.ad M) (f ρ m) Q → t σ H Q
structure Dq (G : Cl) (E : XK) (t : TE) (f : DE) : Prop where
  run : ∀ {B : Bx} {M : AP} {pm : Nat → Addr} {ρ : Ro} {m : Mo} {σ : L2.St} {H : Hp}, EnvR G B M pm ρ m σ H → ∀ Q : VK, Post G E B M H (RepT G B.ad B.A M) (f ρ m) Q → t σ H Q
structure Dt (G : Cl) (E : XK) (t : TT) (f : DT) : Prop where
  run : ∀ {B : Bx} {M : AP} {pm : Nat → Addr} {ρ : Ro} {m : Mo} {σ : L2.St} {H : Hp}, EnvR G B M pm ρ m σ H → ∀ Q : Bool → Hp → Prop, Post G E B M H (fun _ b a => b = a) (f ρ m) Q → t σ H Q
structure Da (G : Cl) (E : XK) (t : TA) (f : DA) : Prop where
  run : ∀ {B : Bx} {M : AP} {pm : Nat → Addr} {ρ : Ro} {m : Mo} {σ : L2.St} {H : Hp}, EnvR G B M pm ρ m σ H → ∀ Q : List V → Hp → Prop, Post G E B M H (Reps G B.ad M) (f ρ m) Q → t σ H Q
inductive RepTs (G : Cl) (ad : Ad) (A M : AP) (H : Hp) : List V → List D → Prop
  | nil : RepTs G ad A M H [] []
  | cons {v : V} {vs : List V} {d : D} {ds : List D} (r : RepT G ad A M H v d) (rs : RepTs G ad A M H vs ds) : RepTs G ad A M H (v :: vs) (d :: ds)
theorem RepTs.ext {G : Cl} {ad : Ad} {A M : AP} {H H' : Hp} (e : Ext A H H') (hA : ∀ b, A b → M b) : ∀ {vs : List V} {ds : List D}, RepTs G ad A M H vs ds → RepTs G ad A M H' vs ds
  | _, _, .nil => .nil
  | _, _, .cons r rs => .cons (r.ext e hA) (RepTs.ext e hA rs)
theorem Reps.q {G : Cl} {ad : Ad} {A M : AP} {H : Hp} : ∀ {vs : List V} {ds : List D}, Reps G ad M H vs ds → RepTs G ad A M H vs ds
  | _, _, .nil => .nil
  | _, _, .cons r rs => .cons (.r r) (Reps.q rs)
structure Dpa (G : Cl) (E : XK) (t : TA) (f : DA) : Prop where
  run : ∀ {B : Bx} {M : AP} {pm : Nat → Addr} {ρ : Ro} {m : Mo} {σ : L2.St} {H : Hp}, EnvR G B M pm ρ m σ H → ∀ Q : List V → Hp → Prop, Post G E B M H (RepTs G B.ad B.A M) (f ρ m) Q → t σ H Q
end Dn
namespace Dn
open PySem PySem.Spec PyProof.Rows L2

/-! rules on values, told by data -/
section
variable (G : Cl)
/-- two values to one -/
structure O2 (r : R2) (g : D → D → Option D) : Prop where
  run : ∀ {ad : Ad} {A M : AP} {H : Hp} {x y : V} {d e z : D}, (∀ b, M b → H b ≠ none) → (∀ b, A b → M b) → RepT G ad A M H x d → RepT G ad A M H y e → g d e = some z → ∀ Q : VK, (∀ v H', ExN H H' → Rep G ad M H' v z → Q v H') → r x y H Q
structure O1 (r : V → Hp → VK → Prop) (g : D → Option D) : Prop where
  run : ∀ {ad : Ad} {A M : AP} {H : Hp} {x : V} {d z : D}, (∀ b, M b → H b ≠ none) → (∀ b, A b → M b) → RepT G ad A M H x d → g d = some z → ∀ Q : VK, (∀ v H', ExN H H' → Rep G ad M H' v z → Q v H') → r x H Q
/-- arguments to a value -/
structure ON (r : List V → Hp → VK → Prop) (g : List D → Option D) : Prop where
  run : ∀ {ad : Ad} {A M : AP} {H : Hp} {xs : List V} {ds : List D} {z : D}, (∀ b, M b → H b ≠ none) → (∀ b, A b → M b) → RepTs G ad A M H xs ds → g ds = some z → ∀ Q : VK, (∀ v H', ExN H H' → Rep G ad M H' v z → Q v H') → r xs H Q
/-- a method's value, which changes nothing -/
structure OM (r : V → List V → Hp → VK → Prop) (g : D → List D → Option D) : Prop where
  run : ∀ {ad : Ad} {A M : AP} {H : Hp} {x : V} {xs : List V} {d : D} {ds : List D} {z : D}, (∀ b, M b → H b ≠ none) → (∀ b, A b → M b) → RepT G ad A M H x d → RepTs G ad A M H xs ds → g d ds = some z → ∀ Q : VK, (∀ v H', ExN H H' → Rep G ad M H' v z → Q v H') → r x xs H Q
end
section
variable {G : Cl} {E : XK}
theorem De.q {t : TE} {f : DE} (h : De G E t f) : Dq G E t f := ⟨fun e Q p => h.run e Q (p.weak fun _ _ _ r => .r r)⟩
theorem Da.q {t : TA} {f : DA} (h : Da G E t f) : Dpa G E t f := ⟨fun e Q p => h.run e Q (p.weak fun _ _ _ r => r.q)⟩
theorem Post.of {B : Bx} {M : AP} {pm : Nat → Addr} {ρ : Ro} {m : Mo} {σ : L2.St} {H : Hp} {α β : Type} {rel : Hp → β → α → Prop} {o : Option α} {Q : β → Hp → Prop} (e : EnvR G B M pm ρ m σ H) (h : Post G E B M H rel (R.of o m) Q) :
    ∃ a, o = some a ∧ ∀ b H', ExN H H' → rel H' b a → Q b H' := by
  cases o with
  | none => exact h.elim
  | some a => exact ⟨a, rfl, fun b H' x hr => h b H' (e.same x) hr⟩
/-- a value as it stands -/
theorem Post.ret {B : Bx} {M : AP} {pm : Nat → Addr} {ρ : Ro} {m : Mo} {σ : L2.St} {H : Hp} {α β : Type} {rel : Hp → β → α → Prop} {a : α} {b : β} {Q : β → Hp → Prop} (e : EnvR G B M pm ρ m σ H) (h : Post G E B M H rel (.ok a m) Q) (r : rel H b a) : Q b H :=
  h b H e.here r

theorem Post.imp' {B : Bx} {M : AP} {H : Hp} {α β : Type} {rel : Hp → β → α → Prop} {r : R α} {Q Q' : β → Hp → Prop} (h : Post G E B M H rel r Q) (w : ∀ b H', Q b H' → Q' b H') : Post G E B M H rel r Q' := by
  cases r with
  | bad => exact h
  | ok a m' => exact fun b H' g hr => w _ _ (h b H' g hr)
  | exc c l m' => exact h
/-! names, constants -/
def dVar (i : Nat) : DE := fun ρ m => match ρ[i]? with
  | some (some (.v d)) => .ok d m
  | _ => .bad
theorem de_var (i : Nat) : De G E (tVar i) (dVar i) := ⟨fun {B M pm ρ m σ H} e Q p => by
  unfold dVar at p
  split at p
  · rename_i d q
    obtain ⟨v, h1, h2⟩ := e.sv i d q
    exact ⟨v, h1, p v H e.here h2⟩
  · exact p.elim⟩
/-- a name that is only looked at -/
def dPeek (i : Nat) : DE := fun ρ m => match ρ[i]? with
  | some (some (.v d)) => .ok d m
  | some (some (.ml ds)) => .ok (.lst ds) m
  | some (some (.mk l)) => .ok (.dct l) m
  | some (some (.mn l)) => .ok (.dcn l) m
  | _ => .bad
theorem dq_var (i : Nat) : Dq G E (tVar i) (dPeek i) := ⟨fun {B M pm ρ m σ H} e Q p => by
  unfold dPeek at p
  split at p
  · rename_i d q
    obtain ⟨v, h1, h2⟩ := e.sv i d q
    exact ⟨v, h1, p v H e.here (.r h2)⟩
  · rename_i ds q
    obtain ⟨vs, h1, h2, h3⟩ := e.sl i ds q
    exact ⟨_, h1, p _ H e.here (.ml (e.mut i ⟨_, q, rfl⟩) h2 h3)⟩
  · rename_i l q
    obtain ⟨vs, h1, h2, h3, h4⟩ := e.sk i l q
    exact ⟨_, h1, p _ H e.here (.mk (e.mut i ⟨_, q, rfl⟩) h2 h3 h4)⟩
  · rename_i l q
    obtain ⟨vs, h1, h2, h3, h4, h5⟩ := e.sn i l q
    exact ⟨_, h1, p _ H e.here (.mn h2 h3 h4 h5 (e.mut i ⟨_, q, rfl⟩))⟩
  · exact p.elim⟩
def dC (d : D) : DE := fun _ m => .ok d m
theorem de_int {i : Int} : De G E (tC (.int i)) (dC (.int i)) := ⟨fun e Q p => p _ _ e.here (.int i)⟩
theorem de_bl {i : Bool} : De G E (tC (.bl i)) (dC (.bl i)) := ⟨fun e Q p => p _ _ e.here (.bl i)⟩
theorem de_str {i : Str} : De G E (tC (.str i)) (dC (.str i)) := ⟨fun e Q p => p _ _ e.here (.str i)⟩
theorem de_non : De G E (tC .non) (dC .non) := ⟨fun e Q p => p _ _ e.here .non⟩
/-- a module's constant -/
theorem de_globI {i : Int} {t : TE} (h : t = tC (.int i)) : De G E t (dC (.int i)) := by
  subst h
  exact de_int

/-! operators -/
def dOp (g : D → D → Option D) (fa fb : DE) : DE := fun ρ m => (fa ρ m).bind fun x m1 => (fb ρ m1).bind fun y m2 => R.of (g x y) m2
theorem de_op {r : R2} {g : D → D → Option D} {ta tb : TE} {fa fb : DE} (o : O2 G r g) (ha : Dq G E ta fa) (hb : Dq G E tb fb) : De G E (tOp r ta tb) (dOp g fa fb) := ⟨fun {B M pm ρ m σ H} e Q p => by
  refine ha.run e _ ((Post.bind p).imp' fun x H1 ⟨d1, m1, g1, r1, p1⟩ => ?_)
  have e1 := e.go g1
  refine hb.run e1 _ ((Post.bind p1).imp' fun y H2 ⟨d2, m2, g2, r2, p2⟩ => ?_)
  have e2 := e1.go g2
  obtain ⟨z, q, k⟩ := Post.of e2 p2
  exact o.run e2.hm e2.aM (r1.ext g2.x e2.aM) r2 q Q k⟩
def dUn (g : D → Option D) (fa : DE) : DE := fun ρ m => (fa ρ m).bind fun x m1 => R.of (g x) m1
theorem de_un {r : V → Hp → VK → Prop} {g : D → Option D} {ta : TE} {fa : DE} (o : O1 G r g) (ha : Dq G E ta fa) : De G E (tUn r ta) (dUn g fa) := ⟨fun {B M pm ρ m σ H} e Q p => by
  refine ha.run e _ ((Post.bind p).imp' fun x H1 ⟨d1, m1, g1, r1, p1⟩ => ?_)
  have e1 := e.go g1
  obtain ⟨z, q, k⟩ := Post.of e1 p1
  exact o.run e1.hm e1.aM r1 q Q k⟩
/-! arguments -/
def dNil : DA := fun _ m => .ok [] m
def dCons (fa : DE) (fr : DA) : DA := fun ρ m => (fa ρ m).bind fun x m1 => (fr ρ m1).bind fun xs m2 => .ok (x :: xs) m2
theorem da_nil : Da G E tNil dNil := ⟨fun e Q p => p _ _ e.here .nil⟩
theorem dp_nil : Dpa G E tNil dNil := ⟨fun e Q p => p _ _ e.here .nil⟩
theorem da_cons {ta : TE} {tr : TA} {fa : DE} {fr : DA} (ha : De G E ta fa) (hr : Da G E tr fr) : Da G E (tCons ta tr) (dCons fa fr) := ⟨fun {B M pm ρ m σ H} e Q p => by
  refine ha.run e _ ((Post.bind p).imp' fun x H1 ⟨d1, m1, g1, r1, p1⟩ => ?_)
  have e1 := e.go g1
  refine hr.run e1 _ ((Post.bind p1).imp' fun y H2 ⟨d2, m2, g2, r2, p2⟩ => ?_)
  exact p2 _ _ (e1.go g2).here (.cons (r1.ext g2.x e.aM) r2)⟩
theorem dp_cons {ta : TE} {tr : TA} {fa : DE} {fr : DA} (ha : Dq G E ta fa) (hr : Dpa G E tr fr) : Dpa G E (tCons ta tr) (dCons fa fr) := ⟨fun {B M pm ρ m σ H} e Q p => by
  refine ha.run e _ ((Post.bind p).imp' fun x H1 ⟨d1, m1, g1, r1, p1⟩ => ?_)
  have e1 := e.go g1
  refine hr.run e1 _ ((Post.bind p1).imp' fun y H2 ⟨d2, m2, g2, r2, p2⟩ => ?_)
  exact p2 _ _ (e1.go g2).here (.cons (r1.ext g2.x e.aM) r2)⟩
def dCB (g : List D → Option D) (fa : DA) : DE := fun ρ m => (fa ρ m).bind fun xs m1 => R.of (g xs) m1
theorem de_cb {r : List V → Hp → VK → Prop} {g : List D → Option D} {ta : TA} {fa : DA} (o : ON G r g) (ha : Dpa G E ta fa) : De G E (tCB r ta) (dCB g fa) := ⟨fun {B M pm ρ m σ H} e Q p => by
  refine ha.run e _ ((Post.bind p).imp' fun x H1 ⟨d1, m1, g1, r1, p1⟩ => ?_)
  have e1 := e.go g1
  obtain ⟨z, q, k⟩ := Post.of e1 p1
  exact o.run e1.hm e1.aM r1 q Q k⟩
/-! displays -/
def dTup (fa : DA) : DE := fun ρ m => (fa ρ m).bind fun xs m1 => if xs.length ≤ 10000 then .ok (.tup xs) m1 else .bad
def dLst (fa : DA) : DE := fun ρ m => (fa ρ m).bind fun xs m1 => if xs.length ≤ 10000 then .ok (.lst xs) m1 else .bad
theorem sz_ok {n : Nat} (h : n ≤ 10000000) : n ≤ sizeLine := Nat.le_trans h (by decide)
theorem de_tup {ta : TA} {fa : DA} (ha : Da G E ta fa) : De G E (tTup ta) (dTup fa) := ⟨fun {B M pm ρ m σ H} e Q p => by
  refine ha.run e _ ((Post.bind p).imp' fun x H1 ⟨d1, m1, g1, r1, p1⟩ => ?_)
  have e1 := e.go g1
  by_cases hl : d1.length ≤ 10000
  · rw [if_pos hl] at p1
    refine ⟨sz_ok (by rw [r1.length]; omega), fun q hq => ?_⟩
    exact p1 _ _ (e1.same (ExN.new hq)) (.tup upd_same (fun z => e1.hm _ z hq) (r1.ext (Ext.new (A := Non) hq) fun _ z => z.elim))
  · rw [if_neg hl] at p1
    exact p1.elim⟩
theorem de_lst {ta : TA} {fa : DA} (ha : Da G E ta fa) : De G E (tLst ta) (dLst fa) := ⟨fun {B M pm ρ m σ H} e Q p => by
  refine ha.run e _ ((Post.bind p).imp' fun x H1 ⟨d1, m1, g1, r1, p1⟩ => ?_)
  have e1 := e.go g1
  by_cases hl : d1.length ≤ 10000
  · rw [if_pos hl] at p1
    refine ⟨sz_ok (by rw [r1.length]; omega), fun q hq => ?_⟩
    exact p1 _ _ (e1.same (ExN.new hq)) (.lst upd_same (fun z => e1.hm _ z hq) (r1.ext (Ext.new (A := Non) hq) fun _ z => z.elim))
  · rw [if_neg hl] at p1
    exact p1.elim⟩
/-! tests -/
def dTest (fa : DE) : DT := fun ρ m => (fa ρ m).bind fun x m1 => match x with
  | .bl b => .ok b m1
  | _ => .bad
theorem dt_test {ta : TE} {fa : DE} (ha : De G E ta fa) : Dt G E (tTest ta) (dTest fa) := ⟨fun {B M pm ρ m σ H} e Q p => by
  refine ha.run e _ ((Post.bind p).imp' fun x H1 ⟨d1, m1, g1, r1, p1⟩ => ?_)
  cases r1 with
  | bl b => exact ⟨b, rfl, p1 _ _ (e.go g1).here rfl⟩
  | _ => exact p1.elim⟩
def dNot (fa : DT) : DT := fun ρ m => (fa ρ m).bind fun x m1 => .ok (!x) m1
theorem dt_not {ta : TT} {fa : DT} (ha : Dt G E ta fa) : Dt G E (tNot ta) (dNot fa) := ⟨fun {B M pm ρ m σ H} e Q p => by
  refine ha.run e _ ((Post.bind p).imp' fun x H1 ⟨d1, m1, g1, r1, p1⟩ => ?_)
  subst r1
  exact p1 _ _ (e.go g1).here rfl⟩
def dAnd (fa fb : DT) : DT := fun ρ m => (fa ρ m).bind fun x m1 => if x = true then fb ρ m1 else .ok false m1
def dOr (fa fb : DT) : DT := fun ρ m => (fa ρ m).bind fun x m1 => if x = true then .ok true m1 else fb ρ m1
theorem dt_and {ta tb : TT} {fa fb : DT} (ha : Dt G E ta fa) (hb : Dt G E tb fb) : Dt G E (tAnd ta tb) (dAnd fa fb) := ⟨fun {B M pm ρ m σ H} e Q p => by
  refine ha.run e _ ((Post.bind p).imp' fun x H1 ⟨d1, m1, g1, r1, p1⟩ => ?_)
  subst r1
  have e1 := e.go g1
  cases x with
  | true => exact hb.run e1 _ p1
  | false => exact p1 _ _ e1.here rfl⟩
theorem dt_or {ta tb : TT} {fa fb : DT} (ha : Dt G E ta fa) (hb : Dt G E tb fb) : Dt G E (tOr ta tb) (dOr fa fb) := ⟨fun {B M pm ρ m σ H} e Q p => by
  refine ha.run e _ ((Post.bind p).imp' fun x H1 ⟨d1, m1, g1, r1, p1⟩ => ?_)
  subst r1
  have e1 := e.go g1
  cases x with
  | true => exact p1 _ _ e1.here rfl
  | false => exact hb.run e1 _ p1⟩
def dIf (c : DT) (fa fb : DE) : DE := fun ρ m => (c ρ m).bind fun x m1 => if x = true then fa ρ m1 else fb ρ m1
theorem de_if {tc : TT} {ta tb : TE} {fc : DT} {fa fb : DE} (hc : Dt G E tc fc) (ha : De G E ta fa) (hb : De G E tb fb) : De G E (tIf tc ta tb) (dIf fc fa fb) := ⟨fun {B M pm ρ m σ H} e Q p => by
  refine hc.run e _ ((Post.bind p).imp' fun x H1 ⟨d1, m1, g1, r1, p1⟩ => ?_)
  subst r1
  have e1 := e.go g1
  cases x with
  | true => exact ha.run e1 _ p1
  | false => exact hb.run e1 _ p1⟩
/-- a test as a value -/
def dAndV (fa fb : DE) : DE := fun ρ m => (fa ρ m).bind fun x m1 => match x with
  | .bl true => fb ρ m1
  | .bl false => .ok (.bl false) m1
  | _ => .bad
def dOrV (fa fb : DE) : DE := fun ρ m => (fa ρ m).bind fun x m1 => match x with
  | .bl false => fb ρ m1
  | .bl true => .ok (.bl true) m1
  | _ => .bad
theorem de_and {ta tb : TE} {fa fb : DE} (ha : De G E ta fa) (hb : De G E tb fb) : De G E (tAndV ta tb) (dAndV fa fb) := ⟨fun {B M pm ρ m σ H} e Q p => by
  refine ha.run e _ ((Post.bind p).imp' fun x H1 ⟨d1, m1, g1, r1, p1⟩ => ?_)
  have e1 := e.go g1
  cases r1 with
  | bl b =>
    cases b with
    | true => exact ⟨true, rfl, hb.run e1 _ p1⟩
    | false => exact ⟨false, rfl, p1 _ _ e1.here (.bl false)⟩
  | _ => exact p1.elim⟩
theorem de_or {ta tb : TE} {fa fb : DE} (ha : De G E ta fa) (hb : De G E tb fb) : De G E (tOrV ta tb) (dOrV fa fb) := ⟨fun {B M pm ρ m σ H} e Q p => by
  refine ha.run e _ ((Post.bind p).imp' fun x H1 ⟨d1, m1, g1, r1, p1⟩ => ?_)
  have e1 := e.go g1
  cases r1 with
  | bl b =>
    cases b with
    | false => exact ⟨false, rfl, hb.run e1 _ p1⟩
    | true => exact ⟨true, rfl, p1 _ _ e1.here (.bl true)⟩
  | _ => exact p1.elim⟩
def dNotV (fa : DE) : DE := fun ρ m => (fa ρ m).bind fun x m1 => match x with
  | .bl b => .ok (.bl (!b)) m1
  | _ => .bad
theorem de_not {ta : TE} {fa : DE} (ha : De G E ta fa) : De G E (tNotV ta) (dNotV fa) := ⟨fun {B M pm ρ m σ H} e Q p => by
  refine ha.run e _ ((Post.bind p).imp' fun x H1 ⟨d1, m1, g1, r1, p1⟩ => ?_)
  have e1 := e.go g1
  cases r1 with
  | bl b => exact ⟨b, rfl, p1 _ _ e1.here (.bl _)⟩
  | _ => exact p1.elim⟩
end
end Dn
namespace Dn
open PySem PySem.Spec PyProof.Rows L2

/-! data as the library's data -/
mutual
def D.py : D → PyData
  | .non => .none
  | .bl b => .bool b
  | .int i => .int i
  | .str x => .str x
  | .tup l => .tuple (D.pys l)
  | .lst l => .list (D.pys l)
  | _ => .none
def D.pys : List D → List PyData
  | [] => []
  | d :: r => D.py d :: D.pys r
end
mutual
/-- no objects within, at most n deep -/
def D.plain : Nat → D → Bool
  | _, .non => true
  | _, .bl _ => true
  | _, .int _ => true
  | _, .str x => PyData.strOk x
  | n + 1, .tup l => D.plains n l
  | n + 1, .lst l => D.plains n l
  | _, _ => false
def D.plains : Nat → List D → Bool
  | _, [] => true
  | n, d :: r => D.plain n d && D.plains n r
end
theorem D.pys_map : ∀ l : List D, D.pys l = l.map D.py
  | [] => by simp [D.pys]
  | d :: r => by simp [D.pys, D.pys_map r]
theorem D.plains_all (n : Nat) : ∀ l : List D, D.plains n l = l.all (D.plain n)
  | [] => by simp [D.plains]
  | d :: r => by simp [D.plains, D.plains_all n r]
mutual
theorem plain_lay : ∀ {n : Nat} {d : D}, d.plain n = true → d.py.canLay0 = true ∧ d.py.depth ≤ n
  | _, .non, _ => by simp [D.py, PyData.canLay0, PyData.depth]
  | _, .bl _, _ => by simp [D.py, PyData.canLay0, PyData.depth]
  | _, .int _, _ => by simp [D.py, PyData.canLay0, PyData.depth]
  | _, .str x, h => by
    have h' : PyData.strOk x = true := by simpa [D.plain] using h
    simp [D.py, PyData.canLay0, PyData.depth, h']
  | n + 1, .tup l, h => by
    have h' : D.plains n l = true := by simpa [D.plain] using h
    obtain ⟨h1, h2⟩ := plains_lay h'
    simp only [D.py, PyData.canLay0, PyData.depth]
    exact ⟨h1, by omega⟩
  | n + 1, .lst l, h => by
    have h' : D.plains n l = true := by simpa [D.plain] using h
    obtain ⟨h1, h2⟩ := plains_lay h'
    simp only [D.py, PyData.canLay0, PyData.depth]
    exact ⟨h1, by omega⟩
  | 0, .tup l, h => by simp [D.plain] at h
  | 0, .lst l, h => by simp [D.plain] at h
  | _, .obj _ _, h => by simp [D.plain] at h
  | _, .dct _, h => by simp [D.plain] at h
  | _, .exc _ _, h => by simp [D.plain] at h
  | _, .drw, h => by simp [D.plain] at h
  | _, .scr _, h => by simp [D.plain] at h
theorem plains_lay : ∀ {n : Nat} {l : List D}, D.plains n l = true → PyData.canLayAll0 (D.pys l) = true ∧ PyData.depthAll (D.pys l) ≤ n
  | _, [], _ => by simp [D.pys, PyData.canLayAll0, PyData.depthAll]
  | n, d :: r, h => by
    have h' : d.plain n = true ∧ D.plains n r = true := by simpa [D.plains] using h
    obtain ⟨a1, a2⟩ := plain_lay h'.1
    obtain ⟨b1, b2⟩ := plains_lay h'.2
    simp only [D.pys, PyData.canLayAll0, PyData.depthAll, Bool.and_eq_true]
    exact ⟨⟨a1, b1⟩, by omega⟩
end
theorem plain_shaped {n : Nat} {d : D} (h : d.plain n = true) (hn : n ≤ 64) : SeqAt.shaped d.py = true := by
  obtain ⟨h1, h2⟩ := plain_lay h
  unfold SeqAt.shaped
  rw [h1, decide_eq_true (by omega)]
  rfl
section
variable {G : Cl} {ad : Ad} {A M : AP} {H : Hp}
mutual
theorem Rep.dp_ : ∀ (n : Nat) (d : D) (v : V), d.plain n = true → Rep G ad M H v d → L2.Dp G.K H v d.py
  | _, .non, _, _, r => by cases r; simp only [D.py]; exact .non
  | _, .bl b, _, _, r => by cases r; simp only [D.py]; exact .bl b
  | _, .int b, _, _, r => by cases r; simp only [D.py]; exact .int b
  | _, .str b, _, _, r => by cases r; simp only [D.py]; exact .str b
  | 0, .tup _, _, h, _ => by simp [D.plain] at h
  | 0, .lst _, _, h, _ => by simp [D.plain] at h
  | n + 1, .tup ds, _, h, r => by
    have h' : D.plains n ds = true := by simpa [D.plain] using h
    cases r with
    | tup q _ r =>
      simp only [D.py]
      exact .tup (SqT.of q) (Reps.dp_ n ds _ h' r)
  | n + 1, .lst ds, _, h, r => by
    have h' : D.plains n ds = true := by simpa [D.plain] using h
    cases r with
    | lst q _ r =>
      simp only [D.py]
      exact .lst (SqL.of q) (Reps.dp_ n ds _ h' r)
  | _, .obj _ _, _, h, _ => by simp [D.plain] at h
  | _, .dct _, _, h, _ => by simp [D.plain] at h
  | _, .exc _ _, _, h, _ => by simp [D.plain] at h
  | _, .drw, _, h, _ => by simp [D.plain] at h
  | _, .scr _, _, h, _ => by simp [D.plain] at h
  | _, .dcn _, _, h, _ => by simp [D.plain] at h
  | _, .cel _, _, h, _ => by simp [D.plain] at h
theorem Reps.dp_ : ∀ (n : Nat) (ds : List D) (vs : List V), D.plains n ds = true → Reps G ad M H vs ds → DpAll G.K H vs (D.pys ds)
  | _, [], _, _, r => by cases r; simp only [D.pys]; exact .nil
  | n, d :: ds, _, h, r => by
    have h' : d.plain n = true ∧ D.plains n ds = true := by simpa [D.plains] using h
    cases r with
    | cons r rs =>
      simp only [D.pys]
      exact .cons (Rep.dp_ n d _ h'.1 r) (Reps.dp_ n ds _ h'.2 rs)
end
theorem Rep.dp {n : Nat} {v : V} {d : D} (h : d.plain n = true) (r : Rep G ad M H v d) : L2.Dp G.K H v d.py := Rep.dp_ n d v h r
theorem Reps.dp {n : Nat} {vs : List V} {ds : List D} (h : D.plains n ds = true) (r : Reps G ad M H vs ds) : DpAll G.K H vs (D.pys ds) := Reps.dp_ n ds vs h r
theorem RepT.dp {n : Nat} {v : V} {d : D} (h : d.plain n = true) (r : RepT G ad A M H v d) : L2.Dp G.K H v d.py := by
  cases r with
  | r r => exact Rep.dp h r
  | ml na q r =>
    cases n with
    | zero => simp [D.plain] at h
    | succ n =>
      simp only [D.py]
      exact .lst (SqL.of q) (Reps.dp (n := n) (by simpa [D.plain] using h) r)
  | mk na q e r => simp [D.plain] at h
  | mn q e rk r na => simp [D.plain] at h
theorem RepT.lst {v : V} {ds : List D} (r : RepT G ad A M H v (.lst ds)) : ∃ a vs, v = .ref a ∧ H a = some (.lst vs) ∧ Reps G ad M H vs ds := by
  cases r with
  | r r =>
    cases r with
    | lst h n r => exact ⟨_, _, rfl, h, r⟩
  | ml n h r => exact ⟨_, _, rfl, h, r⟩
theorem RepT.tup {v : V} {ds : List D} (r : RepT G ad A M H v (.tup ds)) : ∃ a vs, v = .ref a ∧ H a = some (.tup vs) ∧ ¬ M a ∧ Reps G ad M H vs ds := by
  cases r with
  | r r =>
    cases r with
    | tup h n r => exact ⟨_, _, rfl, h, n, r⟩
theorem RepT.int {v : V} {i : Int} (r : RepT G ad A M H v (.int i)) : v = .int i := by
  cases r with
  | r r =>
    cases r
    rfl
theorem RepT.bl {v : V} {i : Bool} (r : RepT G ad A M H v (.bl i)) : v = .bl i := by
  cases r with
  | r r =>
    cases r
    rfl
theorem RepT.str {v : V} {i : Str} (r : RepT G ad A M H v (.str i)) : v = .str i := by
  cases r with
  | r r =>
    cases r
    rfl
theorem RepT.non {v : V} (r : RepT G ad A M H v .non) : v = .non := by
  cases r with
  | r r =>
    cases r
    rfl
theorem Reps.newT {vs : List V} {ds : List D} {p : Addr} (hm : ∀ b, M b → H b ≠ none) (hp : H p = none) (r : Reps G ad M H vs ds) : Rep G ad M (upd H p (.tup vs)) (.ref p) (.tup ds) :=
  .tup upd_same (fun z => hm _ z hp) (r.ext (Ext.new (A := Non) hp) fun _ z => z.elim)
theorem Reps.newL {vs : List V} {ds : List D} {p : Addr} (hm : ∀ b, M b → H b ≠ none) (hp : H p = none) (r : Reps G ad M H vs ds) : Rep G ad M (upd H p (.lst vs)) (.ref p) (.lst ds) :=
  .lst upd_same (fun z => hm _ z hp) (r.ext (Ext.new (A := Non) hp) fun _ z => z.elim)
end

/-! + -/
def rAddU (K : PySem.W.Frag) : R2 := fun x y H Q => (∃ i j, x = .int i ∧ y = .int j ∧ Q (.int (i + j)) H) ∨ (∃ i j, x = .str i ∧ y = .str j ∧ i.length + j.length ≤ sizeLine ∧ Q (.str (i ++ j)) H) ∨ rCatA K x y H Q ∨ rCat x y H Q
theorem op_addU {X : Cx} : OpR X (binaryOp .Add) (rAddU X.K) := OpR.or op_add (OpR.or op_add_str (OpR.or op_catA op_cat))
def addD : D → D → Option D
  | .int i, .int j => some (.int (i + j))
  | .str x, .str y => if x.length + y.length ≤ 1000000 then some (.str (x ++ y)) else none
  | .tup x, .tup y => if x.length + y.length ≤ 1000000 then some (.tup (x ++ y)) else none
  | .lst x, .lst y => if x.length + y.length ≤ 1000000 then some (.lst (x ++ y)) else none
  | _, _ => none
theorem o_add {G : Cl} : O2 G (rAddU G.K) addD := ⟨fun {ad A M H x y d e z} hm hA rx ry g Q q => by
  unfold addD at g
  split at g
  · rename_i i j
    cases g
    exact .inl ⟨i, j, rx.int, ry.int, q _ _ .refl (.int _)⟩
  · rename_i i j
    split at g
    · rename_i hl
      cases g
      exact .inr (.inl ⟨i, j, rx.str, ry.str, sz_ok (by omega), q _ _ .refl (.str _)⟩)
    · cases g
  · rename_i i j
    split at g
    · rename_i hl
      cases g
      obtain ⟨a, vs, rfl, ha, na, ra⟩ := rx.tup
      obtain ⟨b, ws, rfl, hb, nb, rb⟩ := ry.tup
      refine .inr (.inr (.inl ⟨a, b, vs, ws, rfl, rfl, SqT.of ha, SqT.of hb, sz_ok (by rw [ra.length, rb.length]; omega), fun e => ?_, fun n e => ?_, fun n1 n2 p hp => ?_⟩))
      · subst e
        cases ra
        exact q _ _ .refl (.tup hb nb rb)
      · subst e
        cases rb
        rw [List.append_nil] at q
        exact q _ _ .refl (.tup ha na ra)
      · exact q _ _ (ExN.new hp) ((ra.append rb).newT hm hp)
    · cases g
  · rename_i i j
    split at g
    · rename_i hl
      cases g
      obtain ⟨a, vs, rfl, ha, ra⟩ := rx.lst
      obtain ⟨b, ws, rfl, hb, rb⟩ := ry.lst
      exact .inr (.inr (.inr ⟨a, b, vs, ws, rfl, rfl, ha, hb, sz_ok (by rw [ra.length, rb.length]; omega), fun p hp => q _ _ (ExN.new hp) ((ra.append rb).newL hm hp)⟩))
    · cases g
  · cases g⟩
/-! - % // ** * -/
def subD : D → D → Option D
  | .int i, .int j => some (.int (i - j))
  | _, _ => none
theorem o_sub {G : Cl} : O2 G (rI0 fun i j => .int (i - j)) subD := ⟨fun {ad A M H x y d e z} hm hA rx ry g Q q => by
  unfold subD at g
  split at g
  · cases g
    exact ⟨_, _, rx.int, ry.int, q _ _ .refl (.int _)⟩
  · cases g⟩
def modD : D → D → Option D
  | .int i, .int j => if 0 < j then some (.int (i % j)) else none
  | _, _ => none
theorem o_mod {G : Cl} : O2 G (rI (fun _ j => 0 < j) fun i j => .int (i % j)) modD := ⟨fun {ad A M H x y d e z} hm hA rx ry g Q q => by
  unfold modD at g
  split at g
  · split at g
    · rename_i h
      cases g
      exact ⟨_, _, rx.int, ry.int, h, q _ _ .refl (.int _)⟩
    · cases g
  · cases g⟩
def divD : D → D → Option D
  | .int i, .int j => if 0 < j ∧ j < 1073741824 then some (.int (i / j)) else none
  | _, _ => none
theorem o_div {G : Cl} : O2 G (rI CDiv fun i j => .int (i / j)) divD := ⟨fun {ad A M H x y d e z} hm hA rx ry g Q q => by
  unfold divD at g
  split at g
  · split at g
    · rename_i h
      cases g
      exact ⟨_, _, rx.int, ry.int, h, q _ _ .refl (.int _)⟩
    · cases g
  · cases g⟩
def powD : D → D → Option D
  | .int i, .int j => if 0 ≤ j ∧ j ≤ 1000 ∧ i.natAbs < 1000 then some (.int (i ^ j.toNat)) else none
  | _, _ => none
theorem o_pow {G : Cl} : O2 G (rI CPow fun i j => .int (i ^ j.toNat)) powD := ⟨fun {ad A M H x y d e z} hm hA rx ry g Q q => by
  unfold powD at g
  split at g
  · split at g
    · rename_i h
      cases g
      exact ⟨_, _, rx.int, ry.int, ⟨h.1, by omega, Nat.lt_of_lt_of_le h.2.2 (by decide)⟩, q _ _ .refl (.int _)⟩
    · cases g
  · cases g⟩
def rMulU (K : PySem.W.Frag) : R2 := fun x y H Q => (∃ i j, x = .int i ∧ y = .int j ∧ CMul i j ∧ Q (.int (i * j)) H) ∨ rRep x y H Q ∨ rRepT K x y H Q
theorem op_mulU {X : Cx} : OpR X (binaryOp .Mult) (rMulU X.K) := OpR.or op_mul (OpR.or op_rep op_repT)
def mulD : D → D → Option D
  | .int i, .int j => if (-(2 ^ 64) < i ∧ i < 2 ^ 64) ∨ (-(2 ^ 64) < j ∧ j < 2 ^ 64) then some (.int (i * j)) else none
  | .lst x, .int k => if 0 ≤ k ∧ k ≤ 1000 ∧ x.length ≤ 1000 then some (.lst (List.replicate k.toNat x).flatten) else none
  | .tup x, .int k => if 2 ≤ k ∧ k ≤ 1000 ∧ x.length ≤ 1000 ∧ x ≠ [] then some (.tup (List.replicate k.toNat x).flatten) else none
  | _, _ => none
theorem Reps.rep {G : Cl} {ad : Ad} {M : AP} {H : Hp} {vs : List V} {ds : List D} (h : Reps G ad M H vs ds) : ∀ k : Nat, Reps G ad M H (List.replicate k vs).flatten (List.replicate k ds).flatten
  | 0 => .nil
  | k + 1 => by
    rw [List.replicate_succ, List.replicate_succ, List.flatten_cons, List.flatten_cons]
    exact h.append (Reps.rep h k)
theorem o_mul {G : Cl} : O2 G (rMulU G.K) mulD := ⟨fun {ad A M H x y d e z} hm hA rx ry g Q q => by
  unfold mulD at g
  split at g
  · split at g
    · rename_i h
      cases g
      exact .inl ⟨_, _, rx.int, ry.int, h, q _ _ .refl (.int _)⟩
    · cases g
  · split at g
    · rename_i h
      cases g
      obtain ⟨a, vs, rfl, ha, ra⟩ := rx.lst
      refine .inr (.inl ⟨a, _, vs, rfl, ry.int, ha, by omega, by omega, sz_ok ?_, fun p hp => q _ _ (ExN.new hp) ((ra.rep _).newL hm hp)⟩)
      rw [ra.length]
      exact Nat.le_trans (Nat.mul_le_mul h.2.2 (show _ ≤ 1000 by omega)) (by decide)
    · cases g
  · split at g
    · rename_i h
      cases g
      obtain ⟨a, vs, rfl, ha, na, ra⟩ := rx.tup
      refine .inr (.inr ⟨a, _, vs, rfl, ry.int, SqT.of ha, fun z => ?_, h.1, h.2.1, by rw [ra.length]; exact h.2.2.1, fun p hp => q _ _ (ExN.new hp) ((ra.rep _).newT hm hp)⟩)
      subst z
      cases ra
      exact h.2.2.2 rfl
    · cases g
  · cases g⟩
/-! comparisons -/
def cmpD (p : Int → Int → Bool) : D → D → Option D
  | .int i, .int j => some (.bl (p i j))
  | _, _ => none
theorem o_cmp {G : Cl} (p : Int → Int → Bool) : O2 G (rI0 fun i j => .bl (p i j)) (cmpD p) := ⟨fun {ad A M H x y d e z} hm hA rx ry g Q q => by
  unfold cmpD at g
  split at g
  · cases g
    exact ⟨_, _, rx.int, ry.int, q _ _ .refl (.bl _)⟩
  · cases g⟩
def rEqU (K : PySem.W.Frag) : R2 := fun x y H Q => rEqD K x y H Q ∨ rEq x y H Q
def rNeU (K : PySem.W.Frag) : R2 := fun x y H Q => rNeD K x y H Q ∨ rNe x y H Q
theorem op_eqU {X : Cx} (hu : X.A.units + 64 < cLine) : OpR X (compareOp .Eq) (rEqU X.K) := OpR.or (op_eqD hu) op_eq
theorem op_neU {X : Cx} (hu : X.A.units + 64 < cLine) : OpR X (compareOp .NotEq) (rNeU X.K) := OpR.or (op_neD hu) op_ne
def eqD : D → D → Option D
  | .str x, .str y => some (.bl (decide (x = y)))
  | d, e => if d.plain 60 = true ∧ e.plain 60 = true then some (.bl (PyData.eqv d.py e.py)) else none
def neD : D → D → Option D
  | .str x, .str y => some (.bl (!decide (x = y)))
  | d, e => if d.plain 60 = true ∧ e.plain 60 = true then some (.bl (!PyData.eqv d.py e.py)) else none
theorem str_dec {x y : Str} : decide (V.str x = V.str y) = decide (x = y) := by
  by_cases h : x = y
  · subst h
    rw [decide_eq_true rfl, decide_eq_true rfl]
  · rw [decide_eq_false h, decide_eq_false fun z => h (V.str.inj z)]
theorem o_eq {G : Cl} : O2 G (rEqU G.K) eqD := ⟨fun {ad A M H x y d e z} hm hA rx ry g Q q => by
  unfold eqD at g
  split at g
  · cases g
    rw [rx.str, ry.str]
    exact .inr ⟨rfl, by rw [str_dec]; exact q _ _ .refl (.bl _)⟩
  · split at g
    · rename_i h
      cases g
      exact .inl ⟨_, _, rx.dp h.1, ry.dp h.2, plain_shaped h.1 (by omega), plain_shaped h.2 (by omega), q _ _ .refl (.bl _)⟩
    · cases g⟩
theorem o_ne {G : Cl} : O2 G (rNeU G.K) neD := ⟨fun {ad A M H x y d e z} hm hA rx ry g Q q => by
  unfold neD at g
  split at g
  · cases g
    rw [rx.str, ry.str]
    exact .inr ⟨rfl, by rw [str_dec]; exact q _ _ .refl (.bl _)⟩
  · split at g
    · rename_i h
      cases g
      exact .inl ⟨_, _, rx.dp h.1, ry.dp h.2, plain_shaped h.1 (by omega), plain_shaped h.2 (by omega), q _ _ .refl (.bl _)⟩
    · cases g⟩
/-! in -/
def inD (neg : Bool) : D → D → Option D
  | d, .lst l => if d.plain 60 = true ∧ D.plains 60 l = true then some (.bl (neg ^^ l.any fun z => PyData.eqv z.py d.py)) else none
  | d, .tup l => if d.plain 0 = true ∧ D.plains 0 l = true then some (.bl (neg ^^ l.any fun z => PyData.eqv z.py d.py)) else none
  | _, _ => none
def rInU (K : PySem.W.Frag) : R2 := fun x y H Q => rInD K x y H Q ∨ rIn K false x y H Q
def rNotInU (K : PySem.W.Frag) : R2 := fun x y H Q => rNotInD K x y H Q ∨ rIn K true x y H Q
theorem op_inU {X : Cx} (hu : X.A.units + 65 < cLine) : OpR X (compareOp .In) (rInU X.K) := OpR.or (op_inD hu) op_in_seq
theorem op_notInU {X : Cx} (hu : X.A.units + 65 < cLine) : OpR X (compareOp .NotIn) (rNotInU X.K) := OpR.or (op_notInD hu) op_notIn_seq
theorem any_pys (f : PyData → Bool) : ∀ l : List D, (D.pys l).any f = l.any fun z => f z.py
  | [] => by simp [D.pys]
  | d :: r => by simp [D.pys, any_pys f r]
theorem flat_rep {G : Cl} {ad : Ad} {M : AP} {H : Hp} {v : V} {d : D} (r : Rep G ad M H v d) (h : d.plain 0 = true) : flatV v = true := by
  cases r <;> first | rfl | (simp [D.plain] at h)
theorem flats_rep {G : Cl} {ad : Ad} {M : AP} {H : Hp} : ∀ {vs : List V} {ds : List D}, Reps G ad M H vs ds → D.plains 0 ds = true → vs.all flatV = true
  | _, _, .nil, _ => rfl
  | _, d :: ds, .cons r rs, h => by
    have h' : d.plain 0 = true ∧ D.plains 0 ds = true := by simpa [D.plains] using h
    rw [List.all_cons, flat_rep r h'.1, flats_rep rs h'.2]
    rfl
theorem eqV_py {G : Cl} {ad ad' : Ad} {M M' : AP} {H : Hp} {v w : V} {d e : D} (r : Rep G ad M H v d) (r' : Rep G ad' M' H w e) (h : d.plain 0 = true) (h' : e.plain 0 = true) : eqV v w = PyData.eqv d.py e.py := by
  cases r <;> first | (simp [D.plain] at h; done) | (cases r' <;> first | (simp [D.plain] at h'; done) | (simp [eqV, D.py, PyData.eqv]; done) | (simp [eqV, D.py, PyData.eqv]; rfl))
theorem inV_py {G : Cl} {ad ad' : Ad} {M M' : AP} {H : Hp} {w : V} {e : D} (r' : Rep G ad' M' H w e) (h' : e.plain 0 = true) : ∀ {vs : List V} {ds : List D}, Reps G ad M H vs ds → D.plains 0 ds = true → inV w vs = ds.any fun z => PyData.eqv z.py e.py
  | _, _, .nil, _ => rfl
  | _, d :: ds, .cons r rs, h => by
    have h2 : d.plain 0 = true ∧ D.plains 0 ds = true := by simpa [D.plains] using h
    have ih := inV_py r' h' rs h2.2
    unfold inV at ih ⊢
    rw [List.any_cons, List.any_cons, eqV_py r r' h2.1 h', ih]
end Dn
namespace Dn
open PySem PySem.Spec PyProof.Rows L2
theorem o_inG {G : Cl} : O2 G (rInU G.K) (inD false) := ⟨fun {ad A M H x y d e z} hm hA rx ry g Q q => by
  unfold inD at g
  split at g
  · rename_i l
    split at g
    · rename_i h
      cases g
      refine .inl ⟨_, D.pys l, rx.dp h.1, ?_, plain_shaped h.1 (by omega), ?_, ?_⟩
      · have z := ry.dp (n := 61) (d := .lst l) (by simpa [D.plain] using h.2)
        simpa only [D.py] using z
      · have z := plain_shaped (n := 61) (d := .lst l) (by simpa [D.plain] using h.2) (by omega)
        simpa only [D.py] using z
      · rw [any_pys]
        rw [Bool.false_xor] at q
        exact q _ _ .refl (.bl _)
    · cases g
  · rename_i l
    split at g
    · rename_i h
      cases g
      obtain ⟨a, vs, rfl, ha, na, ra⟩ := ry.tup
      have rx' : ∃ M', Rep G ad M' H x d := by
        cases rx with
        | r r => exact ⟨_, r⟩
        | ml _ _ _ => simp [D.plain] at h
        | mk _ _ _ _ => simp [D.plain] at h
        | mn _ _ _ _ _ => simp [D.plain] at h
      obtain ⟨M', rx'⟩ := rx'
      refine .inr ⟨a, vs, rfl, .inr (SqT.of ha), flat_rep rx' h.1, flats_rep ra h.2, ?_⟩
      rw [inV_py rx' h.1 ra h.2, if_neg Bool.false_ne_true]
      rw [Bool.false_xor] at q
      exact q _ _ .refl (.bl _)
    · cases g
  · cases g⟩
theorem o_notInG {G : Cl} : O2 G (rNotInU G.K) (inD true) := ⟨fun {ad A M H x y d e z} hm hA rx ry g Q q => by
  unfold inD at g
  split at g
  · rename_i l
    split at g
    · rename_i h
      cases g
      refine .inl ⟨_, D.pys l, rx.dp h.1, ?_, plain_shaped h.1 (by omega), ?_, ?_⟩
      · have z := ry.dp (n := 61) (d := .lst l) (by simpa [D.plain] using h.2)
        simpa only [D.py] using z
      · have z := plain_shaped (n := 61) (d := .lst l) (by simpa [D.plain] using h.2) (by omega)
        simpa only [D.py] using z
      · rw [any_pys]
        rw [Bool.true_xor] at q
        exact q _ _ .refl (.bl _)
    · cases g
  · rename_i l
    split at g
    · rename_i h
      cases g
      obtain ⟨a, vs, rfl, ha, na, ra⟩ := ry.tup
      have rx' : ∃ M', Rep G ad M' H x d := by
        cases rx with
        | r r => exact ⟨_, r⟩
        | ml _ _ _ => simp [D.plain] at h
        | mk _ _ _ _ => simp [D.plain] at h
        | mn _ _ _ _ _ => simp [D.plain] at h
      obtain ⟨M', rx'⟩ := rx'
      refine .inr ⟨a, vs, rfl, .inr (SqT.of ha), flat_rep rx' h.1, flats_rep ra h.2, ?_⟩
      rw [inV_py rx' h.1 ra h.2, if_pos rfl]
      rw [Bool.true_xor] at q
      exact q _ _ .refl (.bl _)
    · cases g
  · cases g⟩
/-! is None, is True -/
def D.isNon : D → Bool
  | .non => true
  | _ => false
def isD (neg : Bool) : D → D → Option D
  | d, .non => some (.bl (neg ^^ d.isNon))
  | .bl a, .bl b => some (.bl (neg ^^ (a == b)))
  | _, _ => none
def rIsU : R2 := fun x y H Q => (y = .non ∧ Q (.bl (decide (x = .non))) H) ∨ rIsB x y H Q
def rIsNotU : R2 := fun x y H Q => (y = .non ∧ Q (.bl (!decide (x = .non))) H) ∨ rNotB x y H Q
theorem op_isU {X : Cx} : OpR X (compareOp .Is) rIsU := OpR.or op_isN op_isBl
theorem op_isNotU {X : Cx} : OpR X (compareOp .IsNot) rIsNotU := OpR.or op_notN op_notBl
theorem non_rep {G : Cl} {ad : Ad} {A M : AP} {H : Hp} {v : V} {d : D} (r : RepT G ad A M H v d) : decide (v = .non) = d.isNon := by
  cases r with
  | r r => cases r <;> rfl
  | ml _ _ _ => rfl
  | mk _ _ _ _ => rfl
  | mn _ _ _ _ _ => rfl
theorem o_is {G : Cl} : O2 G rIsU (isD false) := ⟨fun {ad A M H x y d e z} hm hA rx ry g Q q => by
  unfold isD at g
  split at g
  · rename_i d'
    have hz : z = .bl (decide (x = .non)) := by
      rw [non_rep rx]
      cases g
      first | rw [Bool.false_xor] | rw [Bool.true_xor]
    subst hz
    exact .inl ⟨ry.non, q _ _ .refl (.bl _)⟩
  · rename_i a b
    cases g
    refine .inr ⟨a, b, rx.bl, ry.bl, ?_⟩
    have e : decide (a = b) = (false ^^ (a == b)) := by cases a <;> cases b <;> rfl
    rw [e]
    exact q _ _ .refl (.bl _)
  · cases g⟩
theorem o_isNot {G : Cl} : O2 G rIsNotU (isD true) := ⟨fun {ad A M H x y d e z} hm hA rx ry g Q q => by
  unfold isD at g
  split at g
  · rename_i d'
    have hz : z = .bl (!decide (x = .non)) := by
      rw [non_rep rx]
      cases g
      first | rw [Bool.false_xor] | rw [Bool.true_xor]
    subst hz
    exact .inl ⟨ry.non, q _ _ .refl (.bl _)⟩
  · rename_i a b
    cases g
    refine .inr ⟨a, b, rx.bl, ry.bl, ?_⟩
    have e : (!decide (a = b)) = (true ^^ (a == b)) := by cases a <;> cases b <;> rfl
    rw [e]
    exact q _ _ .refl (.bl _)
  · cases g⟩
/-! items -/
def ixD : D → D → Option D
  | .lst l, .int i => atI l i
  | .tup l, .int i => atI l i
  | .str x, .int i => if x.length ≤ 1000000 then (atI x.cps.toList i).map fun c => .str ⟨#[c]⟩ else none
  | _, _ => none
theorem atI_rep {G : Cl} {ad : Ad} {M : AP} {H : Hp} {vs : List V} {ds : List D} {i : Int} {z : D} (r : Reps G ad M H vs ds) (h : atI ds i = some z) : ∃ v, atI vs i = some v ∧ Rep G ad M H v z := by
  unfold atI at h ⊢
  rw [r.length]
  cases e : ixN ds.length i with
  | none =>
    rw [e] at h
    cases h
  | some j =>
    rw [e] at h
    exact r.getD h
theorem o_ix {G : Cl} : O2 G (rIx G.K) ixD := ⟨fun {ad A M H x y d e z} hm hA rx ry g Q q => by
  unfold ixD at g
  split at g
  · obtain ⟨a, vs, rfl, ha, ra⟩ := rx.lst
    obtain ⟨v, hv, rv⟩ := atI_rep ra g
    exact .inl ⟨a, vs, _, v, rfl, ry.int, SqL.of ha, hv, q _ _ .refl rv⟩
  · obtain ⟨a, vs, rfl, ha, na, ra⟩ := rx.tup
    obtain ⟨v, hv, rv⟩ := atI_rep ra g
    exact .inr (.inl ⟨a, vs, _, v, rfl, ry.int, SqT.of ha, hv, q _ _ .refl rv⟩)
  · rename_i x i
    split at g
    · rename_i hl
      cases e : atI x.cps.toList i with
      | none =>
        rw [e] at g
        cases g
      | some c =>
        rw [e] at g
        cases g
        exact .inr (.inr ⟨x, i, c, rx.str, ry.int, sz_ok (by omega), e, q _ _ .refl (.str _)⟩)
    · cases g
  · cases g⟩
/-! slices -/
abbrev DO := Ro → Mo → R (Option Int)
structure Do (G : Cl) (E : XK) (t : TO) (f : DO) : Prop where
  run : ∀ {B : Bx} {M : AP} {pm : Nat → Addr} {ρ : Ro} {m : Mo} {σ : L2.St} {H : Hp}, EnvR G B M pm ρ m σ H → ∀ Q : Option Int → Hp → Prop, Post G E B M H (fun _ b a => b = a) (f ρ m) Q → t σ H Q
def dNoPart : DO := fun _ m => .ok none m
def dPart (f : DE) : DO := fun ρ m => (f ρ m).bind fun x m1 => match x with
  | .int i => .ok (some i) m1
  | _ => .bad
section
variable {G : Cl} {E : XK}
theorem do_none : Do G E tNoPart dNoPart := ⟨fun e Q p => p _ _ e.here rfl⟩
theorem do_some {t : TE} {f : DE} (h : De G E t f) : Do G E (tPart t) (dPart f) := ⟨fun {B M pm ρ m σ H} e Q p => by
  refine h.run e _ ((Post.bind p).imp' fun x H1 ⟨d1, m1, g1, r1, p1⟩ => ?_)
  cases r1 with
  | int i => exact ⟨i, rfl, p1 _ _ (e.go g1).here rfl⟩
  | _ => exact p1.elim⟩
def cutD (l : List D) (lo hi : Option Int) : List D := (l.drop (HT.sIx l.length 0 lo)).take (HT.sIx l.length l.length hi - HT.sIx l.length 0 lo)
def slD : D → Option Int → Option Int → Option D
  | .lst l, lo, hi => some (.lst (cutD l lo hi))
  | .tup l, lo, hi => some (.tup (cutD l lo hi))
  | _, _, _ => none
def rSlU (K : PySem.W.Frag) : V → Option Int → Option Int → Hp → VK → Prop := fun x lo hi H Q => rSlL K x lo hi H Q ∨ rSlA K x lo hi H Q
theorem sl_U {X : Cx} : L2.SlR X (rSlU X.K) := L2.SlR.or sl_list sl_tupA
def dSl (fx : DE) (fl fh : DO) : DE := fun ρ m => (fx ρ m).bind fun x m1 => (fl ρ m1).bind fun l m2 => (fh ρ m2).bind fun h m3 => R.of (slD x l h) m3
theorem cut_rep {ad : Ad} {M : AP} {H : Hp} {vs : List V} {ds : List D} {lo hi : Option Int} (r : Reps G ad M H vs ds) : Reps G ad M H (cutV vs lo hi) (cutD ds lo hi) := by
  unfold cutV cutD
  rw [r.length]
  exact (r.drop _).take _
theorem de_sl {tx : TE} {tl th : TO} {fx : DE} {fl fh : DO} (hx : Dq G E tx fx) (hl : Do G E tl fl) (hh : Do G E th fh) : De G E (tSl (rSlU G.K) tx tl th) (dSl fx fl fh) := ⟨fun {B M pm ρ m σ H} e Q p => by
  refine hx.run e _ ((Post.bind p).imp' fun x H1 ⟨d1, m1, g1, r1, p1⟩ => ?_)
  have e1 := e.go g1
  refine hl.run e1 _ ((Post.bind p1).imp' fun l H2 ⟨d2, m2, g2, r2, p2⟩ => ?_)
  subst r2
  have e2 := e1.go g2
  refine hh.run e2 _ ((Post.bind p2).imp' fun u H3 ⟨d3, m3, g3, r3, p3⟩ => ?_)
  subst r3
  have e3 := e2.go g3
  obtain ⟨z, g, q⟩ := Post.of e3 p3
  have rx := (r1.ext g2.x e.aM).ext g3.x e.aM
  unfold slD at g
  split at g
  · cases g
    obtain ⟨a, vs, rfl, ha, ra⟩ := rx.lst
    exact .inl ⟨a, vs, rfl, SqL.of ha, fun p hp => q _ _ (ExN.new hp) ((cut_rep ra).newL e3.hm hp)⟩
  · cases g
    obtain ⟨a, vs, rfl, ha, na, ra⟩ := rx.tup
    refine .inr ⟨a, vs, rfl, SqT.of ha, fun hw => ?_, fun _ p hp => q _ _ (ExN.new hp) ((cut_rep ra).newT e3.hm hp)⟩
    have z : cutV vs l u = vs := by
      unfold cutV
      rw [hw.1, hw.2, List.drop_zero, Nat.sub_zero, List.take_length]
    have k := cut_rep (lo := l) (hi := u) ra
    rw [z] at k
    exact q _ _ .refl (.tup ha na k)
  · cases g⟩
/-- xs[::-1] of a list -/
def revD : D → Option D
  | .lst l => some (.lst l.reverse)
  | _ => none
theorem de_revL {t : TE} {f : DE} (h : Dq G E t f) : De G E (tRevL G.K t) (dUn revD f) := ⟨fun {B M pm ρ m σ H} e Q p => by
  refine h.run e _ ((Post.bind p).imp' fun x H1 ⟨d1, m1, g1, r1, p1⟩ => ?_)
  have e1 := e.go g1
  obtain ⟨z, g, q⟩ := Post.of e1 p1
  unfold revD at g
  split at g
  · cases g
    obtain ⟨a, vs, rfl, ha, ra⟩ := r1.lst
    exact ⟨a, vs, rfl, SqL.of ha, fun p hp => q _ _ (ExN.new hp) (ra.rev.newL e1.hm hp)⟩
  · cases g⟩
end
/-! calls of built-ins -/
def lenD : List D → Option D
  | [.lst l] => some (.int l.length)
  | [.tup l] => some (.int l.length)
  | [.str x] => if x.length ≤ 1000000 then some (.int x.length) else none
  | _ => none
section
variable {G : Cl}
theorem RepTs.one {ad : Ad} {A M : AP} {H : Hp} {xs : List V} {d : D} (r : RepTs G ad A M H xs [d]) : ∃ x, xs = [x] ∧ RepT G ad A M H x d := by
  cases r with
  | cons r rs =>
    cases rs
    exact ⟨_, rfl, r⟩
theorem RepTs.two {ad : Ad} {A M : AP} {H : Hp} {xs : List V} {d e : D} (r : RepTs G ad A M H xs [d, e]) : ∃ x y, xs = [x, y] ∧ RepT G ad A M H x d ∧ RepT G ad A M H y e := by
  cases r with
  | cons r rs =>
    obtain ⟨y, rfl, r2⟩ := rs.one
    exact ⟨_, _, rfl, r, r2⟩
def rLenU (K : PySem.W.Frag) : List V → Hp → VK → Prop := fun xs H Q => ∃ x n, xs = [x] ∧ LenV K x H n ∧ Q (.int n) H
theorem call_lenU {X : Cx} : CallR X (.builtin "len") (rLenU X.K) := call_len
theorem n_len : ON G (rLenU G.K) lenD := ⟨fun {ad A M H xs ds z} hm hA r g Q q => by
  unfold lenD at g
  split at g
  · cases g
    obtain ⟨x, rfl, rx⟩ := r.one
    obtain ⟨a, vs, rfl, ha, ra⟩ := rx.lst
    exact ⟨_, _, rfl, .inl ⟨vs, SqL.of ha, ra.length.symm⟩, q _ _ .refl (.int _)⟩
  · cases g
    obtain ⟨x, rfl, rx⟩ := r.one
    obtain ⟨a, vs, rfl, ha, na, ra⟩ := rx.tup
    exact ⟨_, _, rfl, .inr ⟨vs, SqT.of ha, ra.length.symm⟩, q _ _ .refl (.int _)⟩
  · split at g
    · rename_i hl
      cases g
      obtain ⟨x, rfl, rx⟩ := r.one
      cases rx.str
      exact ⟨_, _, rfl, ⟨sz_ok (by omega), rfl⟩, q _ _ .refl (.int _)⟩
    · cases g
  · cases g⟩
def absD : List D → Option D
  | [.int i] => some (.int (if i < 0 then -i else i))
  | _ => none
theorem n_abs : ON G (fun xs H Q => ∃ i, xs = [.int i] ∧ Q (.int (if i < 0 then -i else i)) H) absD := ⟨fun {ad A M H xs ds z} hm hA r g Q q => by
  unfold absD at g
  split at g
  · cases g
    obtain ⟨x, rfl, rx⟩ := r.one
    cases rx.int
    exact ⟨_, rfl, q _ _ .refl (.int _)⟩
  · cases g⟩
def max2D : List D → Option D
  | [.int i, .int j] => some (.int (if j > i then j else i))
  | _ => none
def min2D : List D → Option D
  | [.int i, .int j] => some (.int (if j < i then j else i))
  | _ => none
theorem n_max2 : ON G (fun xs H Q => ∃ i j, xs = [.int i, .int j] ∧ Q (.int (if j > i then j else i)) H) max2D := ⟨fun {ad A M H xs ds z} hm hA r g Q q => by
  unfold max2D at g
  split at g
  · cases g
    obtain ⟨x, y, rfl, rx, ry⟩ := r.two
    cases rx.int
    cases ry.int
    exact ⟨_, _, rfl, q _ _ .refl (.int _)⟩
  · cases g⟩
theorem n_min2 : ON G (fun xs H Q => ∃ i j, xs = [.int i, .int j] ∧ Q (.int (if j < i then j else i)) H) min2D := ⟨fun {ad A M H xs ds z} hm hA r g Q q => by
  unfold min2D at g
  split at g
  · cases g
    obtain ⟨x, y, rfl, rx, ry⟩ := r.two
    cases rx.int
    cases ry.int
    exact ⟨_, _, rfl, q _ _ .refl (.int _)⟩
  · cases g⟩
def intD : List D → Option D
  | [.int i] => some (.int i)
  | [.bl b] => some (.int (if b then 1 else 0))
  | _ => none
theorem n_int : ON G (fun xs H Q => (∃ i, xs = [.int i] ∧ Q (.int i) H) ∨ ∃ k, xs = [.bl k] ∧ Q (.int (if k then 1 else 0)) H) intD := ⟨fun {ad A M H xs ds z} hm hA r g Q q => by
  unfold intD at g
  split at g
  · cases g
    obtain ⟨x, rfl, rx⟩ := r.one
    cases rx.int
    exact .inl ⟨_, rfl, q _ _ .refl (.int _)⟩
  · cases g
    obtain ⟨x, rfl, rx⟩ := r.one
    cases rx.bl
    exact .inr ⟨_, rfl, q _ _ .refl (.int _)⟩
  · cases g⟩
def strD : List D → Option D
  | [.int i] => if i.natAbs < 10 ^ 30 then some (.str (toString i)) else none
  | _ => none
theorem n_str : ON G (fun xs H Q => ∃ i, xs = [.int i] ∧ i.natAbs.log2 < 1920 ∧ Q (.str (toString i)) H) strD := ⟨fun {ad A M H xs ds z} hm hA r g Q q => by
  unfold strD at g
  split at g
  · split at g
    · rename_i i hl
      cases g
      obtain ⟨x, rfl, rx⟩ := r.one
      cases rx.int
      refine ⟨_, rfl, PySem.Flt.log2_lt_of (by decide) (Nat.lt_trans hl (by decide +kernel)), q _ _ .refl (.str _)⟩
    · cases g
  · cases g⟩
def toTup : List D → Option D
  | [.lst l] => some (.tup l)
  | [.tup l] => some (.tup l)
  | _ => none
def toLst : List D → Option D
  | [.lst l] => some (.lst l)
  | [.tup l] => some (.lst l)
  | _ => none
theorem n_tuple : ON G (fun xs H Q => ∃ p ys, xs = [.ref p] ∧ ((SqL G.K H p ys ∧ ∀ l, H l = none → Q (.ref l) (upd H l (.tup ys))) ∨ (SqT G.K H p ys ∧ Q (.ref p) H))) toTup := ⟨fun {ad A M H xs ds z} hm hA r g Q q => by
  unfold toTup at g
  split at g
  · cases g
    obtain ⟨x, rfl, rx⟩ := r.one
    obtain ⟨a, vs, rfl, ha, ra⟩ := rx.lst
    exact ⟨a, vs, rfl, .inl ⟨SqL.of ha, fun p hp => q _ _ (ExN.new hp) (ra.newT hm hp)⟩⟩
  · cases g
    obtain ⟨x, rfl, rx⟩ := r.one
    obtain ⟨a, vs, rfl, ha, na, ra⟩ := rx.tup
    exact ⟨a, vs, rfl, .inr ⟨SqT.of ha, q _ _ .refl (.tup ha na ra)⟩⟩
  · cases g⟩
theorem n_list : ON G (fun xs H Q => ∃ p ys, xs = [.ref p] ∧ (SqL G.K H p ys ∨ SqT G.K H p ys) ∧ ∀ l, H l = none → Q (.ref l) (upd H l (.lst ys))) toLst := ⟨fun {ad A M H xs ds z} hm hA r g Q q => by
  unfold toLst at g
  split at g
  · cases g
    obtain ⟨x, rfl, rx⟩ := r.one
    obtain ⟨a, vs, rfl, ha, ra⟩ := rx.lst
    exact ⟨a, vs, rfl, .inl (SqL.of ha), fun p hp => q _ _ (ExN.new hp) (ra.newL hm hp)⟩
  · cases g
    obtain ⟨x, rfl, rx⟩ := r.one
    obtain ⟨a, vs, rfl, ha, na, ra⟩ := rx.tup
    exact ⟨a, vs, rfl, .inr (SqT.of ha), fun p hp => q _ _ (ExN.new hp) (ra.newL hm hp)⟩
  · cases g⟩
/-! lists of ints, of bools -/
def intsOf : List D → Option (List Int)
  | [] => some []
  | .int i :: r => (intsOf r).map (i :: ·)
  | _ :: _ => none
def blsOf : List D → Option (List Bool)
  | [] => some []
  | .bl i :: r => (blsOf r).map (i :: ·)
  | _ :: _ => none
theorem intsOf_map : ∀ ns : List Int, intsOf (ns.map D.int) = some ns
  | [] => rfl
  | n :: r => by simp [intsOf, intsOf_map r]
theorem blsOf_map : ∀ ns : List Bool, blsOf (ns.map D.bl) = some ns
  | [] => rfl
  | n :: r => by simp [blsOf, blsOf_map r]
theorem intsOf_rep {ad : Ad} {M : AP} {H : Hp} : ∀ {vs : List V} {ds : List D} {ns : List Int}, Reps G ad M H vs ds → intsOf ds = some ns → vs = ns.map V.int
  | _, _, _, .nil, e => by
    cases e
    rfl
  | _, _, _, .cons (d := d) r rs, e => by
    cases r <;> simp only [intsOf, Option.map_eq_some_iff, reduceCtorEq] at e
    obtain ⟨l, h1, rfl⟩ := e
    rw [intsOf_rep rs h1]
    rfl
theorem blsOf_rep {ad : Ad} {M : AP} {H : Hp} : ∀ {vs : List V} {ds : List D} {ns : List Bool}, Reps G ad M H vs ds → blsOf ds = some ns → vs = ns.map V.bl
  | _, _, _, .nil, e => by
    cases e
    rfl
  | _, _, _, .cons (d := d) r rs, e => by
    cases r <;> simp only [blsOf, Option.map_eq_some_iff, reduceCtorEq] at e
    obtain ⟨l, h1, rfl⟩ := e
    rw [blsOf_rep rs h1]
    rfl
def sumD : List D → Option D
  | [.lst l] => (intsOf l).map fun ns => .int ns.sum
  | _ => none
theorem n_sum : ON G (rSum G.K) sumD := ⟨fun {ad A M H xs ds z} hm hA r g Q q => by
  unfold sumD at g
  split at g
  · obtain ⟨ns, h1, h2⟩ := Option.map_eq_some_iff.mp g
    subst h2
    obtain ⟨x, rfl, rx⟩ := r.one
    obtain ⟨a, vs, rfl, ha, ra⟩ := rx.lst
    have e := intsOf_rep ra h1
    subst e
    exact ⟨a, ns, rfl, SqL.of ha, q _ _ .refl (.int _)⟩
  · cases g⟩
def anyD : List D → Option D
  | [.lst l] => (blsOf l).map fun ns => .bl (ns.any id)
  | _ => none
def allD : List D → Option D
  | [.lst l] => (blsOf l).map fun ns => .bl (ns.all id)
  | _ => none
theorem n_any : ON G (rAny G.K) anyD := ⟨fun {ad A M H xs ds z} hm hA r g Q q => by
  unfold anyD at g
  split at g
  · obtain ⟨ns, h1, h2⟩ := Option.map_eq_some_iff.mp g
    subst h2
    obtain ⟨x, rfl, rx⟩ := r.one
    obtain ⟨a, vs, rfl, ha, ra⟩ := rx.lst
    have e := blsOf_rep ra h1
    subst e
    exact ⟨a, ns, rfl, SqL.of ha, q _ _ .refl (.bl _)⟩
  · cases g⟩
theorem n_all : ON G (rAll G.K) allD := ⟨fun {ad A M H xs ds z} hm hA r g Q q => by
  unfold allD at g
  split at g
  · obtain ⟨ns, h1, h2⟩ := Option.map_eq_some_iff.mp g
    subst h2
    obtain ⟨x, rfl, rx⟩ := r.one
    obtain ⟨a, vs, rfl, ha, ra⟩ := rx.lst
    have e := blsOf_rep ra h1
    subst e
    exact ⟨a, ns, rfl, SqL.of ha, q _ _ .refl (.bl _)⟩
  · cases g⟩
end
end Dn
namespace Dn
open PySem PySem.Spec PyProof.Rows L2

/-! what comes of a statement -/
inductive SR where
  | bad
  | nx (ρ : Ro) (m : Mo)
  | rt (d : D) (m : Mo)
  | bk (ρ : Ro) (m : Mo)
  | ct (ρ : Ro) (m : Mo)
  | exc (c : Nat) (l : List D) (m : Mo)
abbrev DS := Ro → Mo → SR
def sBind {α : Type} (r : R α) (k : α → Mo → SR) : SR := match r with
  | .bad => .bad
  | .ok a m => k a m
  | .exc c l m => .exc c l m
def SR.next (r : SR) (k : Ro → Mo → SR) : SR := match r with
  | .nx ρ m => k ρ m
  | r => r
/-- from one heap with what may be changed there to a later one -/
structure Stp (M : AP) (H : Hp) (M' : AP) (H' : Hp) : Prop where
  x : Ext M H H'
  n : ∀ b, M' b → M b ∨ ¬ Liv H b
theorem Stp.refl {M : AP} {H : Hp} : Stp M H M H := ⟨.refl, fun _ h => .inl h⟩
theorem Stp.trans {M M1 M2 : AP} {H H1 H2 : Hp} (a : Stp M H M1 H1) (b : Stp M1 H1 M2 H2) : Stp M H M2 H2 := by
  refine ⟨fun c o n t q => ?_, fun c h => ?_⟩
  · refine b.x c o (fun z => ?_) t (a.x c o n t q)
    rcases a.n c z with z | z
    · exact n z
    · exact z ⟨o, q, t⟩
  · rcases b.n c h with z | z
    · exact a.n c z
    · by_cases hm : M c
      · exact .inl hm
      · exact .inr fun l => z (l.ext a.x hm)
abbrev MB (B : Bx) : AP := fun b => B.A b ∨ B.X b
def PostS (G : Cl) (E : XK) (B : Bx) (M : AP) (H : Hp) (r : SR) (Z : Ends) : Prop := match r with
  | .bad => False
  | .nx ρ m => ∀ M' pm σ H', EnvR G B M' pm ρ m σ H' → Stp M H M' H' → Z.nx σ H'
  | .bk ρ m => ∀ M' pm σ H', EnvR G B M' pm ρ m σ H' → Stp M H M' H' → Z.bk σ H'
  | .ct ρ m => ∀ M' pm σ H', EnvR G B M' pm ρ m σ H' → Stp M H M' H' → Z.ct σ H'
  | .rt d m => ∀ v H', Go G B (MB B) m B.H0 H' → Rep G B.ad (MB B) H' v d → Z.rt v H'
  | .exc c l m => ∀ cls dd H', Go G B (MB B) m B.H0 H' → XRep G B.ad (MB B) H' c l cls dd → E cls dd H'
theorem PostS.later {G : Cl} {E : XK} {B : Bx} {M M1 : AP} {H H1 : Hp} {r : SR} {Z : Ends} (h : PostS G E B M H r Z) (s : Stp M H M1 H1) : PostS G E B M1 H1 r Z := by
  cases r with
  | bad => exact h
  | nx ρ m => exact fun M' pm σ H' e t => h M' pm σ H' e (s.trans t)
  | bk ρ m => exact fun M' pm σ H' e t => h M' pm σ H' e (s.trans t)
  | ct ρ m => exact fun M' pm σ H' e t => h M' pm σ H' e (s.trans t)
  | rt d m => exact h
  | exc c l m => exact h
structure Ds (G : Cl) (E : XK) (t : TS) (f : DS) : Prop where
  run : ∀ {B : Bx} {M : AP} {pm : Nat → Addr} {ρ : Ro} {m : Mo} {σ : L2.St} {H : Hp}, EnvR G B M pm ρ m σ H → ∀ Z : Ends, PostS G E B M H (f ρ m) Z → t Z σ H
theorem EnvR.mb {G : Cl} {B : Bx} {M : AP} {pm : Nat → Addr} {ρ : Ro} {m : Mo} {σ : L2.St} {H : Hp} (e : EnvR G B M pm ρ m σ H) : ∀ b, MB B b → M b := fun b h => e.em b (h.elim .inl fun z => .inr (.inl z))
theorem EnvR.stp {G : Cl} {B : Bx} {M : AP} {pm : Nat → Addr} {ρ : Ro} {m m' : Mo} {σ : L2.St} {H H' : Hp} (e : EnvR G B M pm ρ m σ H) (g : Go G B M m' H H') : Stp M H M H' := ⟨g.x.imp e.aM, fun _ h => .inl h⟩
theorem XRep.less {G : Cl} {ad : Ad} {M M' : AP} {H : Hp} {c : Nat} {l : List D} {cls : Value} {dd : Option Addr} (h : XRep G ad M H c l cls dd) (hM : ∀ b, M' b → M b) : XRep G ad M' H c l cls dd := by
  obtain ⟨h1, h2⟩ := h
  refine ⟨h1, ?_⟩
  cases q : G.xf c with
  | none =>
    rw [q] at h2
    cases l with
    | nil => exact h2
    | cons a r => exact h2.elim
  | some f =>
    rw [q] at h2
    cases l with
    | nil => exact h2.elim
    | cons d r =>
      cases r with
      | cons _ _ => exact h2.elim
      | nil =>
        obtain ⟨a, v, e1, e2, e3, e4⟩ := h2
        exact ⟨a, v, e1, e2, fun z => e3 (hM _ z), e4.less hM⟩
theorem Go.ofEnv {G : Cl} {B : Bx} {M : AP} {pm : Nat → Addr} {ρ : Ro} {m m' : Mo} {σ : L2.St} {H H' : Hp} (e : EnvR G B M pm ρ m σ H) (g : Go G B M m' H H') : Go G B (MB B) m' B.H0 H' := ⟨e.ext.trans g.x, g.ea, g.eh, g.mr.less e.mb, g.tb⟩
/-- an expression within a statement -/
theorem PostS.bind {G : Cl} {E : XK} {B : Bx} {M : AP} {pm : Nat → Addr} {ρ : Ro} {m : Mo} {σ : L2.St} {H : Hp} {α β : Type} {rel : Hp → β → α → Prop} {r : R α} {k : α → Mo → SR} {Z : Ends} (e : EnvR G B M pm ρ m σ H) (h : PostS G E B M H (sBind r k) Z) :
    Post G E B M H rel r (fun b H1 => ∃ a m1, Go G B M m1 H H1 ∧ rel H1 b a ∧ PostS G E B M H1 (k a m1) Z) := by
  cases r with
  | bad => exact h
  | ok a m1 => exact fun b H' g hr => ⟨a, m1, g, hr, PostS.later (show PostS G E B M H (k a m1) Z from h) (e.stp g)⟩
  | exc c l m' => exact fun cls dd H' g hx => h cls dd H' (Go.ofEnv e g) (hx.less e.mb)

/-! a name is stored -/
theorem isM_set {ρ : Ro} {i j : Nat} {s : Sv} : isM (ρ.set i (some s)) j → (j = i ∧ s.mu = true ∧ i < ρ.length) ∨ (j ≠ i ∧ isM ρ j) := fun ⟨u, h, hm⟩ => by
  by_cases hj : j = i
  · subst hj
    by_cases hl : j < ρ.length
    · rw [List.getElem?_set_self hl] at h
      cases h
      exact .inl ⟨rfl, hm, hl⟩
    · rw [List.getElem?_eq_none (by simpa using hl)] at h
      cases h
  · rw [List.getElem?_set_ne (Ne.symm hj)] at h
    exact .inr ⟨hj, u, h, hm⟩
section
variable {G : Cl} {B : Bx} {M : AP} {pm : Nat → Addr} {ρ : Ro} {m m' : Mo} {σ : L2.St} {H H' : Hp}
theorem EnvR.setv {i : Nat} {v : V} {d : D} (e : EnvR G B M pm ρ m σ H) (r : Rep G B.ad M H v d) : EnvR G B M pm (ρ.set i (some (.v d))) m (σ.set i (some v)) H := by
  have old : ∀ {j : Nat}, isM (ρ.set i (some (.v d))) j → isM ρ j ∧ j ≠ i := fun {j} hj => by
    rcases isM_set hj with ⟨_, z, _⟩ | ⟨z1, z⟩
    · cases z
    · exact ⟨z, z1⟩
  refine ⟨fun b h => e.em b ?_, e.hl, e.ea, e.eh, by rw [List.length_set, List.length_set, e.len], fun j d' hj => ?_, fun j ds hj => ?_, fun j l hj => ?_, fun j l hj => ?_, fun a b ha hb => e.inj a b (old ha).1 (old hb).1, fun a ha => e.fr a (old ha).1, e.xs, e.mr, e.mx, fun a ha => e.mut a (old ha).1, e.ext, e.tb, e.tt⟩
  · rcases h with h | h | ⟨j, hj, hb⟩
    · exact .inl h
    · exact .inr (.inl h)
    · exact .inr (.inr ⟨j, (old hj).1, hb⟩)
  · by_cases hji : j = i
    · subst hji
      by_cases hl : j < ρ.length
      · rw [List.getElem?_set_self hl] at hj
        cases hj
        exact ⟨v, List.getElem?_set_self (by rw [e.len]; exact hl), r⟩
      · rw [List.getElem?_eq_none (by simpa using hl)] at hj
        cases hj
    · rw [List.getElem?_set_ne (Ne.symm hji)] at hj
      obtain ⟨w, h1, h2⟩ := e.sv j d' hj
      exact ⟨w, by rw [List.getElem?_set_ne (Ne.symm hji)]; exact h1, h2⟩
  · have hji : j ≠ i := (old ⟨_, hj, rfl⟩).2
    rw [List.getElem?_set_ne (Ne.symm hji)] at hj
    obtain ⟨w, h1, h2, h3⟩ := e.sl j ds hj
    exact ⟨w, by rw [List.getElem?_set_ne (Ne.symm hji)]; exact h1, h2, h3⟩
  · have hji : j ≠ i := (old ⟨_, hj, rfl⟩).2
    rw [List.getElem?_set_ne (Ne.symm hji)] at hj
    obtain ⟨w, h1, h2, h3, h4⟩ := e.sk j l hj
    exact ⟨w, by rw [List.getElem?_set_ne (Ne.symm hji)]; exact h1, h2, h3, h4⟩
  · have hji : j ≠ i := (old ⟨_, hj, rfl⟩).2
    rw [List.getElem?_set_ne (Ne.symm hji)] at hj
    obtain ⟨w, h1, h2, h3, h4, h5⟩ := e.sn j l hj
    exact ⟨w, by rw [List.getElem?_set_ne (Ne.symm hji)]; exact h1, h2, h3, h4, h5⟩
/-- what a new list or dict at p is -/
def NewAt (G : Cl) (B : Bx) (M : AP) (H : Hp) (p : Addr) : Sv → Prop
  | .v _ => False
  | .ml ds => ∃ vs, H p = some (.lst vs) ∧ Reps G B.ad (fun b => M b ∨ b = p) H vs ds
  | .mk l => ∃ kvs : List (Key × V), H p = some (.dK kvs) ∧ kvs.map (·.1) = l.map (·.1) ∧ Reps G B.ad (fun b => M b ∨ b = p) H (kvs.map (·.2)) (l.map (·.2))
  | .mn l => ∃ kvs : List (NestedKey × Addr × V) × Obj, H p = some (dN G.w p kvs) ∧ kvs.1.map (·.1) = l.map (·.1) ∧ Reps G B.ad (fun b => M b ∨ b = p) H (kvs.1.map fun p => V.ref p.2.1) (kDs (l.map (·.1))) ∧ Reps G B.ad (fun b => M b ∨ b = p) H (kvs.1.map (·.2.2)) (l.map (·.2))
/-- all that is known avoids p -/
def Apart (G : Cl) (B : Bx) (M : AP) (H : Hp) (p : Addr) : Prop := ∀ {v : V} {d : D}, Rep G B.ad M H v d → Rep G B.ad (fun b => M b ∨ b = p) H v d
theorem Apart.s {p : Addr} (a : Apart G B M H p) : ∀ {vs : List V} {ds : List D}, Reps G B.ad M H vs ds → Reps G B.ad (fun b => M b ∨ b = p) H vs ds
  | _, _, .nil => .nil
  | _, _, .cons r rs => .cons (a r) (Apart.s a rs)
theorem EnvR.offX {p : Addr} (e : EnvR G B M pm ρ m σ H) (hp : ¬ Liv H p) : ¬ Liv B.H0 p ∧ ¬ B.X p ∧ ¬ B.A p := by
  have nA : ¬ B.A p := fun z => hp (e.mr.has p (by rw [e.eh]; exact z))
  exact ⟨fun l => hp (l.ext e.ext nA), fun z => hp (e.xs p z), nA⟩
/-- a new list or dict is stored -/
theorem EnvR.setm {i : Nat} {p : Addr} {s : Sv} (e : EnvR G B M pm ρ m σ H) (hp : ¬ Liv H p) (g : Go G B M m' H H') (n : NewAt G B M H' p s) (mr' : MRep G (fun b => M b ∨ b = p) H' m') (hi : i < ρ.length) :
    EnvR G B (fun b => M b ∨ b = p) (fun j => if j = i then p else pm j) (ρ.set i (some s)) m' (σ.set i (some (.ref p))) H' ∧ Stp M H (fun b => M b ∨ b = p) H' := by
  obtain ⟨o1, o2, o3⟩ := e.offX hp
  have x := g.x
  have up : ∀ {v : V} {d : D}, Rep G B.ad M H v d → Rep G B.ad (fun b => M b ∨ b = p) H' v d := fun {v d} r => (r.off hp).ext x fun b hb => .inl (e.aM b hb)
  have ups : ∀ {v : List V} {d : List D}, Reps G B.ad M H v d → Reps G B.ad (fun b => M b ∨ b = p) H' v d := fun {v d} r => (r.off hp).ext x fun b hb => .inl (e.aM b hb)
  have old : ∀ {j : Nat}, isM (ρ.set i (some s)) j → j = i ∨ (j ≠ i ∧ isM ρ j) := fun {j} hj => by
    rcases isM_set hj with ⟨z, _, _⟩ | ⟨z1, z⟩
    · exact .inl z
    · exact .inr ⟨z1, z⟩
  have npm : ∀ j, isM ρ j → pm j ≠ p := fun j hj z => by
    have q := e.hl (pm j) (e.em _ (.inr (.inr ⟨j, hj, rfl⟩)))
    rw [z] at q
    exact hp q
  have lp : Liv H' p := by
    cases s with
    | v d => exact n.elim
    | ml ds =>
      obtain ⟨vs, h1, _⟩ := n
      exact ⟨_, h1, fun ps z => by cases z⟩
    | mk l =>
      obtain ⟨vs, h1, _⟩ := n
      exact ⟨_, h1, fun ps z => by cases z⟩
    | mn l =>
      obtain ⟨vs, h1, _⟩ := n
      exact ⟨_, h1, dN_ntbl⟩
  refine ⟨⟨fun b h => ?_, fun b h => ?_, g.ea, g.eh, by rw [List.length_set, List.length_set, e.len], fun j d' hj => ?_, fun j ds hj => ?_, fun j l hj => ?_, fun j l hj => ?_, fun a b ha hb hab => ?_, fun a ha => ?_, fun b hb => (e.xs b hb).ext x fun z => e.mx b z hb, mr', e.mx, fun a ha => ?_, e.ext.trans x, g.tb, e.tt⟩,
    x.imp e.aM, fun b h => h.elim .inl fun z => .inr (by rw [z]; exact hp)⟩
  · rcases h with h | h | ⟨j, hj, hb⟩
    · exact .inl (e.em b (.inl h))
    · exact .inl (e.em b (.inr (.inl h)))
    · rcases old hj with z | ⟨z, z2⟩
      · exact .inr (by rw [← hb]; exact if_pos z)
      · exact .inl (e.em b (.inr (.inr ⟨j, z2, by rw [← hb]; exact (if_neg z).symm⟩)))
  · rcases h with h | h
    · exact (e.go g).hl b h
    · rw [h]
      exact lp
  · by_cases hji : j = i
    · subst hji
      rw [List.getElem?_set_self hi] at hj
      cases hj
      exact n.elim
    · rw [List.getElem?_set_ne (Ne.symm hji)] at hj
      obtain ⟨w, h1, h2⟩ := e.sv j d' hj
      exact ⟨w, by rw [List.getElem?_set_ne (Ne.symm hji)]; exact h1, up h2⟩
  · by_cases hji : j = i
    · subst hji
      rw [List.getElem?_set_self hi] at hj
      cases hj
      obtain ⟨vs, h1, h2⟩ := n
      exact ⟨vs, by rw [if_pos rfl, List.getElem?_set_self (by rw [e.len]; exact hi)], by rw [if_pos rfl]; exact h1, h2⟩
    · rw [List.getElem?_set_ne (Ne.symm hji)] at hj
      obtain ⟨w, h1, h2, h3⟩ := e.sl j ds hj
      exact ⟨w, by rw [List.getElem?_set_ne (Ne.symm hji), if_neg hji]; exact h1, by rw [if_neg hji]; exact x _ _ (e.mut j ⟨_, hj, rfl⟩) (fun ps z => by cases z) h2, ups h3⟩
  · by_cases hji : j = i
    · subst hji
      rw [List.getElem?_set_self hi] at hj
      cases hj
      obtain ⟨vs, h1, h2, h3⟩ := n
      exact ⟨vs, by rw [if_pos rfl, List.getElem?_set_self (by rw [e.len]; exact hi)], by rw [if_pos rfl]; exact h1, h2, h3⟩
    · rw [List.getElem?_set_ne (Ne.symm hji)] at hj
      obtain ⟨w, h1, h2, h3, h4⟩ := e.sk j l hj
      exact ⟨w, by rw [List.getElem?_set_ne (Ne.symm hji), if_neg hji]; exact h1, by rw [if_neg hji]; exact x _ _ (e.mut j ⟨_, hj, rfl⟩) (fun ps z => by cases z) h2, h3, ups h4⟩
  · by_cases hji : j = i
    · subst hji
      rw [List.getElem?_set_self hi] at hj
      cases hj
      obtain ⟨vs, h1, h2, h3, h4⟩ := n
      exact ⟨vs, by rw [if_pos rfl, List.getElem?_set_self (by rw [e.len]; exact hi)], by rw [if_pos rfl]; exact h1, h2, h3, h4⟩
    · rw [List.getElem?_set_ne (Ne.symm hji)] at hj
      obtain ⟨w, h1, h2, h3, h4, h5⟩ := e.sn j l hj
      exact ⟨w, by rw [List.getElem?_set_ne (Ne.symm hji), if_neg hji]; exact h1, by rw [if_neg hji]; exact x _ _ (e.mut j ⟨_, hj, rfl⟩) dN_ntbl h2, h3, ups h4, ups h5⟩
  · rcases old ha with rfl | ⟨z1, z2⟩ <;> rcases old hb with h | ⟨y1, y2⟩
    · exact h.symm
    · simp only [if_true, if_neg y1] at hab
      exact absurd hab.symm (npm b y2)
    · subst h
      simp only [if_true, if_neg z1] at hab
      exact absurd hab (npm a z2)
    · simp only [if_neg z1, if_neg y1] at hab
      exact e.inj a b z2 y2 hab
  · rcases old ha with rfl | ⟨z1, z2⟩
    · simp only [if_true]
      exact ⟨o1, o2⟩
    · simp only [if_neg z1]
      exact e.fr a z2
  · rcases old ha with rfl | ⟨z1, z2⟩
    · simp only [if_true]
      exact o3
    · simp only [if_neg z1]
      exact e.mut a z2
/-- a list or dict of the frame is changed -/
theorem EnvR.updm {i : Nat} {s s' : Sv} {o : HO} (e : EnvR G B M pm ρ m σ H) (hs : ρ[i]? = some (some s)) (hmu : s.mu = true)
    (n : match s' with
      | .v _ => False
      | .ml ds => ∃ vs, o = .lst vs ∧ Reps G B.ad M H vs ds
      | .mk l => ∃ kvs : List (Key × V), o = .dK kvs ∧ kvs.map (·.1) = l.map (·.1) ∧ Reps G B.ad M H (kvs.map (·.2)) (l.map (·.2))
      | .mn l => ∃ kvs : List (NestedKey × Addr × V) × Obj, o = dN G.w (pm i) kvs ∧ kvs.1.map (·.1) = l.map (·.1) ∧ Reps G B.ad M H (kvs.1.map fun p => V.ref p.2.1) (kDs (l.map (·.1))) ∧ Reps G B.ad M H (kvs.1.map (·.2.2)) (l.map (·.2))) :
    EnvR G B M pm (ρ.set i (some s')) m σ (upd H (pm i) o) ∧ Stp M H M (upd H (pm i) o) := by
  have him : isM ρ i := ⟨s, hs, hmu⟩
  have hMp : M (pm i) := e.em _ (.inr (.inr ⟨i, him, rfl⟩))
  have hi : i < ρ.length := (List.getElem?_eq_some_iff.mp hs).1
  have fre : Fre H (pm i) := by
    cases s with
    | v d => cases hmu
    | ml ds => obtain ⟨vs, _, h2, _⟩ := e.sl i ds hs; exact .lst h2
    | mk l => obtain ⟨vs, _, h2, _⟩ := e.sk i l hs; exact .dK h2
    | mn l => obtain ⟨vs, _, h2, _⟩ := e.sn i l hs; exact .dN h2
  have x : Ext M H (upd H (pm i) o) := Ext.refl.chg (.inr hMp)
  have hmu' : s'.mu = true := by
    cases s' with
    | v d => exact n.elim
    | ml _ => rfl
    | mk _ => rfl
    | mn _ => rfl
  have hsl : σ[i]? = some (some (V.ref (pm i))) := by
    cases s with
    | v d => cases hmu
    | ml ds => obtain ⟨vs, h1, _⟩ := e.sl i ds hs; exact h1
    | mk l => obtain ⟨vs, h1, _⟩ := e.sk i l hs; exact h1
    | mn l => obtain ⟨vs, h1, _⟩ := e.sn i l hs; exact h1
  have hm2 : ∀ j, isM (ρ.set i (some s')) j ↔ isM ρ j := fun j => by
    by_cases hji : j = i
    · subst hji
      exact ⟨fun _ => him, fun _ => ⟨s', List.getElem?_set_self hi, hmu'⟩⟩
    · unfold isM
      rw [List.getElem?_set_ne (Ne.symm hji)]
  have ne : ∀ b, B.A b → b ≠ pm i := fun b hb z => e.mut i him (z ▸ hb)
  have mr : MRep G M (upd H (pm i) o) m := e.mr.mono (A := fun b => b = pm i) (Ext.refl.chg (.inr rfl)) (fun b h => h ▸ hMp) (fun _ h => h) fun b hb => ne b (by rw [← e.eh]; exact hb)
  have lo : Liv (upd H (pm i) o) (pm i) := by
    cases s' with
    | v d => exact n.elim
    | ml ds =>
      obtain ⟨vs, rfl, _⟩ := n
      exact ⟨_, upd_same, fun ps z => by cases z⟩
    | mk l =>
      obtain ⟨vs, rfl, _⟩ := n
      exact ⟨_, upd_same, fun ps z => by cases z⟩
    | mn l =>
      obtain ⟨vs, rfl, _⟩ := n
      exact ⟨_, upd_same, dN_ntbl⟩
  refine ⟨⟨fun b h => e.em b ?_, fun b h => ?_, e.ea, e.eh, by rw [List.length_set, e.len], fun j d' hj => ?_, fun j ds hj => ?_, fun j l hj => ?_, fun j l hj => ?_, fun a b ha hb => e.inj a b ((hm2 a).mp ha) ((hm2 b).mp hb), fun a ha => e.fr a ((hm2 a).mp ha), fun b hb => ?_, mr, e.mx, fun a ha => e.mut a ((hm2 a).mp ha), ?_, tabs_upd e.tb fre, e.tt⟩, x, fun _ h => .inl h⟩
  · simpa only [hm2] using h
  · by_cases q : b = pm i
    · rw [q]
      exact lo
    · obtain ⟨u, h1, h2⟩ := e.hl b h
      exact ⟨u, by rw [upd_ne q]; exact h1, h2⟩
  · by_cases hji : j = i
    · subst hji
      rw [List.getElem?_set_self hi] at hj
      cases hj
      exact n.elim
    · rw [List.getElem?_set_ne (Ne.symm hji)] at hj
      obtain ⟨w, h1, h2⟩ := e.sv j d' hj
      exact ⟨w, h1, h2.ext x fun _ h => h⟩
  · by_cases hji : j = i
    · subst hji
      rw [List.getElem?_set_self hi] at hj
      cases hj
      obtain ⟨vs, rfl, h2⟩ := n
      exact ⟨vs, hsl, upd_same, h2.ext x fun _ h => h⟩
    · rw [List.getElem?_set_ne (Ne.symm hji)] at hj
      obtain ⟨w, h1, h2, h3⟩ := e.sl j ds hj
      exact ⟨w, h1, by rw [upd_ne (fun z => hji (e.inj j i ⟨_, hj, rfl⟩ him z))]; exact h2, h3.ext x fun _ h => h⟩
  · by_cases hji : j = i
    · subst hji
      rw [List.getElem?_set_self hi] at hj
      cases hj
      obtain ⟨vs, rfl, h2, h3⟩ := n
      exact ⟨vs, hsl, upd_same, h2, h3.ext x fun _ h => h⟩
    · rw [List.getElem?_set_ne (Ne.symm hji)] at hj
      obtain ⟨w, h1, h2, h3, h4⟩ := e.sk j l hj
      exact ⟨w, h1, by rw [upd_ne (fun z => hji (e.inj j i ⟨_, hj, rfl⟩ him z))]; exact h2, h3, h4.ext x fun _ h => h⟩
  · by_cases hji : j = i
    · subst hji
      rw [List.getElem?_set_self hi] at hj
      cases hj
      obtain ⟨vs, rfl, h2, h3, h4⟩ := n
      exact ⟨vs, hsl, upd_same, h2, h3.ext x fun _ h => h, h4.ext x fun _ h => h⟩
    · rw [List.getElem?_set_ne (Ne.symm hji)] at hj
      obtain ⟨w, h1, h2, h3, h4, h5⟩ := e.sn j l hj
      exact ⟨w, h1, by rw [upd_ne (fun z => hji (e.inj j i ⟨_, hj, rfl⟩ him z))]; exact h2, h3, h4.ext x fun _ h => h, h5.ext x fun _ h => h⟩
  · obtain ⟨u, q, t⟩ := e.xs b hb
    have nb : b ≠ pm i := fun z => (e.fr i him).2 (z ▸ hb)
    exact ⟨u, by rw [upd_ne nb]; exact q, t⟩
  · intro b u nb t q
    have nb' : b ≠ pm i := fun z => (e.fr i him).1 (z ▸ ⟨u, q, t⟩)
    rw [upd_ne nb']
    exact e.ext b u nb t q
/-- a name is emptied -/
theorem isM_clr {ρ : Ro} {i j : Nat} : isM (ρ.set i none) j → isM ρ j ∧ j ≠ i := fun ⟨u, h, hm⟩ => by
  by_cases hj : j = i
  · subst hj
    by_cases hl : j < ρ.length
    · rw [List.getElem?_set_self hl] at h
      cases h
    · rw [List.getElem?_eq_none (by simpa using hl)] at h
      cases h
  · rw [List.getElem?_set_ne (Ne.symm hj)] at h
    exact ⟨⟨u, h, hm⟩, hj⟩
theorem get_clr {ρ : Ro} {i j : Nat} {u : Sv} (h : (ρ.set i none)[j]? = some (some u)) : ρ[j]? = some (some u) := by
  by_cases hj : j = i
  · subst hj
    by_cases hl : j < ρ.length
    · rw [List.getElem?_set_self hl] at h
      cases h
    · rw [List.getElem?_eq_none (by simpa using hl)] at h
      cases h
  · rw [List.getElem?_set_ne (Ne.symm hj)] at h
    exact h
theorem EnvR.clr {i : Nat} (e : EnvR G B M pm ρ m σ H) : EnvR G B M pm (ρ.set i none) m σ H := by
  refine ⟨fun b h => e.em b ?_, e.hl, e.ea, e.eh, by rw [List.length_set, e.len], fun j d' hj => e.sv j d' (get_clr hj), fun j ds hj => e.sl j ds (get_clr hj), fun j l hj => e.sk j l (get_clr hj), fun j l hj => e.sn j l (get_clr hj), fun a b ha hb => e.inj a b (isM_clr ha).1 (isM_clr hb).1, fun a ha => e.fr a (isM_clr ha).1, e.xs, e.mr, e.mx, fun a ha => e.mut a (isM_clr ha).1, e.ext, e.tb, e.tt⟩
  rcases h with h | h | ⟨j, hj, hb⟩
  · exact .inl h
  · exact .inr (.inl h)
  · exact .inr (.inr ⟨j, (isM_clr hj).1, hb⟩)
/-- fewer addresses that are to be avoided -/
theorem EnvR.cut {N : AP} (e : EnvR G B M pm ρ m σ H) (hn : ∀ b, N b → M b) (h : ∀ b, (B.A b ∨ B.X b ∨ ∃ i, isM ρ i ∧ pm i = b) → N b) : EnvR G B N pm ρ m σ H := by
  refine ⟨h, fun b hb => e.hl b (hn b hb), e.ea, e.eh, e.len, fun j d hj => ?_, fun j ds hj => ?_, fun j l hj => ?_, fun j l hj => ?_, e.inj, e.fr, e.xs, e.mr.less hn, e.mx, e.mut, e.ext, e.tb, e.tt⟩
  · obtain ⟨w, h1, h2⟩ := e.sv j d hj
    exact ⟨w, h1, h2.less hn⟩
  · obtain ⟨w, h1, h2, h3⟩ := e.sl j ds hj
    exact ⟨w, h1, h2, h3.less hn⟩
  · obtain ⟨w, h1, h2, h3, h4⟩ := e.sk j l hj
    exact ⟨w, h1, h2, h3, h4.less hn⟩
  · obtain ⟨w, h1, h2, h3, h4, h5⟩ := e.sn j l hj
    exact ⟨w, h1, h2, h3, h4.less hn, h5.less hn⟩
end
end Dn
namespace Dn
open PySem PySem.Spec PyProof.Rows L2
section
variable {G : Cl} {B : Bx} {M : AP} {pm : Nat → Addr} {ρ : Ro} {m m' : Mo} {σ : L2.St} {H H' : Hp}
/-- a list of the frame that is changed no more -/
theorem EnvR.frz {i : Nat} {s : Sv} {d : D} (e : EnvR G B M pm ρ m σ H) (hs : ρ[i]? = some (some s)) (hd : match s with
    | .v _ => False
    | .ml ds => d = .lst ds
    | .mk l => d = .dct l
    | .mn l => d = .dcn l) : ∃ M', EnvR G B M' pm (ρ.set i (some (.v d))) m σ H ∧ Stp M H M' H := by
  have hmu : s.mu = true := by
    cases s with
    | v d => exact hd.elim
    | ml _ => rfl
    | mk _ => rfl
    | mn _ => rfl
  have him : isM ρ i := ⟨s, hs, hmu⟩
  have hi : i < ρ.length := (List.getElem?_eq_some_iff.mp hs).1
  have e1 := (e.clr (i := i)).cut (N := fun b => M b ∧ b ≠ pm i) (fun b h => h.1) fun b h => by
    refine ⟨(e.clr (i := i)).em b h, fun z => ?_⟩
    subst z
    rcases h with h | h | ⟨j, hj, hb⟩
    · exact e.mut i him h
    · exact (e.fr i him).2 h
    · exact (isM_clr hj).2 (e.inj j i (isM_clr hj).1 him hb)
  have sub : ∀ b, (M b ∧ b ≠ pm i) → M b := fun b h => h.1
  obtain ⟨v, hv, hr⟩ : ∃ v, σ[i]? = some (some v) ∧ Rep G B.ad (fun b => M b ∧ b ≠ pm i) H v d := by
    cases s with
    | v d => exact hd.elim
    | ml ds =>
      obtain ⟨vs, h1, h2, h3⟩ := e.sl i ds hs
      subst hd
      exact ⟨_, h1, .lst h2 (fun z => z.2 rfl) (h3.less sub)⟩
    | mk l =>
      obtain ⟨vs, h1, h2, h3, h4⟩ := e.sk i l hs
      subst hd
      exact ⟨_, h1, .dct h2 (fun z => z.2 rfl) h3 (h4.less sub)⟩
    | mn l =>
      obtain ⟨vs, h1, h2, h3, h4, h5⟩ := e.sn i l hs
      subst hd
      exact ⟨_, h1, .dcn h2 (fun z => z.2 rfl) h3 (h4.less sub) (h5.less sub)⟩
  have e2 := e1.setv (i := i) hr
  rw [List.set_set] at e2
  have es : σ.set i (some v) = σ := by
    apply List.ext_getElem?
    intro j
    by_cases q : j = i
    · subst q
      rw [List.getElem?_set_self (by rw [e.len]; exact hi), hv]
    · rw [List.getElem?_set_ne (Ne.symm q)]
  rw [es] at e2
  exact ⟨_, e2, .refl, fun b h => .inl h.1⟩
end
/-! values that are stored -/
def RepV (G : Cl) (B : Bx) (M : AP) (H : Hp) (m' : Mo) (H' : Hp) (v : V) : Sv → Prop
  | .v d => Rep G B.ad M H' v d
  | s => ∃ p, v = .ref p ∧ ¬ Liv H p ∧ NewAt G B M H' p s ∧ MRep G (fun b => M b ∨ b = p) H' m'
abbrev DV := Ro → Mo → R Sv
structure Dv (G : Cl) (E : XK) (t : TE) (f : DV) : Prop where
  run : ∀ {B : Bx} {M : AP} {pm : Nat → Addr} {ρ : Ro} {m : Mo} {σ : L2.St} {H : Hp}, EnvR G B M pm ρ m σ H → ∀ Q : VK, PostM G E B M H (RepV G B M H) (f ρ m) Q → t σ H Q
def R.map {α β : Type} (g : α → β) (r : R α) : R β := r.bind fun a m => .ok (g a) m
section
variable {G : Cl} {E : XK}
def dvV (f : DE) : DV := fun ρ m => (f ρ m).map .v
theorem dv {t : TE} {f : DE} (h : De G E t f) : Dv G E t (dvV f) := ⟨fun {B M pm ρ m σ H} e Q p => by
  refine h.run e _ ((PostM.bind p).imp' fun x H1 ⟨d1, m1, g1, r1, p1⟩ => ?_)
  exact p1 _ _ (e.go g1).here r1⟩
theorem none_back {B : Bx} {M : AP} {pm : Nat → Addr} {ρ : Ro} {m m' : Mo} {σ : L2.St} {H H' : Hp} {p : Addr} (e : EnvR G B M pm ρ m σ H) (g : Go G B M m' H H') (h : H' p = none) : ¬ Liv H p := fun ⟨o, q, t⟩ => by
  have nA : ¬ B.A p := fun z => by
    obtain ⟨o, q, _⟩ := g.mr.has p (by rw [g.eh]; exact z)
    rw [h] at q
    cases q
  have z := g.x p o nA t q
  rw [h] at z
  cases z
/-- a new address is new for what stood before -/
theorem Post.newV {B : Bx} {M : AP} {pm : Nat → Addr} {ρ : Ro} {m m1 : Mo} {σ : L2.St} {H H1 : Hp} {s : Sv} {o : HO} {p : Addr} {Q : VK} (e : EnvR G B M pm ρ m σ H) (g : Go G B M m1 H H1) (hp : H1 p = none) (hs : s.mu = true) (n : NewAt G B M (upd H1 p o) p s)
    (q : ∀ b H', Go G B M m1 H1 H' → RepV G B M H m1 H' b s → Q b H') : Q (.ref p) (upd H1 p o) := by
  refine q _ _ ((e.go g).same (ExN.new hp)) ?_
  cases s with
  | v d => cases hs
  | ml ds => exact ⟨p, rfl, none_back e g hp, n, (g.mr.off (Liv.none hp)).ext (Ext.new hp)⟩
  | mk l => exact ⟨p, rfl, none_back e g hp, n, (g.mr.off (Liv.none hp)).ext (Ext.new hp)⟩
  | mn l => exact ⟨p, rfl, none_back e g hp, n, (g.mr.off (Liv.none hp)).ext (Ext.new hp)⟩
theorem RepV.back {B : Bx} {M : AP} {H H1 H' : Hp} {m' : Mo} {v : V} {s : Sv} (h : RepV G B M H1 m' H' v s) (b : ∀ p, ¬ Liv H1 p → ¬ Liv H p) : RepV G B M H m' H' v s := by
  cases s with
  | v d => exact h
  | ml ds =>
    obtain ⟨p, e, n, q⟩ := h
    exact ⟨p, e, b p n, q⟩
  | mk l =>
    obtain ⟨p, e, n, q⟩ := h
    exact ⟨p, e, b p n, q⟩
  | mn l =>
    obtain ⟨p, e, n, q⟩ := h
    exact ⟨p, e, b p n, q⟩
def dvLst (fa : DA) : DV := fun ρ m => (fa ρ m).bind fun xs m1 => if xs.length ≤ 10000 then .ok (.ml xs) m1 else .bad
theorem dv_lst {ta : TA} {fa : DA} (ha : Da G E ta fa) : Dv G E (tLst ta) (dvLst fa) := ⟨fun {B M pm ρ m σ H} e Q p => by
  refine ha.run e _ ((PostM.bind p).imp' fun x H1 ⟨d1, m1, g1, r1, p1⟩ => ?_)
  have e1 := e.go g1
  by_cases hl : d1.length ≤ 10000
  · rw [if_pos hl] at p1
    refine ⟨sz_ok (by rw [r1.length]; omega), fun q hq => ?_⟩
    exact Post.newV (s := .ml _) e g1 hq rfl ⟨x, upd_same, (r1.off (Liv.none hq)).ext (Ext.new (A := Non) hq) fun _ z => z.elim⟩ p1
  · rw [if_neg hl] at p1
    exact p1.elim⟩
/-- {} -/
def dvNew : DV := fun _ m => .ok (.mk []) m
theorem dv_dnew : Dv G E tDNewK dvNew := ⟨fun {B M pm ρ m σ H} e Q p => by
  intro d hd
  exact Post.newV (s := .mk []) e e.here hd rfl ⟨[], upd_same, rfl, .nil⟩ p⟩
/-- list(x) -/
def dvList (fa : DA) : DV := fun ρ m => (fa ρ m).bind fun xs m1 => match xs with
  | [.lst l] => .ok (.ml l) m1
  | [.tup l] => .ok (.ml l) m1
  | _ => .bad
theorem dv_list {ta : TA} {fa : DA} (ha : Dpa G E ta fa) : Dv G E (tCB (fun xs H Q => ∃ p ys, xs = [.ref p] ∧ (SqL G.K H p ys ∨ SqT G.K H p ys) ∧ ∀ l, H l = none → Q (.ref l) (upd H l (.lst ys))) ta) (dvList fa) := ⟨fun {B M pm ρ m σ H} e Q p => by
  refine ha.run e _ ((PostM.bind p).imp' fun x H1 ⟨d1, m1, g1, r1, p1⟩ => ?_)
  have e1 := e.go g1
  split at p1
  · obtain ⟨x, rfl, rx⟩ := r1.one
    obtain ⟨a, vs, rfl, ha, ra⟩ := rx.lst
    exact ⟨a, vs, rfl, .inl (SqL.of ha), fun p hp => Post.newV (s := .ml _) e g1 hp rfl ⟨vs, upd_same, (ra.off (Liv.none hp)).ext (Ext.new (A := Non) hp) fun _ z => z.elim⟩ p1⟩
  · obtain ⟨x, rfl, rx⟩ := r1.one
    obtain ⟨a, vs, rfl, ha, na, ra⟩ := rx.tup
    exact ⟨a, vs, rfl, .inr (SqT.of ha), fun p hp => Post.newV (s := .ml _) e g1 hp rfl ⟨vs, upd_same, (ra.off (Liv.none hp)).ext (Ext.new (A := Non) hp) fun _ z => z.elim⟩ p1⟩
  · exact p1.elim⟩
/-- xs * n of a list -/
def dvRep (fa fb : DE) : DV := fun ρ m => (fa ρ m).bind fun x m1 => (fb ρ m1).bind fun y m2 => match x, y with
  | .lst x, .int k => if 0 ≤ k ∧ k ≤ 1000 ∧ x.length ≤ 1000 then .ok (.ml (List.replicate k.toNat x).flatten) m2 else .bad
  | _, _ => .bad
theorem dv_rep {ta tb : TE} {fa fb : DE} (ha : Dq G E ta fa) (hb : Dq G E tb fb) : Dv G E (tOp (rMulU G.K) ta tb) (dvRep fa fb) := ⟨fun {B M pm ρ m σ H} e Q p => by
  refine ha.run e _ ((PostM.bind p).imp' fun x H1 ⟨d1, m1, g1, r1, p1⟩ => ?_)
  have e1 := e.go g1
  refine hb.run e1 _ ((PostM.bind p1).imp' fun y H2 ⟨d2, m2, g2, r2, p2⟩ => ?_)
  have e2 := e1.go g2
  have rx := r1.ext g2.x e.aM
  split at p2
  · split at p2
    · rename_i h
      obtain ⟨a, vs, rfl, ha, ra⟩ := rx.lst
      refine .inr (.inl ⟨a, _, vs, rfl, r2.int, ha, by omega, by omega, sz_ok ?_, fun p hp => Post.newV (s := .ml _) e (g1.trans g2) hp rfl ⟨_, upd_same, ((ra.rep _).off (Liv.none hp)).ext (Ext.new (A := Non) hp) fun _ z => z.elim⟩ p2⟩)
      rw [ra.length]
      exact Nat.le_trans (Nat.mul_le_mul h.2.2 (show _ ≤ 1000 by omega)) (by decide)
    · exact p2.elim
  · exact p2.elim⟩
/-- xs + ys of lists -/
def dvCat (fa fb : DE) : DV := fun ρ m => (fa ρ m).bind fun x m1 => (fb ρ m1).bind fun y m2 => match x, y with
  | .lst x, .lst y => if x.length + y.length ≤ 1000000 then .ok (.ml (x ++ y)) m2 else .bad
  | _, _ => .bad
theorem dv_cat {ta tb : TE} {fa fb : DE} (ha : Dq G E ta fa) (hb : Dq G E tb fb) : Dv G E (tOp (rAddU G.K) ta tb) (dvCat fa fb) := ⟨fun {B M pm ρ m σ H} e Q p => by
  refine ha.run e _ ((PostM.bind p).imp' fun x H1 ⟨d1, m1, g1, r1, p1⟩ => ?_)
  have e1 := e.go g1
  refine hb.run e1 _ ((PostM.bind p1).imp' fun y H2 ⟨d2, m2, g2, r2, p2⟩ => ?_)
  have e2 := e1.go g2
  have rx := r1.ext g2.x e.aM
  split at p2
  · split at p2
    · rename_i h
      obtain ⟨a, vs, rfl, ha, ra⟩ := rx.lst
      obtain ⟨b, ws, rfl, hb, rb⟩ := r2.lst
      exact .inr (.inr (.inr ⟨a, b, vs, ws, rfl, rfl, ha, hb, sz_ok (by rw [ra.length, rb.length]; omega), fun p hp => Post.newV (s := .ml _) e (g1.trans g2) hp rfl ⟨_, upd_same, ((ra.append rb).off (Liv.none hp)).ext (Ext.new (A := Non) hp) fun _ z => z.elim⟩ p2⟩))
    · exact p2.elim
  · exact p2.elim⟩
/-- a slice of a list -/
def dvSl (fx : DE) (fl fh : DO) : DV := fun ρ m => (fx ρ m).bind fun x m1 => (fl ρ m1).bind fun l m2 => (fh ρ m2).bind fun h m3 => match x with
  | .lst x => .ok (.ml (cutD x l h)) m3
  | _ => .bad
theorem dv_sl {tx : TE} {tl th : TO} {fx : DE} {fl fh : DO} (hx : Dq G E tx fx) (hl : Do G E tl fl) (hh : Do G E th fh) : Dv G E (tSl (rSlU G.K) tx tl th) (dvSl fx fl fh) := ⟨fun {B M pm ρ m σ H} e Q p => by
  refine hx.run e _ ((PostM.bind p).imp' fun x H1 ⟨d1, m1, g1, r1, p1⟩ => ?_)
  have e1 := e.go g1
  refine hl.run e1 _ ((PostM.bind p1).imp' fun l H2 ⟨d2, m2, g2, r2, p2⟩ => ?_)
  subst r2
  have e2 := e1.go g2
  refine hh.run e2 _ ((PostM.bind p2).imp' fun u H3 ⟨d3, m3, g3, r3, p3⟩ => ?_)
  subst r3
  have e3 := e2.go g3
  have rx := (r1.ext g2.x e.aM).ext g3.x e.aM
  split at p3
  · obtain ⟨a, vs, rfl, ha, ra⟩ := rx.lst
    exact .inl ⟨a, vs, rfl, SqL.of ha, fun p hp => Post.newV (s := .ml _) e ((g1.trans g2).trans g3) hp rfl ⟨_, upd_same, ((cut_rep ra).off (Liv.none hp)).ext (Ext.new (A := Non) hp) fun _ z => z.elim⟩ p3⟩
  · exact p3.elim⟩
/-! statements -/
def sNx : DS := fun ρ m => .nx ρ m
def sSeq (f g : DS) : DS := fun ρ m => (f ρ m).next g
theorem ds_nil : Ds G E tNext sNx := ⟨fun e Z p => p _ _ _ _ e .refl⟩
theorem ds_seq {t u : TS} {f g : DS} (ht : Ds G E t f) (hu : Ds G E u g) : Ds G E (tSeq t u) (sSeq f g) := ⟨fun {B M pm ρ m σ H} e Z p => by
  refine ht.run e _ ?_
  unfold sSeq at p
  cases h : f ρ m with
  | nx ρ1 m1 =>
    rw [h] at p
    exact fun M1 pm1 σ1 H1 e1 s1 => hu.run e1 Z (PostS.later (show PostS G E B M H (g ρ1 m1) Z from p) s1)
  | bad => rw [h] at p; exact p
  | rt d m1 => rw [h] at p; exact p
  | bk ρ1 m1 => rw [h] at p; exact p
  | ct ρ1 m1 => rw [h] at p; exact p
  | exc c l m1 => rw [h] at p; exact p⟩
def sBrk : DS := fun ρ m => .bk ρ m
def sCt : DS := fun ρ m => .ct ρ m
theorem ds_break : Ds G E tBreak sBrk := ⟨fun e Z p => p _ _ _ _ e .refl⟩
theorem ds_cont : Ds G E tCont sCt := ⟨fun e Z p => p _ _ _ _ e .refl⟩
def sRet (f : DE) : DS := fun ρ m => sBind (f ρ m) fun d m1 => .rt d m1
theorem ds_ret {t : TE} {f : DE} (h : De G E t f) : Ds G E (tRet t) (sRet f) := ⟨fun {B M pm ρ m σ H} e Z p => by
  refine h.run e _ ((PostS.bind e p).imp' fun x H1 ⟨d1, m1, g1, r1, p1⟩ => ?_)
  exact p1 _ _ (Go.ofEnv e g1) (r1.less e.mb)⟩
def sRetN : DS := fun _ m => .rt .non m
theorem ds_retN : Ds G E tRetN sRetN := ⟨fun e Z p => p _ _ (Go.ofEnv e e.here) .non⟩
def sExpr (f : DE) : DS := fun ρ m => sBind (f ρ m) fun _ m1 => .nx ρ m1
theorem ds_expr {t : TE} {f : DE} (h : De G E t f) : Ds G E (tDrop t) (sExpr f) := ⟨fun {B M pm ρ m σ H} e Z p => by
  refine h.run e _ ((PostS.bind e p).imp' fun x H1 ⟨d1, m1, g1, r1, p1⟩ => ?_)
  exact p1 _ _ _ _ (e.go g1) .refl⟩
def sIf (c : DT) (f g : DS) : DS := fun ρ m => sBind (c ρ m) fun b m1 => if b = true then f ρ m1 else g ρ m1
theorem ds_if {tc : TT} {t u : TS} {fc : DT} {f g : DS} (hc : Dt G E tc fc) (ht : Ds G E t f) (hu : Ds G E u g) : Ds G E (tIfS tc t u) (sIf fc f g) := ⟨fun {B M pm ρ m σ H} e Z p => by
  refine hc.run e _ ((PostS.bind e p).imp' fun x H1 ⟨d1, m1, g1, r1, p1⟩ => ?_)
  subst r1
  have e1 := e.go g1
  cases x with
  | true => exact ht.run e1 Z p1
  | false => exact hu.run e1 Z p1⟩
/-- x = e -/
def sSet (i : Nat) (f : DV) : DS := fun ρ m => sBind (f ρ m) fun s m1 => if i < ρ.length then .nx (ρ.set i (some s)) m1 else .bad
theorem EnvR.setV {B : Bx} {M : AP} {pm : Nat → Addr} {ρ : Ro} {m m1 : Mo} {σ : L2.St} {H H1 : Hp} {i : Nat} {v : V} {s : Sv} (e : EnvR G B M pm ρ m σ H) (g : Go G B M m1 H H1) (r : RepV G B M H m1 H1 v s) (hi : i < ρ.length) :
    ∃ M' pm', EnvR G B M' pm' (ρ.set i (some s)) m1 (σ.set i (some v)) H1 ∧ Stp M H M' H1 := by
  cases s with
  | v d =>
    have e' := (e.go g).setv (i := i) (show Rep G B.ad M H1 v d from r)
    exact ⟨M, pm, e', e.stp g⟩
  | ml ds =>
    obtain ⟨p, rfl, hp, n, mr⟩ := r
    obtain ⟨e', s'⟩ := e.setm hp g n mr hi
    exact ⟨_, _, e', s'⟩
  | mk l =>
    obtain ⟨p, rfl, hp, n, mr⟩ := r
    obtain ⟨e', s'⟩ := e.setm hp g n mr hi
    exact ⟨_, _, e', s'⟩
  | mn l =>
    obtain ⟨p, rfl, hp, n, mr⟩ := r
    obtain ⟨e', s'⟩ := e.setm hp g n mr hi
    exact ⟨_, _, e', s'⟩
theorem PostS.bind0 {B : Bx} {M : AP} {pm : Nat → Addr} {ρ : Ro} {m : Mo} {σ : L2.St} {H : Hp} {α β : Type} {rel : Hp → β → α → Prop} {r : R α} {k : α → Mo → SR} {Z : Ends} (e : EnvR G B M pm ρ m σ H) (h : PostS G E B M H (sBind r k) Z) :
    Post G E B M H rel r (fun b H1 => ∃ a m1, Go G B M m1 H H1 ∧ rel H1 b a ∧ PostS G E B M H (k a m1) Z) := by
  cases r with
  | bad => exact h
  | ok a m1 => exact fun b H' g hr => ⟨a, m1, g, hr, h⟩
  | exc c l m' => exact fun cls dd H' g hx => h cls dd H' (Go.ofEnv e g) (hx.less e.mb)
theorem PostS.bindM {B : Bx} {M : AP} {pm : Nat → Addr} {ρ : Ro} {m : Mo} {σ : L2.St} {H : Hp} {α β : Type} {rel : Mo → Hp → β → α → Prop} {r : R α} {k : α → Mo → SR} {Z : Ends} (e : EnvR G B M pm ρ m σ H) (h : PostS G E B M H (sBind r k) Z) :
    PostM G E B M H rel r (fun b H1 => ∃ a m1, Go G B M m1 H H1 ∧ rel m1 H1 b a ∧ PostS G E B M H (k a m1) Z) := by
  cases r with
  | bad => exact h
  | ok a m1 => exact fun b H' g hr => ⟨a, m1, g, hr, h⟩
  | exc c l m' => exact fun cls dd H' g hx => h cls dd H' (Go.ofEnv e g) (hx.less e.mb)
theorem ds_set {i : Nat} {t : TE} {f : DV} (h : Dv G E t f) : Ds G E (tAsg t (gName i)) (sSet i f) := ⟨fun {B M pm ρ m σ H} e Z p => by
  have q := PostS.bindM (rel := RepV G B M H) e p
  refine h.run e _ (q.imp' fun x H1 ⟨d1, m1, g1, r1, p1⟩ => ?_)
  by_cases hi : i < ρ.length
  · rw [if_pos hi] at p1
    obtain ⟨M', pm', e', s'⟩ := e.setV g1 r1 hi
    exact p1 M' pm' _ H1 e' s'
  · rw [if_neg hi] at p1
    exact p1.elim⟩
/-- a list that changes no more from here on -/
def frzR (i : Nat) (ρ : Ro) : Ro := match ρ[i]? with
  | some (some (.ml ds)) => ρ.set i (some (.v (.lst ds)))
  | some (some (.mk l)) => ρ.set i (some (.v (.dct l)))
  | some (some (.mn l)) => ρ.set i (some (.v (.dcn l)))
  | _ => ρ
def sFrz (i : Nat) (f : DS) : DS := fun ρ m => f (frzR i ρ) m
theorem ds_frz {t : TS} {f : DS} (i : Nat) (h : Ds G E t f) : Ds G E t (sFrz i f) := ⟨fun {B M pm ρ m σ H} e Z p => by
  unfold sFrz frzR at p
  split at p
  · rename_i ds hs
    obtain ⟨M', e', s'⟩ := e.frz hs rfl
    exact h.run e' Z (p.later s')
  · rename_i l hs
    obtain ⟨M', e', s'⟩ := e.frz hs rfl
    exact h.run e' Z (p.later s')
  · rename_i l hs
    obtain ⟨M', e', s'⟩ := e.frz hs rfl
    exact h.run e' Z (p.later s')
  · exact h.run e Z p⟩
/-- xs.append(e) -/
def sApp (i : Nat) (f : DE) : DS := fun ρ m => match ρ[i]? with
  | some (some (.ml ds)) => sBind (f ρ m) fun d m1 => if ds.length ≤ 10000 then .nx (ρ.set i (some (.ml (ds ++ [d])))) m1 else .bad
  | _ => .bad
theorem ds_app {t : TE} {f : DE} (i : Nat) (h : De G E t f) : Ds G E (tDrop (tBM G.K "list" rAppend (tVar i) (tCons t tNil))) (sApp i f) := ⟨fun {B M pm ρ m σ H} e Z p => by
  unfold sApp at p
  split at p
  · rename_i ds hs
    obtain ⟨vs, h1, h2, h3⟩ := e.sl i ds hs
    refine ⟨_, h1, .inl ⟨rfl, _, SqL.of h2⟩, ?_⟩
    refine h.run e _ ((PostS.bind0 e p).imp' fun x H1 ⟨d1, m1, g1, r1, p1⟩ => ?_)
    have e1 := e.go g1
    obtain ⟨vs', h1', h2', h3'⟩ := e1.sl i ds hs
    by_cases hl : ds.length ≤ 10000
    · rw [if_pos hl] at p1
      refine ⟨_, vs', x, rfl, rfl, h2', Nat.lt_of_le_of_lt (Nat.le_of_eq h3'.length) (Nat.lt_of_le_of_lt hl (by decide)), ?_⟩
      obtain ⟨e2, s2⟩ := e1.updm (s' := .ml (ds ++ [d1])) (o := .lst (vs' ++ [x])) hs rfl ⟨_, rfl, h3'.append (.one r1)⟩
      exact p1 _ _ _ _ e2 ((e.stp g1).trans s2)
    · rw [if_neg hl] at p1
      exact p1.elim
  · exact p.elim⟩
/-- xs[k] = e -/
def sPut (i : Nat) (fv fk : DE) : DS := fun ρ m => sBind (fv ρ m) fun d m1 => match ρ[i]? with
  | some (some (.ml ds)) => sBind (fk ρ m1) fun k m2 => match k with
    | .int k => match ixN ds.length k with
      | some j => .nx (ρ.set i (some (.ml (ds.set j d)))) m2
      | none => .bad
    | _ => .bad
  | _ => .bad
theorem ds_put {tv tk : TE} {fv fk : DE} (i : Nat) (hv : De G E tv fv) (hk : De G E tk fk) : Ds G E (tAsg tv (gSub (tVar i) tk rSetL)) (sPut i fv fk) := ⟨fun {B M pm ρ m σ H} e Z p => by
  refine hv.run e _ ((PostS.bind0 e p).imp' fun x H1 ⟨d1, m1, g1, r1, p1⟩ => ?_)
  have e1 := e.go g1
  split at p1
  · rename_i ds hs
    obtain ⟨vs, h1, h2, h3⟩ := e1.sl i ds hs
    refine ⟨_, h1, ?_⟩
    refine hk.run e1 _ ((PostS.bind0 e1 (p1.later (e.stp g1))).imp' fun y H2 ⟨d2, m2, g2, r2, p2⟩ => ?_)
    have e2 := e1.go g2
    obtain ⟨vs', h1', h2', h3'⟩ := e2.sl i ds hs
    split at p2
    · split at p2
      · rename_i j hj
        cases r2
        refine ⟨_, vs', _, j, rfl, rfl, h2', by rw [h3'.length]; exact hj, ?_⟩
        obtain ⟨e3, s3⟩ := e2.updm (s' := .ml (ds.set j d1)) (o := .lst (vs'.set j x)) hs rfl ⟨_, rfl, h3'.set (r1.ext g2.x e.aM) j⟩
        exact p2 _ _ _ _ e3 ((e1.stp g2).trans s3)
      · exact p2.elim
    · exact p2.elim
  · exact p1.elim⟩
/-- x += e, whole numbers -/
def sAug (i : Nat) (g : D → D → Option D) (f : DE) : DS := fun ρ m => match ρ[i]? with
  | some (some (.v d)) => sBind (f ρ m) fun y m1 => match g d y with
    | some z => .nx (ρ.set i (some (.v z))) m1
    | none => .bad
  | _ => .bad
theorem ds_aug {t : TE} {f : DE} {r : TIp} {g : D → D → Option D} (i : Nat) (o : O2 G r g) (h : De G E t f) : Ds G E (tAug i t r) (sAug i g f) := ⟨fun {B M pm ρ m σ H} e Z p => by
  unfold sAug at p
  split at p
  · rename_i d hs
    obtain ⟨v, h1, h2⟩ := e.sv i d hs
    refine ⟨v, h1, ?_⟩
    refine h.run e _ ((PostS.bind0 e p).imp' fun x H1 ⟨d1, m1, g1, r1, p1⟩ => ?_)
    have e1 := e.go g1
    split at p1
    · rename_i z hz
      refine o.run (A := B.A) e1.hm e1.aM (.r (h2.ext g1.x e.aM)) (.r r1) hz _ fun w H2 x2 rw' => ?_
      have g2 := e1.same x2
      exact p1 _ _ _ _ ((e1.go g2).setv (i := i) rw') ((e.stp g1).trans (e1.stp g2))
    · exact p1.elim
  · exact p.elim⟩
end

/-! targets -/
structure Dg (G : Cl) (g : TG) (h : D → Ro → Option Ro) (os : List Nat) : Prop where
  run : ∀ {B : Bx} {M : AP} {pm : Nat → Addr} {ρ ρ' : Ro} {m : Mo} {σ : L2.St} {H : Hp} {v : V} {d : D}, EnvR G B M pm ρ m σ H → Rep G B.ad M H v d → h d ρ = some ρ' → ∀ Q : L2.St → Hp → Prop,
    (∀ σ', EnvR G B M pm ρ' m σ' H → (∀ vs, (∀ i ∈ os, i ∈ vs) → wipe σ' vs = wipe σ vs) → Q σ' H) → g v σ H Q
structure Dgs (G : Cl) (g : TGs) (h : List D → Ro → Option Ro) (os : List Nat) : Prop where
  run : ∀ {B : Bx} {M : AP} {pm : Nat → Addr} {ρ ρ' : Ro} {m : Mo} {σ : L2.St} {H : Hp} {v : List V} {d : List D}, EnvR G B M pm ρ m σ H → Reps G B.ad M H v d → h d ρ = some ρ' → ∀ Q : L2.St → Hp → Prop,
    (∀ σ', EnvR G B M pm ρ' m σ' H → (∀ vs, (∀ i ∈ os, i ∈ vs) → wipe σ' vs = wipe σ vs) → Q σ' H) → g v σ H Q
theorem wipe_get {σ : L2.St} {i : Nat} : ∀ {vs : List Nat}, (wipe σ vs)[i]? = if i ∈ vs then (if i < σ.length then some none else none) else σ[i]?
  | [] => by simp [wipe]
  | v :: vs => by
    unfold wipe
    by_cases hv : v = i
    · subst hv
      rw [if_pos List.mem_cons_self]
      by_cases hl : v < σ.length
      · rw [List.getElem?_set_self (by rw [wipe_length]; exact hl), if_pos hl]
      · rw [List.getElem?_eq_none (by rw [List.length_set, wipe_length]; omega), if_neg hl]
    · rw [List.getElem?_set_ne hv, wipe_get]
      have e : (i ∈ v :: vs) ↔ i ∈ vs := by
        rw [List.mem_cons]
        exact ⟨fun h => h.elim (fun z => absurd z.symm hv) id, .inr⟩
      simp only [e]
theorem wipe_set {σ : L2.St} {i : Nat} {x : Option V} {vs : List Nat} (h : i ∈ vs) : wipe (σ.set i x) vs = wipe σ vs := by
  apply List.ext_getElem?
  intro j
  rw [wipe_get, wipe_get, List.length_set]
  by_cases hj : j ∈ vs
  · rw [if_pos hj, if_pos hj]
  · rw [if_neg hj, if_neg hj, List.getElem?_set_ne (fun z : i = j => hj (by rw [← z]; exact h))]
def hName (i : Nat) : D → Ro → Option Ro := fun d ρ => some (ρ.set i (some (.v d)))
def hNil : List D → Ro → Option Ro := fun ds ρ => match ds with
  | [] => some ρ
  | _ => none
def hCons (h : D → Ro → Option Ro) (k : List D → Ro → Option Ro) : List D → Ro → Option Ro := fun ds ρ => match ds with
  | d :: r => (h d ρ).bind (k r)
  | [] => none
def hTup (n : Nat) (k : List D → Ro → Option Ro) : D → Ro → Option Ro := fun d ρ => match d with
  | .tup l => if l.length = n then k l ρ else none
  | _ => none
section
variable {G : Cl} {E : XK}
theorem dg_name (i : Nat) : Dg G (gName i) (hName i) [i] := ⟨fun {B M pm ρ ρ' m σ H v d} e r h Q q => by
  cases h
  exact q _ (e.setv (i := i) r) fun vs hv => wipe_set (hv i (by simp))⟩
theorem dgs_nil : Dgs G gNil hNil [] := ⟨fun {B M pm ρ ρ' m σ H v d} e r h Q q => by
  cases r with
  | nil =>
    cases h
    exact ⟨rfl, q σ e fun _ _ => rfl⟩
  | cons _ _ => cases h⟩
theorem dgs_cons {g : TG} {gs : TGs} {h : D → Ro → Option Ro} {k : List D → Ro → Option Ro} {os os' : List Nat} (a : Dg G g h os) (b : Dgs G gs k os') : Dgs G (gCons g gs) (hCons h k) (os ++ os') := ⟨fun {B M pm ρ ρ' m σ H v d} e r hh Q q => by
  cases r with
  | nil => cases hh
  | cons r rs =>
    rename_i v vs d ds
    have hh' : (h d ρ).bind (k ds) = some ρ' := hh
    cases q1 : h d ρ with
    | none =>
      rw [q1] at hh'
      cases hh'
    | some ρ1 =>
      rw [q1] at hh'
      exact ⟨v, vs, rfl, a.run e r q1 _ fun σ1 e1 w1 => b.run e1 rs hh' _ fun σ2 e2 w2 => q σ2 e2 fun vs hv => (w2 vs fun i hi => hv i (List.mem_append_right _ hi)).trans (w1 vs fun i hi => hv i (List.mem_append_left _ hi))⟩⟩
theorem dg_tup {gs : TGs} {k : List D → Ro → Option Ro} {os : List Nat} {n : Nat} (b : Dgs G gs k os) : Dg G (gTup G.K n gs) (hTup n k) os := ⟨fun {B M pm ρ ρ' m σ H v d} e r hh Q q => by
  unfold hTup at hh
  split at hh
  · split at hh
    · rename_i l hl
      cases r with
      | tup h n' r => exact ⟨_, _, rfl, SqT.of h, r.length.trans hl, b.run e r hh Q q⟩
    · cases hh
  · cases hh⟩
/-- a target gets a value -/
def sAsg (f : DE) (h : D → Ro → Option Ro) : DS := fun ρ m => sBind (f ρ m) fun d m1 => match h d ρ with
  | some ρ' => .nx ρ' m1
  | none => .bad
theorem ds_asg {t : TE} {f : DE} {g : TG} {h : D → Ro → Option Ro} {os : List Nat} (ht : De G E t f) (hg : Dg G g h os) : Ds G E (tAsg t g) (sAsg f h) := ⟨fun {B M pm ρ m σ H} e Z p => by
  refine ht.run e _ ((PostS.bind0 e p).imp' fun x H1 ⟨d1, m1, g1, r1, p1⟩ => ?_)
  have e1 := e.go g1
  split at p1
  · rename_i ρ' hρ
    exact hg.run e1 r1 hρ _ fun σ' e' _ => p1 _ _ _ _ e' (e.stp g1)
  · exact p1.elim⟩
end
end Dn
namespace Dn
open PySem PySem.Spec PyProof.Rows L2

theorem Stp.mono {M M' : AP} {H H' : Hp} (s : Stp M H M' H') {G : Cl} {ad : Ad} {v : V} {d : D} (r : Rep G ad M H v d) : Rep G ad M' H' v d := by
  have k : Rep G ad (fun b => M b ∨ M' b) H v d := Rep.or s.n r
  exact k.mono s.x (fun b h => .inl h) fun b h => .inr h
/-! what is walked -/
structure Wk (G : Cl) (ad : Ad) (J : It) (ds : List D) (I : AP → Hp → Prop) : Prop where
  keep : ∀ {M M' : AP} {H H' : Hp}, I M H → Stp M H M' H' → I M' H'
  stop : ∀ {M : AP} {H : Hp}, I M H → J.stop ds.length H
  go : ∀ {M : AP} {H : Hp} {i : Nat}, I M H → i < ds.length → J.go i H
  yld : ∀ {M : AP} {H H' : Hp} {i : Nat} {d : D} {x : V}, I M H → (∀ b, M b → H b ≠ none) → ds[i]? = some d → J.yld i H x H' → ExN H H' ∧ Rep G ad M H' x d
abbrev DI := Ro → Mo → R (List D)
structure Di (G : Cl) (E : XK) (t : TI) (f : DI) : Prop where
  run : ∀ {B : Bx} {M : AP} {pm : Nat → Addr} {ρ : Ro} {m : Mo} {σ : L2.St} {H : Hp}, EnvR G B M pm ρ m σ H → ∀ Q : It → Hp → Prop, Post G E B M H (fun H' J ds => ∃ I, Wk G B.ad J ds I ∧ I M H') (f ρ m) Q → t σ H Q
section
variable {G : Cl} {E : XK}
/-- over a list or a tuple that stays -/
theorem wk_list {ad : Ad} {a : Addr} {ds : List D} : Wk G ad (Itl G.K a) ds (fun M H => Rep G ad M H (.ref a) (.lst ds)) where
  keep := fun r s => s.mono r
  stop := fun {M H} r => by
    cases r with
    | lst h n r => exact ⟨_, SqL.of h, Nat.le_of_eq r.length⟩
  go := fun {M H i} r hi => by
    cases r with
    | lst h n r =>
      rename_i vs
      have hl : i < vs.length := by rw [r.length]; exact hi
      exact ⟨vs, vs[i], SqL.of h, List.getElem?_eq_getElem hl⟩
  yld := fun {M H H' i d x} r _ hd y => by
    cases r with
    | lst h n r =>
      obtain ⟨rfl, y⟩ := y
      obtain ⟨v, hv, rv⟩ := r.getD hd
      have e := Option.some.inj ((y _ (SqL.of h)).symm.trans hv)
      subst e
      exact ⟨.refl, rv⟩
theorem wk_tup {ad : Ad} {a : Addr} {ds : List D} : Wk G ad (Itt G.K a) ds (fun M H => Rep G ad M H (.ref a) (.tup ds)) where
  keep := fun r s => s.mono r
  stop := fun {M H} r => by
    cases r with
    | tup h n r => exact ⟨_, SqT.of h, Nat.le_of_eq r.length⟩
  go := fun {M H i} r hi => by
    cases r with
    | tup h n r =>
      rename_i vs
      have hl : i < vs.length := by rw [r.length]; exact hi
      exact ⟨vs, vs[i], SqT.of h, List.getElem?_eq_getElem hl⟩
  yld := fun {M H H' i d x} r _ hd y => by
    cases r with
    | tup h n r =>
      obtain ⟨rfl, y⟩ := y
      obtain ⟨v, hv, rv⟩ := r.getD hd
      have e := Option.some.inj ((y _ (SqT.of h)).symm.trans hv)
      subst e
      exact ⟨.refl, rv⟩
def dItL (f : DE) : DI := fun ρ m => (f ρ m).bind fun d m1 => match d with
  | .lst l => .ok l m1
  | _ => .bad
def dItT (f : DE) : DI := fun ρ m => (f ρ m).bind fun d m1 => match d with
  | .tup l => .ok l m1
  | _ => .bad
theorem di_list {t : TE} {f : DE} (h : De G E t f) : Di G E (iList G.K t) (dItL f) := ⟨fun {B M pm ρ m σ H} e Q p => by
  refine h.run e _ ((Post.bind p).imp' fun x H1 ⟨d1, m1, g1, r1, p1⟩ => ?_)
  have e1 := e.go g1
  split at p1
  · cases r1 with
    | lst q n r => exact ⟨_, rfl, ⟨_, SqL.of q⟩, p1 _ _ e1.here ⟨_, wk_list, .lst q n r⟩⟩
  · exact p1.elim⟩
theorem di_tup {t : TE} {f : DE} (h : De G E t f) : Di G E (iTup G.K t) (dItT f) := ⟨fun {B M pm ρ m σ H} e Q p => by
  refine h.run e _ ((Post.bind p).imp' fun x H1 ⟨d1, m1, g1, r1, p1⟩ => ?_)
  have e1 := e.go g1
  split at p1
  · cases r1 with
    | tup q n r => exact ⟨_, rfl, ⟨_, SqT.of q⟩, p1 _ _ e1.here ⟨_, wk_tup, .tup q n r⟩⟩
  · exact p1.elim⟩
/-- range -/
def rangeD (lo : Int) (n : Nat) : List D := (List.range n).map fun (i : Nat) => .int (lo + i)
theorem rangeD_get {lo : Int} {n i : Nat} {d : D} (h : (rangeD lo n)[i]? = some d) : d = .int (lo + i) := by
  unfold rangeD at h
  rw [List.getElem?_map] at h
  cases q : (List.range n)[i]? with
  | none =>
    rw [q] at h
    cases h
  | some j =>
    rw [q] at h
    obtain ⟨hl, e⟩ := List.getElem?_eq_some_iff.mp q
    rw [List.getElem_range] at e
    cases h
    rw [e]
theorem rangeD_len {lo : Int} {n : Nat} : (rangeD lo n).length = n := by
  unfold rangeD
  rw [List.length_map, List.length_range]
theorem wk_range {ad : Ad} {lo : Int} {n : Nat} : Wk G ad (Itr lo n) (rangeD lo n) (fun _ _ => True) where
  keep := fun _ _ => True.intro
  stop := fun {M H} _ => by
    rw [rangeD_len]
    exact Nat.le_refl n
  go := fun {M H i} _ hi => by
    rw [rangeD_len] at hi
    exact hi
  yld := fun {M H H' i d x} _ _ hd y => by
    obtain ⟨rfl, rfl⟩ := y
    rw [rangeD_get hd]
    exact ⟨.refl, .int _⟩
def dRng1 (f : DA) : DI := fun ρ m => (f ρ m).bind fun d m1 => match d with
  | [.int j] => if -1000000 ≤ j ∧ j ≤ 1000000 then .ok (rangeD 0 j.toNat) m1 else .bad
  | _ => .bad
def dRng2 (f : DA) : DI := fun ρ m => (f ρ m).bind fun d m1 => match d with
  | [.int i, .int j] => if -1000000 ≤ j ∧ j ≤ 1000000 ∧ -1000000 ≤ i ∧ i ≤ 1000000 then .ok (rangeD i (j - i).toNat) m1 else .bad
  | _ => .bad
theorem Reps.int1 {ad : Ad} {M : AP} {H : Hp} {vs : List V} {i : Int} (r : Reps G ad M H vs [.int i]) : vs = [.int i] := by
  cases r with
  | cons r rs =>
    cases rs
    cases r
    rfl
theorem Reps.int2 {ad : Ad} {M : AP} {H : Hp} {vs : List V} {i j : Int} (r : Reps G ad M H vs [.int i, .int j]) : vs = [.int i, .int j] := by
  cases r with
  | cons r rs =>
    cases r
    rw [rs.int1]
theorem di_rng1 {t : TA} {f : DA} (h : Da G E t f) : Di G E (iRng1 t) (dRng1 f) := ⟨fun {B M pm ρ m σ H} e Q p => by
  refine h.run e _ ((Post.bind p).imp' fun x H1 ⟨d1, m1, g1, r1, p1⟩ => ?_)
  have e1 := e.go g1
  split at p1
  · split at p1
    · exact ⟨_, r1.int1, by omega, by omega, p1 _ _ e1.here ⟨_, wk_range, True.intro⟩⟩
    · exact p1.elim
  · exact p1.elim⟩
theorem di_rng2 {t : TA} {f : DA} (h : Da G E t f) : Di G E (iRng2 t) (dRng2 f) := ⟨fun {B M pm ρ m σ H} e Q p => by
  refine h.run e _ ((Post.bind p).imp' fun x H1 ⟨d1, m1, g1, r1, p1⟩ => ?_)
  have e1 := e.go g1
  split at p1
  · split at p1
    · exact ⟨_, _, r1.int2, ⟨by omega, by omega, by omega, by omega⟩, p1 _ _ e1.here ⟨_, wk_range, True.intro⟩⟩
    · exact p1.elim
  · exact p1.elim⟩
/-- enumerate of a list -/
def enumD : Nat → List D → List D
  | _, [] => []
  | n, d :: r => .tup [.int n, d] :: enumD (n + 1) r
theorem enumD_len : ∀ (n : Nat) (l : List D), (enumD n l).length = l.length
  | _, [] => rfl
  | n, d :: r => congrArg (· + 1) (enumD_len (n + 1) r)
theorem enumD_get : ∀ {n : Nat} {l : List D} {i : Nat} {d : D}, (enumD n l)[i]? = some d → ∃ x, l[i]? = some x ∧ d = .tup [.int ((n + i : Nat) : Int), x]
  | _, [], _, _, h => by simp [enumD] at h
  | n, d :: r, 0, _, h => by
    simp [enumD] at h
    exact ⟨d, by simp, h.symm⟩
  | n, d :: r, i + 1, _, h => by
    simp only [enumD, List.getElem?_cons_succ] at h
    obtain ⟨x, h1, h2⟩ := enumD_get h
    refine ⟨x, by simpa using h1, ?_⟩
    rw [h2, show n + 1 + i = n + (i + 1) by omega]
theorem pair_rep {ad : Ad} {M : AP} {H : Hp} {T : Addr} {v w : V} {d e : D} (hm : ∀ b, M b → H b ≠ none) (hT : H T = none) (r : Rep G ad M H v d) (r' : Rep G ad M H w e) : ExN H (upd H T (.tup [v, w])) ∧ Rep G ad M (upd H T (.tup [v, w])) (.ref T) (.tup [d, e]) :=
  ⟨ExN.new hT, (Reps.cons r (.one r')).newT hm hT⟩
theorem wk_enum {ad : Ad} {a : Addr} {ds : List D} : Wk G ad (Ite G.K a) (enumD 0 ds) (fun M H => Rep G ad M H (.ref a) (.lst ds)) where
  keep := fun r s => s.mono r
  stop := fun {M H} r => by
    cases r with
    | lst h n r => exact ⟨_, SqL.of h, by rw [enumD_len]; exact Nat.le_of_eq r.length⟩
  go := fun {M H i} r hi => by
    cases r with
    | lst h n r =>
      rename_i vs
      rw [enumD_len] at hi
      have hl : i < vs.length := by rw [r.length]; exact hi
      exact ⟨vs, vs[i], SqL.of h, List.getElem?_eq_getElem hl⟩
  yld := fun {M H H' i d x} r hm hd y => by
    cases r with
    | lst h n r =>
      obtain ⟨T, y1, rfl, hT, rfl, y⟩ := y
      obtain ⟨z, h1, rfl⟩ := enumD_get hd
      obtain ⟨v, hv, rv⟩ := r.getD h1
      have e := Option.some.inj ((y _ (SqL.of h)).symm.trans hv)
      subst e
      rw [Nat.zero_add]
      exact pair_rep hm hT (.int _) rv
theorem Rep.scr {ad : Ad} {M : AP} {H : Hp} {v : V} {ns : List Int} (r : Rep G ad M H v (.scr ns)) : ∃ a, v = .ref a ∧ SqL G.K H a (ns.map V.int) := by
  cases r with
  | scrF h n => exact ⟨_, rfl, .inl (.inr ⟨_, h⟩)⟩
  | scrK h => exact ⟨_, rfl, h _⟩
theorem Rep.scr_ref {ad : Ad} {M : AP} {H : Hp} {a : Addr} {ns : List Int} (r : Rep G ad M H (.ref a) (.scr ns)) : SqL G.K H a (ns.map V.int) := by
  obtain ⟨b, e, h⟩ := r.scr
  cases e
  exact h
theorem wk_scr {ad : Ad} {a : Addr} {ns : List Int} : Wk G ad (Itl G.K a) (ns.map D.int) (fun M H => Rep G ad M H (.ref a) (.scr ns)) where
  keep := fun r s => s.mono r
  stop := fun {M H} r => ⟨_, r.scr_ref, by rw [List.length_map, List.length_map]; exact Nat.le_refl _⟩
  go := fun {M H i} r hi => by
    have hl : i < (ns.map V.int).length := by rw [List.length_map] at hi ⊢; exact hi
    exact ⟨_, _, r.scr_ref, List.getElem?_eq_getElem hl⟩
  yld := fun {M H H' i d x} r _ hd y => by
    obtain ⟨rfl, y⟩ := y
    obtain ⟨v, hv, rv⟩ := (reps_ints (G := G) (ma := ad) (M := M) (H := H') ns).getD hd
    have e := Option.some.inj ((y _ r.scr_ref).symm.trans hv)
    subst e
    exact ⟨.refl, rv⟩
theorem wk_enumS {ad : Ad} {a : Addr} {ns : List Int} : Wk G ad (Ite G.K a) (enumD 0 (ns.map D.int)) (fun M H => Rep G ad M H (.ref a) (.scr ns)) where
  keep := fun r s => s.mono r
  stop := fun {M H} r => ⟨_, r.scr_ref, by rw [enumD_len, List.length_map, List.length_map]; exact Nat.le_refl _⟩
  go := fun {M H i} r hi => by
    rw [enumD_len] at hi
    have hl : i < (ns.map V.int).length := by rw [List.length_map] at hi ⊢; exact hi
    exact ⟨_, _, r.scr_ref, List.getElem?_eq_getElem hl⟩
  yld := fun {M H H' i d x} r hm hd y => by
    obtain ⟨T, y1, rfl, hT, rfl, y⟩ := y
    obtain ⟨z, h1, rfl⟩ := enumD_get hd
    obtain ⟨v, hv, rv⟩ := (reps_ints (G := G) (ma := ad) (M := M) (H := H) ns).getD h1
    have e := Option.some.inj ((y _ r.scr_ref).symm.trans hv)
    subst e
    rw [Nat.zero_add]
    exact pair_rep hm hT (.int _) rv
def dEnumL (f : DA) : DI := fun ρ m => (f ρ m).bind fun d m1 => match d with
  | [.lst l] => .ok (enumD 0 l) m1
  | _ => .bad
theorem di_enumL {t : TA} {f : DA} (h : Da G E t f) : Di G E (iEnum G.K t) (dEnumL f) := ⟨fun {B M pm ρ m σ H} e Q p => by
  refine h.run e _ ((Post.bind p).imp' fun x H1 ⟨d1, m1, g1, r1, p1⟩ => ?_)
  have e1 := e.go g1
  split at p1
  · cases r1 with
    | cons r rs =>
      cases rs
      cases r with
      | lst q n r => exact ⟨_, _, rfl, SqL.of q, p1 _ _ e1.here ⟨_, wk_enum, .lst q n r⟩⟩
  · exact p1.elim⟩
/-- zip of two lists, of two tuples -/
def zipD : List D → List D → List D
  | d :: r, e :: s => .tup [d, e] :: zipD r s
  | _, _ => []
theorem zipD_len : ∀ (l k : List D), (zipD l k).length = min l.length k.length
  | [], _ => by simp [zipD]
  | _ :: _, [] => by simp [zipD]
  | d :: r, e :: s => by
    simp only [zipD, List.length_cons, zipD_len r s]
    omega
theorem zipD_get : ∀ {l k : List D} {i : Nat} {d : D}, (zipD l k)[i]? = some d → ∃ x y, l[i]? = some x ∧ k[i]? = some y ∧ d = .tup [x, y]
  | [], _, _, _, h => by simp [zipD] at h
  | _ :: _, [], _, _, h => by simp [zipD] at h
  | d :: r, e :: s, 0, _, h => by
    simp [zipD] at h
    exact ⟨d, e, by simp, by simp, h.symm⟩
  | d :: r, e :: s, i + 1, _, h => by
    simp only [zipD, List.getElem?_cons_succ] at h
    obtain ⟨x, y, h1, h2, h3⟩ := zipD_get h
    exact ⟨x, y, by simpa using h1, by simpa using h2, h3⟩
theorem wk_zipL {ad : Ad} {a b : Addr} {ds es : List D} : Wk G ad (Itz G.K a b) (zipD ds es) (fun M H => Rep G ad M H (.ref a) (.lst ds) ∧ Rep G ad M H (.ref b) (.lst es)) where
  keep := fun r s => ⟨s.mono r.1, s.mono r.2⟩
  stop := fun {M H} r => by
    obtain ⟨r1, r2⟩ := r
    cases r1 with
    | lst h n r =>
      cases r2 with
      | lst h' n' r' =>
        refine ⟨_, _, SqL.of h, SqL.of h', ?_⟩
        rw [zipD_len, r.length, r'.length]
        first | omega | exact (Nat.le_total _ _).elim (fun h => .inl (by omega)) fun h => .inr (by omega)
  go := fun {M H i} r hi => by
    obtain ⟨r1, r2⟩ := r
    cases r1 with
    | lst h n r =>
      cases r2 with
      | lst h' n' r' =>
        rename_i vs ws
        rw [zipD_len] at hi
        have hl : i < vs.length := by rw [r.length]; omega
        have hl' : i < ws.length := by rw [r'.length]; omega
        exact ⟨vs, ws, vs[i], ws[i], SqL.of h, SqL.of h', List.getElem?_eq_getElem hl, List.getElem?_eq_getElem hl'⟩
  yld := fun {M H H' i d x} r hm hd y => by
    obtain ⟨r1, r2⟩ := r
    cases r1 with
    | lst h n r =>
      cases r2 with
      | lst h' n' r' =>
        obtain ⟨T, y1, y2, rfl, hT, rfl, f1, f2⟩ := y
        obtain ⟨z, w, h1, h2, rfl⟩ := zipD_get hd
        obtain ⟨v, hv, rv⟩ := r.getD h1
        obtain ⟨u, hu, ru⟩ := r'.getD h2
        have e := Option.some.inj ((f1 _ (SqL.of h)).symm.trans hv)
        have e' := Option.some.inj ((f2 _ (SqL.of h')).symm.trans hu)
        subst e e'
        exact pair_rep hm hT rv ru
theorem wk_zipT {ad : Ad} {a b : Addr} {ds es : List D} : Wk G ad (RZ.ItzT G.K a b) (zipD ds es) (fun M H => Rep G ad M H (.ref a) (.tup ds) ∧ Rep G ad M H (.ref b) (.tup es)) where
  keep := fun r s => ⟨s.mono r.1, s.mono r.2⟩
  stop := fun {M H} r => by
    obtain ⟨r1, r2⟩ := r
    cases r1 with
    | tup h n r =>
      cases r2 with
      | tup h' n' r' =>
        refine ⟨_, _, SqT.of h, SqT.of h', ?_⟩
        rw [zipD_len, r.length, r'.length]
        first | omega | exact (Nat.le_total _ _).elim (fun h => .inl (by omega)) fun h => .inr (by omega)
  go := fun {M H i} r hi => by
    obtain ⟨r1, r2⟩ := r
    cases r1 with
    | tup h n r =>
      cases r2 with
      | tup h' n' r' =>
        rename_i vs ws
        rw [zipD_len] at hi
        have hl : i < vs.length := by rw [r.length]; omega
        have hl' : i < ws.length := by rw [r'.length]; omega
        exact ⟨vs, ws, vs[i], ws[i], SqT.of h, SqT.of h', List.getElem?_eq_getElem hl, List.getElem?_eq_getElem hl'⟩
  yld := fun {M H H' i d x} r hm hd y => by
    obtain ⟨r1, r2⟩ := r
    cases r1 with
    | tup h n r =>
      cases r2 with
      | tup h' n' r' =>
        obtain ⟨T, y1, y2, rfl, hT, rfl, f1, f2⟩ := y
        obtain ⟨z, w, h1, h2, rfl⟩ := zipD_get hd
        obtain ⟨v, hv, rv⟩ := r.getD h1
        obtain ⟨u, hu, ru⟩ := r'.getD h2
        have e := Option.some.inj ((f1 _ (SqT.of h)).symm.trans hv)
        have e' := Option.some.inj ((f2 _ (SqT.of h')).symm.trans hu)
        subst e e'
        exact pair_rep hm hT rv ru
def dZip (f : DA) : DI := fun ρ m => (f ρ m).bind fun d m1 => match d with
  | [.lst l, .lst k] => .ok (zipD l k) m1
  | [.tup l, .tup k] => .ok (zipD l k) m1
  | _ => .bad
theorem di_zip {t : TA} {f : DA} (h : Da G E t f) : Di G E (RZ.iZipA G.K t) (dZip f) := ⟨fun {B M pm ρ m σ H} e Q p => by
  refine h.run e _ ((Post.bind p).imp' fun x H1 ⟨d1, m1, g1, r1, p1⟩ => ?_)
  have e1 := e.go g1
  split at p1
  · cases r1 with
    | cons r rs =>
      cases rs with
      | cons r' rs' =>
        cases rs'
        cases r with
        | lst q n r =>
          cases r' with
          | lst q' n' r' => exact ⟨_, _, _, _, rfl, .inl ⟨SqL.of q, SqL.of q', p1 _ _ e1.here ⟨_, wk_zipL, .lst q n r, .lst q' n' r'⟩⟩⟩
  · cases r1 with
    | cons r rs =>
      cases rs with
      | cons r' rs' =>
        cases rs'
        cases r with
        | tup q n r =>
          cases r' with
          | tup q' n' r' => exact ⟨_, _, _, _, rfl, .inr ⟨SqT.of q, SqT.of q', p1 _ _ e1.here ⟨_, wk_zipT, .tup q n r, .tup q' n' r'⟩⟩⟩
  · exact p1.elim⟩
/-! for -/
def forD (h : D → Ro → Option Ro) (body : DS) : List D → Ro → Mo → SR
  | [], ρ, m => .nx ρ m
  | d :: r, ρ, m => match h d ρ with
    | none => .bad
    | some ρ1 => match body ρ1 m with
      | .nx ρ2 m2 => forD h body r ρ2 m2
      | .ct ρ2 m2 => forD h body r ρ2 m2
      | .bk ρ2 m2 => .nx ρ2 m2
      | x => x
def sFor (f : DI) (h : D → Ro → Option Ro) (body : DS) : DS := fun ρ m => sBind (f ρ m) fun ds m1 => forD h body ds ρ m1
theorem ds_for {wi : TI} {g : TG} {tb : TS} {fi : DI} {h : D → Ro → Option Ro} {fb : DS} {os : List Nat} (hi : Di G E wi fi) (hg : Dg G g h os) (hb : Ds G E tb fb) : Ds G E (tFor wi g tb) (sFor fi h fb) := ⟨fun {B M pm ρ m σ H} e Z p => by
  refine hi.run e _ ((PostS.bind e p).imp' fun J H1 ⟨ds, m1, g1, ⟨I, wk, hI⟩, p1⟩ => ?_)
  have e1 := e.go g1
  refine ⟨fun i n σ' H' => n = ds.length - i ∧ i ≤ ds.length ∧ ∃ M' pm' ρ' m', EnvR G B M' pm' ρ' m' σ' H' ∧ Stp M H1 M' H' ∧ I M' H' ∧ PostS G E B M' H' (forD h fb (ds.drop i) ρ' m') Z,
    ⟨ds.length, by omega, Nat.zero_le _, M, pm, ρ, m1, e1, .refl, hI, p1⟩, ?_⟩
  rintro i n σ' H' ⟨rfl, hile, M', pm', ρ', m', e', s', I', p'⟩
  by_cases hlt : i < ds.length
  · refine .inr ⟨wk.go I' hlt, fun σ2 H2 => ∃ M2 pm2 ρ2 m2, EnvR G B M2 pm2 ρ2 m2 σ2 H2 ∧ Stp M H1 M2 H2 ∧ I M2 H2 ∧ PostS G E B M2 H2 (forD h fb (ds.drop (i + 1)) ρ2 m2) Z, ?_, ?_⟩
    · rintro σ2 H2 ⟨M2, pm2, ρ2, m2, e2, s2, I2, p2⟩
      exact ⟨ds.length - (i + 1), by omega, rfl, by omega, M2, pm2, ρ2, m2, e2, s2, I2, p2⟩
    · intro x H2 hy
      obtain ⟨x2, r2⟩ := wk.yld I' e'.hm (List.getElem?_eq_getElem hlt) hy
      have g2 := e'.same x2
      have e2 := e'.go g2
      have st2 := e'.stp g2
      rw [List.drop_eq_getElem_cons hlt] at p'
      unfold forD at p'
      cases hρ : h ds[i] ρ' with
      | none =>
        rw [hρ] at p'
        exact p'.elim
      | some ρ1 =>
        rw [hρ] at p'
        dsimp only at p'
        refine hg.run e2 r2 hρ _ fun σ3 e3 _ => hb.run e3 _ ?_
        have s03 : Stp M' H' M' H2 := st2
        cases hb' : fb ρ1 m' with
        | nx ρ2 m2 =>
          rw [hb'] at p'
          intro M4 pm4 σ4 H4 e4 s4
          exact ⟨M4, pm4, ρ2, m2, e4, (s'.trans s03).trans s4, wk.keep I' (s03.trans s4), PostS.later p' (s03.trans s4)⟩
        | ct ρ2 m2 =>
          rw [hb'] at p'
          intro M4 pm4 σ4 H4 e4 s4
          exact ⟨M4, pm4, ρ2, m2, e4, (s'.trans s03).trans s4, wk.keep I' (s03.trans s4), PostS.later p' (s03.trans s4)⟩
        | bk ρ2 m2 =>
          rw [hb'] at p'
          intro M4 pm4 σ4 H4 e4 s4
          exact p' M4 pm4 σ4 H4 e4 (s03.trans s4)
        | bad => rw [hb'] at p'; exact p'
        | rt d m2 => rw [hb'] at p'; exact p'
        | exc c l m2 => rw [hb'] at p'; exact p'
  · have hi' : i = ds.length := by omega
    subst hi'
    rw [List.drop_length] at p'
    exact .inl ⟨wk.stop I', p' M' pm' σ' H' e' .refl⟩⟩
/-! while, with a bound of its turns -/
def whileD (c : DT) (body : DS) : Nat → DS
  | 0, _, _ => .bad
  | n + 1, ρ, m => sBind (c ρ m) fun b m1 => if b = true then match body ρ m1 with
      | .nx ρ2 m2 => whileD c body n ρ2 m2
      | .ct ρ2 m2 => whileD c body n ρ2 m2
      | .bk ρ2 m2 => .nx ρ2 m2
      | x => x
    else .nx ρ m1
theorem ds_while {tc : TT} {tb : TS} {fc : DT} {fb : DS} (n : Nat) (hc : Dt G E tc fc) (hb : Ds G E tb fb) : Ds G E (tWhile tc tb) (whileD fc fb n) := ⟨fun {B M pm ρ m σ H} e Z p => by
  refine ⟨fun k σ' H' => ∃ M' pm' ρ' m', EnvR G B M' pm' ρ' m' σ' H' ∧ PostS G E B M' H' (whileD fc fb k ρ' m') Z, ⟨n, M, pm, ρ, m, e, p⟩, ?_⟩
  rintro k σ' H' ⟨M', pm', ρ', m', e', p'⟩
  cases k with
  | zero => exact p'.elim
  | succ k =>
    unfold whileD at p'
    refine hc.run e' _ ((PostS.bind e' p').imp' fun b H1 ⟨d1, m1, g1, r1, p1⟩ => ?_)
    subst r1
    have e1 := e'.go g1
    cases b with
    | false => exact p1 M' pm' σ' H1 e1 .refl
    | true =>
      rw [if_pos rfl] at p1
      refine iteT ⟨fun σ2 H2 => ∃ M2 pm2 ρ2 m2, EnvR G B M2 pm2 ρ2 m2 σ2 H2 ∧ PostS G E B M2 H2 (whileD fc fb k ρ2 m2) Z, fun σ2 H2 q => ⟨k, Nat.lt_succ_self k, q⟩, ?_⟩
      refine hb.run e1 _ ?_
      cases hb' : fb ρ' m1 with
      | nx ρ2 m2 =>
        rw [hb'] at p1
        exact fun M4 pm4 σ4 H4 e4 s4 => ⟨M4, pm4, ρ2, m2, e4, PostS.later p1 s4⟩
      | ct ρ2 m2 =>
        rw [hb'] at p1
        exact fun M4 pm4 σ4 H4 e4 s4 => ⟨M4, pm4, ρ2, m2, e4, PostS.later p1 s4⟩
      | bk ρ2 m2 =>
        rw [hb'] at p1
        exact fun M4 pm4 σ4 H4 e4 s4 => p1 M4 pm4 σ4 H4 e4 s4
      | bad => rw [hb'] at p1; exact p1
      | rt d m2 => rw [hb'] at p1; exact p1
      | exc c l m2 => rw [hb'] at p1; exact p1⟩
end
end Dn
namespace Dn
open PySem PySem.Spec PyProof.Rows L2

/-! comprehensions -/
def wipeD (ρ : Ro) (vs : List Nat) : Ro := vs.foldr (fun v r => r.set v none) ρ
section
variable {G : Cl} {E : XK} {B : Bx} {M : AP} {pm : Nat → Addr} {ρ : Ro} {m m' : Mo} {σ : L2.St} {H H' : Hp}
theorem EnvR.keepσ {σ' : L2.St} (e : EnvR G B M pm ρ m σ H) (hl : σ'.length = σ.length) (hk : ∀ (i : Nat) (s : Sv), ρ[i]? = some (some s) → σ'[i]? = σ[i]?) : EnvR G B M pm ρ m σ' H :=
  ⟨e.em, e.hl, e.ea, e.eh, hl.trans e.len, fun i d h => by rw [hk i _ h]; exact e.sv i d h, fun i d h => by rw [hk i _ h]; exact e.sl i d h, fun i k h => by rw [hk i _ h]; exact e.sk i k h, fun i k h => by rw [hk i _ h]; exact e.sn i k h, e.inj, e.fr, e.xs, e.mr, e.mx, e.mut, e.ext, e.tb, e.tt⟩
theorem EnvR.wipe : ∀ {vs : List Nat}, EnvR G B M pm ρ m σ H → EnvR G B M pm (wipeD ρ vs) m (L2.wipe σ vs) H
  | [], e => e
  | v :: vs, e => by
    have e1 := EnvR.wipe (vs := vs) e
    have e2 := e1.clr (i := v)
    have ew : L2.wipe σ (v :: vs) = (L2.wipe σ vs).set v none := rfl
    refine e2.keepσ (by rw [ew, List.length_set]) fun i s h => ?_
    have hi : v ≠ i := fun z => by
      subst z
      have h' : ((wipeD ρ vs).set v none)[v]? = some (some s) := h
      by_cases hl : v < (wipeD ρ vs).length
      · rw [List.getElem?_set_self hl] at h'
        cases h'
      · rw [List.getElem?_eq_none (by simpa using hl)] at h'
        cases h'
    rw [ew]
    exact List.getElem?_set_ne hi
theorem wipe_twice {σ : L2.St} {vs : List Nat} : L2.wipe (L2.wipe σ vs) vs = L2.wipe σ vs := by
  apply List.ext_getElem?
  intro j
  rw [wipe_get, wipe_get, wipe_length]
  by_cases h : j ∈ vs
  · rw [if_pos h, if_pos h]
  · rw [if_neg h, if_neg h]
/-- something more that others may change -/
def Bx.plus (B : Bx) (p : Addr) : Bx := { B with X := fun b => B.X b ∨ b = p }
theorem EnvR.plus {p : Addr} {o : HO} (e : EnvR G B M pm ρ m σ H) (hp : H p = none) (t : ∀ ps, o ≠ .tbl ps) : EnvR G (B.plus p) (fun b => M b ∨ b = p) pm ρ m σ (upd H p o) := by
  have n := Liv.none hp
  obtain ⟨o1, o2, o3⟩ := e.offX n
  have x : Ext Non H (upd H p o) := Ext.new hp
  have up : ∀ {v : V} {d : D}, Rep G B.ad M H v d → Rep G B.ad (fun b => M b ∨ b = p) (upd H p o) v d := fun {v d} r => (r.off n).ext x fun _ z => z.elim
  have ups : ∀ {v : List V} {d : List D}, Reps G B.ad M H v d → Reps G B.ad (fun b => M b ∨ b = p) (upd H p o) v d := fun {v d} r => (r.off n).ext x fun _ z => z.elim
  have ne : ∀ {b : Addr} {u : HO}, H b = some u → upd H p o b = some u := fun {b u} q => by
    rw [upd_ne (ne_of_none q hp)]
    exact q
  have lp : Liv (upd H p o) p := ⟨o, upd_same, t⟩
  refine ⟨fun b h => ?_, fun b h => ?_, e.ea, e.eh, e.len, fun i d h => ?_, fun i ds h => ?_, fun i l h => ?_, fun i l h => ?_, e.inj, fun i hi => ⟨(e.fr i hi).1, fun z => z.elim (e.fr i hi).2 fun q => ?_⟩, fun b hb => ?_, (e.mr.off n).ext x, fun b hb z => z.elim (e.mx b hb) fun q => o3 (q ▸ hb), e.mut, ?_, tabs_upd e.tb (.none hp), e.tt⟩
  · rcases h with h | (h | h) | h
    · exact .inl (e.em b (.inl h))
    · exact .inl (e.em b (.inr (.inl h)))
    · exact .inr h
    · exact .inl (e.em b (.inr (.inr h)))
  · rcases h with h | h
    · exact (e.hl b h).ext x fun z => z
    · rw [h]
      exact lp
  · obtain ⟨v, h1, h2⟩ := e.sv i d h
    exact ⟨v, h1, up h2⟩
  · obtain ⟨v, h1, h2, h3⟩ := e.sl i ds h
    exact ⟨v, h1, ne h2, ups h3⟩
  · obtain ⟨v, h1, h2, h3, h4⟩ := e.sk i l h
    exact ⟨v, h1, ne h2, h3, ups h4⟩
  · obtain ⟨v, h1, h2, h3, h4, h5⟩ := e.sn i l h
    exact ⟨v, h1, ne h2, h3, ups h4, ups h5⟩
  · exact n (q ▸ e.hl (pm i) (e.em _ (.inr (.inr ⟨i, hi, rfl⟩))))
  · rcases hb with hb | hb
    · exact (e.xs b hb).ext x fun z => z
    · rw [hb]
      exact lp
  · exact e.ext.trans (x.imp fun _ z => z.elim)
/-- what others may change has been changed -/
theorem EnvR.chgX {p : Addr} {o : HO} (e : EnvR G B M pm ρ m σ H) (hp : B.X p) (h0 : ¬ Liv B.H0 p) (t : ∀ ps, o ≠ .tbl ps) (f : Fre H p) : EnvR G B M pm ρ m σ (upd H p o) := by
  have hM : M p := e.em p (.inr (.inl hp))
  have x : Ext (fun b => b = p) H (upd H p o) := Ext.refl.chg (.inr rfl)
  have ap : ∀ b, b = p → M b := fun b h => h ▸ hM
  have nA : ¬ B.A p := fun z => e.mx p z hp
  have ne : ∀ {b : Addr}, b ≠ p → upd H p o b = H b := fun h => upd_ne h
  have lv : ∀ {b : Addr}, Liv H b → Liv (upd H p o) b := fun {b} l => by
    by_cases q : b = p
    · rw [q]
      exact ⟨o, upd_same, t⟩
    · obtain ⟨u, h1, h2⟩ := l
      exact ⟨u, by rw [ne q]; exact h1, h2⟩
  refine ⟨e.em, fun b hb => lv (e.hl b hb), e.ea, e.eh, e.len, fun i d h => ?_, fun i ds h => ?_, fun i l h => ?_, fun i l h => ?_, e.inj, e.fr, fun b hb => lv (e.xs b hb), e.mr.mono x ap (fun _ h => h) fun b hb z => nA (by rw [← e.eh, ← z]; exact hb), e.mx, e.mut, ?_, tabs_upd e.tb f, e.tt⟩
  · obtain ⟨v, h1, h2⟩ := e.sv i d h
    exact ⟨v, h1, h2.ext x ap⟩
  · obtain ⟨v, h1, h2, h3⟩ := e.sl i ds h
    exact ⟨v, h1, by rw [ne (fun z : pm i = p => (e.fr i ⟨_, h, rfl⟩).2 (by rw [z]; exact hp))]; exact h2, h3.ext x ap⟩
  · obtain ⟨v, h1, h2, h3, h4⟩ := e.sk i l h
    exact ⟨v, h1, by rw [ne (fun z : pm i = p => (e.fr i ⟨_, h, rfl⟩).2 (by rw [z]; exact hp))]; exact h2, h3, h4.ext x ap⟩
  · obtain ⟨v, h1, h2, h3, h4, h5⟩ := e.sn i l h
    exact ⟨v, h1, by rw [ne (fun z : pm i = p => (e.fr i ⟨_, h, rfl⟩).2 (by rw [z]; exact hp))]; exact h2, h3, h4.ext x ap, h5.ext x ap⟩
  · exact e.ext.chg (.inl h0)
def wipeR (vs : List Nat) (ρ : Ro) : Ro := wipeD ρ vs
/-- the items that are kept, in a list -/
def lcD (h : D → Ro → Option Ro) (tt : DT) (fe : DE) : List D → Ro → Mo → R (List D)
  | [], _, m => .ok [] m
  | d :: r, ρ, m => match h d ρ with
    | none => .bad
    | some ρ1 => match tt ρ1 m with
      | .ok true m1 => match fe ρ1 m1 with
        | .ok x m2 => (lcD h tt fe r ρ m2).bind fun xs m3 => .ok (x :: xs) m3
        | _ => .bad
      | .ok false m1 => lcD h tt fe r ρ m1
      | _ => .bad
def dLc (fi : DI) (h : D → Ro → Option Ro) (tt : DT) (fe : DE) (vs : List Nat) : Ro → Mo → R (List D) := fun ρ m => (fi ρ m).bind fun ds m1 => if ds.length ≤ 100000 then lcD h tt fe ds (wipeD ρ vs) m1 else .bad
theorem dt_yes : Dt G E tYes (fun _ m => .ok true m) := ⟨fun e Q p => p _ _ e.here rfl⟩
theorem ok_bind {α β : Type} {r : R α} {k : α → Mo → R β} {x : β} {mx : Mo} (h : r.bind k = .ok x mx) : ∃ a m1, r = .ok a m1 ∧ k a m1 = .ok x mx := by
  cases r with
  | bad => cases h
  | ok a m1 => exact ⟨a, m1, rfl, h⟩
  | exc c l m' => cases h
abbrev E00 : XK := fun _ _ _ => False
theorem lcD_exc {h : D → Ro → Option Ro} {tt : DT} {fe : DE} {c : Nat} {l : List D} {mx : Mo} : ∀ (ds : List D) (ρ : Ro) (m : Mo), lcD h tt fe ds ρ m ≠ .exc c l mx
  | [], _, _ => fun z => by cases z
  | d :: r, ρ, m => fun z => by
    unfold lcD at z
    split at z
    · cases z
    · split at z
      · split at z
        · rename_i x m2 _
          cases q : lcD h tt fe r ρ m2 with
          | bad => rw [q] at z; cases z
          | ok a m' => rw [q] at z; cases z
          | exc c' l' m' => exact lcD_exc r _ _ q
        · cases z
      · exact lcD_exc r _ _ z
      · cases z
theorem lc_core {wi : TI} {g : TG} {tt : TT} {te : TE} {fi : DI} {h : D → Ro → Option Ro} {ft : DT} {fe : DE} {os vs : List Nat} (hi : Di G E wi fi) (hg : Dg G g h os) (ht : Dt G E00 tt ft) (he : De G E00 te fe) (hos : ∀ i ∈ os, i ∈ vs)
    (e : EnvR G B M pm ρ m σ H) (Q : VK) (p : PostM G E B M H (fun m' H' v xs => ∃ D vs', v = .ref D ∧ ¬ Liv H D ∧ H' D = some (.lst vs') ∧ Reps G B.ad (fun b => M b ∨ b = D) H' vs' xs ∧ MRep G (fun b => M b ∨ b = D) H' m') (dLc fi h ft fe vs ρ m) Q) : tLc wi g tt te vs σ H Q := by
  refine hi.run e _ ((PostM.bind p).imp' fun J H1 ⟨ds, m1, g1, ⟨I, wk, hI⟩, p1⟩ => ?_)
  have e1 := e.go g1
  split at p1
  rotate_left
  · exact p1.elim
  rename_i hlen
  intro D hD
  have xD : Ext Non H1 (upd H1 D (.lst [])) := Ext.new hD
  have eP := (e1.plus (o := .lst []) hD (fun ps z => by cases z))
  have offD := e1.offX (Liv.none hD)
  have eW := eP.wipe (vs := vs)
  have st0 : Stp M H1 (fun b => M b ∨ b = D) (upd H1 D (.lst [])) := ⟨xD.imp fun _ z => z.elim, fun b hb => hb.elim .inl fun z => .inr (by rw [z]; exact Liv.none hD)⟩
  cases hxs : lcD h ft fe ds (wipeD ρ vs) m1 with
  | bad =>
    rw [hxs] at p1
    exact p1.elim
  | exc c l mx => exact (lcD_exc ds _ _ hxs).elim
  | ok xs mx =>
    rw [hxs] at p1
    refine ⟨fun i n H' => n = ds.length - i ∧ i ≤ ds.length ∧ ∃ m' done left vs', done ++ left = xs ∧ lcD h ft fe (ds.drop i) (wipeD ρ vs) m' = .ok left mx ∧ EnvR G (B.plus D) (fun b => M b ∨ b = D) pm (wipeD ρ vs) m' (L2.wipe σ vs) H' ∧ Stp M H1 (fun b => M b ∨ b = D) H' ∧ I (fun b => M b ∨ b = D) H' ∧
        H' D = some (.lst vs') ∧ done.length ≤ i ∧ Reps G B.ad (fun b => M b ∨ b = D) H' vs' done ∧ Ext B.A H1 H',
      ⟨ds.length, by omega, Nat.zero_le _, m1, [], xs, [], rfl, hxs, eW, st0, wk.keep hI st0, upd_same, Nat.le_refl _, .nil, xD.imp fun _ z => z.elim⟩, ?_⟩
    rintro i n H' ⟨rfl, hile, m', done, left, vs', hdl, hl, e', s', I', hD', hdn, hr, xx⟩
    by_cases hlt : i < ds.length
    · refine .inr ⟨wk.go I' hlt, fun H2 => ∃ m2 done left vs2, done ++ left = xs ∧ lcD h ft fe (ds.drop (i + 1)) (wipeD ρ vs) m2 = .ok left mx ∧ EnvR G (B.plus D) (fun b => M b ∨ b = D) pm (wipeD ρ vs) m2 (L2.wipe σ vs) H2 ∧ Stp M H1 (fun b => M b ∨ b = D) H2 ∧ I (fun b => M b ∨ b = D) H2 ∧
          H2 D = some (.lst vs2) ∧ done.length ≤ i + 1 ∧ Reps G B.ad (fun b => M b ∨ b = D) H2 vs2 done ∧ Ext B.A H1 H2, ?_, ?_⟩
      · rintro H2 ⟨m2, done, left, vs2, a1, a2, a3, a4, a5, a6, a7, a8, a9⟩
        exact ⟨ds.length - (i + 1), by omega, rfl, by omega, m2, done, left, vs2, a1, a2, a3, a4, a5, a6, a7, a8, a9⟩
      · intro x H2 hy
        obtain ⟨x2, r2⟩ := wk.yld I' e'.hm (List.getElem?_eq_getElem hlt) hy
        have g2 := e'.same x2
        have e2 := e'.go g2
        rw [List.drop_eq_getElem_cons hlt] at hl
        unfold lcD at hl
        cases hρ : h ds[i] (wipeD ρ vs) with
        | none =>
          rw [hρ] at hl
          cases hl
        | some ρ1 =>
          rw [hρ] at hl
          dsimp only at hl
          refine hg.run e2 r2 hρ _ fun σ3 e3 w3 => ⟨?_, ?_⟩
          · rw [w3 vs hos]
            exact wipe_twice
          · refine ht.run e3 _ ?_
            cases hb : ft ρ1 m' with
            | bad => rw [hb] at hl; cases hl
            | exc c l m4 => rw [hb] at hl; cases hl
            | ok b m4 =>
              rw [hb] at hl
              intro b' H4 g4 hbb
              subst hbb
              have e4 := e2.go g4
              have s4 : Stp M H1 (fun b => M b ∨ b = D) H4 := (s'.trans (e'.stp g2)).trans (e2.stp g4)
              have I4 := wk.keep I' ((e'.stp g2).trans (e2.stp g4))
              have nD : ¬ (B.plus D).A D := offD.2.2
              have hD4 : H4 D = some (.lst vs') := g4.x _ _ nD (fun ps z => by cases z) (x2.k _ _ (fun z => z) (fun ps z => by cases z) hD')
              have hr4 : Reps G B.ad (fun b => M b ∨ b = D) H4 vs' done := (hr.ext x2.k fun _ z => z.elim).ext g4.x e2.aM
              have xx4 : Ext B.A H1 H4 := (xx.trans (x2.k.imp fun _ z => z.elim)).trans g4.x
              cases b' with
              | false =>
                refine iteF ?_
                exact ⟨m4, done, left, vs', hdl, hl, e4, s4, I4, hD4, Nat.le_succ_of_le hdn, hr4, xx4⟩
              | true =>
                refine iteT ?_
                have hl' : (match fe ρ1 m4 with
                  | .ok x m2 => (lcD h ft fe (ds.drop (i + 1)) (wipeD ρ vs) m2).bind fun xs m3 => R.ok (x :: xs) m3
                  | _ => .bad) = .ok left mx := hl
                have e34 := e3.go g4
                refine he.run e34 _ ?_
                cases hv : fe ρ1 m4 with
                | bad => rw [hv] at hl'; cases hl'
                | exc c l m5 => rw [hv] at hl'; cases hl'
                | ok z m5 =>
                  rw [hv] at hl'
                  obtain ⟨tl, m6, q1, q2⟩ := ok_bind hl'
                  cases q2
                  intro v H5 g5 rv
                  have e5 := e4.go g5
                  have hD5 : H5 D = some (.lst vs') := g5.x _ _ nD (fun ps z => by cases z) hD4
                  have hr5 : Reps G B.ad (fun b => M b ∨ b = D) H5 vs' done := hr4.ext g5.x e4.aM
                  refine ⟨vs', hD5, ?_, ?_⟩
                  · rw [hr5.length]
                    exact Nat.lt_of_le_of_lt hdn (Nat.lt_of_lt_of_le hlt (Nat.le_trans hlen (by decide)))
                  · have hXD : (B.plus D).X D := .inr rfl
                    have e6 := e5.chgX (o := .lst (vs' ++ [v])) hXD offD.1 (fun ps z => by cases z) (.lst hD5)
                    have x6 : Ext (fun b => M b ∨ b = D) H5 (upd H5 D (.lst (vs' ++ [v]))) := Ext.refl.chg (.inr (.inr rfl))
                    have s6 : Stp (fun b => M b ∨ b = D) H5 (fun b => M b ∨ b = D) (upd H5 D (.lst (vs' ++ [v]))) := ⟨x6, fun _ h => .inl h⟩
                    refine ⟨m5, done ++ [z], tl, vs' ++ [v], by rw [← hdl]; simp, q1, e6, (s4.trans (e4.stp g5)).trans s6, wk.keep I4 ((e4.stp g5).trans s6), upd_same, by simp; omega, ((hr5.append (.one rv)).ext x6 fun _ h => h), ?_⟩
                    exact (xx4.trans g5.x).chg (.inl (Liv.none hD))
    · have hi' : i = ds.length := by omega
      subst hi'
      rw [List.drop_length] at hl
      unfold lcD at hl
      cases hl
      rw [List.append_nil] at hdl
      subst hdl
      exact .inl ⟨wk.stop I', p1 _ _ ⟨xx, e'.ea, e'.eh, e'.mr.less fun b h => .inl h, e'.tb⟩ ⟨D, vs', rfl, none_back e g1 hD, hD', hr, e'.mr⟩⟩
theorem de_lc {wi : TI} {g : TG} {tt : TT} {te : TE} {fi : DI} {h : D → Ro → Option Ro} {ft : DT} {fe : DE} {os vs : List Nat} (hi : Di G E wi fi) (hg : Dg G g h os) (ht : Dt G E00 tt ft) (he : De G E00 te fe) (hos : ∀ i ∈ os, i ∈ vs) :
    De G E (tLc wi g tt te vs) (fun ρ m => (dLc fi h ft fe vs ρ m).map .lst) := ⟨fun {B M pm ρ m σ H} e Q p => by
  refine lc_core hi hg ht he hos e Q ((Post.bindM p).imp' fun v H' ⟨xs, m1, g1, ⟨D, vs', hv, hD, hD', hr, hmr⟩, p1⟩ => ?_)
  subst hv
  have e' := e.go g1
  have nM : ¬ M D := fun z => hD (e.hl D z)
  exact p1 _ _ e'.here (.lst hD' nM (hr.less fun b h => .inl h))⟩
theorem dv_lc {wi : TI} {g : TG} {tt : TT} {te : TE} {fi : DI} {h : D → Ro → Option Ro} {ft : DT} {fe : DE} {os vs : List Nat} (hi : Di G E wi fi) (hg : Dg G g h os) (ht : Dt G E00 tt ft) (he : De G E00 te fe) (hos : ∀ i ∈ os, i ∈ vs) :
    Dv G E (tLc wi g tt te vs) (fun ρ m => (dLc fi h ft fe vs ρ m).map .ml) := ⟨fun {B M pm ρ m σ H} e Q p => by
  refine lc_core hi hg ht he hos e Q ((PostM.bindM p).imp' fun v H' ⟨xs, m1, g1, ⟨D, vs', hv, hD, hD', hr, hmr⟩, p1⟩ => ?_)
  subst hv
  exact p1 _ _ (e.go g1).here ⟨D, rfl, hD, ⟨vs', hD', hr⟩, hmr⟩⟩
end
end Dn
namespace Dn
open PySem PySem.Spec PyProof.Rows L2

/-! calls, with nothing that is being shown -/
structure RG (k : Nat) (A : Around) : Prop where
  rm : Room k A
  gd : A.guards = some []
theorem RG.less {j k : Nat} {A : Around} (r : RG k A) (h : j ≤ k) : RG j A := ⟨r.rm.mono h, r.gd⟩
theorem RG.down {k : Nat} {A : Around} (r : RG (k + 1) A) (env : Env) : RG k (A.deeper env) := ⟨r.rm.deeper env, r.gd⟩
theorem RG.made {k : Nat} {A : Around} (r : RG (k + 1) A) (C : Addr) (zs : List Value) (kw : List (Str × Value)) : RG k (A.under (.builtin "type.__call__" ⟨.ref C :: zs, kw⟩)) :=
  ⟨r.rm.make C zs kw, by
    have e := r.gd
    simp [Around.under, e, pushGuards, Code.guards, Code.isGuard, guardIds]⟩
/-- a def's promise, whatever called it -/
def FnA (P : Program) (w : World) (K : PySem.W.Frag) (mg : Str → Option Value) (base : Heap) (k : Nat) (f : Addr) (sp : Sp) : Prop :=
  ∀ (A : Around) (out : List Env) (s : Shared) (H : Hp) (zs : List Value) (vs : List V) (Q : VK) (E : XK), RG k A → Env0 P w K mg base A out s H → Vals vs zs → sp vs H Q E →
    codeAny (model P w) A (.call (.ref f) ⟨zs, []⟩) (CR (L2.CX P w) out P w H s Q E) s
section
variable {P : Program} {w : World} {K : PySem.W.Frag} {mg : Str → Option Value} {base : Heap} {j k : Nat} {f : Addr} {sp sp' : Sp}
theorem FnA.less (F : FnA P w K mg base j f sp) (h : j ≤ k) : FnA P w K mg base k f sp := fun A out s H zs vs Q E hr => F A out s H zs vs Q E (hr.less h)
theorem FnA.imp (F : FnA P w K mg base k f sp) (h : ∀ vs H Q E, sp' vs H Q E → sp vs H Q E) : FnA P w K mg base k f sp' := fun A out s H zs vs Q E hr e r q => F A out s H zs vs Q E hr e r (h vs H Q E q)
/-- a def by its body -/
theorem fnA_of {x qual : Str} {st : Stmt} {fd : FuncData} {N ps : List Str} (F : Fun K x qual st f fd) (S : FnScope N ps (defScope st)) (hbi : Binds K fd ps [])
    (hbody : ∀ (cdv : Value) (A : Around) (out : List Env) (s : Shared) (H : Hp) (vs : List V) (Q : VK) (E : XK), RG k (A.deeper (envOfC qual (defScope st) s.heap.objs.size f cdv)) → sp vs H Q E → vs.length = ps.length ∧
      ∃ t, PSs (cxOf (L2.CX P w) P w K mg base N qual (defScope st) f cdv A out s H E) (defBody st) t ∧ t { nx := fun _ H' => Q .non H', rt := Q } (start N vs) H) :
    FnA P w K mg base (k + 1) f sp := by
  intro A out s H zs vs Q E hr env hv hsp
  obtain ⟨oc, od, kV, doc, pm, an, cdv, ct, osl, hfd, lk, hcd⟩ := F.ex
  have hdown := hr.down (envOfC qual (defScope st) s.heap.objs.size f cdv)
  obtain ⟨hlen, t, ht, hq⟩ := hbody cdv A out s H vs Q E hdown hsp
  have hzl : zs.length = ps.length := hv.length.symm.trans hlen
  have KX : K.In s.heap := env.mod.kin.keeps fun b o q => (env.bs b o q).1
  have lim : s.heap.NoLimit := env.mod.nolimit.keeps fun b o q => (env.bs b o q).1
  have hk1 : ∀ y ∈ ps.zip zs, (defScope st).names.lookup y.1 = some .local ∨ ((defScope st).names.lookup y.1 = some .cell ∧ ((cellsFrom (s.heap.objs.size + 1) (defScope st).names []).lookup y.1).isSome = true) := by
    rintro ⟨n, v⟩ hy
    exact (S.par n (List.of_mem_zip hy).1).imp id fun q => ⟨q, PySem.W.cellsFrom_some _ _ _ (.inl q)⟩
  have hbb := hbi s zs KX (by simpa using hzl)
  rw [List.append_nil] at hbb
  subst hfd
  refine codeAny_call_function hr.rm.depth (KX _ _ lk) rfl S.co S.gen rfl (PySem.W.codeRec_of KX hcd) (hbb _ _ _ _ ?_)
  refine wpAny_newFunctionEnv_cells S.kind hk1 fun en hen s1 cl => ?_
  subst hen
  refine ⟨lim.keeps cl.toInCall.keep, codeAny_func ?_⟩
  have I := inv_start (CX := L2.CX P w) (P := P) (E := E) S hr.rm.hd env hlen hv cl
  refine wpAny_mono (ht.run [] s1 (start N vs) H _ I hq) (fun fl s' hs => ?_) fun e s' hs => hs
  cases fl with
  | ret u =>
    obtain ⟨v, σ', H', J, rv, q⟩ := hs
    exact ⟨v, H', J.os, J.bare, J.base, J.hok, rv, q⟩
  | next =>
    obtain ⟨σ', H', J, q⟩ := hs
    exact ⟨.non, H', J.os, J.bare, J.base, J.hok, rfl, q⟩
  | brk => exact hs.elim fun _ z => z.elim fun _ z => z.2.elim
  | cont => exact hs.elim fun _ z => z.elim fun _ z => z.2.elim
end
section
variable {X : Cx} {k : Nat} {f C : Addr} {sp : Sp} {E : XK} {x m : Str} {p pos apos : Pos} {e o : Expr} {es : List Expr} {ta : TE} {t : TA}
/-- the callee below what runs -/
theorem runA {pins : List (Addr × Obj)} {σ : L2.St} {H : Hp} {s : Shared} {Q : VK} {zs : List Value} {vs : List V} {A : Around} (F : FnA X.prog X.w X.K X.mg X.base k f sp) (hr : RG k A) (he : Env0 X.prog X.w X.K X.mg X.base A X.stack s H) (hx : Passes (L2.CX X.prog X.w) X E)
    (I : Inv X pins σ H s) (r : Vals vs zs) (h : sp vs H Q E) : codeAny (model X.prog X.w) A (.call (.ref f) ⟨zs, []⟩) (fun r s' => match r with
      | .ok (.ret v) => EP X pins σ Q v s'
      | .ok _ => False
      | .error e => X.xe e s') s := by
  refine codeAny_mono (F A X.stack s H zs vs Q E hr he r h) fun res s' hq => ?_
  match res, hq with
  | .error u, hq => exact hx pins σ H s u s' I hq
  | .ok (.ret u), hq => exact I.after hq
  | .ok .next, hq => exact hq.elim
  | .ok .brk, hq => exact hq.elim
  | .ok .cont, hq => exact hq.elim
/-- f(e, ..) -/
def tCallA (sp : Sp) (E : XK) (t : TA) : TE := fun σ H Q => t σ H fun vs H1 => sp vs H1 Q E
theorem pe_callA (F : FnA X.prog X.w X.K X.mg X.base k f sp) (hr : RG k X.A) (hg : Gl X x) (hm : X.mg x = some (.ref f)) (hk : PySem.W.keepIn X.K (.ref f) = true) (hx : Passes (L2.CX X.prog X.w) X E)
    (ha : PA X (e :: es) t) (hdb : (x == ("__debug__" : Str)) = false := by decide) (hst : starEach (e :: es) X.env = (false, eval e X.env) :: starEach es X.env := by rfl) (hpl : (backTo pos (starEach es X.env)).any (·.1) = false := by rfl) :
    PE X (.Call (.Name x p) (e :: es) [] pos) (tCallA sp E t) := ⟨fun pins s σ H Q I h => by
  refine wpAny_Call_Name_kw (ld_glob I hg hm ?_ hdb)
  refine PySem.W.callWith_K (h₀ := X.base) I.ok.mod.kin hk (thn (ha.run pos pins s σ H _ I h) fun zs s1 ⟨vs, H1, J, r, q⟩ => ⟨J.kIn, ?_⟩) hst hpl
  exact wpAny_call (runA F hr J.env0 hx J r q)⟩
theorem pe_callA0 (F : FnA X.prog X.w X.K X.mg X.base k f sp) (hr : RG k X.A) (hg : Gl X x) (hm : X.mg x = some (.ref f)) (hk : PySem.W.keepIn X.K (.ref f) = true) (hx : Passes (L2.CX X.prog X.w) X E)
    (hdb : (x == ("__debug__" : Str)) = false := by decide) : PE X (.Call (.Name x p) [] [] pos) (tCallA sp E tNil) := ⟨fun pins s σ H Q I h => by
  refine wpAny_Call_Name_kw (ld_glob I hg hm ?_ hdb)
  exact PySem.W.callWith_K0 I.kIn hk (wpAny_call (runA (zs := []) F hr I.env0 hx I .nil h))⟩
/-- o.m(e, ..) of an instance with slots -/
theorem pe_methA {pl : Sem Bool} (he : PE X o ta) (c : SlX.SCls X.K C) (hm : Meth X.K C m f) (F : FnA X.prog X.w X.K X.mg X.base k f sp) (hr : RG k X.A) (hx : Passes (L2.CX X.prog X.w) X E) (ha : PA X (e :: es) t)
    (hst : starEach (e :: es) X.env = (false, eval e X.env) :: starEach es X.env := by rfl) (hpl : (backTo pos (starEach es X.env)).any (·.1) = false := by rfl)
    (ht : eval (.Call (.Attribute o m apos) (e :: es) [] pos) X.env = (do
      let v ← eval o X.env
      standAt apos.atName
      let (g, one) ← holding [v] (getMethod v m pl)
      callWith pos g one (backTo pos (starEach (e :: es) X.env)) (backToKw pos (keywordEach [] X.env))) := by rfl) :
    PE X (.Call (.Attribute o m apos) (e :: es) [] pos) (SlX.tMethSl C sp E ta t) := ⟨fun pins s σ H Q I h => by
  refine PySem.W.methodCall_KW (pl := pl) (thn (he.run pins s σ H _ I h) fun u s1 ⟨z, H1, J, rz, a, dx, sl, ez, hsl, q⟩ => ?_) ht
  subst ez
  cases (show u = Value.ref a from rz)
  refine SlX.getmethsl_ok J hsl c hm ?_
  refine PySem.W.callWith_K (first := [.ref a]) (h₀ := X.base) I.ok.mod.kin hm.kp (thn (ha.run pos pins s1 σ H1 _ J q) fun zs s2 ⟨ws, H2, L, r, q2⟩ => ⟨L.kIn, ?_⟩) hst hpl
  exact wpAny_call (runA (zs := .ref a :: zs) (vs := .ref a :: ws) F hr L.env0 hx L (.cons rfl r) q2)⟩
theorem pe_methA0 {pl : Sem Bool} (he : PE X o ta) (c : SlX.SCls X.K C) (hm : Meth X.K C m f) (F : FnA X.prog X.w X.K X.mg X.base k f sp) (hr : RG k X.A) (hx : Passes (L2.CX X.prog X.w) X E)
    (ht : eval (.Call (.Attribute o m apos) [] [] pos) X.env = (do
      let v ← eval o X.env
      standAt apos.atName
      let (g, one) ← holding [v] (getMethod v m pl)
      callWith pos g one (backTo pos (starEach [] X.env)) (backToKw pos (keywordEach [] X.env))) := by rfl) :
    PE X (.Call (.Attribute o m apos) [] [] pos) (SlX.tMethSl C sp E ta tNil) := ⟨fun pins s σ H Q I h => by
  refine PySem.W.methodCall_KW (pl := pl) (thn (he.run pins s σ H _ I h) fun u s1 ⟨z, H1, J, rz, a, dx, sl, ez, hsl, q⟩ => ?_) ht
  subst ez
  cases (show u = Value.ref a from rz)
  refine SlX.getmethsl_ok J hsl c hm ?_
  exact PySem.W.callWith_K0 (first := [.ref a]) J.kIn hm.kp (wpAny_call (runA (zs := [.ref a]) (vs := [.ref a]) F hr J.env0 hx J (.cons rfl .nil) q))⟩
/-- C(e, ..) -/
theorem pe_makeA (M : Mk X.K C f) (F : FnA X.prog X.w X.K X.mg X.base k f sp) (hr : RG (k + 1) X.A) (hg : Gl X x) (hm : X.mg x = some (.ref C)) (hx : Passes (L2.CX X.prog X.w) X E) (ha : PA X (e :: es) t) (hdb : (x == ("__debug__" : Str)) = false := by decide)
    (hst : starEach (e :: es) X.env = (false, eval e X.env) :: starEach es X.env := by rfl) (hpl : (backTo pos (starEach es X.env)).any (·.1) = false := by rfl) : PE X (.Call (.Name x p) (e :: es) [] pos) (StX.tMakeR C sp E t) := ⟨fun pins s σ H Q I h => by
  refine wpAny_Call_Name_kw (ld_glob I hg hm ?_ hdb)
  refine PySem.W.callWith_K (h₀ := X.base) I.ok.mod.kin M.kp (thn (ha.run pos pins s σ H _ I h) fun zs s1 ⟨vs, H1, J, r, q⟩ => ⟨J.kIn, ?_⟩) hst hpl
  have top : s1.heap.objs.size < s1.heap.objs.size + 1 := Nat.lt_succ_self _
  have hq := q (s1.heap.objs.size + 1) s1.heap.objs.size (J.hok.fresh (Nat.le_of_lt top)) (J.hok.fresh (Nat.le_refl _)) (Nat.ne_of_lt top)
  have L := Inv.made (C := C) J
  refine wpAny_call (make_map (f := f) J.kIn M.makes M.init (beq_iff_eq.mp M.fn) (codeAny_mono (F _ X.stack _ _ (Value.ref (s1.heap.objs.size + 1) :: zs) (V.ref (s1.heap.objs.size + 1) :: vs) _ E (hr.made C zs []) (L.env0.make C zs []) (.cons rfl r) hq) fun res s' z => ?_))
  match res, z with
  | .error u, z => exact hx pins σ _ _ u s' L z
  | .ok .next, z => exact z.elim
  | .ok .brk, z => exact z.elim
  | .ok .cont, z => exact z.elim
  | .ok (.ret u), z =>
    obtain ⟨v, H', I3, rv, ev, q3⟩ := L.after z
    subst ev
    exact ⟨rv, ⟨V.ref (s1.heap.objs.size + 1), H', I3, rfl, q3⟩⟩⟩
/-- x == y of instances with slots, by the class's def -/
theorem op_ownA {g : Addr} {op : CmpOp} (hop : ∀ a b, compareOp op a b = richCompare op a b) (hs : PySem.W.findIn X.K (.ref C) (cmpInfo op).2.1 = some (some (.ref g))) (hf : PySem.W.isFn X.K (.ref g) = true) (F : FnA X.prog X.w X.K X.mg X.base k g sp)
    (hr : RG k X.A) (hx : Passes (L2.CX X.prog X.w) X E) : OpR X (compareOp op) (SlX.rOwn X.K C sp E) := by
  intro pins s σ H x y v u Q I rx ry h
  obtain ⟨a, dx, vs, b, C', dy, ws, rfl, rfl, ha, hb, hn, q⟩ := h
  cases (show v = Value.ref a from rx)
  cases (show u = Value.ref b from ry)
  obtain ⟨_, _, _, J, _⟩ := SlX.slt_inst I ha
  obtain ⟨_, _, _, J', _⟩ := SlX.slt_inst I hb
  obtain ⟨_, hF⟩ := I.fr
  rw [hop]
  refine PySem.W.cmp_K (op := op) (tb := .ref C') hr.rm.units0 hF I.ok.mod.kin J J'.type hn hs hf ?_
  refine wpAny_mono (wpAny_call (runA (zs := [.ref a, .ref b]) (vs := [.ref a, .ref b]) F hr I.env0 hx I (.cons rfl (.cons rfl .nil)) q)) (fun z s' ⟨z', H', I', rz, qz⟩ => ?_) fun _ _ i => i
  exact SlX.cmpback rz ⟨z', H', I', rz, qz⟩
end
end Dn
namespace Dn
open PySem PySem.Spec PyProof.Rows L2 PySem.W PySem.Calls Builtin

/-! len of an instance -/
section
variable {prog : Program} {w : World} {A : Around} {E : Value → Shared → Prop} {s : Shared} {K : PySem.W.Frag} {x C f : Addr} {ox : Obj} {odd : Option Obj}
theorem len_own {Q : Value → Shared → Prop} (X : K.In s.heap) (I : PySem.W.InstAt s.heap x ox C odd) (hs : PySem.W.findIn K (.ref C) "__len__" = some (some (.ref f))) (hf : PySem.W.isFn K (.ref f) = true)
    (h : wpAny (model prog w) A.in1 (call (.ref f) [.ref x]) (fun r s₁ => ∃ (n : Nat) (u : Tok), r = Value.int n u ∧ (n : Int) < 2 ^ 63 ∧ Q (.int n s₁.toks) { s₁ with toks := s₁.toks + 1 }) E s) : wpAny (model prog w) A (call (.builtin "len") [.ref x]) Q E s := by
  refine Calls.call_function_entry kind_len plain_len entry_len (args_len1 _) ?_
  unfold Builtin.«len»
  refine wpAny_bind (m := oneArg "len" _) (wpAny_pure ?_)
  refine wpAny_bind (m := callSpecial? (.ref x) (PySem.Str.ofString "__len__")) (PySem.W.special_fn X I hs (beq_iff_eq.mp hf) (wpAny_mono h (fun r s' hr => ?_) fun _ _ y => y))
  obtain ⟨n, u, rfl, hz, hq⟩ := hr
  refine wpAny_bind (wpAny_holding (wpAny_pure ?_))
  refine wpAny_bind (wpAny_letGo ?_)
  show wpAny _ _ (if ((n : Nat) : Int) < 0 then _ else _) _ _ _
  rw [if_neg (by omega)]
  show wpAny _ _ (if ((n : Nat) : Int) ≥ 2 ^ 63 then _ else _) _ _ _
  rw [if_neg (by omega)]
  exact wpAny_bind (wpAny_mkInt (wpAny_pure ⟨_, rfl, hq⟩))
end
theorem RG.in1 {k : Nat} {A : Around} (r : RG (k + 1) A) : RG k A.in1 := ⟨r.rm.in1, r.gd⟩
section
variable {X : Cx} {k : Nat} {C g : Addr} {sp : Sp} {E : XK}
/-- len(x), x an instance with slots -/
def rLenOwn (C : Addr) (sp : Sp) (E : XK) : List V → Hp → VK → Prop := fun xs H Q => ∃ a dx vs, xs = [V.ref a] ∧ SlX.Slt H a C dx vs ∧ sp [.ref a] H (fun z H' => ∃ n : Nat, z = .int n ∧ (n : Int) < 2 ^ 63 ∧ Q z H') E
theorem call_lenOwn (hs : PySem.W.findIn X.K (.ref C) "__len__" = some (some (.ref g))) (hf : PySem.W.isFn X.K (.ref g) = true) (F : FnA X.prog X.w X.K X.mg X.base k g sp) (hr : RG (k + 1) X.A) (hx : Passes (L2.CX X.prog X.w) X E) : CallR X (.builtin "len") (rLenOwn C sp E) := by
  intro pins s σ H xs zs Q I r h
  obtain ⟨a, dx, vs, rfl, hsl, q⟩ := h
  cases r with
  | cons ra rt =>
    cases rt
    cases ra
    obtain ⟨_, _, _, J, _⟩ := SlX.slt_inst I hsl
    refine len_own I.kIn J hs hf (wpAny_mono (wpAny_call (runA (zs := [.ref a]) (vs := [.ref a]) F hr.in1 I.env0.in1 hx I (.cons rfl .nil) q)) (fun z s' hz => ?_) fun _ _ i => i)
    obtain ⟨z', H', I', rz, n, en, hn, qz⟩ := hz
    subst en
    obtain ⟨t, et⟩ := (show ∃ t, z = Value.int n t from rz)
    exact ⟨n, t, et, hn, .int n, H', I'.tok _, ⟨_, rfl⟩, qz⟩
end
end Dn
namespace Dn
open PySem PySem.Spec PyProof.Rows L2

/-! promises by data -/
abbrev DF := List D → Mo → R D
def bxOf (G : Cl) (H : Hp) (M : AP) (m : Mo) : Bx := { H0 := H, X := fun b => M b ∧ ¬ m.has b, ad := m.ad, A := m.has, T := G.T }
structure Start (G : Cl) (M : AP) (m : Mo) (H : Hp) : Prop where
  mr : MRep G M H m
  aM : ∀ b, m.has b → M b
  hl : ∀ b, M b → Liv H b
  tb : LamX.Tabs G.T H
def spD (G : Cl) (n : Nat) (F : DF) : Sp := fun vs H Q E => ∃ (M : AP) (ds : List D) (m : Mo), ds.length = n ∧ Reps G m.ad M H vs ds ∧ Start G M m H ∧ Post G E (bxOf G H M m) M H (Rep G m.ad M) (F ds m) Q
def ro0 (N : Nat) (ds : List D) : Ro := ds.map (fun d => some (Sv.v d)) ++ List.replicate (N - ds.length) none
def runD (N : Nat) (f : DS) : DF := fun ds m => match f (ro0 N ds) m with
  | .nx _ m' => .ok .non m'
  | .rt d m' => .ok d m'
  | .exc c l m' => .exc c l m'
  | _ => .bad
section
variable {G : Cl} {E : XK} {B : Bx} {M : AP} {pm : Nat → Addr} {ρ : Ro} {m m' : Mo} {σ : L2.St} {H H' : Hp}
theorem ro0_get {N : Nat} {ds : List D} {i : Nat} {s : Sv} (h : (ro0 N ds)[i]? = some (some s)) : ∃ d, ds[i]? = some d ∧ s = .v d := by
  unfold ro0 at h
  by_cases hi : i < ds.length
  · rw [List.getElem?_append_left (by simpa using hi), List.getElem?_map] at h
    cases q : ds[i]? with
    | none => rw [q] at h; cases h
    | some d =>
      rw [q] at h
      cases h
      exact ⟨d, rfl, rfl⟩
  · rw [List.getElem?_append_right (by simpa using hi), List.getElem?_replicate] at h
    split at h <;> cases h
theorem start_get {N : List Str} {vs : List V} {i : Nat} {v : V} (h : vs[i]? = some v) : (L2.start N vs)[i]? = some (some v) := by
  obtain ⟨hi, _⟩ := List.getElem?_eq_some_iff.mp h
  unfold L2.start
  rw [List.getElem?_append_left (by simpa using hi), List.getElem?_map, h]
  rfl
theorem env_start {N : List Str} {vs : List V} {ds : List D} (st : Start G M m H) (r : Reps G m.ad M H vs ds) (pm : Nat → Addr) : EnvR G (bxOf G H M m) M pm (ro0 N.length ds) m (L2.start N vs) H := by
  have nm : ∀ i, ¬ isM (ro0 N.length ds) i := fun i ⟨s, h1, h2⟩ => by
    obtain ⟨d, _, rfl⟩ := ro0_get h1
    cases h2
  refine ⟨fun b h => ?_, st.hl, rfl, rfl, ?_, fun i d h => ?_, fun i ds h => (nm i ⟨_, h, rfl⟩).elim, fun i l h => (nm i ⟨_, h, rfl⟩).elim, fun i l h => (nm i ⟨_, h, rfl⟩).elim, fun i j h => (nm i h).elim, fun i h => (nm i h).elim, fun b h => st.hl b h.1, st.mr, fun b h z => z.2 h, fun i h => (nm i h).elim, .refl, st.tb, rfl⟩
  · rcases h with h | h | ⟨i, h, _⟩
    · exact st.aM b h
    · exact h.1
    · exact (nm i h).elim
  · have e := r.length
    unfold L2.start ro0
    simp only [List.length_append, List.length_map, List.length_replicate]
    omega
  · obtain ⟨d', h1, h2⟩ := ro0_get h
    cases h2
    obtain ⟨v, hv, rv⟩ := r.getD h1
    exact ⟨v, start_get hv, rv⟩
theorem bx_cover {b : Addr} (h : MB (bxOf G H M m) b) (st : Start G M m H) : M b := h.elim (st.aM b) fun z => z.1
theorem bx_back {b : Addr} (h : M b) : MB (bxOf G H M m) b := by
  by_cases q : m.has b
  · exact .inl q
  · exact .inr ⟨h, q⟩
/-- a body keeps its promise -/
theorem body_keeps {N : List Str} {vs : List V} {t : TS} {f : DS} {n : Nat} {Q : VK} (hd : Ds G E t f) (h : spD G n (runD N.length f) vs H Q E) : vs.length = n ∧ t { nx := fun _ H' => Q .non H', rt := Q } (L2.start N vs) H := by
  obtain ⟨M, ds, m, hn, r, st, p⟩ := h
  refine ⟨r.length.trans hn, hd.run (env_start st r fun _ => 0) _ ?_⟩
  unfold runD at p
  cases q : f (ro0 N.length ds) m with
  | bad => rw [q] at p; exact p
  | nx ρ m' =>
    rw [q] at p
    exact fun M' pm σ H' e s => p _ _ ⟨e.ext, e.ea, e.eh, e.mr.less fun b hb => e.mb b (bx_back hb), e.tb⟩ .non
  | rt d m' =>
    rw [q] at p
    exact fun v H' g rv => p v H' (g.less fun b hb => bx_back hb) (rv.less fun b hb => bx_back hb)
  | bk ρ m' => rw [q] at p; exact p.elim
  | ct ρ m' => rw [q] at p; exact p.elim
  | exc c l m' =>
    rw [q] at p
    exact fun cls dd H' g hx => p cls dd H' (g.less fun b hb => bx_back hb) (hx.less fun b hb => bx_back hb)
theorem fnD {P : Program} {w : World} {K : PySem.W.Frag} {mg : Str → Option Value} {base : Heap} {k : Nat} {f : Addr} {x qual : Str} {st : Stmt} {fd : FuncData} {N ps : List Str} {fb : DS} (F : Fun K x qual st f fd) (S : FnScope N ps (defScope st)) (hbi : Binds K fd ps [])
    (hbody : ∀ (cdv : Value) (A : Around) (out : List Env) (s : Shared) (H : Hp) (E : XK), RG k (A.deeper (envOfC qual (defScope st) s.heap.objs.size f cdv)) →
      ∃ t, PSs (cxOf (L2.CX P w) P w K mg base N qual (defScope st) f cdv A out s H E) (defBody st) t ∧ Ds G E t fb) :
    FnA P w K mg base (k + 1) f (spD G ps.length (runD N.length fb)) := fnA_of F S hbi fun cdv A out s H vs Q E hr h => by
  obtain ⟨t, h1, h2⟩ := hbody cdv A out s H E hr
  obtain ⟨e1, e2⟩ := body_keeps h2 h
  exact ⟨e1, t, h1, e2⟩
end
section
variable {G : Cl} {E : XK}
theorem Go.up {B : Bx} {M : AP} {pm : Nat → Addr} {ρ : Ro} {m m' : Mo} {σ : L2.St} {H H' : Hp} (e : EnvR G B M pm ρ m σ H) (g : Go G (bxOf G H M m) M m' H H') : Go G B M m' H H' := ⟨g.x.imp fun b hb => by rw [← e.eh]; exact hb, g.ea.trans e.ea, g.eh.trans e.eh, g.mr, by rw [e.tt]; exact g.tb⟩
theorem EnvR.start {B : Bx} {M : AP} {pm : Nat → Addr} {ρ : Ro} {m : Mo} {σ : L2.St} {H : Hp} (e : EnvR G B M pm ρ m σ H) : Start G M m H := ⟨e.mr, fun b hb => e.aM b (by rw [← e.eh]; exact hb), e.hl, by rw [← e.tt]; exact e.tb⟩
/-- a caller's wish is a callee's -/
theorem Post.down {B : Bx} {M : AP} {pm : Nat → Addr} {ρ : Ro} {m : Mo} {σ : L2.St} {H : Hp} {r : R D} {Q : VK} (e : EnvR G B M pm ρ m σ H) (p : Post G E B M H (Rep G B.ad M) r Q) : Post G E (bxOf G H M m) M H (Rep G m.ad M) r Q := by
  cases r with
  | bad => exact p
  | ok a m' => exact fun v H' g rv => p v H' (Go.up e g) (by rw [← e.ea]; exact rv)
  | exc c l m' => exact fun cls dd H' g hx => p cls dd H' (Go.up e g) (by rw [← e.ea]; exact hx)
def dCall (n : Nat) (F : DF) (fa : DA) : DE := fun ρ m => (fa ρ m).bind fun ds m1 => if ds.length = n then F ds m1 else .bad
theorem de_call {n : Nat} {F : DF} {t : TA} {fa : DA} (ha : Da G E t fa) : De G E (tCallA (spD G n F) E t) (dCall n F fa) := ⟨fun {B M pm ρ m σ H} e Q p => by
  refine ha.run e _ ((Post.bind p).imp' fun vs H1 ⟨ds, m1, g1, r1, p1⟩ => ?_)
  have e1 := e.go g1
  split at p1
  · rename_i hn
    exact ⟨M, ds, m1, hn, by rw [e1.ea]; exact r1, e1.start, p1.down e1⟩
  · exact p1.elim⟩
/-- o.m(..) -/
def dMeth (c n : Nat) (F : DF) (fo : DE) (fa : DA) : DE := fun ρ m => (fo ρ m).bind fun x m1 => match x with
  | .obj c' d => if c' = c then (fa ρ m1).bind fun ds m2 => if ds.length + 1 = n then F (.obj c' d :: ds) m2 else .bad
    else .bad
  | _ => .bad
theorem Rep.slt {ad : Ad} {M : AP} {H : Hp} {x : V} {c : Nat} {d : D} (r : Rep G ad M H x (.obj c d)) : ∃ a dx v, x = .ref a ∧ SlX.Slt H a (G.cl c) dx [some v] ∧ ¬ M a ∧ Rep G ad M H v d := by
  cases r with
  | obj h hx n nx r => exact ⟨_, _, _, rfl, .inr ⟨h, hx⟩, n, r⟩
theorem de_meth {c n : Nat} {F : DF} {to : TE} {t : TA} {fo : DE} {fa : DA} (ho : De G E to fo) (ha : Da G E t fa) : De G E (SlX.tMethSl (G.cl c) (spD G n F) E to t) (dMeth c n F fo fa) := ⟨fun {B M pm ρ m σ H} e Q p => by
  refine ho.run e _ ((Post.bind p).imp' fun x H1 ⟨d, m1, g1, r1, p1⟩ => ?_)
  have e1 := e.go g1
  split at p1
  · split at p1
    · rename_i c' d' hc
      subst hc
      obtain ⟨a, dx, v, rfl, hs, _, _⟩ := r1.slt
      refine ⟨a, dx, _, rfl, hs, ha.run e1 _ ((Post.bind p1).imp' fun vs H2 ⟨ds, m2, g2, r2, p2⟩ => ?_)⟩
      have e2 := e1.go g2
      split at p2
      · rename_i hn
        exact ⟨M, _ :: ds, m2, hn, by rw [e2.ea]; exact .cons (r1.ext g2.x e.aM) r2, e2.start, p2.down e2⟩
      · exact p2.elim
    · exact p1.elim
  · exact p1.elim⟩
/-- o.f of an instance -/
def dFld (c : Nat) (fo : DE) : DE := fun ρ m => (fo ρ m).bind fun x m1 => match x with
  | .obj c' d => if c' = c then .ok d m1 else .bad
  | _ => .bad
theorem de_fld {c : Nat} {to : TE} {fo : DE} {f : Str} {p : Addr} (ho : De G E to fo) (sc : SlX.SCls G.K (G.cl c)) (sl : SlX.Slot1 G.K (G.cl c) f p 0) : De G E (SlX.tSl G.K to f) (dFld c fo) := ⟨fun {B M pm ρ m σ H} e Q q => by
  refine ho.run e _ ((Post.bind q).imp' fun x H1 ⟨d, m1, g1, r1, p1⟩ => ?_)
  have e1 := e.go g1
  split at p1
  · split at p1
    · rename_i c' d' hc
      subst hc
      obtain ⟨a, dx, v, rfl, hs, _, rv⟩ := r1.slt
      exact ⟨a, _, dx, p, _, 0, v, rfl, hs, sc, sl, rfl, p1 _ _ e1.here rv⟩
    · exact p1.elim
  · exact p1.elim⟩
/-- len(o) of an instance -/
def dLenOwn (c : Nat) (F : DF) (fa : DA) : DE := fun ρ m => (fa ρ m).bind fun ds m1 => match ds with
  | [.obj c' d] => if c' = c then (F [.obj c' d] m1).bind fun z m2 => match z with
      | .int i => if 0 ≤ i ∧ i < 1000000 then .ok (.int i) m2 else .bad
      | _ => .bad
    else .bad
  | _ => .bad
theorem Post.seq {B : Bx} {M : AP} {pm : Nat → Addr} {ρ : Ro} {m : Mo} {σ : L2.St} {H : Hp} {r : R D} {k : D → Mo → R D} {Q : VK} (e : EnvR G B M pm ρ m σ H) (p : Post G E B M H (Rep G B.ad M) (r.bind k) Q) :
    Post G E (bxOf G H M m) M H (Rep G m.ad M) r (fun v H1 => ∃ a m1, Go G B M m1 H H1 ∧ Rep G B.ad M H1 v a ∧ Post G E B M H1 (Rep G B.ad M) (k a m1) Q) := Post.down e (Post.bind p)
theorem de_lenOwn {c : Nat} {F : DF} {t : TA} {fa : DA} (ha : Da G E t fa) : De G E (tCB (rLenOwn (G.cl c) (spD G 1 F) E) t) (dLenOwn c F fa) := ⟨fun {B M pm ρ m σ H} e Q q => by
  refine ha.run e _ ((Post.bind q).imp' fun vs H1 ⟨ds, m1, g1, r1, p1⟩ => ?_)
  have e1 := e.go g1
  split at p1
  · split at p1
    · rename_i c' d' hc
      subst hc
      cases r1 with
      | cons r rs =>
        cases rs
        obtain ⟨a, dx, v, rfl, hs, _, rv⟩ := r.slt
        refine ⟨a, dx, _, rfl, hs, M, [_], m1, rfl, by rw [e1.ea]; exact .cons r .nil, e1.start, (Post.seq e1 p1).imp' fun z H2 ⟨d2, m2, g2, r2, p2⟩ => ?_⟩
        have e2 := e1.go g2
        split at p2
        · split at p2
          · rename_i i hi
            cases r2
            exact ⟨i.toNat, by rw [Int.toNat_of_nonneg hi.1], by omega, p2 _ _ e2.here (.int _)⟩
          · exact p2.elim
        · exact p2.elim
    · exact p1.elim
  · exact p1.elim⟩
/-! making an instance with one slot: self.f = e behind a check -/
def initD (f1 fv : DE) : DF := fun ds m => match ds with
  | [d] => (f1 [none, some (.v d)] m).bind fun _ m1 => fv [none, some (.v d)] m1
  | _ => .bad
/-- __init__'s promise: a, dx are in M already -/
def spI (G : Cl) (c : Nat) (F : DF) : Sp := fun vs H Q E => ∃ (M : AP) (d : D) (m : Mo) (a dx : Addr) (v : V), vs = [.ref a, v] ∧ H a = some (.ins (G.cl c) dx []) ∧ H dx = some (.own a) ∧ dx ≠ a ∧ M a ∧ M dx ∧ ¬ m.has a ∧ ¬ m.has dx ∧ Rep G m.ad M H v d ∧ Start G M m H ∧
  Post G E (bxOf G H M m) M H (Rep G m.ad M) (F [d] m) (fun y H2 => H2 a = some (.ins (G.cl c) dx []) ∧ Q .non (SlX.slH H2 a (G.cl c) dx [some y]))
theorem init_keeps {c : Nat} {te tv : TE} {f1 fv : DE} {fld : Str} {p : Addr} {N : List Str} {vs : List V} {H : Hp} {Q : VK} (h1 : De G E te f1) (hv : De G E tv fv) (sc : SlX.SCls G.K (G.cl c)) (sl : SlX.Slot1 G.K (G.cl c) fld p 0) (hN : N.length = 2)
    (h : spI G c (initD f1 fv) vs H Q E) : vs.length = 2 ∧ tSeq (tDrop te) (SlX.sSl G.K (tVar 0) tv fld) { nx := fun _ H' => Q .non H', rt := Q } (L2.start N vs) H := by
  obtain ⟨M, d, m, a, dx, v, rfl, ha, hdx, ne, Ma, Mdx, na, ndx, rv, st, q⟩ := h
  have es : L2.start N [V.ref a, v] = [some (.ref a), some v] := by
    unfold L2.start
    rw [hN]
    rfl
  have e : EnvR G (bxOf G H M m) M (fun _ => 0) [none, some (.v d)] m [some (.ref a), some v] H := by
    have nm : ∀ i, ¬ isM [none, some (.v d)] i := fun i ⟨s, h1, h2⟩ => by
      match i, h1 with
      | 1, h1 =>
        cases h1
        cases h2
    refine ⟨fun b h => ?_, st.hl, rfl, rfl, rfl, fun i d' h => ?_, fun i ds h => (nm i ⟨_, h, rfl⟩).elim, fun i l h => (nm i ⟨_, h, rfl⟩).elim, fun i l h => (nm i ⟨_, h, rfl⟩).elim, fun i j h => (nm i h).elim, fun i h => (nm i h).elim, fun b h => st.hl b h.1, st.mr, fun b h z => z.2 h, fun i h => (nm i h).elim, .refl, st.tb, rfl⟩
    · rcases h with h | h | ⟨i, h, _⟩
      · exact st.aM b h
      · exact h.1
      · exact (nm i h).elim
    · match i, h with
      | 1, h =>
        cases h
        exact ⟨v, rfl, rv⟩
  refine ⟨rfl, ?_⟩
  rw [es]
  refine h1.run e _ ((Post.bind q).imp' fun x H1 ⟨d1, m1, g1, r1, p1⟩ => ?_)
  have e1 := e.go g1
  refine hv.run e1 _ (p1.imp' fun y H2 z => ?_)
  exact ⟨.ref a, rfl, a, G.cl c, dx, p, [], 0, rfl, .inl ⟨z.1, rfl⟩, sc, sl, z.2⟩
def dMake (c : Nat) (F : DF) (fa : DA) : DE := fun ρ m => (fa ρ m).bind fun ds m1 => match ds with
  | [d] => (F [d] m1).bind fun z m2 => .ok (.obj c z) m2
  | _ => .bad
theorem de_make {c : Nat} {F : DF} {t : TA} {fa : DA} (ha : Da G E t fa) : De G E (StX.tMakeR (G.cl c) (spI G c F) E t) (dMake c F fa) := ⟨fun {B M pm ρ m σ H} e Q q => by
  refine ha.run e _ ((Post.bind q).imp' fun vs H1 ⟨ds, m1, g1, r1, p1⟩ => ?_)
  have e1 := e.go g1
  split at p1
  · rename_i d
    obtain ⟨v, rfl, r⟩ : ∃ v, vs = [v] ∧ Rep G B.ad M H1 v d := match r1 with
      | .cons r .nil => ⟨_, rfl, r⟩
    · skip
      intro a dx hna hndx ne
      have la := Liv.none hna
      have ldx := Liv.none hndx
      obtain ⟨_, _, nAa⟩ := e1.offX la
      obtain ⟨_, _, nAdx⟩ := e1.offX ldx
      have y0 : ExN H1 (upd H1 dx (.own a)) := ExN.new hndx
      have hna' : upd H1 dx (.own a) a = none := by rw [upd_ne (Ne.symm ne)]; exact hna
      have y1 : ExN H1 (upd (upd H1 dx (.own a)) a (.ins (G.cl c) dx [])) := y0.trans (ExN.new hna')
      have x1 : Ext Non H1 (upd (upd H1 dx (.own a)) a (.ins (G.cl c) dx [])) := y1.k
      have e2 := e1.go (e1.same y1)
      have la1 : upd (upd H1 dx (.own a)) a (.ins (G.cl c) dx []) a = some (.ins (G.cl c) dx []) := upd_same
      have ldx1 : upd (upd H1 dx (.own a)) a (.ins (G.cl c) dx []) dx = some (.own a) := by rw [upd_ne ne]; exact upd_same
      have eA : m1.has = B.A := e1.eh
      refine ⟨fun b => (M b ∨ b = a) ∨ b = dx, d, m1, a, dx, v, rfl, la1, ldx1, ne, .inl (.inr rfl), .inr rfl, by rw [eA]; exact nAa, by rw [eA]; exact nAdx, ?_, ⟨((e1.mr.off la).off ldx).ext x1, fun b hb => .inl (.inl (e2.aM b (by rw [← eA]; exact hb))), fun b hb => ?_, by rw [← e2.tt]; exact e2.tb⟩, ?_⟩
      · rw [e1.ea]
        exact ((r.off la).off ldx).ext x1 fun _ z => z.elim
      · rcases hb with (hb | hb) | hb
        · exact e2.hl b hb
        · rw [hb]
          exact ⟨_, la1, fun ps z => by cases z⟩
        · rw [hb]
          exact ⟨_, ldx1, fun ps z => by cases z⟩
      · have lift : ∀ {m' : Mo} {H' : Hp}, Go G (bxOf G (upd (upd H1 dx (.own a)) a (.ins (G.cl c) dx [])) (fun b => (M b ∨ b = a) ∨ b = dx) m1) (fun b => (M b ∨ b = a) ∨ b = dx) m' (upd (upd H1 dx (.own a)) a (.ins (G.cl c) dx [])) H' → Go G B M m' H1 H' := fun {m' H'} g =>
          ⟨(x1.imp fun _ z => z.elim).trans (g.x.imp fun b hb => by rw [← eA]; exact hb), g.ea.trans e1.ea, g.eh.trans eA, g.mr.less fun b hb => .inl (.inl hb), by rw [e1.tt]; exact g.tb⟩
        cases q1 : F [d] m1 with
        | bad => rw [q1] at p1; exact p1
        | exc cc l m' =>
          rw [q1] at p1
          exact fun cls dd H' g hx => p1 cls dd H' (lift g) (by rw [← e1.ea]; exact hx.less fun b hb => .inl (.inl hb))
        | ok z m' =>
          rw [q1] at p1
          intro y H' g ry
          have g' := lift g
          have ha' : H' a = some (.ins (G.cl c) dx []) := g.x _ _ (by show ¬ m1.has a; rw [eA]; exact nAa) (fun ps z => by cases z) la1
          have hdx' : H' dx = some (.own a) := g.x _ _ (by show ¬ m1.has dx; rw [eA]; exact nAdx) (fun ps z => by cases z) ldx1
          refine ⟨ha', rfl, ?_⟩
          have xs : Ext (fun b => (M b ∨ b = a) ∨ b = dx) H' (SlX.slH H' a (G.cl c) dx [some y]) := (Ext.refl.chg (.inr (.inr rfl))).chg (.inr (.inl (.inr rfl)))
          have xb : Ext B.A H1 (SlX.slH H' a (G.cl c) dx [some y]) := (g'.x.chg (.inl ldx)).chg (.inl la)
          have fdx : Fre H' dx := .own hdx'
          have fa : ∀ {u : HO}, Fre (upd H' dx u) a := fun {u} => .ins (C := G.cl c) (d := dx) (fs := []) (by rw [upd_ne (Ne.symm ne)]; exact ha')
          have xq : Ext (fun b => b = a ∨ b = dx) H' (SlX.slH H' a (G.cl c) dx [some y]) := (Ext.refl.chg (.inr (.inr rfl))).chg (.inr (.inl rfl))
          have eh : m'.has = B.A := g.eh.trans eA
          have mr : MRep G M (SlX.slH H' a (G.cl c) dx [some y]) m' := g.mr.mono xq (fun b hb => hb.elim (fun z => .inl (.inr z)) fun z => .inr z) (fun b hb => .inl (.inl hb)) fun b hb z => z.elim (fun z => nAa (by rw [← eh, ← z]; exact hb)) fun z => nAdx (by rw [← eh, ← z]; exact hb)
          refine p1 _ _ ⟨xb, g'.ea, g'.eh, mr, tabs_upd (tabs_upd g'.tb fdx) fa⟩ (.obj (dx := dx) (v := y) upd_same (by unfold SlX.slH; rw [upd_ne ne, upd_same]) (fun z => la (e1.hl a z)) (fun z => ldx (e1.hl dx z)) ?_)
          have r3 := ry.ext xs fun b hb => hb
          rw [← e1.ea]
          exact r3.less fun b hb => .inl (.inl hb)
  · exact p1.elim⟩
end
end Dn
namespace Dn
open PySem PySem.Spec PyProof.Rows L2
open Sem (wp)

/-! enumerate of a tuple -/
def IteT (K : PySem.W.Frag) (a : Addr) : It where
  go := fun i H => ∃ (xs : List V) (x : V), SqT K H a xs ∧ xs[i]? = some x
  yld := fun i H v H' => ∃ T x, v = .ref T ∧ H T = none ∧ H' = upd H T (.tup [.int (i : Nat), x]) ∧ ∀ xs, SqT K H a xs → xs[i]? = some x
  stop := fun i H => ∃ xs : List V, SqT K H a xs ∧ xs.length = i
theorem turn_enumT {P : Program} {w : World} {K : PySem.W.Frag} {elts : List Expr} {kk : Nat} {tpos : Pos} (a e it : Addr) :
    Turn P w K (.Tuple elts kk tpos) (IteT K a) [e, it] e (fun i h => (∃ old, IsEnum h e it ((i : Nat) : Int) old) ∧ h.IsTupleIter it a i ∧ e ≠ it) where
  mem := by simp
  obj := fun i h st b hb => by
    obtain ⟨⟨old, he⟩, ⟨o, ho, hc, hd⟩, _⟩ := st
    rcases (show b = e ∨ b = it by simpa using hb) with z | z
    · rw [z]
      exact ⟨_, he, fun v q => nomatch q⟩
    · rw [z]
      exact ⟨o, ho, fun v q => by rw [hd] at q; cases q⟩
  keep := fun i h h' st k => let ⟨⟨old, he⟩, hi, hne⟩ := st; ⟨⟨old, k e (by simp) _ he⟩, hi.at fun o q => k it (by simp) o q, hne⟩
  item := by
    intro X hP hw hK hc i pins s σ H E I hf st hg
    subst hP hw hK
    obtain ⟨⟨old, he⟩, hit, hne⟩ := st
    obtain ⟨xs, x, hq, hx⟩ := hg
    obtain ⟨its, rv, p, hz⟩ := I.tuple hq
    obtain ⟨u, hu, ru⟩ := rv.get hx
    have hel : e < s.heap.objs.size := Heap.lt_size he
    have hil : it < s.heap.objs.size := by obtain ⟨_, q, _⟩ := hit; exact Heap.lt_size q
    have pt : s.heap.IsTuple a its.toArray := p
    have hai : a ≠ it := fun z => by
      obtain ⟨o, h1, h2, _⟩ := pt
      obtain ⟨o', h1', h2', _⟩ := hit
      rw [z, h1'] at h1
      cases h1
      exact absurd (Value.type.inj (h2.symm.trans h2')) (by decide)
    have hae : e ≠ a := fun z => by
      obtain ⟨o, h1, h2, _⟩ := pt
      rw [← z, he] at h1
      cases h1
      exact absurd (Value.type.inj (show Value.type "enumerate" = Value.type "tuple" from h2)) (by decide)
    have hlt : i < its.toArray.size := by
      rw [List.size_toArray]
      exact (List.getElem?_eq_some_iff.mp hu).1
    refine wpAny_pyNext_enum_itemD (Draws.tuple (A := X.A.in1) (I.ok.hd hc) it a hai its.toArray) he ⟨hit, pt⟩ hlt hne (by simp [hne, hae]) fun u2 h' tk hu2 ho hs2 hT hsz hk => ?_
    have eu : u2 = u := by
      have q : its.toArray[i]? = some u2 := hu2
      rw [List.getElem?_toArray, hu] at q
      exact (Option.some.inj q).symm
    subst eu
    refine ⟨_, rfl, wpAny_letOwnedTupleGo_enum (s := { s with heap := h', toks := tk + 1 }) ho fun h'' he' sb => ?_⟩
    have hT2 : h''.get? s.heap.objs.size = some { cls := .type "tuple", data := .seq #[.int i tk, u2] } := (sb.2 _ (Nat.ne_of_gt hel)).trans hT
    have new : ObjOk X.prog X.w (upd H s.heap.objs.size (.tup [.int (i : Nat), x])) h'' s.heap.objs.size (.tup [.int (i : Nat), x]) :=
      ⟨by show 2 ≤ sizeLine; decide, [.int i tk, u2], .cons ⟨_, rfl⟩ (.cons ru .nil), ⟨_, hT2, rfl, _, rfl⟩⟩
    have J : Inv X pins σ (upd H s.heap.objs.size (.tup [.int (i : Nat), x])) { s with heap := h'', toks := tk + 1 } :=
      I.turnedNew (ch := [e, it]) (fun b ob hb q => (sb.2 b (fun z => hb (by simp [z]))).trans (hk b ob (fun z => hb (by simp [z])) (fun z => hb (by simp [z])) q)) hf (Nat.le_refl _) new
    refine ⟨.ref s.heap.objs.size, _, J, rfl, ⟨_, x, rfl, I.hok.fresh (Nat.le_refl _), rfl, fun ys hy => by rw [I.tuple_inj hy hq]; exact hx⟩, ⟨⟨u2, ?_⟩, hs2.1.at fun o q => (sb.2 it (Ne.symm hne)).trans q, hne⟩, fun b hb => ?_⟩
    · rw [show ((i + 1 : Nat) : Int) = (i : Int) + 1 by omega]
      exact he'
    · have hb' : b < s.heap.objs.size := by
        rcases (show b = e ∨ b = it by simpa using hb) with z | z
        · rw [z]; exact hel
        · rw [z]; exact hil
      rw [upd_ne (Nat.ne_of_lt hb')]
      exact (hf b hb).1
  done := by
    intro X hP hw hK hc i pins s σ H E I hf st hg
    subst hP hw hK
    obtain ⟨⟨old, he⟩, hit, hne⟩ := st
    obtain ⟨xs, hq, hx⟩ := hg
    obtain ⟨its, rv, p, hz⟩ := I.tuple hq
    obtain ⟨f0, f1, f2, f3, f4, f5⟩ := hf it (by simp)
    have hl := rv.length
    have pt : s.heap.IsTuple a its.toArray := p
    have hai : a ≠ it := fun z => by
      obtain ⟨o, h1, h2, _⟩ := pt
      obtain ⟨o', h1', h2', _⟩ := hit
      rw [z, h1'] at h1
      cases h1
      exact absurd (Value.type.inj (h2.symm.trans h2')) (by decide)
    have en : its.toArray.size = i := by rw [List.size_toArray]; omega
    subst en
    exact wpAny_pyNext_enum_endD (Draws.tuple (A := X.A.in1) (I.ok.hd hc) it a hai its.toArray) he ⟨hit, pt⟩ fun h' eb => ⟨rfl, I.turned (t' := s.toks) (fun b o hb q => eb b o hb q) f0 f1 f3 f4 f5⟩
  self := fun A i s Q E st h => let ⟨⟨_, he⟩, _⟩ := st; wpAny_pyIter_enum he h
def iEnumU (K : PySem.W.Frag) (ta : TA) : TI := fun σ H R => ta σ H fun vs H1 => ∃ a xs, vs = [.ref a] ∧ ((SqL K H1 a xs ∧ R (Ite K a) H1) ∨ (SqT K H1 a xs ∧ R (IteT K a) H1))
set_option maxHeartbeats 1000000 in
theorem enum_new1 {v : Value} {o : Obj} {HH : Heap → Prop} (B : Begins v o HH) :
    Meets (Builtin.«enumerate.__new__» ⟨[.type "enumerate", v], []⟩) (fun _ R s => HH s.heap ∧
      R (.ok (.ret (.ref (s.heap.push o).objs.size))) { s with heap := (s.heap.push o).push { cls := .type "enumerate", data := .fields #[.none, .bool false, .ref s.heap.objs.size, rawInt 0, .none, .none] } }) :=
  .of_wp fun prog w A R s hh => by
    obtain ⟨hp, g, d, tk, os⟩ := s
    obtain ⟨h1, hR⟩ := hh
    have hsub := sub_enumerate
    have q1 : ∀ {A' : Around} {E : Value → Shared → Prop} {Q : Value → Shared → Prop}, Q (.ref hp.objs.size) ⟨hp.push o, g, d, tk, os⟩ → wpAny (model prog w) A' (pyIter v) Q E ⟨hp, g, d, tk, os⟩ :=
      fun z => B.iter prog w _ _ ⟨hp, g, d, tk, os⟩ _ h1 z
    wp_walk using q1
    refine wpAny_stack_any fun st => wpAny_pure ?_
    split
    · rename_i c _ _ _ _ _
      cases (c == Value.type "enumerate")
      · wp_walk using q1
        exact ⟨_, rfl, hR⟩
      · wp_walk using q1
        exact ⟨_, rfl, hR⟩
    · wp_walk using q1
      exact ⟨_, rfl, hR⟩
section
variable {prog : Program} {w : World} {A : Around} {E : Value → Shared → Prop} {s : Shared}
theorem call_enum_tuple {t : Addr} {items : Array Value} {Q : Value → Shared → Prop} (hT : s.heap.IsTuple t items)
    (h : ∀ h', IsEnum h' (s.heap.objs.size + 1) s.heap.objs.size 0 .none → h'.IsTupleIter s.heap.objs.size t 0 → h'.objs.size = s.heap.objs.size + 2 → (∀ b o, s.heap.get? b = some o → h'.get? b = some o) → Q (.ref (s.heap.objs.size + 1)) { s with heap := h' }) :
    wpAny (model prog w) A (call (.type "enumerate") [.ref t]) Q E s := by
  refine callType_new F.called_enumerate (by decide) (F.typeCall_enumerate_1 _) (F.newCall_enumerate_1 _) (fun obj => F.args_object_init_2 obj _) F.entry_enumerate_new (enum_new1 (begins_tuple t items)) ⟨hT, ?_⟩
  have hz : (s.heap.push { cls := .type "tuple_iterator", data := .fields #[.ref t, .int 0 0] }).objs.size = s.heap.objs.size + 1 := Heap.size_push ..
  show _ ∧ _
  rw [hz]
  have he : IsEnum ((s.heap.push { cls := .type "tuple_iterator", data := .fields #[.ref t, .int 0 0] }).push { cls := .type "enumerate", data := .fields #[.none, .bool false, .ref s.heap.objs.size, rawInt 0, .none, .none] }) (s.heap.objs.size + 1) s.heap.objs.size 0 .none := by
    have z := Heap.get?_push_size (s.heap.push { cls := .type "tuple_iterator", data := .fields #[.ref t, .int 0 0] }) (o := { cls := .type "enumerate", data := .fields #[.none, .bool false, .ref s.heap.objs.size, rawInt 0, .none, .none] }) rfl
    rw [hz] at z
    exact z
  exact ⟨⟨_, he, rfl⟩, h _ he ⟨_, Heap.get?_push_of_some _ (Heap.get?_push_size _ rfl), rfl, rfl⟩ (by rw [Heap.size_push, hz]) fun b o x => Heap.get?_push_of_some _ (Heap.get?_push_of_some _ x)⟩
end
theorem pi_enumU {X : Cx} {e : Expr} {ta : TA} {p pos tpos : Pos} {elts : List Expr} {kk : Nat} (hg : Gl X "enumerate") (hm : X.mg "enumerate" = none) (ha : PA X [e] ta) (hst : starEach [e] X.env = [(false, eval e X.env)] := by rfl) :
    PI X (.Tuple elts kk tpos) (.Call (.Name "enumerate" p) [e] [] pos) (iEnumU X.K ta) := ⟨fun pins s σ H R I h => by
  refine Call_ (ld_blt I hg hm boot_enumerate (PyProof.Rows.callWith_type1 (thn (ha.run pos pins s σ H _ I h) fun zs s1 ⟨vs, H1, J, r1, a, xs, ex, q1⟩ => ?_) hst rfl))
  subst ex
  cases r1 with
  | cons r rr =>
    cases rr
    cases r
    have fre : ∀ b : Addr, b = s1.heap.objs.size + 1 ∨ b = s1.heap.objs.size → FpOk X pins H1 b := fun b z => by
      have hle : s1.heap.objs.size ≤ b := z.elim (fun z => by rw [z]; exact Nat.le_succ _) fun z => by rw [z]; exact Nat.le_refl _
      exact J.fpOk hle (J.hok.fresh hle)
    rcases q1 with ⟨hq, q⟩ | ⟨hq, q⟩
    · obtain ⟨its, rv, p', hz⟩ := J.list hq
      refine call_enumerate_list p'.isList fun h' he hit hsz hk => wpAny_pyIter_enum he ?_
      have J2 : Inv X pins σ H1 { s1 with heap := h' } := J.kept (t' := s1.toks) hk
      exact ⟨s1.heap.objs.size + 1, [s1.heap.objs.size + 1, s1.heap.objs.size], _, _, H1, rfl, J2, turn_enum a (s1.heap.objs.size + 1) s1.heap.objs.size, ⟨⟨.none, he⟩, hit, Nat.succ_ne_self _⟩, fun b hb => fre b (by simpa using hb), q⟩
    · obtain ⟨its, rv, p', hz⟩ := J.tuple hq
      refine call_enum_tuple p' fun h' he hit hsz hk => wpAny_pyIter_enum he ?_
      have J2 : Inv X pins σ H1 { s1 with heap := h' } := J.kept (t' := s1.toks) hk
      exact ⟨s1.heap.objs.size + 1, [s1.heap.objs.size + 1, s1.heap.objs.size], _, _, H1, rfl, J2, turn_enumT a (s1.heap.objs.size + 1) s1.heap.objs.size, ⟨⟨.none, he⟩, hit, Nat.succ_ne_self _⟩, fun b hb => fre b (by simpa using hb), q⟩⟩
section
variable {G : Cl} {E : XK}
theorem wk_enumT {ad : Ad} {a : Addr} {ds : List D} : Wk G ad (IteT G.K a) (enumD 0 ds) (fun M H => Rep G ad M H (.ref a) (.tup ds)) where
  keep := fun r s => s.mono r
  stop := fun {M H} r => by
    cases r with
    | tup h n r => exact ⟨_, SqT.of h, by rw [enumD_len]; exact r.length⟩
  go := fun {M H i} r hi => by
    cases r with
    | tup h n r =>
      rename_i vs
      rw [enumD_len] at hi
      have hl : i < vs.length := by rw [r.length]; exact hi
      exact ⟨vs, vs[i], SqT.of h, List.getElem?_eq_getElem hl⟩
  yld := fun {M H H' i d x} r hm hd y => by
    cases r with
    | tup h n r =>
      obtain ⟨T, y1, rfl, hT, rfl, y⟩ := y
      obtain ⟨z, h1, rfl⟩ := enumD_get hd
      obtain ⟨v, hv, rv⟩ := r.getD h1
      have e := Option.some.inj ((y _ (SqT.of h)).symm.trans hv)
      subst e
      rw [Nat.zero_add]
      exact pair_rep hm hT (.int _) rv
def dEnumU (f : DA) : DI := fun ρ m => (f ρ m).bind fun d m1 => match d with
  | [.lst l] => .ok (enumD 0 l) m1
  | [.tup l] => .ok (enumD 0 l) m1
  | [.scr ns] => .ok (enumD 0 (ns.map D.int)) m1
  | _ => .bad
theorem di_enumU {t : TA} {f : DA} (h : Da G E t f) : Di G E (iEnumU G.K t) (dEnumU f) := ⟨fun {B M pm ρ m σ H} e Q p => by
  refine h.run e _ ((Post.bind p).imp' fun x H1 ⟨d1, m1, g1, r1, p1⟩ => ?_)
  have e1 := e.go g1
  split at p1
  · cases r1 with
    | cons r rs =>
      cases rs
      cases r with
      | lst q n r => exact ⟨_, _, rfl, .inl ⟨SqL.of q, p1 _ _ e1.here ⟨_, wk_enum, .lst q n r⟩⟩⟩
  · cases r1 with
    | cons r rs =>
      cases rs
      cases r with
      | tup q n r => exact ⟨_, _, rfl, .inr ⟨SqT.of q, p1 _ _ e1.here ⟨_, wk_enumT, .tup q n r⟩⟩⟩
  · cases r1 with
    | cons r rs =>
      cases rs
      obtain ⟨a, rfl, hs⟩ := r.scr
      exact ⟨_, _, rfl, .inl ⟨hs, p1 _ _ e1.here ⟨_, wk_enumS, r⟩⟩⟩
  · exact p1.elim⟩
end
end Dn
namespace HT
open PySem PySem.Spec PyProof.Rows L2
/-! xs[::-1] of a tuple -/
theorem fm_map {α β : Type} {f : α → Option β} {g : α → β} : ∀ {l : List α}, (∀ m ∈ l, f m = some (g m)) → l.filterMap f = l.map g
  | [], _ => rfl
  | x :: r, h => by
    rw [List.filterMap_cons, h x List.mem_cons_self, List.map_cons, fm_map fun m hm => h m (List.mem_cons_of_mem _ hm)]
theorem back_pick (xs : Array Value) : ((List.range xs.size).filterMap fun (m : Nat) => xs[(((xs.size : Nat) : Int) - 1 + (m : Int) * (-1)).toNat]?).toArray = xs.toList.reverse.toArray := by
  apply congrArg List.toArray
  apply List.ext_getElem?
  intro i
  have e : ∀ m ∈ List.range xs.size, (fun (m : Nat) => xs[(((xs.size : Nat) : Int) - 1 + (m : Int) * (-1)).toNat]?) m = (fun (m : Nat) => some (xs.toList.reverse.getD m default)) m := by
    intro m hm
    have hm' : m < xs.size := List.mem_range.mp hm
    have e1 : (((xs.size : Nat) : Int) - 1 + (m : Int) * (-1)).toNat = xs.size - 1 - m := by omega
    show xs[(((xs.size : Nat) : Int) - 1 + (m : Int) * (-1)).toNat]? = some (xs.toList.reverse.getD m default)
    rw [e1]
    have hl : xs.toList.reverse[m]? = xs.toList[xs.toList.length - 1 - m]? := List.getElem?_reverse (by simpa using hm')
    rw [List.getD_eq_getElem?_getD, hl]
    simp only [Array.length_toList, Array.getElem?_toList]
    rw [Array.getElem?_eq_getElem (by omega)]
    rfl
  rw [fm_map (g := fun (m : Nat) => xs.toList.reverse.getD m default) e]
  rw [List.getElem?_map]
  by_cases hi : i < xs.size
  · rw [List.getElem?_range hi]
    have hl : i < xs.toList.reverse.length := by simpa using hi
    rw [List.getElem?_eq_getElem hl]
    show some (xs.toList.reverse.getD i default) = _
    rw [List.getD_eq_getElem?_getD, List.getElem?_eq_getElem hl]
    rfl
  · rw [List.getElem?_eq_none (by simpa using hi), List.getElem?_eq_none (by simpa using hi)]
    rfl
section
variable {prog : Program} {w : World} {A : Around} {E : Value → Shared → Prop} {s : Shared}
theorem getItem_tuple_back {t sl : Addr} {items : Array Value} {vl vu vs : Value} {Q : Value → Shared → Prop} (ht : IsTup s.heap t items) (hs : s.heap.IsSliceOf sl vl vu vs) (pl : IsPart vl none) (pu : IsPart vu none) (ps : IsPart vs (some (-1)))
    (h : Q (.ref s.heap.objs.size) { s with heap := s.heap.push { cls := .type "tuple", data := .seq items.toList.reverse.toArray } }) (hsz : items.size ≤ sizeLine) : wpAny (model prog w) A (getItem (.ref t) (.ref sl)) Q E s := by
  have hz : sizeOk (.seq items.toList.reverse.toArray) := by
    show items.toList.reverse.toArray.size ≤ sizeLine
    rw [List.size_toArray, List.length_reverse, Array.length_toList]
    exact hsz
  obtain ⟨os, hos, hcs, hds⟩ := id hs
  have hTs : s.TypeIs (.ref sl) "slice" := ⟨os, hos, hcs⟩
  unfold getItem
  try with_reducible refine wpAny_holding ?_
  first | refine wpAny_bind (wpAny_pure ?_) | skip
  refine wpAny_bind (wpAny_sequenceKey ht.typeIs (by decide) ?_)
  refine wpAny_bind (wpAny_callSpecial?_slot (name := Str.ofString "__getitem__") ht.typeIs PyProof.Rows.slot_tuple_getitem (wpAny_call_entry PyProof.Rows.slot_tuple_getitem ht.typeIs entry_tuple_getitem ?_ (args_tuple_getitem _ _)))
  show wpAny _ _ (Builtin.Tuple.tupleItemsOf (.ref t) >>= _) _ _ s
  refine wpAny_bind (tupleItemsOf_ ht ?_)
  refine wpAny_bind (wpAny_typeOf hTs ?_)
  rw [if_pos (by decide)]
  refine wpAny_bind (wpAny_mono (show wpAny (model prog w) _ (Builtin.Slice.sliceApplied (.ref sl) (pure (items.size : Int))) (fun r s' => r = ((items.size : Int) - 1, -1, items.size) ∧ s' = s) _ s from ?_) (fun r s' hr => ?_) fun _ _ z => z)
  · unfold Builtin.Slice.sliceApplied Builtin.Slice.sliceFields
    refine wpAny_bind (wpAny_bind (wpAny_field hos hds (x := vl) rfl (wpAny_bind (wpAny_field hos hds (x := vu) rfl (wpAny_bind (wpAny_field hos hds (x := vs) rfl (wpAny_pure ?_)))))))
    refine wpAny_bind (slicePart_ ps ?_)
    show wpAny _ _ (if ((-1 : Int) == 0) = true then _ else _) _ _ s
    rw [if_neg (by decide)]
    refine wpAny_bind (slicePart_ pl (wpAny_bind (slicePart_ pu (wpAny_bind (wpAny_pure ?_)))))
    refine wpAny_pure ⟨?_, rfl⟩
    have e1 : Builtin.Slice.sliceAdjust none none (-1) (items.size : Int) = ((items.size : Int) - 1, -1) := rfl
    show ((Builtin.Slice.sliceAdjust none none (-1) (items.size : Int)).1, (-1 : Int), Builtin.Slice.slicePlaces (Builtin.Slice.sliceAdjust none none (-1) (items.size : Int)).1 (Builtin.Slice.sliceAdjust none none (-1) (items.size : Int)).2 (-1)) = _
    rw [e1]
    have e2 : Builtin.Slice.slicePlaces ((items.size : Int) - 1) (-1) (-1) = items.size := by
      unfold Builtin.Slice.slicePlaces
      have h1 : ¬ ((-1 : Int) > 0) := by omega
      simp only [h1, if_false]
      rw [show (-(-1) : Int) = 1 from rfl, Int.ediv_one]
      split <;> omega
    rw [e2]
  · obtain ⟨rfl, rfl⟩ := hr
    have hno : ¬ ((((items.size : Int) - 1 == 0 && (-1 : Int) == 1 && items.size == items.size)) = true) := by
      intro q
      rw [Bool.and_eq_true, Bool.and_eq_true] at q
      exact absurd q.1.2 (by decide)
    show wpAny _ _ (if ((items.size : Int) - 1 == 0 && (-1 : Int) == 1 && items.size == items.size) = true then _ else _) _ _ _
    rw [if_neg hno, back_pick]
    first
      | exact wpAny_bind (m := Builtin.Tuple.tupleExact _) (wpAny_newObj_type (wpAny_pure ⟨_, rfl, wpAny_pure h⟩) hz)
      | exact wpAny_bind (m := Builtin.Tuple.tupleExact _) (wpAny_newObj_type (wpAny_bind (wpAny_pure (wpAny_pure ⟨_, rfl, wpAny_pure h⟩))) hz)
      | exact wpAny_bind (wpAny_bind (m := Builtin.Tuple.tupleExact _) (wpAny_newObj_type (wpAny_pure (wpAny_pure ⟨_, rfl, wpAny_pure h⟩)) hz))
      | exact wpAny_bind (wpAny_bind (m := Builtin.Tuple.tupleExact _) (wpAny_newObj_type (wpAny_pure ⟨_, rfl, wpAny_pure h⟩) hz))
end
end HT
namespace Dn
open PySem PySem.Spec PyProof.Rows L2

/-! xs[::-1] -/
def tRevU (K : PySem.W.Frag) (te : TE) : TE := fun σ H Q => te σ H fun x H1 => ∃ a xs, x = .ref a ∧ ((SqL K H1 a xs ∧ ∀ p, H1 p = none → Q (.ref p) (upd H1 p (.lst xs.reverse))) ∨ (SqT K H1 a xs ∧ ∀ p, H1 p = none → Q (.ref p) (upd H1 p (.tup xs.reverse))))
theorem pe_revU {X : Cx} {e : Expr} {te : TE} {k : Nat} {p1 p2 p3 pos : Pos} (he : PE X e te) : PE X (.Subscript e (.Slice none none (some (.UnaryOp .USub (.Constant (.int 1) k p1) p2)) p3) pos) (tRevU X.K te) := ⟨fun pins s σ H Q I h => by
  refine Subscript_ (thn (he.run pins s σ H _ I h) fun v s1 ⟨x, H1, J1, r1, a, xs, ex, q⟩ => ?_)
  subst ex
  cases r1
  have hst : PO X (some (.UnaryOp .USub (.Constant (.int 1) k p1) p2)) (tPart (tUn (rU fun i => .int (-i)) (tC (.int 1)))) := po_some (pe_un un_neg pe_int)
  refine wpAny_Slice (thn (po_none.run pins s1 σ H1 (fun o H2 => o = none ∧ H2 = H1) J1 ⟨rfl, rfl⟩) fun vl s2 ⟨l, H2, J2, pl, el, e2⟩ => ?_)
  subst el e2
  refine thn (po_none.run pins s2 σ H2 (fun o H3 => o = none ∧ H3 = H2) J2 ⟨rfl, rfl⟩) fun vu s3 ⟨u, H3, J3, pu, eu, e3⟩ => ?_
  subst eu e3
  refine thn (hst.run pins s3 σ H3 (fun o H4 => o = some (-1) ∧ H4 = H3) J3 ⟨1, rfl, -1, rfl, rfl, rfl⟩) fun vs s4 ⟨o, H4, J4, ps, eo, e4⟩ => ?_
  subst eo e4
  have J5 : Inv X pins σ H4 { s4 with heap := s4.heap.push { cls := .type "slice", data := .fields #[vl, vu, vs] } } := J4.kept (t' := s4.toks) fun b ob q => Heap.get?_push_of_some _ q
  show wpAny (model X.prog X.w) X.A (subscriptTail e (.Slice none none (some (.UnaryOp .USub (.Constant (.int 1) k p1) p2)) p3) (.ref a) (.ref s4.heap.objs.size)) (EP X pins σ Q) X.xe { s4 with heap := s4.heap.push { cls := .type "slice", data := .fields #[vl, vu, vs] } }
  rcases q with ⟨hx, q⟩ | ⟨hx, q⟩
  · obtain ⟨its, r, ht, hz⟩ := J5.list hx
    have hlen := r.length
    refine tail_any (ops := [.ref a, .ref s4.heap.objs.size]) ht.isList.typeIs (PySem.slot_list_getitem.lookup) ?_ (by with_unfolding_all rfl)
    refine wpAny_getItem_list_slice ht.isList (Heap.IsSliceOf.new _ vl vu vs) pl pu ps (by decide) ?_ (by rw [List.size_toArray]; omega)
    rw [PySem.W.krv_pick]
    refine ⟨.ref _, _, J5.laid (t' := s4.toks) (o := .lst xs.reverse) (fun b ob q => Heap.get?_push_of_some _ q) (Nat.le_refl _) ?_, rfl, q _ (J5.hok.fresh (Nat.le_refl _))⟩
    exact ⟨by rw [List.length_reverse]; exact hz, _, 0, r.reverse, Heap.get?_push_size _ rfl⟩
  · obtain ⟨its, r, ht, hz⟩ := J5.tuple hx
    have hlen := r.length
    refine tail_any (ops := [.ref a, .ref s4.heap.objs.size]) ht.typeIs (PyProof.Rows.slot_tuple_getitem.lookup) ?_ (by with_unfolding_all rfl)
    refine HT.getItem_tuple_back ht (Heap.IsSliceOf.new _ vl vu vs) pl pu ps ?_ (by rw [List.size_toArray]; omega)
    refine ⟨.ref _, _, J5.laid (t' := s4.toks) (o := .tup xs.reverse) (fun b ob q => Heap.get?_push_of_some _ q) (Nat.le_refl _) ?_, rfl, q _ (J5.hok.fresh (Nat.le_refl _))⟩
    exact ⟨by rw [List.length_reverse]; exact hz, _, r.reverse, ⟨_, Heap.get?_push_size _ rfl, rfl, _, rfl⟩⟩⟩
section
variable {G : Cl} {E : XK}
def revUD : D → Option D
  | .lst l => some (.lst l.reverse)
  | .tup l => some (.tup l.reverse)
  | _ => none
theorem de_revU {t : TE} {f : DE} (h : Dq G E t f) : De G E (tRevU G.K t) (dUn revUD f) := ⟨fun {B M pm ρ m σ H} e Q p => by
  refine h.run e _ ((Post.bind p).imp' fun x H1 ⟨d1, m1, g1, r1, p1⟩ => ?_)
  have e1 := e.go g1
  obtain ⟨z, q, k⟩ := Post.of e1 p1
  unfold revUD at q
  split at q
  · cases q
    obtain ⟨a, vs, rfl, ha, ra⟩ := r1.lst
    exact ⟨a, vs, rfl, .inl ⟨SqL.of ha, fun p hp => k _ _ (ExN.new hp) ((ra.rev).newL e1.hm hp)⟩⟩
  · cases q
    obtain ⟨a, vs, rfl, ha, na, ra⟩ := r1.tup
    exact ⟨a, vs, rfl, .inr ⟨SqT.of ha, fun p hp => k _ _ (ExN.new hp) ((ra.rev).newT e1.hm hp)⟩⟩
  · cases q⟩
/-! a display with *e -/
def dStar (fa : DE) (fr : DA) : DA := fun ρ m => (fa ρ m).bind fun x m1 => match x with
  | .tup l => (fr ρ m1).bind fun xs m2 => .ok (l ++ xs) m2
  | .lst l => (fr ρ m1).bind fun xs m2 => .ok (l ++ xs) m2
  | _ => .bad
theorem da_star {te : TE} {t : TA} {fa : DE} {fr : DA} (ha : De G E te fa) (hr : Da G E t fr) : Da G E (StX.tStar G.K te t) (dStar fa fr) := ⟨fun {B M pm ρ m σ H} e Q p => by
  refine ha.run e _ ((Post.bind p).imp' fun x H1 ⟨d1, m1, g1, r1, p1⟩ => ?_)
  have e1 := e.go g1
  split at p1
  · cases r1 with
    | tup h n r =>
      refine ⟨_, _, rfl, .inl (SqT.of h), hr.run e1 _ ((Post.bind p1).imp' fun y H2 ⟨d2, m2, g2, r2, p2⟩ => ?_)⟩
      exact p2 _ _ (e1.go g2).here ((r.ext g2.x e1.aM).append r2)
  · cases r1 with
    | lst h n r =>
      refine ⟨_, _, rfl, .inr (SqL.of h), hr.run e1 _ ((Post.bind p1).imp' fun y H2 ⟨d2, m2, g2, r2, p2⟩ => ?_)⟩
      exact p2 _ _ (e1.go g2).here ((r.ext g2.x e1.aM).append r2)
  · exact p1.elim⟩
/-! f-strings -/
def dFmt (fa : DE) : DE := fun ρ m => (fa ρ m).bind fun x m1 => match x with
  | .str y => if y.length ≤ 1000000 then .ok (.str y) m1 else .bad
  | .int i => if i.natAbs.log2 < 1920 then .ok (.str (toString i)) m1 else .bad
  | _ => .bad
theorem de_fmt {t : TE} {f : DE} (h : De G E t f) : De G E (tFmt t) (dFmt f) := ⟨fun {B M pm ρ m σ H} e Q p => by
  refine h.run e _ ((Post.bind p).imp' fun x H1 ⟨d1, m1, g1, r1, p1⟩ => ?_)
  have e1 := e.go g1
  split at p1
  · split at p1
    · rename_i hy
      cases r1
      exact .inl ⟨_, rfl, sz_ok (by omega), p1 _ _ e1.here (.str _)⟩
    · exact p1.elim
  · split at p1
    · rename_i hy
      cases r1
      exact .inr ⟨_, rfl, hy, p1 _ _ e1.here (.str _)⟩
    · exact p1.elim
  · exact p1.elim⟩
inductive DL (G : Cl) (E : XK) : List TE → List DE → Prop
  | nil : DL G E [] []
  | cons {t : TE} {f : DE} {ts : List TE} {fs : List DE} (h : De G E t f) (r : DL G E ts fs) : DL G E (t :: ts) (f :: fs)
def dJs : List DE → Str → Ro → Mo → R Str
  | [], acc, _, m => .ok acc m
  | f :: fs, acc, ρ, m => (f ρ m).bind fun x m1 => match x with
    | .str y => if (acc ++ y).length ≤ 1000000 then dJs fs (acc ++ y) ρ m1 else .bad
    | _ => .bad
def dJoined (fs : List DE) : DE := fun ρ m => (dJs fs Str.empty ρ m).bind fun x m1 => .ok (.str x) m1
theorem dl_run {B : Bx} {M : AP} {pm : Nat → Addr} {ρ : Ro} {σ : L2.St} {ts : List TE} {fs : List DE} (h : DL G E ts fs) : ∀ {m : Mo} {H : Hp} (acc : Str) (Q : Str → Hp → Prop), EnvR G B M pm ρ m σ H → Post G E B M H (fun _ (b : Str) (a : Str) => b = a) (dJs fs acc ρ m) Q → tJs ts acc σ H Q := by
  induction h with
  | nil => exact fun acc Q e p => p _ _ e.here rfl
  | cons ht hr ih =>
    intro m H acc Q e p
    refine ht.run e _ ((Post.bind p).imp' fun x H1 ⟨d1, m1, g1, r1, p1⟩ => ?_)
    have e1 := e.go g1
    split at p1
    · split at p1
      · rename_i hy
        cases r1
        exact ⟨_, rfl, sz_ok (by omega), ih _ _ e1 p1⟩
      · exact p1.elim
    · exact p1.elim
theorem de_joined {ts : List TE} {fs : List DE} (h : DL G E ts fs) : De G E (fun σ H Q => tJs ts Str.empty σ H fun out H1 => Q (.str out) H1) (dJoined fs) := ⟨fun {B M pm ρ m σ H} e Q p => by
  refine dl_run h _ _ e ((Post.bind p).imp' fun x H1 ⟨d1, m1, g1, r1, p1⟩ => ?_)
  subst r1
  exact p1 _ _ (e.go g1).here (.str _)⟩
/-! ''.join -/
def strsOf : List D → Option (List Str)
  | [] => some []
  | .str x :: r => (strsOf r).map (x :: ·)
  | _ => none
theorem strsOf_map : ∀ ns : List Str, strsOf (ns.map D.str) = some ns
  | [] => rfl
  | x :: r => by
    show (strsOf (r.map D.str)).map (x :: ·) = some (x :: r)
    rw [strsOf_map r]
    rfl
theorem strsOf_rep {ad : Ad} {M : AP} {H : Hp} : ∀ {vs : List V} {ds : List D} {ns : List Str}, Reps G ad M H vs ds → strsOf ds = some ns → vs = ns.map V.str
  | _, _, _, .nil, h => by
    cases h
    rfl
  | _, _, ns, .cons (d := d) (ds := ds) r rs, h => by
    cases d with
    | str x =>
      have h' : (strsOf ds).map (x :: ·) = some ns := h
      cases q : strsOf ds with
      | none =>
        rw [q] at h'
        cases h'
      | some l =>
        rw [q] at h'
        cases h'
        cases r
        rw [strsOf_rep rs q]
        rfl
    | _ => cases h
def joinD (a : Str) (ds : List D) : Option D := match strsOf ds with
  | some ys => if (ys.map (·.length)).sum + ys.length * a.length ≤ 1000000 then some (.str (Txt.join a ys)) else none
  | none => none
def dJoin (fo fe : DE) : DE := fun ρ m => (fo ρ m).bind fun x m1 => match x with
  | .str a => (fe ρ m1).bind fun y m2 => match y with
    | .lst l => R.of (joinD a l) m2
    | .tup l => R.of (joinD a l) m2
    | _ => .bad
  | _ => .bad
theorem de_join {to te : TE} {fo fe : DE} (ho : De G E to fo) (he : Dq G E te fe) : De G E (tM1 (fun x xs H Q => ∃ a p, ∃ ys : List Str, x = .str a ∧ xs = [.ref p] ∧ (SqL G.K H p (ys.map V.str) ∨ SqT G.K H p (ys.map V.str)) ∧ (ys.map (·.length)).sum + ys.length * a.length ≤ 16777216 ∧ Q (.str (Txt.join a ys)) H) to te) (dJoin fo fe) := ⟨fun {B M pm ρ m σ H} e Q p => by
  refine ho.run e _ ((Post.bind p).imp' fun x H1 ⟨d1, m1, g1, r1, p1⟩ => ?_)
  have e1 := e.go g1
  split at p1
  · cases r1
    refine ⟨⟨_, rfl⟩, he.run e1 _ ((Post.bind p1).imp' fun y H2 ⟨d2, m2, g2, r2, p2⟩ => ?_)⟩
    have e2 := e1.go g2
    split at p2
    · obtain ⟨z, q, k⟩ := Post.of e2 p2
      obtain ⟨b, vs, rfl, hb, rb⟩ := r2.lst
      unfold joinD at q
      split at q
      · rename_i ys hys
        split at q
        · rename_i hz
          cases q
          have ev := strsOf_rep rb hys
          subst ev
          exact ⟨_, b, ys, rfl, rfl, .inl (SqL.of hb), by omega, k _ _ .refl (.str _)⟩
        · cases q
      · cases q
    · obtain ⟨z, q, k⟩ := Post.of e2 p2
      obtain ⟨b, vs, rfl, hb, nb, rb⟩ := r2.tup
      unfold joinD at q
      split at q
      · rename_i ys hys
        split at q
        · rename_i hz
          cases q
          have ev := strsOf_rep rb hys
          subst ev
          exact ⟨_, b, ys, rfl, rfl, .inr (SqT.of hb), by omega, k _ _ .refl (.str _)⟩
        · cases q
      · cases q
    · exact p2.elim
  · exact p1.elim⟩
/-! pairs of assignments -/
def sPar (i j : Nat) (fa : DA) : DS := fun ρ m => sBind (fa ρ m) fun ds m1 => match ds with
  | [a, b] => .nx ((ρ.set i (some (.v a))).set j (some (.v b))) m1
  | _ => .bad
theorem ds_par {i j : Nat} {t : TA} {f : DA} (h : Da G E t f) : Ds G E (tPar i j t) (sPar i j f) := ⟨fun {B M pm ρ m σ H} e Z p => by
  refine h.run e _ ((PostS.bind0 e p).imp' fun x H1 ⟨d1, m1, g1, r1, p1⟩ => ?_)
  have e1 := e.go g1
  split at p1
  · cases r1 with
    | cons r rs =>
      cases rs with
      | cons r' rs' =>
        cases rs'
        exact ⟨_, _, rfl, p1 _ _ _ _ ((e1.setv (i := i) r).setv (i := j) r') (e.stp g1)⟩
  · exact p1.elim⟩
def sPar3 (i j l : Nat) (fa : DA) : DS := fun ρ m => sBind (fa ρ m) fun ds m1 => match ds with
  | [a, b, c] => .nx (((ρ.set i (some (.v a))).set j (some (.v b))).set l (some (.v c))) m1
  | _ => .bad
theorem ds_par3 {i j l : Nat} {t : TA} {f : DA} (h : Da G E t f) : Ds G E (tPar3 i j l t) (sPar3 i j l f) := ⟨fun {B M pm ρ m σ H} e Z p => by
  refine h.run e _ ((PostS.bind0 e p).imp' fun x H1 ⟨d1, m1, g1, r1, p1⟩ => ?_)
  have e1 := e.go g1
  split at p1
  · cases r1 with
    | cons r rs =>
      cases rs with
      | cons r' rs' =>
        cases rs' with
        | cons r'' rs'' =>
          cases rs''
          exact ⟨_, _, _, rfl, p1 _ _ _ _ (((e1.setv (i := i) r).setv (i := j) r').setv (i := l) r'') (e.stp g1)⟩
  · exact p1.elim⟩
/-! a < b < c -/
def dChain (g g' : D → D → Option D) (fa fb fc : DE) : DE := fun ρ m => (fa ρ m).bind fun x m1 => (fb ρ m1).bind fun y m2 => match g x y with
  | some (.bl true) => (fc ρ m2).bind fun z m3 => R.of (g' y z) m3
  | some (.bl false) => .ok (.bl false) m2
  | _ => .bad
theorem de_chain {r r' : R2} {g g' : D → D → Option D} {ta tb tc : TE} {fa fb fc : DE} (o : O2 G r g) (o' : O2 G r' g') (ha : Dq G E ta fa) (hb : Dq G E tb fb) (hc : Dq G E tc fc) : De G E (tChain r r' ta tb tc) (dChain g g' fa fb fc) := ⟨fun {B M pm ρ m σ H} e Q p => by
  refine ha.run e _ ((Post.bind p).imp' fun x H1 ⟨d1, m1, g1, r1, p1⟩ => ?_)
  have e1 := e.go g1
  refine hb.run e1 _ ((Post.bind p1).imp' fun y H2 ⟨d2, m2, g2, r2, p2⟩ => ?_)
  have e2 := e1.go g2
  split at p2
  · rename_i hg
    refine o.run (A := B.A) e2.hm e2.aM (r1.ext g2.x e2.aM) r2 hg _ fun v H3 x3 rv => ?_
    cases rv
    have e3 := e2.go (e2.same x3)
    refine ⟨true, rfl, iteT ?_⟩
    have p3 := p2.later (e2.same x3)
    refine hc.run e3 _ ((Post.bind p3).imp' fun w H4 ⟨d4, m4, g4, r4, p4⟩ => ?_)
    have e4 := e3.go g4
    obtain ⟨z, q, k⟩ := Post.of e4 p4
    exact o'.run e4.hm e4.aM ((r2.ext (x3.k.imp fun _ z => z.elim) e2.aM).ext g4.x e4.aM) r4 q Q k
  · rename_i hg
    refine o.run (A := B.A) e2.hm e2.aM (r1.ext g2.x e2.aM) r2 hg _ fun v H3 x3 rv => ?_
    cases rv
    have e3 := e2.go (e2.same x3)
    exact ⟨false, rfl, iteF (p2 _ _ (e2.same x3) (.bl false))⟩
  · exact p2.elim⟩
/-! tuple(range(..)), list(range(..)) -/
def rgD (lo hi : Int) : List D := (List.range (hi - lo).toNat).map fun i => .int (lo + (i : Nat))
theorem rg_rep {ad : Ad} {M : AP} {H : Hp} (a b : Int) : Reps G ad M H (rgV a b) (rgD a b) := by
  unfold rgV rgD
  have e1 : (List.range (b - a).toNat).map (fun i => V.int (a + (i : Nat))) = ((List.range (b - a).toNat).map fun (i : Nat) => a + (i : Int)).map V.int := by rw [List.map_map]; rfl
  have e2 : (List.range (b - a).toNat).map (fun i => D.int (a + (i : Nat))) = ((List.range (b - a).toNat).map fun (i : Nat) => a + (i : Int)).map D.int := by rw [List.map_map]; rfl
  rw [e1, e2]
  exact reps_ints _
def rgOk (a b : Int) : Bool := decide (-1000000 ≤ a ∧ a ≤ 1000000 ∧ -1000000 ≤ b ∧ b ≤ 1000000)
theorem rgOk_ok {a b : Int} (h : rgOk a b = true) : RgOk a b := by
  have h' := of_decide_eq_true h
  exact ⟨by omega, by omega, by omega, by omega, by omega⟩
def dRgT1 (fa : DE) : DE := fun ρ m => (fa ρ m).bind fun x m1 => match x with
  | .int j => if rgOk 0 j = true then .ok (.tup (rgD 0 j)) m1 else .bad
  | _ => .bad
def dRgT2 (fa fb : DE) : DE := fun ρ m => (fa ρ m).bind fun x m1 => (fb ρ m1).bind fun y m2 => match x, y with
  | .int i, .int j => if rgOk i j = true then .ok (.tup (rgD i j)) m2 else .bad
  | _, _ => .bad
theorem de_rgT1 {ta : TE} {fa : DE} (ha : De G E ta fa) : De G E (tTupRg (tRg1 ta)) (dRgT1 fa) := ⟨fun {B M pm ρ m σ H} e Q p => by
  refine ha.run e _ ((Post.bind p).imp' fun x H1 ⟨d1, m1, g1, r1, p1⟩ => ?_)
  have e1 := e.go g1
  split at p1
  · split at p1
    · rename_i h
      cases r1
      exact ⟨_, rfl, rgOk_ok h, fun q hq => p1 _ _ (e1.same (ExN.new hq)) ((rg_rep _ _).newT e1.hm hq)⟩
    · exact p1.elim
  · exact p1.elim⟩
theorem de_rgT2 {ta tb : TE} {fa fb : DE} (ha : De G E ta fa) (hb : De G E tb fb) : De G E (tTupRg (tRg2 ta tb)) (dRgT2 fa fb) := ⟨fun {B M pm ρ m σ H} e Q p => by
  refine ha.run e _ ((Post.bind p).imp' fun x H1 ⟨d1, m1, g1, r1, p1⟩ => ?_)
  have e1 := e.go g1
  refine hb.run e1 _ ((Post.bind p1).imp' fun y H2 ⟨d2, m2, g2, r2, p2⟩ => ?_)
  have e2 := e1.go g2
  split at p2
  · split at p2
    · rename_i h
      cases r1
      cases r2
      exact ⟨_, _, rfl, rfl, rgOk_ok h, fun q hq => p2 _ _ (e2.same (ExN.new hq)) ((rg_rep _ _).newT e2.hm hq)⟩
    · exact p2.elim
  · exact p2.elim⟩
/-! truth -/
def truD : D → Option Bool
  | .non => some false
  | .bl b => some b
  | .int i => some (i != 0)
  | .str x => if x.length ≤ 1000000 then some ((x.length : Int) != 0) else none
  | .tup l => some (!l.isEmpty)
  | .lst l => some (!l.isEmpty)
  | _ => none
def dTru (f : DE) : DT := fun ρ m => (f ρ m).bind fun x m1 => R.of (truD x) m1
theorem Reps.isEmpty {ad : Ad} {M : AP} {H : Hp} {vs : List V} {ds : List D} (r : Reps G ad M H vs ds) : vs.isEmpty = ds.isEmpty := by
  cases r <;> rfl
theorem dt_tru {t : TE} {f : DE} (h : Dq G E t f) : Dt G E (fun σ H Q => t σ H fun x H' => ∃ k, TruV G.K x H' k ∧ Q k H') (dTru f) := ⟨fun {B M pm ρ m σ H} e Q p => by
  refine h.run e _ ((Post.bind p).imp' fun x H1 ⟨d1, m1, g1, r1, p1⟩ => ?_)
  have e1 := e.go g1
  obtain ⟨z, q, k⟩ := Post.of e1 p1
  refine ⟨z, ?_, k _ _ .refl rfl⟩
  cases d1 with
  | non => cases q; rw [r1.non]; exact rfl
  | bl b => cases q; rw [r1.bl]; exact rfl
  | int i => cases q; rw [r1.int]; exact rfl
  | str x =>
    rw [r1.str]
    have q' : (if x.length ≤ 1000000 then some ((x.length : Int) != 0) else none) = some z := q
    split at q'
    · rename_i hl
      cases q'
      exact ⟨sz_ok (by omega), rfl⟩
    · cases q'
  | tup l =>
    cases q
    obtain ⟨a, vs, rfl, ha, na, ra⟩ := r1.tup
    exact .inr (.inl ⟨vs, SqT.of ha, by rw [ra.isEmpty]⟩)
  | lst l =>
    cases q
    obtain ⟨a, vs, rfl, ha, ra⟩ := r1.lst
    exact .inl ⟨vs, SqL.of ha, by rw [ra.isEmpty]⟩
  | _ => cases q⟩
/-! isinstance -/
def tyD : D → Option String
  | .non => some "NoneType"
  | .bl _ => some "bool"
  | .int _ => some "int"
  | .str _ => some "str"
  | .tup _ => some "tuple"
  | .lst _ => some "list"
  | .dct _ => some "dict"
  | _ => none
theorem ty_rep {ad : Ad} {A M : AP} {H : Hp} {v : V} {d : D} {n : String} (r : RepT G ad A M H v d) (h : tyD d = some n) : TyX G.K H v (.type n) := by
  cases d with
  | non => cases h; rw [r.non]; exact .base .non
  | bl b => cases h; rw [r.bl]; exact .base (.bl b)
  | int i => cases h; rw [r.int]; exact .base (.int i)
  | str x => cases h; rw [r.str]; exact .base (.str x)
  | tup l =>
    cases h
    obtain ⟨a, vs, rfl, ha, na, ra⟩ := r.tup
    exact .base (.tup ha)
  | lst l =>
    cases h
    obtain ⟨a, vs, rfl, ha, ra⟩ := r.lst
    exact .base (.lst ha)
  | dct l =>
    cases h
    cases r with
    | r r =>
      cases r with
      | dct ha n e r => exact .base (.dK ha)
    | mk n ha e r => exact .base (.dK ha)
  | _ => cases h
end
end Dn
namespace Dn
open PySem PySem.Spec PyProof.Rows L2

/-! isinstance, built-in classes -/
def tyNames : List String := ["NoneType", "bool", "int", "str", "tuple", "list", "dict"]
def clNames : List String := ["int", "bool", "list", "tuple", "str", "dict"]
def sb (t n : String) : Bool := t == n || (t == "bool" && n == "int")
theorem kit_sb (K : PySem.W.Frag) : ∀ t ∈ tyNames, ∀ n ∈ clNames, PySem.W.kitOne K (.type t) (.type n) = some (sb t n) := by
  unfold tyNames clNames
  simp only [List.forall_mem_cons, List.not_mem_nil, false_implies, implies_true, and_true]
  repeat' apply And.intro
  all_goals rfl
theorem ty_names {d : D} {n : String} (h : tyD d = some n) : n ∈ tyNames := by
  cases d <;> cases h <;> (unfold tyNames; simp)
section
variable {G : Cl} {E : XK}
def dIsi (n : String) (fa : DE) : DE := fun ρ m => (fa ρ m).bind fun x m1 => match tyD x with
  | some t => if n ∈ clNames then .ok (.bl (sb t n)) m1 else .bad
  | none => .bad
theorem de_isi {n : String} {t : TE} {f : DE} (h : Dq G E t f) : De G E (tCB (rIsi G.K) (tCons t (tCons (tC (.ty n)) tNil))) (dIsi n f) := ⟨fun {B M pm ρ m σ H} e Q p => by
  refine h.run e _ ((Post.bind p).imp' fun x H1 ⟨d1, m1, g1, r1, p1⟩ => ?_)
  have e1 := e.go g1
  split at p1
  · rename_i tn ht
    split at p1
    · rename_i hn
      exact ⟨x, .ty n, .type tn, .type n, _, rfl, .ty n, ty_rep r1 ht, kit_sb G.K tn (ty_names ht) n hn, p1 _ _ e1.here (.bl _)⟩
    · exact p1.elim
  · exact p1.elim⟩
theorem kit_any (K : PySem.W.Frag) {t : String} (ht : t ∈ tyNames) : ∀ {ns : List String}, (∀ n ∈ ns, n ∈ clNames) → PySem.W.kitAny K (.type t) (ns.map Value.type) = some (ns.any (sb t))
  | [], _ => rfl
  | n :: r, h => by
    have h1 := kit_sb K t ht n (h n List.mem_cons_self)
    have h2 := kit_any K ht (ns := r) fun z hz => h z (List.mem_cons_of_mem _ hz)
    show (match PySem.W.kitOne K (.type t) (.type n) with
      | some true => some true
      | some false => PySem.W.kitAny K (.type t) (r.map Value.type)
      | none => none) = some (sb t n || r.any (sb t))
    rw [h1]
    cases sb t n with
    | true => rfl
    | false => exact h2
theorem paired_ty : ∀ ns : List String, Paired ClsV (ns.map V.ty) (ns.map Value.type)
  | [] => .nil
  | n :: r => .cons (.ty n) (paired_ty r)
/-- a display of built-in classes -/
def tTys : List String → TA
  | [] => tNil
  | n :: r => tCons (tC (.ty n)) (tTys r)
theorem tTys_run {σ : L2.St} {H : Hp} : ∀ {ns : List String} {Q : List V → Hp → Prop}, Q (ns.map V.ty) H → tTys ns σ H Q
  | [], _, q => q
  | n :: r, Q, q => tTys_run (ns := r) (Q := fun vs H' => Q (.ty n :: vs) H') q
def dIsiT (ns : List String) (fa : DE) : DE := fun ρ m => (fa ρ m).bind fun x m1 => match tyD x with
  | some t => if (∀ n ∈ ns, n ∈ clNames) ∧ ns.length ≤ 100 then .ok (.bl (ns.any (sb t))) m1 else .bad
  | none => .bad
theorem de_isiT {ns : List String} {t : TE} {f : DE} (h : Dq G E t f) : De G E (tCB (rIsiT G.K) (tCons t (tCons (tTup (tTys ns)) tNil))) (dIsiT ns f) := ⟨fun {B M pm ρ m σ H} e Q p => by
  refine h.run e _ ((Post.bind p).imp' fun x H1 ⟨d1, m1, g1, r1, p1⟩ => ?_)
  have e1 := e.go g1
  split at p1
  · rename_i tn ht
    split at p1
    · rename_i hn
      refine tTys_run ⟨sz_ok (by rw [List.length_map]; omega), fun q hq => ?_⟩
      have x2 : ExN H1 (upd H1 q (.tup (ns.map V.ty))) := ExN.new hq
      exact ⟨x, q, ns.map V.ty, .type tn, ns.map Value.type, _, rfl, upd_same, paired_ty ns, ty_rep (r1.ext (x2.k.imp fun _ z => z.elim) e1.aM) ht, kit_any G.K (ty_names ht) hn.1, p1 _ _ (e1.same x2) (.bl _)⟩
    · exact p1.elim
  · exact p1.elim⟩
end
/-! repr -/
def rReprD (K : PySem.W.Frag) : List V → Hp → VK → Prop := fun xs H Q => (∃ x, xs = [.str x] ∧ (reprText x).length ≤ sizeLine ∧ Q (.str (reprText x)) H) ∨ ∃ v d, xs = [v] ∧ L2.Dp K H v d ∧ SeqAt.shaped d = true ∧ d.showable = true ∧ d.shown.length ≤ sizeLine ∧ Q (.str d.shown) H
theorem call_reprD {X : Cx} (hg : X.A.guards = some []) (hu : X.A.units + 200 < cLine) : CallR X (.builtin "repr") (rReprD X.K) := by
  intro pins s σ H xs us Q I r h
  rcases h with ⟨x, rfl, hz, q⟩ | ⟨v, d, rfl, hd, sh, hw, hz, q⟩
  · cases r with
    | cons rv rt =>
      cases rt
      obtain ⟨t, rfl⟩ := rv
      exact PySem.P.repr_of_str ⟨.str (reprText x), H, I.tok _, ⟨_, rfl⟩, q⟩ hz
  cases r with
  | cons rv rt =>
    cases rt
    rename_i u
    obtain ⟨as, rd⟩ := Dp.reads I d v u hd rv
    have lay : d.canLay0 = true := SeqAt.canLay_of_shaped sh
    have hdep : d.depth ≤ 64 := by
      have z : (d.canLay0 && decide (d.depth ≤ 64)) = true := sh
      exact of_decide_eq_true (Bool.and_eq_true_iff.mp z).2
    have noD : d.hasDict = true → sysModules ∉ as := PyData.noDict_hsm (PyData.hasDict_of_canLay d lay)
    have fin : ∀ (h' : Heap) (t : Tok) (tk : Nat), (∀ b o, s.heap.get? b = some o → h'.get? b = some o) → EP X pins σ Q (.str d.shown t) { s with heap := h', toks := tk } := fun h' t tk hk => ⟨.str d.shown, H, I.kept (t' := tk) hk, ⟨t, rfl⟩, q⟩
    cases u with
    | ref a => exact repr_of_reads' rd hw noD hg (by omega) (fun _ _ e => e) fin hz
    | none =>
      cases d <;> first
        | (cases rd; done)
        | exact PySem.P.repr_of_none (fin s.heap _ _ fun _ _ e => e)
    | bool b =>
      cases d with
      | bool b' =>
        cases rd
        exact PySem.P.repr_of_bool (fin s.heap _ _ fun _ _ e => e)
      | _ => cases rd
    | int i t =>
      cases d with
      | int j =>
        cases rd
        exact PySem.P.repr_of_int (of_decide_eq_true hw) (fin s.heap _ _ fun _ _ e => e)
      | _ => cases rd
    | str x t =>
      cases d with
      | str y =>
        cases rd
        exact PySem.P.repr_of_str (fin s.heap _ _ fun _ _ e => e) hz
      | _ => cases rd
    | _ => cases d <;> cases rd
section
variable {G : Cl} {E : XK}
def reprD : List D → Option D
  | [.str x] => if (reprText x).length ≤ 10000000 then some (.str (reprText x)) else none
  | [d] => if d.plain 60 = true ∧ d.py.showable = true ∧ d.py.shown.length ≤ 10000000 then some (.str d.py.shown) else none
  | _ => none
theorem n_repr : ON G (rReprD G.K) reprD := ⟨fun {ad A M H xs ds z} hm hA r g Q q => by
  unfold reprD at g
  split at g
  · split at g
    · rename_i h
      cases g
      obtain ⟨x, rfl, rx⟩ := r.one
      rw [rx.str]
      exact .inl ⟨_, rfl, sz_ok (by omega), q _ _ .refl (.str _)⟩
    · cases g
  · split at g
    · rename_i h
      cases g
      obtain ⟨x, rfl, rx⟩ := r.one
      exact .inr ⟨x, _, rfl, rx.dp h.1, plain_shaped h.1 (by omega), h.2.1, sz_ok (by omega), q _ _ .refl (.str _)⟩
    · cases g
  · cases g⟩
end
end Dn
namespace Dn
open PySem PySem.Spec PyProof.Rows L2

/-! over a list or a tuple -/
def iSeqU (K : PySem.W.Frag) (tl : TE) : TI := fun σ H R => tl σ H fun x H1 => ∃ a, x = .ref a ∧ (((∃ xs, SqL K H1 a xs) ∧ R (Itl K a) H1) ∨ ((∃ xs, SqT K H1 a xs) ∧ R (Itt K a) H1))
theorem pi_seqU {X : Cx} {tg l : Expr} {tl : TE} (hl : PE X l tl) : PI X tg l (iSeqU X.K tl) := ⟨fun pins s σ H R I h => by
  refine thn (hl.run pins s σ H _ I h) fun v s1 ⟨x, H1, J, r1, a, ex, q1⟩ => ?_
  subst ex
  cases r1
  have fre : ∀ b ∈ [s1.heap.objs.size], FpOk X pins H1 b := fun b hb => by
    have z : b = s1.heap.objs.size := by simpa using hb
    rw [z]
    exact J.fpOk (Nat.le_refl _) (J.hok.fresh (Nat.le_refl _))
  rcases q1 with ⟨⟨xs, hq⟩, q⟩ | ⟨⟨xs, hq⟩, q⟩
  · obtain ⟨its, rv, p, hz⟩ := J.list hq
    exact wpAny_pyIter_list p.isList ⟨s1.heap.objs.size, [s1.heap.objs.size], _, _, H1, rfl, J.kept (t' := s1.toks) fun b o z => Heap.get?_push_of_some _ z, turn_list a _, ⟨_, Heap.get?_push_size _ rfl, rfl, rfl⟩, fre, q⟩
  · obtain ⟨its, rv, p, hz⟩ := J.tuple hq
    exact wpAny_pyIter_tuple (show s1.heap.IsTuple a its.toArray from p) ⟨s1.heap.objs.size, [s1.heap.objs.size], _, _, H1, rfl, J.kept (t' := s1.toks) fun b o z => Heap.get?_push_of_some _ z, turn_tuple a _, ⟨_, Heap.get?_push_size _ rfl, rfl, rfl⟩, fre, q⟩⟩
section
variable {G : Cl} {E : XK}
def dSeqU (f : DE) : DI := fun ρ m => (f ρ m).bind fun d m1 => match d with
  | .lst l => .ok l m1
  | .tup l => .ok l m1
  | .scr ns => .ok (ns.map D.int) m1
  | _ => .bad
theorem di_seqU {t : TE} {f : DE} (h : De G E t f) : Di G E (iSeqU G.K t) (dSeqU f) := ⟨fun {B M pm ρ m σ H} e Q p => by
  refine h.run e _ ((Post.bind p).imp' fun x H1 ⟨d1, m1, g1, r1, p1⟩ => ?_)
  have e1 := e.go g1
  split at p1
  · cases r1 with
    | lst q n r => exact ⟨_, rfl, .inl ⟨⟨_, SqL.of q⟩, p1 _ _ e1.here ⟨_, wk_list, .lst q n r⟩⟩⟩
  · cases r1 with
    | tup q n r => exact ⟨_, rfl, .inr ⟨⟨_, SqT.of q⟩, p1 _ _ e1.here ⟨_, wk_tup, .tup q n r⟩⟩⟩
  · obtain ⟨a, rfl, hs⟩ := r1.scr
    exact ⟨_, rfl, .inl ⟨⟨_, hs⟩, p1 _ _ e1.here ⟨_, wk_scr, r1⟩⟩⟩
  · exact p1.elim⟩
end
theorem RG.u64 {k : Nat} {A : Around} (r : RG k A) : A.units + 64 < cLine := by
  have z := r.rm.un
  omega
theorem RG.u65 {k : Nat} {A : Around} (r : RG k A) : A.units + 65 < cLine := by
  have z := r.rm.un
  omega
theorem RG.u200 {k : Nat} {A : Around} (r : RG k A) : A.units + 200 < cLine := by
  have z := r.rm.un
  omega
section
variable {P : Program} {w : World} {K : PySem.W.Frag} {mg : Str → Option Value} {base : Heap} {k : Nat} {f : Addr}
theorem pss0 {N : List Str} {q : Str} {sc : Scope} {cd : Value} {A : Around} {out : List Env} {s : Shared} {H : Hp} {E : XK} : Passes (L2.CX P w) (cxOf (L2.CX P w) P w K mg base N q sc f cd A out s H E) E := passes_call (takes_of rfl rfl rfl rfl) fun _ _ _ _ h => h
/-- a def of the head's -/
theorem funD_fun {x qual : Str} {st : Stmt} {fd : FuncData} (F : FunD K x qual (defArgs st) (defBody st) (defScope st) [] [] f fd) : Fun K x qual st f fd := by
  obtain ⟨oc, od, dV, kV, doc, pm, an, cdv, ct, osl, h1, h2, h3, h4, h5⟩ := F.ex
  rcases h4 with ⟨_, rfl⟩ | ⟨z, _⟩
  · exact ⟨⟨oc, od, kV, doc, pm, an, cdv, ct, osl, h1, h2, h3⟩, F.kp⟩
  · exact absurd rfl z
/-- a def of a class's body -/
def clsB : Stmt → List Stmt
  | .ClassDef (body := b) .. => b
  | _ => []
def nth (b : List Stmt) (i : Nat) : Stmt := b.getD i (.Pass ⟨0, 0, 0, 0⟩)
end
end Dn
namespace Dn
open PySem PySem.Spec PyProof.Rows L2

/-! facts of a class with slots -/
def clsX (K : PySem.W.Frag) (C : Addr) : Bool := PySem.W.plainGet K C Str.empty && (PySem.W.isClsIn K C && (PySem.W.plainOver K C && He.eqO (PySem.W.findIn K (.ref C) "__setattr__") (some (some (.builtin "object.__setattr__")))))
theorem clsX_ok {K : PySem.W.Frag} {C : Addr} (h : clsX K C = true) : SlX.SCls K C := by
  obtain ⟨h1, h⟩ := He.ba h
  obtain ⟨h2, h⟩ := He.ba h
  obtain ⟨h3, h4⟩ := He.ba h
  exact ⟨h1, h2, h3, He.eqO_ok h4⟩
def slotA (K : PySem.W.Frag) (C : Addr) (f : Str) : Addr := match PySem.W.findIn K (.ref C) f with
  | some (some (.ref p)) => p
  | _ => 0
def slotX (K : PySem.W.Frag) (C : Addr) (f : Str) : Bool := He.eqO (PySem.W.findIn K (.ref C) f) (some (some (.ref (slotA K C f)))) && (He.eqO (PySem.W.specialIn K (.ref (slotA K C f)) "__get__") (some (some (.builtin "member_descriptor.__get__"))) &&
  (decide (PySem.W.takesIn K (.ref (slotA K C f)) = some true) && (decide (PySem.W.typeIn K (.ref (slotA K C f)) = some (.type "member_descriptor")) && decide (PySem.W.slotIn K (slotA K C f) C = some 0))))
theorem slotX_ok {K : PySem.W.Frag} {C : Addr} {f : Str} (h : slotX K C f = true) : SlX.Slot1 K C f (slotA K C f) 0 := by
  obtain ⟨h1, h⟩ := He.ba h
  obtain ⟨h2, h⟩ := He.ba h
  obtain ⟨h3, h⟩ := He.ba h
  obtain ⟨h4, h5⟩ := He.ba h
  exact ⟨He.eqO_ok h1, He.eqO_ok h2, of_decide_eq_true h3, of_decide_eq_true h4, of_decide_eq_true h5, by decide⟩
theorem exAnd {a b : Bool} (h : (a && b) = true) : a = true ∧ b = true := He.ba h
/-! what is never reached -/
def tNone : TS := fun _ _ _ => False
theorem ps_any {X : Cx} {st : Stmt} : PS X st tNone := ⟨fun _ _ _ _ _ _ h => h.elim⟩
def sAny : DS := fun _ _ => .bad
theorem ds_any {G : Cl} {E : XK} : Ds G E tNone sAny := ⟨fun _ _ p => p.elim⟩
def negD : D → Option D
  | .int i => some (.int (-i))
  | _ => none
theorem o_neg {G : Cl} : O1 G (rU fun i => .int (-i)) negD := ⟨fun {ad A M H x d z} hm hA r g Q q => by
  unfold negD at g
  split at g
  · cases g
    exact ⟨_, r.int, q _ _ .refl (.int _)⟩
  · cases g⟩
def addI : D → D → Option D
  | .int i, .int j => some (.int (i + j))
  | _, _ => none
theorem oi_add {G : Cl} : O2 G (ipI fun i j => i + j) addI := ⟨fun {ad A M H x y d e z} hm hA rx ry g Q q => by
  unfold addI at g
  split at g
  · cases g
    exact ⟨_, _, rx.int, ry.int, q _ _ .refl (.int _)⟩
  · cases g⟩
def subI : D → D → Option D
  | .int i, .int j => some (.int (i - j))
  | _, _ => none
theorem oi_sub {G : Cl} : O2 G (ipI fun i j => i - j) subI := ⟨fun {ad A M H x y d e z} hm hA rx ry g Q q => by
  unfold subI at g
  split at g
  · cases g
    exact ⟨_, _, rx.int, ry.int, q _ _ .refl (.int _)⟩
  · cases g⟩
/-! the draws -/
def mixV (cell n : Int) : Int := let b := cell * (1 + 2 * n) * 48271 % 2147483647 + 7919 * n * n + 104729 * n
  b * 69621 % 2147483629 / 7
def drawV (r : MS) (L : Int) : Int :=
  if r.great ≠ [] ∧ 0 < r.great.getD (r.spot % r.great.length) 0 then r.great.getD (r.spot % r.great.length) 0 % L
  else mixV (mixV (r.cells.getD (r.spot % 64) 0 + 31 * ((r.spot / 64 : Nat) : Int)) r.spot) (r.spot + 7) % L
def drawM (r : MS) (L : Int) : MS :=
  if r.great ≠ [] ∧ 0 < r.great.getD (r.spot % r.great.length) 0 then { r with spot := r.spot + 1, great := r.great.set (r.spot % r.great.length) (r.great.getD (r.spot % r.great.length) 0 / L) }
  else { r with spot := r.spot + 1 }
end Dn
namespace Dn
open PySem PySem.Spec PyProof.Rows L2

theorem plain_ints (n : Nat) : ∀ ns : List Int, D.plains n (ns.map D.int) = true
  | [] => by simp [D.plains]
  | x :: r => by simp [D.plains, D.plain, plain_ints n r]
theorem plain_lints {n : Nat} {ns : List Int} : (D.lst (ns.map D.int)).plain (n + 1) = true := by simp [D.plain, plain_ints]
theorem plain_tints {n : Nat} {ns : List Int} : (D.tup (ns.map D.int)).plain (n + 1) = true := by simp [D.plain, plain_ints]
theorem mixV_le {c n : Int} (h0 : 0 ≤ n) : 0 ≤ mixV c n ∧ mixV c n < 306783376 := by
  unfold mixV
  dsimp only
  have h1 : 0 ≤ (c * (1 + 2 * n) * 48271 % 2147483647 + 7919 * n * n + 104729 * n) * 69621 % 2147483629 := Int.emod_nonneg _ (by decide)
  have h2 : (c * (1 + 2 * n) * 48271 % 2147483647 + 7919 * n * n + 104729 * n) * 69621 % 2147483629 < 2147483629 := Int.emod_lt_of_pos _ (by decide)
  omega
/-- what _law_mixed's denotation answers -/
theorem drawV_le {r : MS} {L : Int} (h : 0 < L) : 0 ≤ drawV r L ∧ drawV r L < L := by
  unfold drawV
  split
  · exact ⟨Int.emod_nonneg _ (by omega), Int.emod_lt_of_pos _ h⟩
  · exact ⟨Int.emod_nonneg _ (by omega), Int.emod_lt_of_pos _ h⟩
theorem drawM_ad {r : MS} {L : Int} : (drawM r L).am = r.am ∧ (drawM r L).ac = r.ac ∧ (drawM r L).ag = r.ag ∧ (drawM r L).spot = r.spot + 1 ∧ (drawM r L).cs = r.cs := by
  unfold drawM
  split <;> exact ⟨rfl, rfl, rfl, rfl, rfl⟩
theorem CsR.of {G : Cl} {M : AP} {H : Hp} {r r' : MS} (h : CsR G M H r) (e1 : r'.cs = r.cs) (e2 : r'.am = r.am) (e3 : r'.ac = r.ac) (e4 : r'.ag = r.ag) : CsR G M H r' := by
  have ea : Mo.ad (some r') = Mo.ad (some r) := by
    unfold Mo.ad
    dsimp only
    rw [e1, e2]
  have eb : r'.ads = r.ads := by
    unfold MS.ads
    rw [e1]
  exact ⟨fun c hc => by rw [ea]; exact h.c c (by rw [← e1]; exact hc), by rw [eb]; exact h.nd, fun b hb => by rw [e2, e3, e4]; exact h.ap b (by rw [← eb]; exact hb)⟩
/-- the draws' own objects -/
def drO (r : MS) : AP := fun b => b = r.am ∨ b = r.ac ∨ b = r.ag
/-- what a draw leaves -/
structure DrawOk (FM : DF) : Prop where
  mix : ∀ (m : Mo) (c n : Int), 0 ≤ c → c < 1000000000000 → 0 ≤ n → n < 1000000000000 → FM [.int c, .int n] m = .ok (.int (mixV c n)) m
abbrev dKm (r : MS) : HO := .dK [(Sum.inr "cells", V.ref r.ac), (Sum.inr "great", V.ref r.ag), (Sum.inr "spot", V.int r.spot)]
theorem dgC {H : Hp} {r : MS} (h : H r.am = some (dKm r)) : DGet H r.am (.str "cells") (some (.ref r.ac)) := .inl ⟨_, Sum.inr "cells", .inl h, rfl, rfl⟩
theorem dgG {H : Hp} {r : MS} (h : H r.am = some (dKm r)) : DGet H r.am (.str "great") (some (.ref r.ag)) := .inl ⟨_, Sum.inr "great", .inl h, rfl, rfl⟩
theorem dgS {H : Hp} {r : MS} (h : H r.am = some (dKm r)) : DGet H r.am (.str "spot") (some (.int r.spot)) := .inl ⟨_, Sum.inr "spot", .inl h, rfl, rfl⟩
theorem dpS {H : Hp} {r : MS} (h : H r.am = some (dKm r)) : DPut H r.am (.str "spot") (.int ((r.spot : Int) + 1)) (upd H r.am (dKm { r with spot := r.spot + 1 })) :=
  .inl ⟨_, Sum.inr "spot", h, rfl, by show 3 < sizeLine; decide, rfl⟩
end Dn
namespace Dn
open PySem PySem.Spec PyProof.Rows L2

/-! the denotations, evaluated -/
section
variable {α β : Type} {m m1 m2 : Mo} {ρ ρ1 : Ro}
theorem ev_bind {a : α} {k : α → Mo → R β} : (R.ok a m).bind k = k a m := Eq.trans rfl rfl
theorem ev_bindx {c : Nat} {l : List D} {k : α → Mo → R β} : (R.exc c l m : R α).bind k = .exc c l m := Eq.trans rfl rfl
theorem ev_map {a : α} {g : α → β} : (R.ok a m).map g = .ok (g a) m := Eq.trans rfl rfl
theorem ev_mapx {c : Nat} {l : List D} {g : α → β} : (R.exc c l m : R α).map g = .exc c l m := Eq.trans rfl rfl
theorem ev_of {a : α} : R.of (some a) m = .ok a m := Eq.trans rfl rfl
theorem ev_sb {a : α} {k : α → Mo → SR} : sBind (R.ok a m) k = k a m := Eq.trans rfl rfl
theorem ev_sbx {c : Nat} {l : List D} {k : α → Mo → SR} : sBind (R.exc c l m : R α) k = .exc c l m := Eq.trans rfl rfl
theorem ev_nx {k : Ro → Mo → SR} : (SR.nx ρ m).next k = k ρ m := Eq.trans rfl rfl
theorem ev_rt {d : D} {k : Ro → Mo → SR} : (SR.rt d m).next k = .rt d m := Eq.trans rfl rfl
theorem ev_nexc {c : Nat} {l : List D} {k : Ro → Mo → SR} : (SR.exc c l m).next k = .exc c l m := Eq.trans rfl rfl
theorem ev_var {i : Nat} {d : D} (h : ρ[i]? = some (some (.v d))) : dVar i ρ m = .ok d m := by
  unfold dVar
  rw [h]
theorem ev_peek {i : Nat} {d : D} (h : ρ[i]? = some (some (.v d))) : dPeek i ρ m = .ok d m := by
  unfold dPeek
  rw [h]
theorem ev_peekM {i : Nat} {ds : List D} (h : ρ[i]? = some (some (.ml ds))) : dPeek i ρ m = .ok (.lst ds) m := by
  unfold dPeek
  rw [h]
theorem ev_var0 {d : D} {r : Ro} : dVar 0 (some (.v d) :: r) m = .ok d m := Eq.trans rfl rfl
theorem ev_varS {n : Nat} {x : Option Sv} {r : Ro} : dVar (n + 1) (x :: r) m = dVar n r m := Eq.trans rfl rfl
theorem ev_peek0 {d : D} {r : Ro} : dPeek 0 (some (.v d) :: r) m = .ok d m := Eq.trans rfl rfl
theorem ev_peekM0 {d : List D} {r : Ro} : dPeek 0 (some (.ml d) :: r) m = .ok (.lst d) m := Eq.trans rfl rfl
theorem ev_peekS {n : Nat} {x : Option Sv} {r : Ro} : dPeek (n + 1) (x :: r) m = dPeek n r m := Eq.trans rfl rfl
theorem ev_c {d : D} : dC d ρ m = .ok d m := Eq.trans rfl rfl
theorem ev_op {g : D → D → Option D} {fa fb : DE} : dOp g fa fb ρ m = (fa ρ m).bind fun x m1 => (fb ρ m1).bind fun y m2 => R.of (g x y) m2 := Eq.trans rfl rfl
theorem ev_un {g : D → Option D} {fa : DE} : dUn g fa ρ m = (fa ρ m).bind fun x m1 => R.of (g x) m1 := Eq.trans rfl rfl
theorem ev_nil : dNil ρ m = .ok [] m := Eq.trans rfl rfl
theorem ev_cons {fa : DE} {fr : DA} : dCons fa fr ρ m = (fa ρ m).bind fun x m1 => (fr ρ m1).bind fun xs m2 => .ok (x :: xs) m2 := Eq.trans rfl rfl
theorem ev_cb {g : List D → Option D} {fa : DA} : dCB g fa ρ m = (fa ρ m).bind fun xs m1 => R.of (g xs) m1 := Eq.trans rfl rfl
theorem ev_tup {fa : DA} : dTup fa ρ m = (fa ρ m).bind fun xs m1 => if xs.length ≤ 10000 then .ok (.tup xs) m1 else .bad := Eq.trans rfl rfl
theorem ev_lst {fa : DA} : dLst fa ρ m = (fa ρ m).bind fun xs m1 => if xs.length ≤ 10000 then .ok (.lst xs) m1 else .bad := Eq.trans rfl rfl
theorem ev_test {fa : DE} : dTest fa ρ m = (fa ρ m).bind fun x m1 => match x with
  | .bl b => .ok b m1
  | _ => .bad := Eq.trans rfl rfl
theorem ev_not {fa : DT} : dNot fa ρ m = (fa ρ m).bind fun x m1 => .ok (!x) m1 := Eq.trans rfl rfl
theorem ev_and {fa fb : DT} : dAnd fa fb ρ m = (fa ρ m).bind fun x m1 => if x = true then fb ρ m1 else .ok false m1 := Eq.trans rfl rfl
theorem ev_or {fa fb : DT} : dOr fa fb ρ m = (fa ρ m).bind fun x m1 => if x = true then .ok true m1 else fb ρ m1 := Eq.trans rfl rfl
theorem ev_if {c : DT} {fa fb : DE} : dIf c fa fb ρ m = (c ρ m).bind fun x m1 => if x = true then fa ρ m1 else fb ρ m1 := Eq.trans rfl rfl
theorem ev_tru {f : DE} : dTru f ρ m = (f ρ m).bind fun x m1 => R.of (truD x) m1 := Eq.trans rfl rfl
theorem ev_dv {f : DE} : dvV f ρ m = (f ρ m).map .v := Eq.trans rfl rfl
theorem ev_dvl {fa : DA} : dvLst fa ρ m = (fa ρ m).bind fun xs m1 => if xs.length ≤ 10000 then .ok (.ml xs) m1 else .bad := Eq.trans rfl rfl
theorem ev_fld {c : Nat} {fo : DE} : dFld c fo ρ m = (fo ρ m).bind fun x m1 => match x with
  | .obj c' d => if c' = c then .ok d m1 else .bad
  | _ => .bad := Eq.trans rfl rfl
theorem ev_call {n : Nat} {F : DF} {fa : DA} : dCall n F fa ρ m = (fa ρ m).bind fun ds m1 => if ds.length = n then F ds m1 else .bad := Eq.trans rfl rfl
theorem ev_meth {c n : Nat} {F : DF} {fo : DE} {fa : DA} : dMeth c n F fo fa ρ m = (fo ρ m).bind fun x m1 => match x with
  | .obj c' d => if c' = c then (fa ρ m1).bind fun ds m2 => if ds.length + 1 = n then F (.obj c' d :: ds) m2 else .bad
    else .bad
  | _ => .bad := Eq.trans rfl rfl
theorem ev_make {c : Nat} {F : DF} {fa : DA} : dMake c F fa ρ m = (fa ρ m).bind fun ds m1 => match ds with
  | [d] => (F [d] m1).bind fun z m2 => .ok (.obj c z) m2
  | _ => .bad := Eq.trans rfl rfl
theorem ev_seq {f g : DS} : sSeq f g ρ m = (f ρ m).next g := Eq.trans rfl rfl
theorem ev_set {i : Nat} {f : DV} : sSet i f ρ m = sBind (f ρ m) fun s m1 => if i < ρ.length then .nx (ρ.set i (some s)) m1 else .bad := Eq.trans rfl rfl
theorem ev_ret {f : DE} : sRet f ρ m = sBind (f ρ m) fun d m1 => .rt d m1 := Eq.trans rfl rfl
theorem ev_expr {f : DE} : sExpr f ρ m = sBind (f ρ m) fun _ m1 => .nx ρ m1 := Eq.trans rfl rfl
theorem ev_sif {c : DT} {f g : DS} : sIf c f g ρ m = sBind (c ρ m) fun b m1 => if b = true then f ρ m1 else g ρ m1 := Eq.trans rfl rfl
theorem ev_sNx : sNx ρ m = .nx ρ m := Eq.trans rfl rfl
theorem ev_par {i j : Nat} {fa : DA} : sPar i j fa ρ m = sBind (fa ρ m) fun ds m1 => match ds with
  | [a, b] => .nx ((ρ.set i (some (.v a))).set j (some (.v b))) m1
  | _ => .bad := Eq.trans rfl rfl
theorem ev_for {f : DI} {h : D → Ro → Option Ro} {body : DS} : sFor f h body ρ m = sBind (f ρ m) fun ds m1 => forD h body ds ρ m1 := Eq.trans rfl rfl
theorem ev_frz {i : Nat} {f : DS} : sFrz i f ρ m = f (frzR i ρ) m := Eq.trans rfl rfl
theorem ev_frzR {i : Nat} : frzR i ρ = match ρ[i]? with
  | some (some (.ml ds)) => ρ.set i (some (.v (.lst ds)))
  | some (some (.mk l)) => ρ.set i (some (.v (.dct l)))
  | some (some (.mn l)) => ρ.set i (some (.v (.dcn l)))
  | _ => ρ := Eq.trans rfl rfl
theorem ev_app {i : Nat} {f : DE} : sApp i f ρ m = match ρ[i]? with
  | some (some (.ml ds)) => sBind (f ρ m) fun d m1 => if ds.length ≤ 10000 then .nx (ρ.set i (some (.ml (ds ++ [d])))) m1 else .bad
  | _ => .bad := Eq.trans rfl rfl
theorem ev_put {i : Nat} {fv fk : DE} : sPut i fv fk ρ m = sBind (fv ρ m) fun d m1 => match ρ[i]? with
  | some (some (.ml ds)) => sBind (fk ρ m1) fun k m2 => match k with
    | .int k => match ixN ds.length k with
      | some j => .nx (ρ.set i (some (.ml (ds.set j d)))) m2
      | none => .bad
    | _ => .bad
  | _ => .bad := Eq.trans rfl rfl
theorem ev_run {N : Nat} {f : DS} {ds : List D} : runD N f ds m = match f (ro0 N ds) m with
  | .nx _ m' => .ok .non m'
  | .rt d m' => .ok d m'
  | .exc c l m' => .exc c l m'
  | _ => .bad := Eq.trans rfl rfl
theorem ev_init {f1 fv : DE} {d : D} : initD f1 fv [d] m = (f1 [none, some (.v d)] m).bind fun _ m1 => fv [none, some (.v d)] m1 := Eq.trans rfl rfl
theorem ev_rgT2 {fa fb : DE} : dRgT2 fa fb ρ m = (fa ρ m).bind fun x m1 => (fb ρ m1).bind fun y m2 => match x, y with
  | .int i, .int j => if rgOk i j = true then .ok (.tup (rgD i j)) m2 else .bad
  | _, _ => .bad := Eq.trans rfl rfl
theorem ev_rng1 {f : DA} : dRng1 f ρ m = (f ρ m).bind fun d m1 => match d with
  | [.int j] => if -1000000 ≤ j ∧ j ≤ 1000000 then .ok (rangeD 0 j.toNat) m1 else .bad
  | _ => .bad := Eq.trans rfl rfl
theorem ev_rng2 {f : DA} : dRng2 f ρ m = (f ρ m).bind fun d m1 => match d with
  | [.int i, .int j] => if -1000000 ≤ j ∧ j ≤ 1000000 ∧ -1000000 ≤ i ∧ i ≤ 1000000 then .ok (rangeD i (j - i).toNat) m1 else .bad
  | _ => .bad := Eq.trans rfl rfl
theorem ev_seqU {f : DE} : dSeqU f ρ m = (f ρ m).bind fun d m1 => match d with
  | .lst l => .ok l m1
  | .tup l => .ok l m1
  | .scr ns => .ok (ns.map D.int) m1
  | _ => .bad := Eq.trans rfl rfl
theorem ev_enumU {f : DA} : dEnumU f ρ m = (f ρ m).bind fun d m1 => match d with
  | [.lst l] => .ok (enumD 0 l) m1
  | [.tup l] => .ok (enumD 0 l) m1
  | [.scr ns] => .ok (enumD 0 (ns.map D.int)) m1
  | _ => .bad := Eq.trans rfl rfl
theorem ev_sl {fx : DE} {fl fh : DO} : dSl fx fl fh ρ m = (fx ρ m).bind fun x m1 => (fl ρ m1).bind fun l m2 => (fh ρ m2).bind fun h m3 => R.of (slD x l h) m3 := Eq.trans rfl rfl
theorem ev_nop : dNoPart ρ m = .ok none m := Eq.trans rfl rfl
theorem ev_part {f : DE} : dPart f ρ m = (f ρ m).bind fun x m1 => match x with
  | .int i => .ok (some i) m1
  | _ => .bad := Eq.trans rfl rfl
theorem ev_star {fa : DE} {fr : DA} : dStar fa fr ρ m = (fa ρ m).bind fun x m1 => match x with
  | .tup l => (fr ρ m1).bind fun xs m2 => .ok (l ++ xs) m2
  | .lst l => (fr ρ m1).bind fun xs m2 => .ok (l ++ xs) m2
  | _ => .bad := Eq.trans rfl rfl
theorem ev_chain {g g' : D → D → Option D} {fa fb fc : DE} : dChain g g' fa fb fc ρ m = (fa ρ m).bind fun x m1 => (fb ρ m1).bind fun y m2 => match g x y with
  | some (.bl true) => (fc ρ m2).bind fun z m3 => R.of (g' y z) m3
  | some (.bl false) => .ok (.bl false) m2
  | _ => .bad := Eq.trans rfl rfl
theorem ev_lc {fi : DI} {h : D → Ro → Option Ro} {tt : DT} {fe : DE} {vs : List Nat} : dLc fi h tt fe vs ρ m = (fi ρ m).bind fun ds m1 => if ds.length ≤ 100000 then lcD h tt fe ds (wipeD ρ vs) m1 else .bad := Eq.trans rfl rfl
theorem ev_isi {n : String} {fa : DE} : dIsi n fa ρ m = (fa ρ m).bind fun x m1 => match tyD x with
  | some t => if n ∈ clNames then .ok (.bl (sb t n)) m1 else .bad
  | none => .bad := Eq.trans rfl rfl
theorem ev_isiT {ns : List String} {fa : DE} : dIsiT ns fa ρ m = (fa ρ m).bind fun x m1 => match tyD x with
  | some t => if (∀ n ∈ ns, n ∈ clNames) ∧ ns.length ≤ 100 then .ok (.bl (ns.any (sb t))) m1 else .bad
  | none => .bad := Eq.trans rfl rfl
theorem ev_addI {i j : Int} : addD (.int i) (.int j) = some (.int (i + j)) := Eq.trans rfl rfl
theorem ev_addS {x y : Str} (h : x.length + y.length ≤ 1000000) : addD (.str x) (.str y) = some (.str (x ++ y)) := if_pos h
theorem ev_addT {x y : List D} (h : x.length + y.length ≤ 1000000) : addD (.tup x) (.tup y) = some (.tup (x ++ y)) := if_pos h
theorem ev_addL {x y : List D} (h : x.length + y.length ≤ 1000000) : addD (.lst x) (.lst y) = some (.lst (x ++ y)) := if_pos h
theorem ev_subI {i j : Int} : subD (.int i) (.int j) = some (.int (i - j)) := Eq.trans rfl rfl
theorem ev_mulR {i j : Int} (h : -18446744073709551616 < j ∧ j < 18446744073709551616) : mulD (.int i) (.int j) = some (.int (i * j)) := if_pos (.inr h)
theorem ev_mulL {i j : Int} (h : -18446744073709551616 < i ∧ i < 18446744073709551616) : mulD (.int i) (.int j) = some (.int (i * j)) := if_pos (.inl h)
theorem ev_modI {i j : Int} (h : 0 < j) : modD (.int i) (.int j) = some (.int (i % j)) := if_pos h
theorem ev_divI {i j : Int} (h : 0 < j ∧ j < 1073741824) : divD (.int i) (.int j) = some (.int (i / j)) := if_pos h
theorem ev_pow18 : powD (.int 10) (.int 18) = some (.int 1000000000000000000) := Eq.trans rfl rfl
theorem ev_truB {b : Bool} : truD (.bl b) = some b := Eq.trans rfl rfl
theorem ev_truI {i : Int} : truD (.int i) = some (i != 0) := Eq.trans rfl rfl
theorem ev_truT {l : List D} : truD (.tup l) = some (!l.isEmpty) := Eq.trans rfl rfl
theorem ev_truL {l : List D} : truD (.lst l) = some (!l.isEmpty) := Eq.trans rfl rfl
theorem ev_truN : truD .non = some false := Eq.trans rfl rfl
theorem ev_intI {i : Int} : Dn.intD [.int i] = some (.int i) := Eq.trans rfl rfl
theorem ev_absI {i : Int} : absD [.int i] = some (.int (if i < 0 then -i else i)) := Eq.trans rfl rfl
theorem ev_lenT {l : List D} : lenD [.tup l] = some (.int l.length) := Eq.trans rfl rfl
theorem ev_lenL {l : List D} : lenD [.lst l] = some (.int l.length) := Eq.trans rfl rfl
theorem ev_cmp {p : Int → Int → Bool} {i j : Int} : cmpD p (.int i) (.int j) = some (.bl (p i j)) := Eq.trans rfl rfl
theorem eqv_int {i j : Int} : PyData.eqv (.int i) (.int j) = (i == j) := by simp [PyData.eqv]
theorem ev_eqI {i j : Int} : eqD (.int i) (.int j) = some (.bl (i == j)) := by
  show (if (D.int i).plain 60 = true ∧ (D.int j).plain 60 = true then some (D.bl (PyData.eqv (D.int i).py (D.int j).py)) else none) = _
  rw [if_pos ⟨by simp [D.plain], by simp [D.plain]⟩]
  simp [D.py, PyData.eqv]
theorem ev_neI {i j : Int} : neD (.int i) (.int j) = some (.bl (!(i == j))) := by
  show (if (D.int i).plain 60 = true ∧ (D.int j).plain 60 = true then some (D.bl (!PyData.eqv (D.int i).py (D.int j).py)) else none) = _
  rw [if_pos ⟨by simp [D.plain], by simp [D.plain]⟩]
  simp [D.py, PyData.eqv]
theorem ev_eqS {x y : Str} : eqD (.str x) (.str y) = some (.bl (decide (x = y))) := Eq.trans rfl rfl
theorem ev_neS {x y : Str} : neD (.str x) (.str y) = some (.bl (!decide (x = y))) := Eq.trans rfl rfl
theorem ev_reprS {x : Str} (h : (reprText x).length ≤ 10000000) : reprD [.str x] = some (.str (reprText x)) := if_pos h
theorem ev_toTupT {l : List D} : toTup [.tup l] = some (.tup l) := Eq.trans rfl rfl
theorem ev_toTupL {l : List D} : toTup [.lst l] = some (.tup l) := Eq.trans rfl rfl
theorem ev_hName {i : Nat} {d : D} : hName i d ρ = some (ρ.set i (some (.v d))) := Eq.trans rfl rfl
end
theorem ev_wipe0 {ρ : Ro} : wipeD ρ [] = ρ := Eq.trans rfl rfl
theorem ev_wipeS {ρ : Ro} {v : Nat} {vs : List Nat} : wipeD ρ (v :: vs) = (wipeD ρ vs).set v none := Eq.trans rfl rfl
theorem ev_hTup {n : Nat} {k : List D → Ro → Option Ro} {l : List D} {ρ : Ro} : hTup n k (.tup l) ρ = if l.length = n then k l ρ else none := Eq.trans rfl rfl
theorem ev_hCons {h : D → Ro → Option Ro} {k : List D → Ro → Option Ro} {d : D} {r : List D} {ρ : Ro} : hCons h k (d :: r) ρ = (h d ρ).bind (k r) := Eq.trans rfl rfl
theorem ev_hNil {ρ : Ro} : hNil [] ρ = some ρ := Eq.trans rfl rfl
theorem ev_some {α β : Type} {a : α} {f : α → Option β} : (some a).bind f = f a := Eq.trans rfl rfl
/-! comprehensions and loops, evaluated -/
theorem lcD_gen {α : Type} {h : D → Ro → Option Ro} {tt : DT} {fe : DE} {ρ : Ro} {m : Mo} (f : α → D) (p : α → Bool) (g : α → D) : ∀ (xs : List α), (∀ x ∈ xs, ∃ ρ1, h (f x) ρ = some ρ1 ∧ tt ρ1 m = .ok (p x) m ∧ (p x = true → fe ρ1 m = .ok (g x) m)) →
    lcD h tt fe (xs.map f) ρ m = .ok ((xs.filter p).map g) m
  | [], _ => rfl
  | x :: r, H => by
    obtain ⟨ρ1, h1, h2, h3⟩ := H x List.mem_cons_self
    have ih := lcD_gen f p g r fun y hy => H y (List.mem_cons_of_mem _ hy)
    rw [List.map_cons]
    unfold lcD
    rw [h1]
    dsimp only
    rw [h2]
    cases q : p x with
    | true =>
      dsimp only
      rw [h3 q, List.filter_cons_of_pos q]
      dsimp only
      rw [ih]
      rfl
    | false =>
      dsimp only
      rw [ih, List.filter_cons_of_neg (by rw [q]; exact Bool.false_ne_true)]
theorem lcD_all {α : Type} {h : D → Ro → Option Ro} {tt : DT} {fe : DE} {ρ : Ro} {m : Mo} (f : α → D) (g : α → D) (xs : List α) (H : ∀ x ∈ xs, ∃ ρ1, h (f x) ρ = some ρ1 ∧ tt ρ1 m = .ok true m ∧ fe ρ1 m = .ok (g x) m) :
    lcD h tt fe (xs.map f) ρ m = .ok (xs.map g) m := by
  have z := lcD_gen (h := h) (tt := tt) (fe := fe) (ρ := ρ) (m := m) f (fun _ => true) g xs fun x hx => by
    obtain ⟨ρ1, h1, h2, h3⟩ := H x hx
    exact ⟨ρ1, h1, h2, fun _ => h3⟩
  rw [z, List.filter_eq_self.mpr (fun _ _ => rfl)]
theorem forD_inv {h : D → Ro → Option Ro} {body : DS} (I : Nat → Ro → Mo → Prop) : ∀ (ds : List D) (k : Nat) (ρ : Ro) (m : Mo), (∀ i d ρ m, ds[i]? = some d → I (k + i) ρ m → ∃ ρ1 ρ2 m2, h d ρ = some ρ1 ∧ (body ρ1 m = .nx ρ2 m2 ∨ body ρ1 m = .ct ρ2 m2) ∧ I (k + i + 1) ρ2 m2) →
    I k ρ m → ∃ ρ' m', forD h body ds ρ m = .nx ρ' m' ∧ I (k + ds.length) ρ' m'
  | [], k, ρ, m, _, h0 => ⟨ρ, m, rfl, h0⟩
  | d :: r, k, ρ, m, st, h0 => by
    obtain ⟨ρ1, ρ2, m2, h1, h2, h3⟩ := st 0 d ρ m rfl h0
    obtain ⟨ρ', m', e, q⟩ := forD_inv I r (k + 1) ρ2 m2 (fun i d ρ m hi hI => by
      have e1 : k + 1 + i = k + (i + 1) := by omega
      rw [e1] at hI ⊢
      exact st (i + 1) d ρ m (by simpa using hi) hI) h3
    refine ⟨ρ', m', ?_, ?_⟩
    · unfold forD
      rw [h1]
      dsimp only
      rcases h2 with h2 | h2
      · rw [h2]
        exact e
      · rw [h2]
        exact e
    · rw [List.length_cons, show k + (r.length + 1) = k + 1 + r.length by omega]
      exact q
theorem forD_inv0 {h : D → Ro → Option Ro} {body : DS} (I : Nat → Ro → Mo → Prop) (ds : List D) (ρ : Ro) (m : Mo) (st : ∀ i d ρ m, ds[i]? = some d → I i ρ m → ∃ ρ1 ρ2 m2, h d ρ = some ρ1 ∧ (body ρ1 m = .nx ρ2 m2 ∨ body ρ1 m = .ct ρ2 m2) ∧ I (i + 1) ρ2 m2) (h0 : I 0 ρ m) :
    ∃ ρ' m', forD h body ds ρ m = .nx ρ' m' ∧ I ds.length ρ' m' := by
  have z := forD_inv I ds 0 ρ m (fun i d ρ m hi hI => by
    rw [Nat.zero_add] at hI ⊢
    exact st i d ρ m hi hI) h0
  rw [Nat.zero_add] at z
  exact z
theorem forD_use {P : Prop} {h : D → Ro → Option Ro} {body : DS} (I : Nat → Ro → Mo → Prop) (ds : List D) (ρ : Ro) (m : Mo) (h0 : I 0 ρ m) (st : ∀ i d ρ m, ds[i]? = some d → I i ρ m → ∃ ρ1 ρ2 m2, h d ρ = some ρ1 ∧ (body ρ1 m = .nx ρ2 m2 ∨ body ρ1 m = .ct ρ2 m2) ∧ I (i + 1) ρ2 m2)
    (fin : ∀ ρ' m', forD h body ds ρ m = .nx ρ' m' → I ds.length ρ' m' → P) : P := by
  obtain ⟨ρ', m', e, q⟩ := forD_inv0 I ds ρ m st h0
  exact fin ρ' m' e q
theorem cut_lo {l : List D} {k : Nat} : Dn.cutD l (some (k : Int)) none = l.drop k := by
  unfold Dn.cutD
  rw [HT.sIx_nat, HT.sIx_none]
  by_cases h : k ≤ l.length
  · rw [Nat.min_eq_left h]
    exact List.take_of_length_le (by rw [List.length_drop]; exact Nat.le_refl _)
  · rw [Nat.min_eq_right (by omega), List.drop_eq_nil_of_le (Nat.le_refl _), List.drop_eq_nil_of_le (by omega)]
    exact List.take_nil
theorem cut_hi {l : List D} {k : Nat} : Dn.cutD l none (some (k : Int)) = l.take k := by
  unfold Dn.cutD
  rw [HT.sIx_nat, HT.sIx_none, List.drop_zero, Nat.sub_zero]
  by_cases h : k ≤ l.length
  · rw [Nat.min_eq_left h]
  · rw [Nat.min_eq_right (by omega), List.take_of_length_le (Nat.le_refl _), List.take_of_length_le (by omega)]
theorem cut_lh {l : List D} {i k : Nat} : Dn.cutD l (some (i : Int)) (some (k : Int)) = (l.drop i).take (k - i) := by
  unfold Dn.cutD
  rw [HT.sIx_nat, HT.sIx_nat]
  by_cases h : i ≤ l.length
  · rw [Nat.min_eq_left h]
    by_cases h2 : k ≤ l.length
    · rw [Nat.min_eq_left h2]
    · rw [Nat.min_eq_right (by omega), List.take_of_length_le (by rw [List.length_drop]; exact Nat.le_refl _), List.take_of_length_le (by rw [List.length_drop]; omega)]
  · have e : min i l.length = l.length := by omega
    rw [e, List.drop_length, List.drop_eq_nil_of_le (show l.length ≤ i by omega), List.take_nil, List.take_nil]
theorem ev_slT {l : List D} {lo hi : Option Int} : slD (.tup l) lo hi = some (.tup (Dn.cutD l lo hi)) := Eq.trans rfl rfl
theorem ev_revT {l : List D} : revUD (.tup l) = some (.tup l.reverse) := Eq.trans rfl rfl
theorem ev_slL {l : List D} {lo hi : Option Int} : slD (.lst l) lo hi = some (.lst (Dn.cutD l lo hi)) := Eq.trans rfl rfl
theorem ev_revL {l : List D} : revUD (.lst l) = some (.lst l.reverse) := Eq.trans rfl rfl
theorem rangeD_map (lo : Int) (n : Nat) : rangeD lo n = (List.range n).map fun (i : Nat) => D.int (lo + i) := rfl
theorem ixN_at {n j : Nat} (h : j < n) : ixN n (j : Int) = some j := by
  unfold ixN
  rw [if_pos (by omega), if_pos (by omega)]
  rfl
theorem ixD_int {ns : List Int} {j : Nat} {x : Int} (h : ns[j]? = some x) : ixD (.lst (ns.map D.int)) (.int (j : Int)) = some (.int x) := by
  show atI (ns.map D.int) (j : Int) = some (.int x)
  exact atI_nat (by rw [List.getElem?_map, h]; rfl)
theorem ixD_intT {ns : List Int} {j : Nat} {x : Int} (h : ns[j]? = some x) : ixD (.tup (ns.map D.int)) (.int (j : Int)) = some (.int x) := by
  show atI (ns.map D.int) (j : Int) = some (.int x)
  exact atI_nat (by rw [List.getElem?_map, h]; rfl)
end Dn
namespace Dn
open PySem PySem.Spec PyProof.Rows L2

/-! the law's call -/
theorem callerA_room {k : Nat} (h1 : callerA.depth + 3 * k + 5 < recursionLimit) (h2 : callerA.units + 16 * k + 200 < cLine) : RG k callerA := ⟨⟨rfl, h1, h2⟩, rfl⟩
/-- nothing but the script and tables -/
def OnlyT (H : Hp) : Prop := ∀ b, H b = none ∨ (∃ ps, H b = some (.tbl ps)) ∨ ∃ o xs, H b = some (.frz o (.lst xs))
abbrev tab0 : Obj := { cls := .none, data := .fields #[] }
structure TabsAt (K : PySem.W.Frag) (h : Heap) (cs : List (Addr × Addr)) : Prop where
  em : ∀ p ∈ cs, h.get? p.2 = some tab0
  ou : ∀ p ∈ cs, K.lookup p.2 = none
  hd : ∀ p ∈ cs, PySem.W.CodeHd h p.1 p.2
theorem law_callA {P : Program} {w : World} {K : PySem.W.Frag} {mg mb : Str → Option Value} {k : Nat} {fa a : Addr} {sp : Sp} {cs : List (Addr × Addr)} {s : Shared} {zs : List Value} {ns : List Int}
    (inK : K.In s.heap) (gl : s.heap.Ns mainGlobals mg) (bl : s.heap.Ns builtinsNs mb) (bo : ∀ x : Str, x ≠ "__name__" → mb x = bootBuiltins x) (nl : s.heap.NoLimit) (ng : s.gens = #[]) (ts : TabsAt K s.heap cs)
    (bmn : ∃ (m : Addr) (om : Obj), mg "__builtins__" = some (.ref m) ∧ m ≠ builtinsNs ∧ s.heap.get? m = some om ∧ om.cls = .type "module" ∧ om.dict = some builtinsNs ∧ om.data = .plain)
    (at_ : s.heap.get? a = some { cls := .type "list", data := .seq zs.toArray }) (are : IntsAre zs ns) (len : ns.length ≤ sizeLine) (hr : RG k callerA)
    (F : ∀ base : Heap, K.In base → base.Ns mainGlobals mg → (∀ p ∈ cs, LamX.TabB base mg p.1 p.2) → FnA P w K mg base k fa sp)
    (hsp : ∀ H : Hp, OnlyT H → (∀ p ∈ cs, H p.2 = some (.tbl #[])) → SqL K H a (ns.map V.int) → sp [.ref a] H (fun v _ => v = .bl true) fun _ _ _ => False) :
    codeAny (model P w) callerA (.call (.ref fa) ⟨[.ref a], []⟩) (fun r t => r = .ok (.ret (.bool true)) ∧ OldK s.heap t.heap ∧ t.os = s.os ∧ AllBare t.gens) s := by
  have vals := vals_ints are
  have ell := are.length
  have tmem : ∀ b : Addr, b ∈ cs.map (fun p => p.2) → s.heap.get? b = some tab0 ∧ K.lookup b = none ∧ ∃ p ∈ cs, p.2 = b := fun b hb => by
    obtain ⟨p, hp, rfl⟩ := List.mem_map.mp hb
    exact ⟨ts.em p hp, ts.ou p hp, p, hp, rfl⟩
  have memt : ∀ p ∈ cs, p.2 ∈ cs.map (fun p => p.2) := fun p hp => List.mem_map.mpr ⟨p, hp, rfl⟩
  have aNot : a ∉ cs.map (fun p => p.2) := fun z => by
    have y := (tmem a z).1
    rw [at_] at y
    have y' := congrArg Obj.data (Option.some.inj y)
    cases (show Data.seq zs.toArray _ = Data.fields #[] from y')
  have main : ∀ H : Hp, OnlyT H → (∀ p ∈ cs, H p.2 = some (.tbl #[])) → SqL K H a (ns.map V.int) → HOk P w H s.heap → (∀ b, H b ≠ none → b = a ∨ b ∈ cs.map (fun p => p.2)) → (∀ b ps, H b = some (.tbl ps) → b ∈ cs.map (fun p => p.2)) → (H a ≠ none → K.lookup a = none) →
      codeAny (model P w) callerA (.call (.ref fa) ⟨[.ref a], []⟩) (fun r t => r = .ok (.ret (.bool true)) ∧ OldK s.heap t.heap ∧ t.os = s.os ∧ AllBare t.gens) s := by
    intro H only tabs seq hok one onlyT noK
    have low : ∀ {b : Addr} {o : Obj}, s.heap.get? b = some o → H b = none → (hidT s.heap H).get? b = some o := fun q n => hidT_get q n
    have free : ∀ {b : Addr} {o : Obj}, s.heap.get? b = some o → (∀ vs n, o.data ≠ .seq vs n) → o.data ≠ .fields #[] → H b = none := fun {b o} q d1 d2 => by
      cases z : H b with
      | none => rfl
      | some u =>
        rcases one b (by rw [z]; exact Option.some_ne_none u) with eb | eb
        · rw [eb, at_] at q
          cases q
          exact (d1 _ _ rfl).elim
        · rw [(tmem b eb).1] at q
          cases q
          exact (d2 rfl).elim
    have lowNs : ∀ {b : Addr} {m : Str → Option Value}, s.heap.Ns b m → (hidT s.heap H).Ns b m := fun {b m} ⟨o, es, ep, q, d, r⟩ => ⟨o, es, ep, low q (free q (fun vs n z => by rw [d] at z; cases z) fun z => by rw [d] at z; cases z), d, r⟩
    have lowK : K.In (hidT s.heap H) := fun b o q => low (inK b o q) (by
      cases z : H b with
      | none => rfl
      | some u =>
        rcases one b (by rw [z]; exact Option.some_ne_none u) with eb | eb
        · subst eb
          rw [noK (by rw [z]; exact Option.some_ne_none u)] at q
          cases q
        · rw [(tmem b eb).2.1] at q
          cases q)
    obtain ⟨mc, l1, l2⟩ := nl
    have tabB : ∀ p ∈ cs, LamX.TabB (hidT s.heap H) mg p.1 p.2 := fun p hp => by
      refine ⟨?_, ?_, fun z => ?_⟩
      · obtain ⟨oc, uc, fl, tk, fg, tg, iF, tx, tt, q1, q2, q3, q4, q5, q6, q7, q8, q9, q10⟩ := ts.hd p hp
        refine ⟨oc, uc, fl, tk, fg, tg, iF, tx, tt, low q1 (free q1 (fun vs n z => ?_) fun z => ?_), q2, q3, q4, q5, q6, q7, q8, q9, q10⟩
        · rw [q3] at z
          cases z
        · rw [q3] at z
          cases z
          simp at q4
      · obtain ⟨m, om, c1, c2, c3, c4, c5, c6⟩ := bmn
        have ng1 : m ≠ mainGlobals := fun z => by
          obtain ⟨o, es, ep, y, d, _⟩ := gl
          rw [z, y] at c3
          cases c3
          rw [d] at c6
          cases c6
        have ng2 : m ≠ p.2 := fun z => by
          rw [z, ts.em p hp] at c3
          cases c3
          cases c6
        refine ⟨m, om, c1, c2, ng1, ng2, low c3 (free c3 (fun vs n z => ?_) fun z => ?_), c4, c5, c6⟩
        · rw [c6] at z
          cases z
        · rw [c6] at z
          cases z
      · obtain ⟨o, es, ep, y, d, _⟩ := gl
        rw [z, ts.em p hp] at y
        cases y
        cases d
    have env : Env0 P w K mg (hidT s.heap H) callerA [] s H := ⟨rfl, ⟨lowK, lowNs gl, ⟨mb, lowNs bl, bo⟩, ⟨mc, lowNs l1, l2⟩⟩, fun b o q => of_hidT q, Nat.le_of_eq (hidT_size _ _), trivial, fun b hb => absurd (show b ∈ ([] : List Addr) from hb) List.not_mem_nil, hok, .of_eq ng⟩
    refine codeAny_mono (F _ lowK (lowNs gl) tabB callerA [] s H [.ref a] [.ref a] _ _ hr env (.cons rfl .nil) (hsp H only tabs seq)) fun res t z => ?_
    match res, z with
    | .error u, z =>
      obtain ⟨_, _, _, _, _, _, _, _, _, _, _, _, y⟩ := z
      exact y.elim
    | .ok .next, z => exact z.elim
    | .ok .brk, z => exact z.elim
    | .ok .cont, z => exact z.elim
    | .ok (.ret u), z =>
      obtain ⟨v, H', os, bare, un, hok', rv, q⟩ := z
      have ev : v = .bl true := q
      subst ev
      have eu : u = Value.bool true := rv
      subst eu
      have same : ∀ b o, b ∉ cs.map (fun p => p.2) → s.heap.get? b = some o → t.heap.get? b = some o := fun b o nt q => by
        rcases only b with z | ⟨ps, z⟩ | ⟨ob, xs, z⟩
        · exact un.keep b o q z (fun y => absurd (show b ∈ ([] : List Addr) from y) List.not_mem_nil) List.not_mem_nil
        · exact absurd (onlyT b ps z) nt
        · obtain ⟨e1, _⟩ := hok b _ z
          obtain ⟨e2, _⟩ := hok' b _ (un.frzs b ob _ z)
          rw [q] at e1
          cases e1
          exact e2
      have more : ∀ p ∈ cs, ∃ ms : Array Value, t.heap.get? p.2 = some { cls := .none, data := .fields ms } := fun p hp => by
        obtain ⟨ms, z⟩ := un.tbls p.2 #[] (tabs p hp)
        exact ⟨_, hok' p.2 _ z⟩
      refine ⟨rfl, ⟨fun b o q => ?_, fun b o q => ?_⟩, os, bare⟩
      · by_cases hb : b ∈ cs.map (fun p => p.2)
        · obtain ⟨q1, _, p, hp, rfl⟩ := tmem b hb
          obtain ⟨ms, z⟩ := more p hp
          rw [q1] at q
          cases q
          exact .inr (.inl ⟨((ts.hd p hp).tab (ts.em p hp)).isCodeTable, rfl, #[], ms, rfl, by rw [Array.empty_append]; exact z⟩)
        · exact .inl (same b o hb q)
      · by_cases hb : b ∈ cs.map (fun p => p.2)
        · obtain ⟨_, _, p, hp, rfl⟩ := tmem b hb
          obtain ⟨ms, z⟩ := more p hp
          exact ⟨_, z⟩
        · exact ⟨o, same b o hb q⟩
  cases hk : K.lookup a with
  | some o =>
    have q := inK a o hk
    rw [at_] at q
    cases q
    have hT : ∀ b, b ∈ cs.map (fun p => p.2) → (fun b => if b ∈ cs.map (fun p => p.2) then some (HO.tbl #[]) else none) b = some (.tbl #[]) := fun b hb => if_pos hb
    have hN : ∀ b, b ∉ cs.map (fun p => p.2) → (fun b => if b ∈ cs.map (fun p => p.2) then some (HO.tbl #[]) else none) b = none := fun b hb => if_neg hb
    refine main (fun b => if b ∈ cs.map (fun p => p.2) then some (.tbl #[]) else none) (fun b => ?_) (fun p hp => hT _ (memt p hp)) (.inr ⟨_, zs.toArray, _, hk, rfl, rfl, rfl, by rw [List.size_toArray, ell]; exact len, by simpa using vals⟩) (fun b u z => ?_) (fun b z => ?_) (fun b ps z => ?_) fun z => absurd (hN a aNot) z
    · by_cases hb : b ∈ cs.map (fun p => p.2)
      · exact .inr (.inl ⟨_, hT b hb⟩)
      · exact .inl (hN b hb)
    · by_cases hb : b ∈ cs.map (fun p => p.2)
      · have y := (hT b hb).symm.trans z
        cases y
        exact (tmem b hb).1
      · have y := (hN b hb).symm.trans z
        cases y
    · by_cases hb : b ∈ cs.map (fun p => p.2)
      · exact .inr hb
      · exact absurd (hN b hb) z
    · by_cases hb : b ∈ cs.map (fun p => p.2)
      · exact hb
      · have y := (hN b hb).symm.trans z
        cases y
  | none =>
    have hA : (fun b => if b = a then some (HO.frz { cls := .type "list", data := .seq zs.toArray } (.lst (ns.map V.int))) else if b ∈ cs.map (fun p => p.2) then some (HO.tbl #[]) else none) a = some (HO.frz { cls := .type "list", data := .seq zs.toArray } (.lst (ns.map V.int))) := if_pos rfl
    have hT : ∀ b, b ∈ cs.map (fun p => p.2) → (fun b => if b = a then some (HO.frz { cls := .type "list", data := .seq zs.toArray } (.lst (ns.map V.int))) else if b ∈ cs.map (fun p => p.2) then some (HO.tbl #[]) else none) b = some (.tbl #[]) := fun b hb => (if_neg (show ¬ b = a from fun z => aNot (z ▸ hb))).trans (if_pos hb)
    have hN : ∀ b, b ≠ a → b ∉ cs.map (fun p => p.2) → (fun b => if b = a then some (HO.frz { cls := .type "list", data := .seq zs.toArray } (.lst (ns.map V.int))) else if b ∈ cs.map (fun p => p.2) then some (HO.tbl #[]) else none) b = none := fun b h1 h2 => (if_neg h1).trans (if_neg h2)
    generalize (fun b => if b = a then some (HO.frz { cls := .type "list", data := .seq zs.toArray } (.lst (ns.map V.int))) else if b ∈ cs.map (fun p => p.2) then some (HO.tbl #[]) else none) = H at hA hT hN
    refine main H (fun b => ?_) (fun p hp => hT _ (memt p hp)) (.inl (.inr ⟨_, hA⟩)) (fun b u z => ?_) (fun b z => ?_) (fun b ps z => ?_) fun _ => hk
    · by_cases hb : b = a
      · exact .inr (.inr ⟨_, _, hb ▸ hA⟩)
      · by_cases hc : b ∈ cs.map (fun p => p.2)
        · exact .inr (.inl ⟨_, hT b hc⟩)
        · exact .inl (hN b hb hc)
    · by_cases hb : b = a
      · subst hb
        rw [hA] at z
        cases z
        exact ⟨at_, by rw [List.length_map]; exact len, zs, _, vals, at_⟩
      · by_cases hc : b ∈ cs.map (fun p => p.2)
        · rw [hT b hc] at z
          cases z
          exact (tmem b hc).1
        · rw [hN b hb hc] at z
          cases z
    · by_cases hb : b = a
      · exact .inl hb
      · by_cases hc : b ∈ cs.map (fun p => p.2)
        · exact .inr hc
        · exact absurd (hN b hb hc) z
    · by_cases hb : b = a
      · subst hb
        rw [hA] at z
        cases z
      · by_cases hc : b ∈ cs.map (fun p => p.2)
        · exact hc
        · rw [hN b hb hc] at z
          cases z
/-- the law over a head by facts -/
theorem walk_A {l : PySem.W.OpenLaw} {n k : Nat} {q : Program} {loose : List Str} {XP : (Str → Option Value) → Heap → Prop} {YP : World → Heap → Prop} {d : DefRec} (hn : l.most = some n) (hz : n ≤ sizeLine) (hdf : d.params.defaults = []) (hr : RG k callerA)
    (F : ∀ (w : World) (mg : Str → Option Value) (fa : Addr) (h : Heap), YP w h → h.Ns mainGlobals mg → mg d.name = some (.ref fa) →
      ∃ (K : PySem.W.Frag) (sp : Sp) (cs : List (Addr × Addr)), K.In h ∧ TabsAt K h cs ∧ (∀ (H : Hp) (a : Addr) (ns : List Int), ns.length ≤ n → OnlyT H → (∀ p ∈ cs, H p.2 = some (.tbl #[])) → SqL K H a (ns.map V.int) → sp [.ref a] H (fun v _ => v = .bl true) fun _ _ _ => False) ∧
        ∀ base : Heap, K.In base → base.Ns mainGlobals mg → (∀ p ∈ cs, LamX.TabB base mg p.1 p.2) → FnA l.prog w K mg base k fa sp) :
    PySem.W.WalkO q loose XP YP l.row.toRowW d [] (fun f vs => PySem.call f vs) := by
  refine Att.attach_call hn hdf fun w s₀ s₁ mg mb fa o pm cd doc a vs ns G Y ho hd hcd hmg hobj hints hlen hg => ?_
  obtain ⟨K, sp, cs, KX, TS, hsp, hF⟩ := F w mg fa _ Y G.T.g hmg
  exact law_callA KX G.T.g G.T.b G.T.builtins G.T.nolimit hg TS G.T.bmain hobj hints (Nat.le_trans hlen hz) hr hF fun H hO hT hS => hsp H a ns hlen hO hT hS
/-- the script as data -/
theorem scr_rep {G : Cl} {ad : Ad} {H : Hp} {a : Addr} {ns : List Int} (hO : OnlyT H) (h : SqL G.K H a (ns.map V.int)) : Rep G ad Non H (.ref a) (.scr ns) := by
  rcases h with (h | ⟨o, h⟩) | h
  · rcases hO a with z | ⟨ps, z⟩ | ⟨o, xs, z⟩
    · rw [h] at z
      cases z
    · rw [h] at z
      cases z
    · rw [h] at z
      cases z
  · exact .scrF h (fun z => z)
  · exact .scrK fun H' => .inr h
/-- tables that hold nothing -/
theorem tabs_nil {H : Hp} {cs : List (Addr × Addr)} {T : List (Addr × Str)} (h : ∀ p ∈ cs, H p.2 = some (.tbl #[])) (hT : ∀ t ∈ T, ∃ p ∈ cs, p.2 = t.1) : LamX.Tabs T H := fun t ht => by
  obtain ⟨p, hp, e⟩ := hT t ht
  exact LamX.TabS.nil (by rw [← e]; exact h p hp)
/-- what a law promises -/
def spLaw (G : Cl) : Sp := fun vs H Q E => ∃ (ns : List Int) (v : V), vs = [v] ∧ Rep G none Non H v (.scr ns) ∧ ns.length ≤ 63 ∧ LamX.Tabs G.T H ∧ ∀ H', Q (.bl true) H'
/-- the law's rows behind the first -/
theorem law_rest {G : Cl} {E : XK} {t : TS} {f : DS} {k : Nat} {r : MS} {v : V} {H : Hp} {Q : VK} (hd : Ds G E t f) (mr : MRec H r) (hcs : r.cs = []) (tb : LamX.Tabs G.T H) (ht : ∃ m', f (none :: some (.v .drw) :: List.replicate k none) (some r) = .rt (.bl true) m') (p : ∀ H', Q (.bl true) H') :
    t { nx := fun _ H' => Q .non H', rt := Q } (some v :: some (.ref r.am) :: List.replicate k none) H := by
  have mr2 : MRep G (Mo.has (some r)) H (some r) := ⟨mr, ⟨fun c hc => (by rw [hcs] at hc; cases hc), (by unfold MS.ads; rw [hcs]; exact List.nodup_nil), fun b hb => (by unfold MS.ads at hb; rw [hcs] at hb; cases hb)⟩⟩
  have st : Start G (Mo.has (some r)) (some r) H := ⟨mr2, fun _ h => h, fun b hb => MRep.has mr2 b hb, tb⟩
  have e0 := env_start (N := List.replicate (k + 2) "x") (vs := [.non, .ref r.am]) (ds := [.non, .drw]) (m := some r) (G := G) st (.cons .non (.cons (.drw (l := r.cs.map (·.a)) rfl) .nil)) (fun _ => 0)
  have e1 := e0.clr (i := 0)
  have er : (ro0 (List.replicate (k + 2) ("x" : Str)).length [.non, .drw]).set 0 none = none :: some (.v .drw) :: List.replicate k none := by
    unfold ro0
    rw [List.length_replicate]
    rfl
  have es : L2.start (List.replicate (k + 2) ("x" : Str)) [.non, .ref r.am] = some .non :: some (.ref r.am) :: List.replicate k none := by
    unfold L2.start
    rw [List.length_replicate]
    rfl
  rw [er, es] at e1
  have e2 := e1.keepσ (σ' := some v :: some (.ref r.am) :: List.replicate k none) rfl fun i s hi => by
    match i, hi with
    | 0, hi => cases hi
    | _ + 1, _ => rfl
  refine hd.run e2 _ ?_
  obtain ⟨m', hm⟩ := ht
  rw [hm]
  intro u H' g ru
  cases ru
  exact p H'
end Dn
namespace Dn
open PySem PySem.Spec PyProof.Rows L2
open PySem.W PySem.Calls
open Builtin Builtin.ObjectAttr

/-! an own exception class over a built-in one -/
structure XCls (K : Frag) (C : Addr) (B newId initId : String) (bmB : List Value) : Prop where
  ini : excInitIn K C bmB newId = true
  ovr : excOver K C bmB = true
  dct : hasDictIn K C = true
  sa : findIn K (.ref C) "__setattr__" = some (some (.builtin "object.__setattr__"))
  exC : subIn K (.ref C) (.type "BaseException") = some true
  tyC : typeIn K (.ref C) = some (.type "type")
  kC : keepIn K (.ref C) = true
  sB : subIn K (.ref C) (.type B) = some true
  sC : mroIn K C (.ref C) = some true
  sup : ks_superIn K C C "__init__" = some (some (.builtin initId))
  opq : nsIn K cStatics "thirdparty.any" = some none
/-- its own __init__: a def of the class, in the program's file -/
structure XFn (P : Program) (K : Frag) (C fI : Addr) (fd : FuncData) : Prop where
  at_ : ∃ od osl, K.lookup fI = some ⟨.type "function", od, .func fd, osl⟩
  clo : ∃ cc cl cld csl, fd.closure = [(("__class__" : Str), cc)] ∧ K.lookup cc = some ⟨cl, cld, .cell (some (.ref C)), csl⟩
  cod : ∃ cda ccl cdd ccs vs file tf, fd.code = .ref cda ∧ K.lookup cda = some ⟨ccl, cdd, .fields vs, ccs⟩ ∧ vs[2]? = some (.str file tf) ∧ ((P.main.file : Str) == file) = true
  glo : fd.globals = mainGlobals
  blt : fd.builtins = builtinsNs
  hcd : codeIn K fd.code fd.qualname = true
  fnd : findIn K (.ref C) "__init__" = some (some (.ref fI))

section
variable {P : Program} {w : World} {A : Around} {E : Value → Shared → Prop} {K : Frag} {C a L fI : Addr} {B newId initId : String} {bmB : List Value} {fd : FuncData} {mg m : Str → Option Value}
/-- super().__init__('..') -/
theorem supX_ok {body : List Stmt} {tx : Str} {j : Nat} {p0 p1 p2 p3 p4 p5 : Pos} {t0 : Addr} {h : Heap} {g : Array GenState} {d : Drawn} {t : Nat} {os : OsState} {ar : Arg} {Q : Flow → Shared → Prop}
    (FB : ExcBaseFacts B newId initId bmB) (KF : KxsFacts B initId) (T : XCls K C B newId initId bmB) (F : XFn P K C fI fd) (X : K.In h) (G : h.Ns mainGlobals mg) (hmg : mg "super" = none)
    (hb : ∃ mb, h.Ns builtinsNs mb ∧ mb "super" = some (.type "super")) (hL : h.Ns L m) (hm : m ar.arg = some (.ref a)) (he : h.get? a = some (excObj C t0 none .none))
    (hks : fd.scope.names.lookup ("super" : Str) = some .globalImplicit) (hkc : fd.scope.names.lookup ("__class__" : Str) = some .free) (hka : fd.scope.names.lookup ar.arg = some .local) (hk : fd.scope.kind = .function)
    {pl : Sem Bool} (hev : PySem.eval (.Call (.Attribute (.Call (.Name "super" p0) [] [] p1) "__init__" p2) [.Constant (.str tx) j p3] [] p4) (callEnv fd L fI) = (do
      let v ← attributeBase (.Call (.Name "super" p0) [] [] p1) "__init__" (callEnv fd L fI) (PySem.eval (.Call (.Name "super" p0) [] [] p1) (callEnv fd L fI))
      standAt p2.atName
      let (u, one) ← holding [v] (getMethod v "__init__" pl)
      callWith p4 u one (backTo p4 (starEach [.Constant (.str tx) j p3] (callEnv fd L fI))) []))
    (hp : (fd.params.posonlyargs ++ fd.params.args).head? = some ar) (htop : (P.main.scope.names.lookup ("super" : Str)).isSome = false)
    (hq : ∀ h' t' t1, (∀ b o, b ≠ a → h.get? b = some o → h'.get? b = some o) → h'.get? a = some (excObj C t1 none .none) → h.objs.size ≤ h'.objs.size → Q .next ⟨h', g, d, t', os⟩) :
    _root_.PySem.wpAt (model P w) A (.func body (callEnv fd L fI)) (exec (.Expr (.Call (.Attribute (.Call (.Name "super" p0) [] [] p1) "__init__" p2) [.Constant (.str tx) j p3] [] p4) p5) (callEnv fd L fI)) Q E ⟨h, g, d, t, os⟩ := by
  obtain ⟨od, osl, lk⟩ := F.at_
  obtain ⟨cc, cl, cld, csl, ec, lc⟩ := F.clo
  obtain ⟨cda, ccl, cdd, ccs, vs, file, tf, ed, ld, hvs, hfile⟩ := F.cod
  obtain ⟨mb, hb1, hb2⟩ := hb
  obtain ⟨nm, N', qn, bs, bm, hdct, sn', sub, ab, col, dd, k0, k1, k2, k3, k5, hC, hT⟩ := excInit_of X T.ini
  have hxC : a ≠ C := fun z => by
    rw [z, hC] at he
    cases he
  refine ks_wpAt_Expr_any (ks_wpAt_MethodCall (pl := pl) ?_ hev) (by
    show (fd.scope.kind == .module && _) = false
    rw [hk]
    rfl)
  refine ks_wpAt_super_base (env := callEnv fd L fI) hks hkc (by decide) rfl (X _ _ lk) rfl hp ed (X _ _ ld) rfl hvs hfile htop ?_
  refine ks_loadName_global hk hks (loadGlobal_builtin (env := callEnv fd L fI) (by rw [show (callEnv fd L fI).globals = mainGlobals from F.glo]; exact G) hmg (by rw [show (callEnv fd L fI).builtins = builtinsNs from F.blt]; exact hb1) hb2 ⟨rfl, ?_⟩)
  refine wpAny_loadName_free hk hkc (show fd.closure.lookup ("__class__" : Str) = some cc by rw [ec]; rfl) ⟨_, X _ _ lc, rfl⟩ ?_
  refine wpAny_loadName_local hk hka hL hm ?_
  refine ks_wpAny_isType_cls hC rfl ⟨rfl, ?_⟩
  refine ks_wpAny_call_super hC rfl he rfl (fun c e => by cases e) (looks_mroIn X T.sC) (fun h1 hso k1 => ?_)
  have X1 : K.In h1 := X.keeps k1
  have he1 := k1 _ _ he
  have I1 : InstAt h1 a (excObj C t0 none .none) C none := ⟨he1, rfl, rfl, trivial⟩
  have hI : Looks (model P w) h1 (isInstance (.ref a) (.type B)) true := I1.type.andThen (looks_subIn X1 T.sB)
  have hs := T.sup
  unfold ks_superIn at hs
  obtain ⟨cd, hcd, hal⟩ := Option.bind_eq_some_iff.mp hs
  refine kxs_getMethod KF hso (looks_opaque X1 T.opq) (l₀ := cd.mro) (fun A Q E s k q => wpAny_bind ((looks_clsIn X1 hcd) A _ E s k (wpAny_pure q))) rfl X1 hal hI hxC (by decide) ?_
  refine kxs_callWith (i := initId) (x := a) (by rfl) ?_
  show wpAny _ _ (evalArgs _ true ((false, eval (.Constant (.str tx) j p3) (callEnv fd L fI)) :: []) []) _ _ _
  refine evalArgs_plain (Calls.spliced_cons (Calls.Constant_str (Calls.spliced_nil ⟨?_, ?_⟩)))
  · exact Heap.get?_push_at rfl rfl
  have hu : (h1.push (kxs_mw initId a)).get? h1.objs.size = some (kxs_mw initId a) := Heap.get?_push_at rfl rfl
  refine wpAny_call (codeAny_of_tree ?_)
  show wpAny _ A.in1 (callAny (.ref h1.objs.size) _) _ _ _
  simp only [callAny]
  refine wpAny_bind (wpAny_load hu ?_)
  simp only [kxs_mw, show (Value.type "method-wrapper" == Value.type "method" || Value.type "method-wrapper" == Value.type "builtin_function_or_method" || Value.type "method-wrapper" == Value.type "method-wrapper") = true by decide, if_true]
  refine KFB.if_so (by decide) ?_
  have hC2 := Heap.get?_push_of_some (kxs_mw initId a) (k1 _ _ hC)
  have he2 := Heap.get?_push_of_some (kxs_mw initId a) he1
  refine wpAny_bind (check_bound_init FB.toExcCallFacts hC2 he2 rfl ?_)
  refine wpAny_bind (wpAny_pure (wpAny_pure ?_))
  refine ⟨plainId_quiet FB.init.plain _, codeAny_builtin FB.initEntry ?_⟩
  refine exc_init_tree (cls := .ref C) (t0 := t0) (dv := none) (c2 := .none) (c3 := .none) (b4 := .bool false) he2 ?_ fun h' k' e' t' => ?_
  · show ([_] : List Value).length ≤ sizeLine
    rw [sizeLine_eq]
    exact (by decide : 1 ≤ 16777216)
  · refine hq h' _ _ (fun b o hb q => k' b o hb (Heap.get?_push_of_some _ (k1 b o q))) e' ?_
    have l1 : h.objs.size < h1.objs.size := Heap.lt_size hso
    have l2 : (h1.push (kxs_mw initId a)).objs.size < h'.objs.size := Heap.lt_size t'
    rw [Heap.size_push] at l2
    exact Nat.le_of_lt (Nat.lt_of_lt_of_le l1 (Nat.le_of_lt (Nat.lt_of_le_of_lt (Nat.le_succ _) l2)))
/-- self.f = v, the first field -/
theorem osX_ok {f : Str} {t0 : Addr} {h : Heap} {g : Array GenState} {d : Drawn} {t : Nat} {os : OsState} {v : Value} {Q : Unit → Shared → Prop} (SF : StoreFacts B bmB "object.__setattr__" "object") (T : XCls K C B newId initId bmB) (X : K.In h)
    (he : h.get? a = some (excObj C t0 none .none)) (hf : takerIn K C f = some none)
    (hq : ∀ h' t' dx, (∀ b o, b ≠ a → h.get? b = some o → h'.get? b = some o) → h.objs.size ≤ dx → h'.get? a = some (excObj C t0 (some dx) .none) → h'.Ns1 dx (fun y => if y = f then some v else none) → Q () ⟨h', g, d, t', os⟩) :
    wpAny (model P w) A (setAttr (.ref a) f v) Q E ⟨h, g, d, t, os⟩ := by
  have has : a ≠ h.objs.size := Nat.ne_of_lt (Heap.lt_size he)
  refine set_plain X (ox := excObj C t0 none .none) (od := none) ⟨he, rfl, rfl, trivial⟩ T.sa ?_
  refine osa_openX (od := none) SF X ⟨he, rfl, rfl, trivial⟩ T.ovr hf fun b => ?_
  obtain ⟨cd, hc, hd'⟩ := any_some T.dct
  refine wpAny_bind (wpAny_pure (wpAny_bind (instanceDict_exc he (looks_clsIn X hc) hd' ?_)))
  show wpAny _ _ (storeInDict h.objs.size (.str f _) f v) _ _ _
  refine PySem.HandSPX.store_in_new ⟨_, #[], _, (Heap.get?_update_ne _ _ _ _ has.symm).trans (Heap.get?_push_at rfl rfl), rfl, fun e he => absurd he (by simp), fun _ => rfl⟩ fun h' tk' hn' hs => ?_
  have hx₁ : (h.push (dictOf [] 0)).get? a = some (excObj C t0 none .none) := Heap.get?_push_of_some _ he
  refine hq h' tk' h.objs.size (fun b o hb ho => ?_) (Nat.le_refl _) ?_ hn'
  · exact (hs.2 b (Nat.ne_of_lt (Heap.lt_size ho))).trans ((Heap.get?_update_ne _ _ _ _ hb).trans (Heap.get?_push_of_some _ ho))
  · exact (hs.2 a has).trans (Heap.get?_update_self _ hx₁ rfl)
end
end Dn
namespace Dn
open PySem PySem.Spec PyProof.Rows L2
open PySem.W PySem.Calls

theorem ns_at {h h' : Heap} {L : Addr} {m : Str → Option Value} (n : h.Ns L m) (e : ∀ o, h.get? L = some o → h'.get? L = some o) : h'.Ns L m := by
  obtain ⟨o, es, ep, ho, r⟩ := n
  exact ⟨o, es, ep, e o ho, r⟩
section
variable {P : Program} {w : World} {A : Around} {K : Frag} {C a fI : Addr} {B newId initId : String} {bmB : List Value} {fd : FuncData} {mg : Str → Option Value} {R : Result → Shared → Prop}
/-- what the program's text says of such an __init__ -/
structure XTxt (P : Program) (fd : FuncData) (sn : Str) (tx : Str) (j : Nat) (p0 p1 p2 p3 p4 p5 : Pos) : Prop where
  hks : fd.scope.names.lookup ("super" : Str) = some .globalImplicit
  hkc : fd.scope.names.lookup ("__class__" : Str) = some .free
  hka : fd.scope.names.lookup sn = some .local
  kind : fd.scope.kind = .function
  co : fd.scope.isCoroutine = false
  gen : fd.scope.isGenerator = false
  noc : ∀ x ∈ fd.scope.names, x.2 ≠ .cell
  hp : ∃ ar, (fd.params.posonlyargs ++ fd.params.args).head? = some ar ∧ ar.arg = sn
  top : (P.main.scope.names.lookup ("super" : Str)).isSome = false
  hev : ∃ pl : Sem Bool, ∀ env : Env, PySem.eval (.Call (.Attribute (.Call (.Name "super" p0) [] [] p1) "__init__" p2) [.Constant (.str tx) j p3] [] p4) env = (do
      let v ← attributeBase (.Call (.Name "super" p0) [] [] p1) "__init__" env (PySem.eval (.Call (.Name "super" p0) [] [] p1) env)
      standAt p2.atName
      let (u, one) ← holding [v] (getMethod v "__init__" pl)
      callWith p4 u one (backTo p4 (starEach [.Constant (.str tx) j p3] env)) [])
abbrev supStmt (tx : Str) (j : Nat) (p0 p1 p2 p3 p4 p5 : Pos) : Stmt := .Expr (.Call (.Attribute (.Call (.Name "super" p0) [] [] p1) "__init__" p2) [.Constant (.str tx) j p3] [] p4) p5
/-- what stands around -/
structure XAt (K : Frag) (mg : Str → Option Value) (a : Addr) (h : Heap) : Prop where
  kin : K.In h
  glo : h.Ns mainGlobals mg
  blt : ∃ mb, h.Ns builtinsNs mb ∧ mb "super" = some (.type "super")
  sup : mg "super" = none
  lim : h.NoLimit
  out : ∀ o, K.lookup a ≠ some o
theorem XAt.keeps {a : Addr} {h h' : Heap} (x : XAt K mg a h) (k : ∀ b o, h.get? b = some o → h'.get? b = some o) : XAt K mg a h' :=
  ⟨x.kin.keeps k, ns_at x.glo fun o => k _ o, let ⟨mb, h1, h2⟩ := x.blt; ⟨mb, ns_at h1 fun o => k _ o, h2⟩, x.sup, x.lim.keeps k, x.out⟩
/-- __init__(self, x): super().__init__('..'); self.f = x -/
theorem initX1 {sn x f tx : Str} {j : Nat} {p0 p1 p2 p3 p4 p5 q1 q2 q3 q4 : Pos} {t0 : Addr} {h : Heap} {g : Array GenState} {d : Drawn} {t : Nat} {os : OsState} {u : Value} {args : Args}
    (FB : ExcBaseFacts B newId initId bmB) (KF : KxsFacts B initId) (SF : StoreFacts B bmB "object.__setattr__" "object") (T : XCls K C B newId initId bmB) (F : XFn P K C fI fd) (Y : XTxt P fd sn tx j p0 p1 p2 p3 p4 p5) (X : XAt K mg a h) (hroom : A.depth < recursionLimit)
    (hbody : fd.body = .stmts [supStmt tx j p0 p1 p2 p3 p4 p5, .Assign [.Attribute (.Name sn q1) f q2] (.Name x q3) q4]) (hx : fd.scope.names.lookup x = some .local) (hne : x ≠ sn) (hds : (sn == ("__debug__" : Str)) = false) (hdx : (x == ("__debug__" : Str)) = false)
    (hsw : ∀ env, swapsWith (.Name x q3) (some (.Attribute (.Name sn q1) f q2)) q4.line env = pure false)
    (hbind : BindsTo ⟨h, g, d, t, os⟩ fd args [(sn, .ref a), (x, u)]) (hf : takerIn K C f = some none) (he : h.get? a = some (excObj C t0 none .none))
    (hq : ∀ h' t' t1 dx, (∀ b o, b ≠ a → h.get? b = some o → h'.get? b = some o) → h.objs.size ≤ dx → h'.get? a = some (excObj C t1 (some dx) .none) → h'.Ns1 dx (fun y => if y = f then some u else none) → R (.ok (.ret .none)) ⟨h', g, d, t', os⟩) :
    codeAny (model P w) A (.call (.ref fI) args) R ⟨h, g, d, t, os⟩ := by
  obtain ⟨od, osl, lk⟩ := F.at_
  obtain ⟨ar, hp, har⟩ := Y.hp
  obtain ⟨pl, hev⟩ := Y.hev
  refine ks_codeAny_call_defAt hroom (X.kin _ _ lk) rfl X.lim (codeRec_of X.kin F.hcd) hbody hbind Y.noc (fun y hy => ?_) (fun h₀ hns k0 => ?_) Y.co Y.gen Y.kind
  · simp only [List.mem_cons, List.not_mem_nil, or_false] at hy
    rcases hy with rfl | rfl
    · exact Y.hka
    · exact hx
  have X0 := X.keeps k0
  have hL : a ≠ h.objs.size := Nat.ne_of_lt (Heap.lt_size he)
  have m1 : ([(sn, Value.ref a), (x, u)] : List (Str × Value)).reverse.lookup sn = some (.ref a) := by
    simp [List.lookup, show (sn == x) = false by simpa using fun z => hne z.symm]
  have m2 : ([(sn, Value.ref a), (x, u)] : List (Str × Value)).reverse.lookup x = some u := by simp [List.lookup]
  refine ks_wpAt_execs_cons ?_
  refine supX_ok (m := fun y => ([(sn, Value.ref a), (x, u)] : List (Str × Value)).reverse.lookup y) FB KF T F X0.kin X0.glo X0.sup X0.blt hns (by rw [har]; exact m1) (k0 _ _ he) Y.hks Y.hkc (by rw [har]; exact Y.hka) Y.kind (hev _) hp Y.top fun h1 t1' tt k1 he1 sz => ?_
  have L1 : h1.Ns h.objs.size (fun y => ([(sn, Value.ref a), (x, u)] : List (Str × Value)).reverse.lookup y) := ns_at hns fun o => k1 _ o hL.symm
  have K1 : K.In h1 := fun b o q => by
    have z := X0.kin b o q
    exact k1 b o (fun e => X.out o (e ▸ q)) z
  have l0 : h.objs.size < h₀.objs.size := by
    obtain ⟨o, _, _, e, _⟩ := hns
    exact Heap.lt_size e
  refine ks_wpAt_execs_cons ?_
  refine ks_wpAt_Assign_Attr (wpAt_of_wpAny (ldc Y.kind hx L1 m2 (ldc Y.kind Y.hka L1 m1 ?_ hds) hdx)) (hsw _)
  refine osX_ok SF T K1 he1 hf fun h2 t2 dx k2 hdx2 he2 hn2 => ?_
  refine wpAt_of_wpAny (wpAny_pure ?_)
  exact hq h2 _ _ dx (fun b o hb q => k2 b o hb (k1 b o hb (k0 b o q))) (Nat.le_trans (Nat.le_of_lt l0) (Nat.le_trans sz hdx2)) he2 hn2
/-- __init__(self): super().__init__('..') -/
theorem initX0 {sn tx : Str} {j : Nat} {p0 p1 p2 p3 p4 p5 : Pos} {t0 : Addr} {h : Heap} {g : Array GenState} {d : Drawn} {t : Nat} {os : OsState} {args : Args}
    (FB : ExcBaseFacts B newId initId bmB) (KF : KxsFacts B initId) (T : XCls K C B newId initId bmB) (F : XFn P K C fI fd) (Y : XTxt P fd sn tx j p0 p1 p2 p3 p4 p5) (X : XAt K mg a h) (hroom : A.depth < recursionLimit)
    (hbody : fd.body = .stmts [supStmt tx j p0 p1 p2 p3 p4 p5])
    (hbind : BindsTo ⟨h, g, d, t, os⟩ fd args [(sn, .ref a)]) (he : h.get? a = some (excObj C t0 none .none))
    (hq : ∀ h' t' t1, (∀ b o, b ≠ a → h.get? b = some o → h'.get? b = some o) → h'.get? a = some (excObj C t1 none .none) → R (.ok (.ret .none)) ⟨h', g, d, t', os⟩) :
    codeAny (model P w) A (.call (.ref fI) args) R ⟨h, g, d, t, os⟩ := by
  obtain ⟨od, osl, lk⟩ := F.at_
  obtain ⟨ar, hp, har⟩ := Y.hp
  obtain ⟨pl, hev⟩ := Y.hev
  refine ks_codeAny_call_defAt hroom (X.kin _ _ lk) rfl X.lim (codeRec_of X.kin F.hcd) hbody hbind Y.noc (fun y hy => ?_) (fun h₀ hns k0 => ?_) Y.co Y.gen Y.kind
  · simp only [List.mem_cons, List.not_mem_nil, or_false] at hy
    rw [hy]
    exact Y.hka
  have X0 := X.keeps k0
  have m1 : ([(sn, Value.ref a)] : List (Str × Value)).reverse.lookup sn = some (.ref a) := by simp [List.lookup]
  refine ks_wpAt_execs_cons ?_
  refine supX_ok (m := fun y => ([(sn, Value.ref a)] : List (Str × Value)).reverse.lookup y) FB KF T F X0.kin X0.glo X0.sup X0.blt hns (by rw [har]; exact m1) (k0 _ _ he) Y.hks Y.hkc (by rw [har]; exact Y.hka) Y.kind (hev _) hp Y.top fun h1 t1' tt k1 he1 sz => ?_
  refine wpAt_of_wpAny (wpAny_pure ?_)
  exact hq h1 _ _ (fun b o hb q => k1 b o hb (k0 b o q)) he1
end
end Dn
namespace Dn
open PySem PySem.Spec PyProof.Rows L2
open PySem.W PySem.Calls

/-- an own exception class, its __init__ and what its text says: one field f | none -/
structure XAll (P : Program) (K : Frag) (C fI : Addr) (fo : Option Str) : Prop where
  ex : ∃ (B newId initId : String) (bmB : List Value) (fd : FuncData) (sn tx : Str) (j : Nat) (p0 p1 p2 p3 p4 p5 : Pos), ExcBaseFacts B newId initId bmB ∧ KxsFacts B initId ∧ StoreFacts B bmB "object.__setattr__" "object" ∧
    XCls K C B newId initId bmB ∧ XFn P K C fI fd ∧ XTxt P fd sn tx j p0 p1 p2 p3 p4 p5 ∧ typeIn K (.ref fI) = some (.type "function") ∧
    (match fo with
      | none => fd.body = .stmts [supStmt tx j p0 p1 p2 p3 p4 p5] ∧ ∀ (s : Shared) (v : Value), BindsTo s fd ⟨[v], []⟩ [(sn, v)]
      | some f => ∃ (x : Str) (q1 q2 q3 q4 : Pos), fd.body = .stmts [supStmt tx j p0 p1 p2 p3 p4 p5, .Assign [.Attribute (.Name sn q1) f q2] (.Name x q3) q4] ∧ fd.scope.names.lookup x = some .local ∧ x ≠ sn ∧ (sn == ("__debug__" : Str)) = false ∧ (x == ("__debug__" : Str)) = false ∧
        (∀ env, swapsWith (.Name x q3) (some (.Attribute (.Name sn q1) f q2)) q4.line env = pure false) ∧ takerIn K C f = some none ∧ ∀ (s : Shared) (v u : Value), BindsTo s fd ⟨[v, u], []⟩ [(sn, v), (x, u)])
section
variable {P : Program} {w : World} {A : Around} {K : Frag} {C fI : Addr} {fo : Option Str} {mg : Str → Option Value} {R : Result → Shared → Prop}
theorem XAll.excl (Y : XAll P K C fI fo) : subIn K (.ref C) (.type "BaseException") = some true ∧ typeIn K (.ref C) = some (.type "type") ∧ keepIn K (.ref C) = true := by
  obtain ⟨_, _, _, _, _, _, _, _, _, _, _, _, _, _, _, _, _, T, _⟩ := Y.ex
  exact ⟨T.exC, T.tyC, T.kC⟩
/-- C(u) -/
theorem makeX1 {f : Str} {h : Heap} {g : Array GenState} {d : Drawn} {t : Nat} {os : OsState} {u : Value} (Y : XAll P K C fI (some f)) (kin : K.In h) (glo : h.Ns mainGlobals mg) (blt : ∃ mb, h.Ns builtinsNs mb ∧ mb "super" = some (.type "super")) (sup : mg "super" = none) (lim : h.NoLimit)
    (hroom : (A.under (.builtin "type.__call__" ⟨.ref C :: [u], []⟩)).depth < recursionLimit)
    (hq : ∀ h' t' t1 a dx, (∀ b o, h.get? b = some o → h'.get? b = some o) → h.objs.size ≤ a → h.objs.size ≤ dx → h'.get? a = some (excObj C t1 (some dx) .none) → h'.Ns1 dx (fun y => if y = f then some u else none) → R (.ok (.ret (.ref a))) ⟨h', g, d, t', os⟩) :
    codeAny (model P w) A (.call (.ref C) ⟨[u], []⟩) R ⟨h, g, d, t, os⟩ := by
  obtain ⟨B, newId, initId, bmB, fd, sn, tx, j, p0, p1, p2, p3, p4, p5, FB, KF, SF, T, F, Tx, tI, x, q1, q2, q3, q4, hbody, hx, hne, hds, hdx, hsw, hf, hbind⟩ := Y.ex
  obtain ⟨nm, N', qn, bs, bm, hdct, sn', sub, ab, col, dd, k0, k1, k2, k3, k5, hC, hT⟩ := excInit_of kin T.ini
  have kk : ∀ b o, h.get? b = some o → ((h.push (kdv_tup [u])).push (PySem.HandSPX.excO C h.objs.size)).get? b = some o := fun b o e => Heap.get?_push_of_some _ (Heap.get?_push_of_some _ e)
  have hget : ((h.push (kdv_tup [u])).push (PySem.HandSPX.excO C h.objs.size)).get? (h.objs.size + 1) = some (PySem.HandSPX.excO C h.objs.size) := by heap_get
  have hnew : ∀ o, h.get? (h.objs.size + 1) ≠ some o := fun o e => absurd (Heap.lt_size e) (Nat.not_lt.mpr (Nat.le_succ _))
  have X : XAt K mg (h.objs.size + 1) h := ⟨kin, glo, blt, sup, lim, fun o e => hnew o (kin _ _ e)⟩
  refine PySem.HandSPX.call_own FB hT hC (looks_findIn kin F.fnd) (fun self => bind_fn kin self tI) (by rw [sizeLine_eq]; exact (by decide : 1 ≤ 16777216)) ?_
  refine initX1 FB KF SF T F Tx (X.keeps kk) hroom hbody hx hne hds hdx hsw (hbind _ _ _) hf hget fun h' t' t1 dx k hd he hn => ?_
  refine ⟨rfl, hq h' t' t1 _ dx (fun b o e => k b o (fun z => hnew o (z ▸ e)) (kk b o e)) (Nat.le_succ _) ?_ he hn⟩
  rw [Heap.size_push, Heap.size_push] at hd
  omega
/-- C() -/
theorem makeX0 {h : Heap} {g : Array GenState} {d : Drawn} {t : Nat} {os : OsState} (Y : XAll P K C fI none) (kin : K.In h) (glo : h.Ns mainGlobals mg) (blt : ∃ mb, h.Ns builtinsNs mb ∧ mb "super" = some (.type "super")) (sup : mg "super" = none) (lim : h.NoLimit)
    (hroom : (A.under (.builtin "type.__call__" ⟨.ref C :: [], []⟩)).depth < recursionLimit)
    (hq : ∀ h' t' t1 a, (∀ b o, h.get? b = some o → h'.get? b = some o) → h.objs.size ≤ a → h'.get? a = some (excObj C t1 none .none) → R (.ok (.ret (.ref a))) ⟨h', g, d, t', os⟩) :
    codeAny (model P w) A (.call (.ref C) ⟨[], []⟩) R ⟨h, g, d, t, os⟩ := by
  obtain ⟨B, newId, initId, bmB, fd, sn, tx, j, p0, p1, p2, p3, p4, p5, FB, KF, SF, T, F, Tx, tI, hbody, hbind⟩ := Y.ex
  obtain ⟨nm, N', qn, bs, bm, hdct, sn', sub, ab, col, dd, k0, k1, k2, k3, k5, hC, hT⟩ := excInit_of kin T.ini
  have kk : ∀ b o, h.get? b = some o → ((h.push (kdv_tup [])).push (PySem.HandSPX.excO C h.objs.size)).get? b = some o := fun b o e => Heap.get?_push_of_some _ (Heap.get?_push_of_some _ e)
  have hget : ((h.push (kdv_tup [])).push (PySem.HandSPX.excO C h.objs.size)).get? (h.objs.size + 1) = some (PySem.HandSPX.excO C h.objs.size) := by heap_get
  have hnew : ∀ o, h.get? (h.objs.size + 1) ≠ some o := fun o e => absurd (Heap.lt_size e) (Nat.not_lt.mpr (Nat.le_succ _))
  have X : XAt K mg (h.objs.size + 1) h := ⟨kin, glo, blt, sup, lim, fun o e => hnew o (kin _ _ e)⟩
  refine PySem.HandSPX.call_own FB hT hC (looks_findIn kin F.fnd) (fun self => bind_fn kin self tI) (Nat.zero_le _) ?_
  refine initX0 FB KF T F Tx (X.keeps kk) hroom hbody (hbind _ _) hget fun h' t' t1 k he => ?_
  exact ⟨rfl, hq h' t' t1 _ (fun b o e => k b o (fun z => hnew o (z ▸ e)) (kk b o e)) (Nat.le_succ _) he⟩
end
section
variable {X : Cx} {C fI : Addr} {k : Nat} {x f : Str} {p pos : Pos} {e : Expr} {te : TE}
theorem inv_blt {pins : List (Addr × Obj)} {σ : L2.St} {H : Hp} {s : Shared} (I : Inv X pins σ H s) : ∃ mb, s.heap.Ns builtinsNs mb ∧ mb "super" = some (.type "super") := by
  obtain ⟨mb, h1, h2⟩ := I.mod.blt
  exact ⟨mb, h1.keeps I.bk, (h2 _ (by decide)).trans (by rfl)⟩
/-- the exception is let go, its field's table stays -/
theorem mk_X1 {pins : List (Addr × Obj)} {σ : L2.St} {H1 : Hp} {Q : XK} {hp h' : Heap} {g : Array GenState} {dr : Drawn} {t t' : Nat} {os : OsState} {a dx t1 : Addr} {y : V} {u : Value} (r : Raises X (.ref C)) (I1 : Inv X pins σ H1 ⟨hp, g, dr, t, os⟩)
    (kk : ∀ b o, hp.get? b = some o → h'.get? b = some o) (la : hp.objs.size ≤ a) (ld : hp.objs.size ≤ dx) (he : h'.get? a = some (excObj C t1 (some dx) .none)) (hn : h'.Ns1 dx (fun z => if z = f then some u else none)) (ry : RelV y u)
    (q : Q (.ref C) (some dx) (upd H1 dx (.xd [(f, y)]))) : MkP X pins σ Q (.ref a) ⟨h', g, dr, t', os⟩ := by
  obtain ⟨G, g1, g2⟩ := restrict h' fun b => decide (b ≠ a)
  have gk : ∀ b, b ≠ a → G.get? b = h'.get? b := fun b hb => g1 b (decide_eq_true hb)
  have ge : G.get? a = none := g2 a (by simp)
  have na : ∀ {b o}, hp.get? b = some o → b ≠ a := fun {b o} z e => by
    rw [e] at z
    exact absurd (Heap.lt_size z) (Nat.not_lt.mpr la)
  have hda : dx ≠ a := fun z => by
    obtain ⟨o, es, ep, e1, e2, _⟩ := hn
    rw [z, he] at e1
    cases e1
    cases e2
  have hnd : H1 dx = none := I1.hok.fresh ld
  have nG : G.Ns1 dx (fun z => if z = f then some u else none) := hn.at fun o y => (gk dx hda).trans y
  have J : Inv X pins σ (upd H1 dx (.xd [(f, y)])) ⟨G, g, dr, t', os⟩ := I1.laid (t' := t') (a := dx) (o := .xd [(f, y)]) (h' := G) (fun b o z => (gk b (na z)).trans (kk b o z)) ld
    ⟨_, nG, relO_put (fs := []) ry fun g => True.intro⟩
  refine ⟨a, _, _, ⟨G, g, dr, t', os⟩, _, .ref C, some dx, rfl, J, fun b o z => ?_, ge, he, ⟨rfl, rfl⟩, rfl, rfl, ?_, rfl, I1.bare, r, q⟩
  · by_cases hba : b = a
    · rw [hba, ge] at z
      cases z
    · exact (gk b hba).symm.trans z
  · rw [upd_ne (Ne.symm hda)]
    exact I1.hok.fresh la
/-- C(e), to be raised -/
theorem pmk_X1 (Y : XAll X.prog X.K C fI (some f)) (hr : RG (k + 1) X.A) (hg : Gl X x) (hm : X.mg x = some (.ref C)) (hs : X.mg "super" = none) (ha : PE X e te) (hdb : (x == ("__debug__" : Str)) = false := by decide)
    (he : starEach [e] X.env = (false, PySem.eval e X.env) :: starEach [] X.env := by rfl) (hpl : (backTo pos (starEach [] X.env)).any (·.1) = false := by rfl) :
    PMk X (.Call (.Name x p) [e] [] pos) (fun σ H Q => te σ H fun y H1 => ∀ d, H1 d = none → Q (.ref C) (some d) (upd H1 d (.xd [(f, y)]))) := by
  intro pins s σ H Q I h
  obtain ⟨c1, c2, c3⟩ := Y.excl
  refine wpAny_Call_Name_kw (ld_glob I hg hm ?_ hdb)
  refine callWith_K (h₀ := X.base) I.ok.mod.kin c3 (thn ((pa_cons ha pa_nil (hs := he)).run pos pins s σ H (fun vs H1 => match vs with
    | [y] => ∀ d, H1 d = none → Q (.ref C) (some d) (upd H1 d (.xd [(f, y)]))
    | _ => False) I h) fun us s1 ⟨vs, H1, I1, r1, q1⟩ => ⟨I1.kIn, ?_⟩) he hpl
  show wpAny _ _ (call (.ref C) us) _ _ _
  cases r1 with
  | nil => exact q1.elim
  | cons ry r2 =>
    cases r2 with
    | cons _ _ => exact q1.elim
    | nil =>
      obtain ⟨hp, g, dr, tk, os⟩ := s1
      refine wpAny_call (makeX1 Y I1.kIn (I1.mod.glob.keeps I1.bk) (inv_blt I1) hs I1.nolimit (hr.rm.make C [_] []).depth fun h' t' t1 a dx kk la ld he' hn => ?_)
      exact mk_X1 (raises_own c1 c2) I1 kk la ld he' hn ry (q1 dx (I1.hok.fresh ld))
theorem mk_X0 {pins : List (Addr × Obj)} {σ : L2.St} {H1 : Hp} {Q : XK} {hp h' : Heap} {g : Array GenState} {dr : Drawn} {t t' : Nat} {os : OsState} {a t1 : Addr} (r : Raises X (.ref C)) (I1 : Inv X pins σ H1 ⟨hp, g, dr, t, os⟩)
    (kk : ∀ b o, hp.get? b = some o → h'.get? b = some o) (la : hp.objs.size ≤ a) (he : h'.get? a = some (excObj C t1 none .none)) (q : Q (.ref C) none H1) : MkP X pins σ Q (.ref a) ⟨h', g, dr, t', os⟩ := by
  obtain ⟨G, g1, g2⟩ := restrict h' fun b => decide (b ≠ a)
  have gk : ∀ b, b ≠ a → G.get? b = h'.get? b := fun b hb => g1 b (decide_eq_true hb)
  have ge : G.get? a = none := g2 a (by simp)
  have na : ∀ {b o}, hp.get? b = some o → b ≠ a := fun {b o} z e => by
    rw [e] at z
    exact absurd (Heap.lt_size z) (Nat.not_lt.mpr la)
  have J : Inv X pins σ H1 ⟨G, g, dr, t', os⟩ := I1.kept fun b o z => (gk b (na z)).trans (kk b o z)
  refine ⟨a, _, _, ⟨G, g, dr, t', os⟩, _, .ref C, none, rfl, J, fun b o z => ?_, ge, he, ⟨rfl, rfl⟩, rfl, rfl, I1.hok.fresh la, rfl, I1.bare, r, q⟩
  by_cases hba : b = a
  · rw [hba, ge] at z
    cases z
  · exact (gk b hba).symm.trans z
/-- C(), to be raised -/
theorem pmk_X0 (Y : XAll X.prog X.K C fI none) (hr : RG (k + 1) X.A) (hg : Gl X x) (hm : X.mg x = some (.ref C)) (hs : X.mg "super" = none) (hdb : (x == ("__debug__" : Str)) = false := by decide) :
    PMk X (.Call (.Name x p) [] [] pos) (fun _ H Q => Q (.ref C) none H) := by
  intro pins s σ H Q I h
  obtain ⟨c1, c2, c3⟩ := Y.excl
  refine wpAny_Call_Name_kw (ld_glob I hg hm ?_ hdb)
  refine callWith_K0 I.kIn c3 ?_
  obtain ⟨hp, g, dr, tk, os⟩ := s
  refine wpAny_call (makeX0 Y I.kIn (I.mod.glob.keeps I.bk) (inv_blt I) hs I.nolimit (hr.rm.make C [] []).depth fun h' t' t1 a kk la he' => ?_)
  exact mk_X0 (raises_own c1 c2) I kk la he' h
end
/-! raise, as data -/
def sRaise1 (c : Nat) (f : DE) : DS := fun ρ m => sBind (f ρ m) fun d m1 => .exc c [d] m1
def sRaise0 (c : Nat) : DS := fun _ m => .exc c [] m
section
variable {G : Cl} {E : XK} {te : TE} {fe : DE}
theorem ds_raise1 {c : Nat} {f : Str} (hf : G.xf c = some f) (h : De G E te fe) :
    Ds G E (fun _ σ H => te σ H fun y H1 => ∀ d, H1 d = none → (fun cls d _ H' => E cls d H') (Value.ref (G.xc c)) (some d) σ (upd H1 d (.xd [(f, y)]))) (sRaise1 c fe) := ⟨fun {B M pm ρ m σ H} e Z p => by
  refine h.run e _ ?_
  have q := PostS.bind (rel := Rep G B.ad M) e (show PostS G E B M H (sBind (fe ρ m) fun d m1 => .exc c [d] m1) Z from p)
  cases hr : fe ρ m with
  | bad =>
    rw [hr] at q
    exact q
  | ok a m1 =>
    rw [hr] at q
    intro v H1 g r d hd
    obtain ⟨a', m1', g', r', p'⟩ := q v H1 g r
    have e1 := e.go g'
    have g2 := e1.same (ExN.new (o := .xd [(f, v)]) hd)
    refine p' (.ref (G.xc c)) (some d) _ (Go.ofEnv e1 g2) ⟨rfl, ?_⟩
    rw [hf]
    exact ⟨d, v, rfl, upd_same, fun z => (e1.hl _ (e1.mb _ z)).ne hd, (r'.ext g2.x e1.aM).less e1.mb⟩
  | exc c' l m1 =>
    rw [hr] at q
    exact q⟩
theorem ds_raise0 {c : Nat} (hf : G.xf c = none) : Ds G E (fun _ σ H => (fun cls d _ H' => E cls d H') (Value.ref (G.xc c)) none σ H) (sRaise0 c) := ⟨fun {B M pm ρ m σ H} e Z p => by
  refine p (.ref (G.xc c)) none _ (Go.ofEnv e e.here) ⟨rfl, ?_⟩
  rw [hf]⟩
end
end Dn
namespace Dn
open PySem PySem.Spec PyProof.Rows L2
open PySem.W PySem.Calls

/-! what the head looks at beside He's facts: the __init__s of own exceptions -/
abbrev FnC : Type := Option (Str × Str × Arguments × FuncBody × Scope × Addr × List Str × Addr)
def fnC (K : Frag) (p : Str × Option Str) : FnC := match K.lookup (He.fAd K p) with
  | some ⟨_, _, .func fd, _⟩ => some (fd.name, fd.qualname, fd.params, fd.body, fd.scope, fd.globals, fd.closure.map fun q => q.1, fd.builtins)
  | _ => none
structure XD where
  x : Str
  ov : Bool
  fld : Option Str
  qual : Str
  params : Arguments
  body : List Stmt
  scope : Scope
def XD.val (d : XD) : FnC := some ("__init__", d.qual, d.params, .stmts d.body, d.scope, mainGlobals, [("__class__" : Str)], builtinsNs)
abbrev nB (ov : Bool) : String := if ov then "OverflowError" else "ValueError"
abbrev nN (ov : Bool) : String := if ov then "OverflowError.__new__" else "ValueError.__new__"
abbrev nI (ov : Bool) : String := if ov then "OverflowError.__init__" else "ValueError.__init__"
abbrev nM (ov : Bool) : List Value := if ov then [.type "OverflowError", .type "ArithmeticError", .type "Exception", .type "BaseException", .type "object"] else [.type "ValueError", .type "Exception", .type "BaseException", .type "object"]
theorem base_facts (ov : Bool) : ExcBaseFacts (nB ov) (nN ov) (nI ov) (nM ov) ∧ KxsFacts (nB ov) (nI ov) ∧ StoreFacts (nB ov) (nM ov) "object.__setattr__" "object" := by
  cases ov
  · exact ⟨PySem.F.excBase_ValueError, kxs_ValueError, PySem.F.store_ValueError⟩
  · exact ⟨PySem.F.excBase_OverflowError, kxs_OverflowError, PySem.F.store_OverflowError⟩
def xclsB (K : Frag) (C : Addr) (ov : Bool) : Bool := excInitIn K C (nM ov) (nN ov) && (excOver K C (nM ov) && (hasDictIn K C && (He.eqO (findIn K (.ref C) "__setattr__") (some (some (.builtin "object.__setattr__"))) &&
  (decide (subIn K (.ref C) (.type "BaseException") = some true) && (decide (typeIn K (.ref C) = some (.type "type")) && (keepIn K (.ref C) && (decide (subIn K (.ref C) (.type (nB ov)) = some true) &&
  (decide (mroIn K C (.ref C) = some true) && (He.eqO (ks_superIn K C C "__init__") (some (some (.builtin (nI ov)))) && He.eqO (nsIn K cStatics "thirdparty.any") (some none))))))))))
theorem xclsB_ok {K : Frag} {C : Addr} {ov : Bool} (h : xclsB K C ov = true) : XCls K C (nB ov) (nN ov) (nI ov) (nM ov) := by
  obtain ⟨h1, h⟩ := He.ba h
  obtain ⟨h2, h⟩ := He.ba h
  obtain ⟨h3, h⟩ := He.ba h
  obtain ⟨h4, h⟩ := He.ba h
  obtain ⟨h5, h⟩ := He.ba h
  obtain ⟨h6, h⟩ := He.ba h
  obtain ⟨h7, h⟩ := He.ba h
  obtain ⟨h8, h⟩ := He.ba h
  obtain ⟨h9, h⟩ := He.ba h
  obtain ⟨h10, h11⟩ := He.ba h
  exact ⟨h1, h2, h3, He.eqO_ok h4, of_decide_eq_true h5, of_decide_eq_true h6, h7, of_decide_eq_true h8, of_decide_eq_true h9, He.eqO_ok h10, He.eqO_ok h11⟩
/-- the closure's cell holds the class -/
def cellB (K : Frag) (C cc : Addr) : Bool := match K.lookup cc with
  | some ⟨_, _, .cell (some (.ref D)), _⟩ => decide (D = C)
  | _ => false
theorem cellB_ok {K : Frag} {C cc : Addr} (h : cellB K C cc = true) : ∃ cl cld csl, K.lookup cc = some ⟨cl, cld, .cell (some (.ref C)), csl⟩ := by
  unfold cellB at h
  split at h
  · rename_i a b D c e
    obtain rfl := of_decide_eq_true h
    exact ⟨a, b, c, e⟩
  · cases h
/-- the code is of the program's file -/
def fileB (P : Program) (K : Frag) (cd : Value) : Bool := match cd with
  | .ref c => (match K.lookup c with
    | some ⟨_, _, .fields vs, _⟩ => (match (vs[2]? : Option Value) with
      | some (.str f _) => (P.main.file : Str) == f
      | _ => false)
    | _ => false)
  | _ => false
theorem fileB_ok {P : Program} {K : Frag} {cd : Value} (h : fileB P K cd = true) : ∃ cda ccl cdd ccs vs file tf, cd = .ref cda ∧ K.lookup cda = some ⟨ccl, cdd, .fields vs, ccs⟩ ∧ vs[2]? = some (.str file tf) ∧ ((P.main.file : Str) == file) = true := by
  unfold fileB at h
  split at h
  · rename_i c
    split at h
    · rename_i a b vs d e
      split at h
      · rename_i f tf e2
        exact ⟨c, a, b, d, vs, f, tf, rfl, e, e2, h⟩
      · cases h
    · cases h
  · cases h
def xfnB (P : Program) (K : Frag) (C fI : Addr) (fld : Option Str) : Bool := (match K.lookup fI with
  | some ⟨.type "function", _, .func fd, _⟩ => codeIn K fd.code fd.qualname && (decide (fd.defaults = .none) && (fileB P K fd.code && (match fd.closure with
    | [(_, cc)] => cellB K C cc
    | _ => false)))
  | _ => false) && (He.eqO (findIn K (.ref C) "__init__") (some (some (.ref fI))) && (decide (typeIn K (.ref fI) = some (.type "function")) && (match fld with
    | none => true
    | some f => decide (takerIn K C f = some none))))
def XD.ok (P : Program) (K : Frag) (d : XD) : Bool := xclsB K (He.ga K d.x) d.ov && xfnB P K (He.ga K d.x) (He.fAd K (d.x, some "__init__")) d.fld
structure XSay (P : Program) (K : Frag) (d : XD) : Prop where
  cls : XCls K (He.ga K d.x) (nB d.ov) (nN d.ov) (nI d.ov) (nM d.ov)
  fn : ∃ fd, XFn P K (He.ga K d.x) (He.fAd K (d.x, some "__init__")) fd ∧ fd.params = d.params ∧ fd.body = .stmts d.body ∧ fd.scope = d.scope ∧ fd.defaults = .none
  ty : typeIn K (.ref (He.fAd K (d.x, some "__init__"))) = some (.type "function")
  tk : ∀ f, d.fld = some f → takerIn K (He.ga K d.x) f = some none
theorem XD.say {P : Program} {K : Frag} {d : XD} (e : fnC K (d.x, some "__init__") = d.val) (h : d.ok P K = true) : XSay P K d := by
  obtain ⟨h1, h⟩ := He.ba h
  obtain ⟨h2, h⟩ := He.ba h
  obtain ⟨h3, h⟩ := He.ba h
  obtain ⟨h4, h5⟩ := He.ba h
  refine ⟨xclsB_ok h1, ?_, of_decide_eq_true h4, fun f hf => ?_⟩
  · unfold fnC at e
    split at h2
    · rename_i od fd osl lk
      rw [lk] at e
      obtain ⟨h6, h7⟩ := He.ba h2
      obtain ⟨hdf, h7⟩ := He.ba h7
      obtain ⟨h7, h8⟩ := He.ba h7
      have e2 : (some (fd.name, fd.qualname, fd.params, fd.body, fd.scope, fd.globals, fd.closure.map (fun q => q.1), fd.builtins) : FnC) = some (("__init__" : Str), d.qual, d.params, FuncBody.stmts d.body, d.scope, mainGlobals, [("__class__" : Str)], builtinsNs) := e
      simp only [Option.some.injEq, Prod.mk.injEq] at e2
      obtain ⟨g1, g2, g3, g4, g5, g6, g7, g8⟩ := e2
      refine ⟨fd, ⟨⟨od, osl, lk⟩, ?_, fileB_ok h7, g6, g8, h6, He.eqO_ok h3⟩, g3, g4, g5, of_decide_eq_true hdf⟩
      split at h8
      · rename_i nm cc ec
        rw [ec] at g7
        obtain ⟨cl, cld, csl, lc⟩ := cellB_ok h8
        have en : nm = ("__class__" : Str) := by simpa using g7
        exact ⟨cc, cl, cld, csl, by rw [ec, en], lc⟩
      · cases h8
    · cases h2
  · rw [hf] at h5
    exact of_decide_eq_true h5
end Dn
namespace Dn
open PySem PySem.Spec PyProof.Rows L2
open PySem.W PySem.Calls

/-! the hook: He's, with the statics' table in the fragment and the own exceptions -/
theorem some_tab {o : Option Obj} (h : (match o with
    | some u => He.emptyTab u
    | none => false) = true) : o = some { cls := .none, data := .fields #[] } := by
  cases o with
  | none => cases h
  | some u => rw [He.emptyTab_eq (o := u) h]
abbrev frY (g : Addr → Option Obj) (n : Nat) : Frag := He.frT g (cStatics :: He.asD g n)
abbrev AlY : Type := He.AlX × Bool × List FnC
def obsY (P : Program) (n : Nat) (fa : List He.Fa) (fn : List He.DefD) (ts : List He.Tab) (tf : List He.Defn) (ex : Frag → Bool) (xs : List XD) (g : Addr → Option Obj) : AlY :=
  ((He.obsT fa fn ts (frY g n), ex (frY g n) && He.tabsB g tf (frY g n)), xs.all fun d => d.ok P (frY g n), xs.map fun d => fnC (frY g n) (d.x, some "__init__"))
def valY (fn : List He.DefD) (ts : List He.Tab) (xs : List XD) (w : World) : AlY := ((He.valT fn ts w, true), true, xs.map XD.val)
structure SaysY (P : Program) (fa : List He.Fa) (fn : List He.DefD) (ts : List He.Tab) (tf : List He.Defn) (ex : Frag → Bool) (xs : List XD) (w : World) (h : Heap) (K : Frag) : Prop where
  x : He.SaysX fa fn ts tf ex w h K
  own : ∀ d ∈ xs, XSay P K d
theorem map_all {α β : Type} {f g : α → β} : ∀ {l : List α}, l.map f = l.map g → ∀ a ∈ l, f a = g a
  | [], _, _, h => absurd h (by simp)
  | b :: l, e, a, h => by
    rw [List.map_cons, List.map_cons, List.cons.injEq] at e
    rcases List.mem_cons.mp h with rfl | h
    · exact e.1
    · exact map_all e.2 a h
theorem saysY_of {P : Program} {n : Nat} {fa : List He.Fa} {fn : List He.DefD} {ts : List He.Tab} {tf : List He.Defn} {ex : Frag → Bool} {xs : List XD} {w : World} {h : Heap} (e : obsY P n fa fn ts tf ex xs h.get? = valY fn ts xs w) : SaysY P fa fn ts tf ex xs w h (frY h.get? n) := by
  have e1 := congrArg (fun z : AlY => z.1.1) e
  have e2 := congrArg (fun z : AlY => z.1.2) e
  have e3 := congrArg (fun z : AlY => z.2.1) e
  have e4 := congrArg (fun z : AlY => z.2.2) e
  obtain ⟨h1, h2⟩ := He.ba (show (ex (frY h.get? n) && He.tabsB h.get? tf (frY h.get? n)) = true from e2)
  have one : ∀ p ∈ tf, codeHdIn (frY h.get? n) (He.cT (frY h.get? n) p).1 (He.cT (frY h.get? n) p).2 = true ∧ h.get? (He.cT (frY h.get? n) p).2 = some { cls := .none, data := .fields #[] } := fun p hp => by
    have z := He.ba (List.all_eq_true.mp h2 p hp)
    exact ⟨z.1, some_tab z.2⟩
  exact ⟨⟨e1, h1, fun p hp => (one p hp).1, fun p hp => He.frT_none (one p hp).2 (by rfl), fun p hp => (one p hp).2⟩,
    fun d hd => XD.say (map_all (show xs.map (fun d => fnC (frY h.get? n) (d.x, some "__init__")) = xs.map XD.val from e4) d hd) (List.all_eq_true.mp (show (xs.all fun d => d.ok P (frY h.get? n)) = true from e3) d hd)⟩
def hookY (P : Program) (n : Nat) (fa : List He.Fa) (fn : List He.DefD) (ts : List He.Tab) (tf : List He.Defn) (ex : Frag → Bool) (xs : List XD) : Hook where
  α := AlY
  obs := fun s => obsY P n fa fn ts tf ex xs s.heap.get?
  val := fun w => valY fn ts xs w
  says := fun w h => ∃ K : Frag, K.In h ∧ SaysY P fa fn ts tf ex xs w h K
  of := fun _ _ e => ⟨_, He.frT_in, saysY_of e⟩
  keeps := fun _ _ _ ⟨K, hK, c⟩ k => ⟨K, Frag.In.keeps hK k, ⟨⟨c.x.t, c.x.more, c.x.hd, c.x.out, fun p hp => k _ _ (c.x.empty p hp)⟩, c.own⟩⟩
theorem obsY_eq {P : Program} {n : Nat} {fa : List He.Fa} {fn : List He.DefD} {ts : List He.Tab} {tf : List He.Defn} {ex : Frag → Bool} {xs : List XD} {g : Addr → Option Obj} {s : Shared} (h : ∀ a, g a = s.heap.get? a) : obsY P n fa fn ts tf ex xs g = (hookY P n fa fn ts tf ex xs).obs s := by
  obtain rfl : g = s.heap.get? := funext h
  rfl
end Dn
namespace Dn
open PySem PySem.Spec PyProof.Rows L2
open PySem.W PySem.Calls

/-- what is asked of the text of an own exception's __init__ -/
structure XLit (P : Program) (d : XD) (sn tx : Str) (j : Nat) (p0 p1 p2 p3 p4 p5 : Pos) : Prop where
  hks : d.scope.names.lookup ("super" : Str) = some .globalImplicit
  hkc : d.scope.names.lookup ("__class__" : Str) = some .free
  hka : d.scope.names.lookup sn = some .local
  kind : d.scope.kind = .function
  co : d.scope.isCoroutine = false
  gen : d.scope.isGenerator = false
  noc : ∀ x ∈ d.scope.names, x.2 ≠ .cell
  hp : ∃ ar, (d.params.posonlyargs ++ d.params.args).head? = some ar ∧ ar.arg = sn
  top : (P.main.scope.names.lookup ("super" : Str)).isSome = false
  hev : ∃ pl : Sem Bool, ∀ env : Env, PySem.eval (.Call (.Attribute (.Call (.Name "super" p0) [] [] p1) "__init__" p2) [.Constant (.str tx) j p3] [] p4) env = (do
      let v ← attributeBase (.Call (.Name "super" p0) [] [] p1) "__init__" env (PySem.eval (.Call (.Name "super" p0) [] [] p1) env)
      standAt p2.atName
      let (u, one) ← holding [v] (getMethod v "__init__" pl)
      callWith p4 u one (backTo p4 (starEach [.Constant (.str tx) j p3] env)) [])
section
variable {P : Program} {K : Frag} {d : XD}
theorem xall_1 {sn tx x f : Str} {j : Nat} {p0 p1 p2 p3 p4 p5 q1 q2 q3 q4 : Pos} (S : XSay P K d) (hf : d.fld = some f) (Y : XLit P d sn tx j p0 p1 p2 p3 p4 p5)
    (hb : d.body = [supStmt tx j p0 p1 p2 p3 p4 p5, .Assign [.Attribute (.Name sn q1) f q2] (.Name x q3) q4]) (hx : d.scope.names.lookup x = some .local) (hne : x ≠ sn) (hds : (sn == ("__debug__" : Str)) = false) (hdx : (x == ("__debug__" : Str)) = false)
    (hsw : ∀ env, swapsWith (.Name x q3) (some (.Attribute (.Name sn q1) f q2)) q4.line env = pure false)
    (hbind : ∀ (fd : FuncData) (s : Shared) (v u : Value), fd.params = d.params → fd.defaults = .none → BindsTo s fd ⟨[v, u], []⟩ [(sn, v), (x, u)]) : XAll P K (He.ga K d.x) (He.fAd K (d.x, some "__init__")) (some f) := by
  obtain ⟨fd, F, e1, e2, e3, e4⟩ := S.fn
  obtain ⟨b1, b2, b3⟩ := base_facts d.ov
  refine ⟨nB d.ov, nN d.ov, nI d.ov, nM d.ov, fd, sn, tx, j, p0, p1, p2, p3, p4, p5, b1, b2, b3, S.cls, F, ⟨?_, ?_, ?_, ?_, ?_, ?_, ?_, ?_, Y.top, Y.hev⟩, S.ty, x, q1, q2, q3, q4, e2.trans (by rw [hb]), by rw [e3]; exact hx, hne, hds, hdx, hsw, S.tk f hf, fun s v u => hbind fd s v u e1 e4⟩
  · rw [e3]; exact Y.hks
  · rw [e3]; exact Y.hkc
  · rw [e3]; exact Y.hka
  · rw [e3]; exact Y.kind
  · rw [e3]; exact Y.co
  · rw [e3]; exact Y.gen
  · rw [e3]; exact Y.noc
  · rw [e1]; exact Y.hp
theorem xall_0 {sn tx : Str} {j : Nat} {p0 p1 p2 p3 p4 p5 : Pos} (S : XSay P K d) (Y : XLit P d sn tx j p0 p1 p2 p3 p4 p5) (hb : d.body = [supStmt tx j p0 p1 p2 p3 p4 p5])
    (hbind : ∀ (fd : FuncData) (s : Shared) (v : Value), fd.params = d.params → fd.defaults = .none → BindsTo s fd ⟨[v], []⟩ [(sn, v)]) : XAll P K (He.ga K d.x) (He.fAd K (d.x, some "__init__")) none := by
  obtain ⟨fd, F, e1, e2, e3, e4⟩ := S.fn
  obtain ⟨b1, b2, b3⟩ := base_facts d.ov
  refine ⟨nB d.ov, nN d.ov, nI d.ov, nM d.ov, fd, sn, tx, j, p0, p1, p2, p3, p4, p5, b1, b2, b3, S.cls, F, ⟨?_, ?_, ?_, ?_, ?_, ?_, ?_, ?_, Y.top, Y.hev⟩, S.ty, e2.trans (by rw [hb]), fun s v => hbind fd s v e1 e4⟩
  · rw [e3]; exact Y.hks
  · rw [e3]; exact Y.hkc
  · rw [e3]; exact Y.hka
  · rw [e3]; exact Y.kind
  · rw [e3]; exact Y.co
  · rw [e3]; exact Y.gen
  · rw [e3]; exact Y.noc
  · rw [e1]; exact Y.hp
end
end Dn
namespace Dn
open PySem PySem.Spec PyProof.Rows L2
open PySem.W PySem.Calls

/-! an own exception as a value -/
theorem xob_ok {P : Program} {w : World} {H : Hp} {h : Heap} {a C : Addr} {dd : Option Addr} {o : Obj} {vs : Array Value} (ho : h.get? a = some o) (hc : o.cls = .ref C) (hd : o.dict = dd) (hv : o.data = .fields vs) : ObjOk P w H h a (xob a C dd) :=
  ⟨⟨o, vs, ho, hc, hd, hv⟩, ⟨_, ho⟩, fun h1 h2 z k => by
    obtain ⟨o, vs, q, r⟩ := z
    exact ⟨o, vs, k _ q, r⟩⟩
section
variable {X : Cx} {C fI : Addr} {k : Nat} {x f : Str} {p pos : Pos} {e : Expr} {te : TE}
theorem hold_X1 {pins : List (Addr × Obj)} {σ : L2.St} {H1 : Hp} {Q : VK} {hp h' : Heap} {g : Array GenState} {dr : Drawn} {t t' : Nat} {os : OsState} {a dx t1 : Addr} {y : V} {u : Value} (I1 : Inv X pins σ H1 ⟨hp, g, dr, t, os⟩)
    (kk : ∀ b o, hp.get? b = some o → h'.get? b = some o) (la : hp.objs.size ≤ a) (ld : hp.objs.size ≤ dx) (he : h'.get? a = some (excObj C t1 (some dx) .none)) (hn : h'.Ns1 dx (fun z => if z = f then some u else none)) (ry : RelV y u)
    (q : dx ≠ a → Q (.ref a) (upd (upd H1 dx (.xd [(f, y)])) a (xob a C (some dx)))) : EP X pins σ Q (.ref a) ⟨h', g, dr, t', os⟩ := by
  obtain ⟨G, g1, g2⟩ := restrict h' fun b => decide (b ≠ a)
  have gk : ∀ b, b ≠ a → G.get? b = h'.get? b := fun b hb => g1 b (decide_eq_true hb)
  have ge : G.get? a = none := g2 a (by simp)
  have na : ∀ {b o}, hp.get? b = some o → b ≠ a := fun {b o} z e => by
    rw [e] at z
    exact absurd (Heap.lt_size z) (Nat.not_lt.mpr la)
  have hda : dx ≠ a := fun z => by
    obtain ⟨o, es, ep, e1, e2, _⟩ := hn
    rw [z, he] at e1
    cases e1
    cases e2
  have nG : G.Ns1 dx (fun z => if z = f then some u else none) := hn.at fun o y => (gk dx hda).trans y
  have J : Inv X pins σ (upd H1 dx (.xd [(f, y)])) ⟨G, g, dr, t', os⟩ := I1.laid (t' := t') (a := dx) (o := .xd [(f, y)]) (h' := G) (fun b o z => (gk b (na z)).trans (kk b o z)) ld ⟨_, nG, relO_put (fs := []) ry fun g => True.intro⟩
  refine ⟨.ref a, _, Inv.laidN (s := ⟨G, g, dr, t', os⟩) (t' := t') (a := a) (o := xob a C (some dx)) (h' := h') J (fun b o z => ?_) ge ?_ (xob_ok he rfl rfl rfl), rfl, q hda⟩
  · by_cases hba : b = a
    · rw [hba, ge] at z
      cases z
    · exact (gk b hba).symm.trans z
  · rw [upd_ne (Ne.symm hda)]
    exact I1.hok.fresh la
theorem pe_exX1 (Y : XAll X.prog X.K C fI (some f)) (hr : RG (k + 1) X.A) (hg : Gl X x) (hm : X.mg x = some (.ref C)) (hs : X.mg "super" = none) (ha : PE X e te) (hdb : (x == ("__debug__" : Str)) = false := by decide)
    (he : starEach [e] X.env = (false, PySem.eval e X.env) :: starEach [] X.env := by rfl) (hpl : (backTo pos (starEach [] X.env)).any (·.1) = false := by rfl) :
    PE X (.Call (.Name x p) [e] [] pos) (fun σ H Q => te σ H fun y H1 => ∀ a d, H1 a = none → H1 d = none → d ≠ a → Q (.ref a) (upd (upd H1 d (.xd [(f, y)])) a (xob a C (some d)))) := ⟨fun pins s σ H Q I h => by
  obtain ⟨c1, c2, c3⟩ := Y.excl
  refine wpAny_Call_Name_kw (ld_glob I hg hm ?_ hdb)
  refine callWith_K (h₀ := X.base) I.ok.mod.kin c3 (thn ((pa_cons ha pa_nil (hs := he)).run pos pins s σ H (fun vs H1 => match vs with
    | [y] => ∀ a d, H1 a = none → H1 d = none → d ≠ a → Q (.ref a) (upd (upd H1 d (.xd [(f, y)])) a (xob a C (some d)))
    | _ => False) I h) fun us s1 ⟨vs, H1, I1, r1, q1⟩ => ⟨I1.kIn, ?_⟩) he hpl
  show wpAny _ _ (call (.ref C) us) _ _ _
  cases r1 with
  | nil => exact q1.elim
  | cons ry r2 =>
    cases r2 with
    | cons _ _ => exact q1.elim
    | nil =>
      obtain ⟨hp, g, dr, tk, os⟩ := s1
      refine wpAny_call (makeX1 Y I1.kIn (I1.mod.glob.keeps I1.bk) (inv_blt I1) hs I1.nolimit (hr.rm.make C [_] []).depth fun h' t' t1 a dx kk la ld he' hn => ?_)
      exact hold_X1 I1 kk la ld he' hn ry (q1 a dx (I1.hok.fresh la) (I1.hok.fresh ld))⟩
end
end Dn
namespace Dn
open PySem PySem.Spec PyProof.Rows L2
open PySem.W PySem.Calls

/-! e.f of an exception that stands -/
def tXo (K : Frag) (f : Str) (te : TE) : TE := fun σ H Q => te σ H fun x H1 => ∃ (a C dx : Addr) (fs : List (Str × V)) (v : V), x = .ref a ∧ H1 a = some (xob a C (some dx)) ∧ H1 dx = some (.xd fs) ∧ fs.lookup f = some v ∧ XfC K C ∧ findIn K (.ref C) f = some none ∧ Q v H1
theorem xob_at {P : Program} {w : World} {H : Hp} {h : Heap} {a C : Addr} {dd : Option Addr} (hok : HOk P w H h) (e : H a = some (xob a C dd)) : ∃ (o : Obj) (vs : Array Value), h.get? a = some o ∧ o.cls = .ref C ∧ o.dict = dd ∧ o.data = .fields vs := by
  have x : ObjOk P w H h a (.ext fun h => ∃ (o : Obj) (vs : Array Value), h.get? a = some o ∧ o.cls = .ref C ∧ o.dict = dd ∧ o.data = .fields vs) := hok a _ e
  exact x.1
theorem pe_xo {X : Cx} {e : Expr} {te : TE} {pos : Pos} {f : Str} (he : PE X e te) (hb : attributeBase e f X.env (PySem.eval e X.env) = PySem.eval e X.env := by rfl) : PE X (.Attribute e f pos) (tXo X.K f te) := ⟨fun pins s σ H Q I h => by
  refine attr_of hb (thn (he.run pins s σ H _ I h) fun u s1 hh => ?_)
  obtain ⟨x, H1, I1, rx, a, C, dx, fs, v, ex, eo, ed, l, T, hno, q⟩ := hh
  subst ex
  cases (show u = Value.ref a from rx)
  obtain ⟨o, vs, ho, hc, hd, hv⟩ := xob_at I1.hok eo
  have hx : ObjOk X.prog X.w H1 s1.heap dx (.xd fs) := I1.hok dx _ ed
  obtain ⟨mA, hns, hr⟩ := hx
  obtain ⟨od, hod, hl⟩ := lookIn_ns hns
  obtain ⟨u, hu, ru⟩ := RelO.some_of (v := v) (o := mA f) (by rw [← l]; exact hr f)
  have J : InstAt s1.heap a o C (some od) := ⟨ho, hc, by unfold notCls; rw [hv] <;> rfl, by rw [hd]; exact hod⟩
  exact HandSPX.exc_get I1.kIn J T.ga T.gg T.exC (findObj_own T.hdC hno rfl (by rw [hl, hu])) (handed_of ru) ⟨v, H1, I1.tok _, ru, q⟩⟩
end Dn
namespace Dn
open PySem PySem.Spec PyProof.Rows L2
open PySem.W PySem.Calls

/-! C(e), e.f as data -/
def dExc (c : Nat) (f : DE) : DE := fun ρ m => (f ρ m).bind fun d m1 => .ok (.exc c [d]) m1
section
variable {G : Cl} {E : XK} {te : TE} {fe : DE}
theorem de_exc {c : Nat} {f : Str} (hf : G.xf c = some f) (h : De G E te fe) :
    De G E (fun σ H Q => te σ H fun y H1 => ∀ a d, H1 a = none → H1 d = none → d ≠ a → Q (.ref a) (upd (upd H1 d (.xd [(f, y)])) a (xob a (G.xc c) (some d)))) (dExc c fe) := ⟨fun {B M pm ρ m σ H} e Q p => by
  refine h.run e _ (Post.imp' (Post.bind (rel := Rep G B.ad M) (show Post G E B M H (Rep G B.ad M) ((fe ρ m).bind fun d m1 => .ok (.exc c [d]) m1) Q from p)) fun v H1 hq => ?_)
  obtain ⟨d, m1, g, r, p1⟩ := hq
  intro a dx ha hd hda
  have e1 := e.go g
  have ha' : upd H1 dx (.xd [(f, v)]) a = none := by
    rw [upd_ne (Ne.symm hda)]
    exact ha
  have x2 : ExN H1 (upd (upd H1 dx (.xd [(f, v)])) a (xob a (G.xc c) (some dx))) := (ExN.new hd).trans (ExN.new ha')
  have g2 := e1.same x2
  refine p1 _ _ g2 (.exc1 (dx := dx) (f := f) (v := v) upd_same ?_ (fun z => (e1.hl _ z).ne ha) (fun z => (e1.hl _ z).ne hd) hf (r.ext g2.x e1.aM))
  rw [upd_ne hda, upd_same]⟩
def dXf (c : Nat → Bool) (f : DE) : DE := fun ρ m => (f ρ m).bind fun d m1 => match d with
  | .exc k [x] => if c k = true then .ok x m1 else .bad
  | _ => .bad
theorem de_xf {f : Str} {c : Nat → Bool} (hc : ∀ k, c k = true → G.xf k = some f ∧ XfC G.K (G.xc k) ∧ findIn G.K (.ref (G.xc k)) f = some none) (h : De G E te fe) : De G E (tXo G.K f te) (dXf c fe) := ⟨fun {B M pm ρ m σ H} e Q p => by
  refine h.run e _ (Post.imp' (Post.bind (rel := Rep G B.ad M) (show Post G E B M H (Rep G B.ad M) ((fe ρ m).bind fun d m1 => match d with
    | .exc k [x] => if c k = true then .ok x m1 else .bad
    | _ => .bad) Q from p)) fun v H1 hq => ?_)
  obtain ⟨d, m1, g, r, p1⟩ := hq
  cases r with
  | exc1 hx hxd n nx q r' =>
    rename_i a dx k f' v' d'
    by_cases hk : c k = true
    · obtain ⟨h1, h2, h3⟩ := hc k hk
      rw [h1] at q
      cases q
      have p2 : Post G E B M H1 (Rep G B.ad M) (if c k = true then .ok d' m1 else .bad) Q := p1
      rw [if_pos hk] at p2
      exact ⟨a, G.xc k, dx, [(f, v')], v', rfl, hx, hxd, by simp [List.lookup], h2, h3, p2 _ _ ((e.go g).here) r'⟩
    · have p2 : Post G E B M H1 (Rep G B.ad M) (if c k = true then .ok d' m1 else .bad) Q := p1
      rw [if_neg hk] at p2
      exact p2.elim
  | _ => exact p1.elim⟩
end
end Dn
namespace Dn
open PySem PySem.Spec PyProof.Rows L2
open PySem.W PySem.Calls

/-! isinstance of an exception that stands -/
def rIsO (K : Frag) : List V → Hp → VK → Prop := fun xs H Q => ∃ (a C : Addr) (dd : Option Addr) (c : V) (u : Value) (b : Bool), xs = [.ref a, c] ∧ H a = some (xob a C dd) ∧ (∀ dx, dd = some dx → ∃ fs, H dx = some (.xd fs)) ∧ ClsV c u ∧ L2.ExcC K C ∧ kitOne K (.ref C) u = some b ∧ Q (.bl b) H
theorem call_isO {X : Cx} : CallR X (.builtin "isinstance") (rIsO X.K) := by
  intro pins s σ H xs us Q I r h
  obtain ⟨a, C, dd, c, u, b, rfl, ea, ed, k, T, e, q⟩ := h
  obtain ⟨u1, u2, rfl, r1, r2⟩ := vals2 r
  have e2 := k.eq r2
  subst e2
  cases (show u1 = Value.ref a from r1)
  obtain ⟨o, vs, ho, hc, hd, hv⟩ := xob_at I.hok ea
  obtain ⟨cd, hcd, _⟩ := any_some T.hd
  have J : ∃ od, InstAt s.heap a o C od := by
    cases dd with
    | none => exact ⟨none, ho, hc, by unfold notCls; rw [hv] <;> rfl, by rw [hd] <;> exact True.intro⟩
    | some dx =>
      obtain ⟨fs, hf⟩ := ed dx rfl
      have hx : ObjOk X.prog X.w H s.heap dx (.xd fs) := I.hok dx _ hf
      obtain ⟨mA, hns, _⟩ := hx
      obtain ⟨od, hod, _⟩ := lookIn_ns hns
      exact ⟨some od, ho, hc, by unfold notCls; rw [hv] <;> rfl, by rw [hd]; exact hod⟩
  obtain ⟨od, J⟩ := J
  exact kia_one (kitx_exc (od := od) (ox := o) (by rw [hcd]; rfl) T.hg T.hk T.hs T.ha T.hn T.ht T.hm) I.kIn J e (fun z => nomatch z) fun tk => ⟨.bl b, H, I.kept (t' := tk) fun _ _ z => z, rfl, q⟩
end Dn
namespace Dn
open PySem PySem.Spec PyProof.Rows L2
open PySem.W PySem.Calls

/-! C() as a value -/
section
variable {X : Cx} {C fI : Addr} {k : Nat} {x : Str} {p pos : Pos}
theorem pe_exX0 (Y : XAll X.prog X.K C fI none) (hr : RG (k + 1) X.A) (hg : Gl X x) (hm : X.mg x = some (.ref C)) (hs : X.mg "super" = none) (hdb : (x == ("__debug__" : Str)) = false := by decide) :
    PE X (.Call (.Name x p) [] [] pos) (fun _ H Q => ∀ a, H a = none → Q (.ref a) (upd H a (xob a C none))) := ⟨fun pins s σ H Q I h => by
  obtain ⟨c1, c2, c3⟩ := Y.excl
  refine wpAny_Call_Name_kw (ld_glob I hg hm ?_ hdb)
  refine callWith_K0 I.kIn c3 ?_
  obtain ⟨hp, g, dr, tk, os⟩ := s
  refine wpAny_call (makeX0 Y I.kIn (I.mod.glob.keeps I.bk) (inv_blt I) hs I.nolimit (hr.rm.make C [] []).depth fun h' t' t1 a kk la he' => ?_)
  exact ⟨.ref a, _, I.laid (t' := t') (a := a) (o := xob a C none) (h' := h') kk la (xob_ok he' rfl rfl rfl), rfl, h a (I.hok.fresh la)⟩⟩
end
def dExc0 (c : Nat) : DE := fun _ m => .ok (.exc c []) m
theorem de_exc0 {G : Cl} {E : XK} {c : Nat} (hf : G.xf c = none) : De G E (fun _ H Q => ∀ a, H a = none → Q (.ref a) (upd H a (xob a (G.xc c) none))) (dExc0 c) := ⟨fun {B M pm ρ m σ H} e Q p => by
  intro a ha
  have g := e.same (ExN.new (o := xob a (G.xc c) none) ha)
  exact p _ _ g (.exc0 upd_same (fun z => (e.hl _ z).ne ha) hf)⟩
end Dn
namespace Dn
open PySem PySem.Spec PyProof.Rows L2
open PySem.W PySem.Calls

/-- isinstance of an exception as data: ok tells the classes served, b the answers -/
def dIsO (ok b : Nat → Bool) (f : DE) : DE := fun ρ m => (f ρ m).bind fun d m1 => match d with
  | .exc c _ => if ok c = true then .ok (.bl (b c)) m1 else .bad
  | _ => .bad
theorem de_isO {G : Cl} {E : XK} {t : TE} {f : DE} {ok b : Nat → Bool} {cv : V} {u : Value} (k : ClsV cv u) (hk : ∀ c, ok c = true → L2.ExcC G.K (G.xc c) ∧ kitOne G.K (.ref (G.xc c)) u = some (b c)) (h : De G E t f) :
    De G E (tCB (rIsO G.K) (tCons t (tCons (tC cv) tNil))) (dIsO ok b f) := ⟨fun {B M pm ρ m σ H} e Q p => by
  refine h.run e _ (Post.imp' (Post.bind (rel := Rep G B.ad M) (show Post G E B M H (Rep G B.ad M) ((f ρ m).bind fun d m1 => match d with
    | .exc c _ => if ok c = true then .ok (.bl (b c)) m1 else .bad
    | _ => .bad) Q from p)) fun v H1 hq => ?_)
  obtain ⟨d, m1, g, r, p1⟩ := hq
  cases r with
  | exc0 hx n q =>
    rename_i a c
    have p2 : Post G E B M H1 (Rep G B.ad M) (if ok c = true then .ok (.bl (b c)) m1 else .bad) Q := p1
    by_cases hc : ok c = true
    · rw [if_pos hc] at p2
      obtain ⟨h1, h2⟩ := hk c hc
      exact ⟨a, G.xc c, none, cv, u, b c, rfl, hx, (fun dx z => nomatch z), k, h1, h2, p2 _ _ ((e.go g).here) (.bl _)⟩
    · rw [if_neg hc] at p2
      exact p2.elim
  | exc1 hx hxd n nx q r' =>
    rename_i a dx c f' v' d'
    have p2 : Post G E B M H1 (Rep G B.ad M) (if ok c = true then .ok (.bl (b c)) m1 else .bad) Q := p1
    by_cases hc : ok c = true
    · rw [if_pos hc] at p2
      obtain ⟨h1, h2⟩ := hk c hc
      exact ⟨a, G.xc c, some dx, cv, u, b c, rfl, hx, (fun dx' z => by cases z; exact ⟨_, hxd⟩), k, h1, h2, p2 _ _ ((e.go g).here) (.bl _)⟩
    · rw [if_neg hc] at p2
      exact p2.elim
  | _ => exact p1.elim⟩
end Dn
namespace Dn
open PySem PySem.Spec PyProof.Rows L2
open PySem.W PySem.Calls

/-- a landed exception's object is taken into what is told of the heap -/
theorem inv_xob {X : Cx} {pins : List (Addr × Obj)} {σ : L2.St} {H : Hp} {sI s' : Shared} {B : Heap} {a C : Addr} {d : Option Addr} {oe : Obj} {vs : Array Value} (J : Inv X pins σ H sI) (nb : ∀ b o, sI.heap.get? b = some o → b ∉ frs X.stack → B.get? b = some o)
    (st : B.StaysIn s'.heap) (up : sI.heap.UpToSlots s'.heap) (os : s'.os = sI.os) (ag : AllBare s'.gens) (hB : B.get? a = none) (hfr : a ∉ frs X.stack) (na : H a = none) (he : s'.heap.get? a = some oe) (hc : oe.cls = .ref C) (hd : oe.dict = d) (hv : oe.data = .fields vs) :
    Inv X pins σ (upd H a (xob a C d)) s' := by
  obtain ⟨G, g1, g2⟩ := restrict s'.heap fun b => decide (b ≠ a)
  have gk : ∀ b, b ≠ a → G.get? b = s'.heap.get? b := fun b hb => g1 b (decide_eq_true hb)
  have ge : G.get? a = none := g2 a (by simp)
  have nB : ∀ {b o}, B.get? b = some o → b ≠ a := fun {b o} z e => by
    rw [e, hB] at z
    cases z
  have nI : ∀ {b o}, sI.heap.get? b = some o → b ≠ a := fun {b o} z e => by
    have y := nb b o z (by rw [e]; exact hfr)
    exact nB y e
  have JG : Inv X pins σ H { s' with heap := G } := J.landed (s' := { s' with heap := G }) nb (fun b o e => (gk b (nB e)).trans (st b o e)) (fun b o e => by
    have z := up b o e
    rw [← gk b (nI e)] at z
    exact z) os ag
  have L := Inv.laidN (s := { s' with heap := G }) (t' := s'.toks) (a := a) (o := xob a C d) (h' := s'.heap) JG (fun b o z => by
    by_cases hba : b = a
    · rw [hba, ge] at z
      cases z
    · exact (gk b hba).symm.trans z) ge na (xob_ok he hc hd hv)
  exact L
end Dn
namespace Dn
open PySem PySem.Spec PyProof.Rows L2
open PySem.W PySem.Calls

/-- in flight still, behind what only adds objects -/
theorem fly_more {B h h' : Heap} {l : List Env} {e : Addr} {Z : Obj → Prop} (fl : PySem.HandSPX.FlyingZ B l e Z h) (k : ∀ b o, h.get? b = some o → h'.get? b = some o) : PySem.HandSPX.FlyingZ B l e Z h' := by
  obtain ⟨f1, f2, f3, oe, vs, T, oT, ts, he, hz, hd, h1, hn, hne, hT, hdT, h3⟩ := fl
  refine ⟨fun b o q => k b o (f1 b o q), f2, f3.of_keeps fun b o q _ => ⟨o, k b o q, rfl⟩, oe, vs, T, oT, ts, k _ _ he, hz, hd, h1, hn, hne, k _ _ hT, hdT, h3⟩
end Dn
namespace Dn
open PySem PySem.Spec PyProof.Rows L2
open PySem.W PySem.Calls

/-! try: .. except (A, B) as e: .. : the exception's object is told from the suite on -/
section
variable {X : Cx} {pins : List (Addr × Obj)} {σ : L2.St} {H : Hp} {s : Shared}
theorem suite_in (J : Inv X pins σ H s) (a : Addr) : Inv (X.suite a (X.pn ++ pins)) [] σ H s :=
  ⟨J.ok.suite _ _, J.os, J.bare, J.base, J.loc, J.cell, J.free, J.freeC, fun p hp => J.pin p (by rw [List.append_nil] at hp; exact hp), J.hok, J.len⟩
theorem suite_out {a : Addr} {pn' : List (Addr × Obj)} (J : Inv (X.suite a (X.pn ++ pins)) pn' σ H s) (ok : X.Ok) : Inv X pins σ H s :=
  ⟨ok, J.os, J.bare, J.base, J.loc, J.cell, J.free, J.freeC, fun p hp => J.pin p (List.mem_append_left _ hp), J.hok, J.len⟩
end
/-- what the clause 'except (C1, C2) as n' wishes: all that comes is of these classes -/
def wGot (K : Frag) (C1 C2 : Addr) (i : Nat) (ts : TS) (Z : Ends) : WX := fun cls d σ H =>
  ∃ C, cls = .ref C ∧ exmAny K (.ref C) [.ref C1, .ref C2] = some true ∧ ∀ a, H a = none → ts { nx := fun σ' H' => Z.nx (σ'.set i none) H', rt := Z.rt, bk := fun σ' H' => Z.bk (σ'.set i none) H', ct := fun σ' H' => Z.ct (σ'.set i none) H' } (σ.set i (some (.ref a))) (upd H a (xob a C d))
structure NameC (X : Cx) (x : Str) (C : Addr) : Prop where
  g : Gl X x
  m : X.mg x = some (.ref C)
  d : (x == ("__debug__" : Str)) = false
theorem ps_try_got {X : Cx} {x1 x2 n : Str} {C1 C2 : Addr} {i kk : Nat} {body suite : List Stmt} {b₀ : Stmt} {q1 q2 q3 pos pos' : Pos} {tb : WX → TS} {ts : TS} (hs : X.stack = X.env :: X.outer) (hf : X.env.frame = some X.env.locals) (hN : X.N.Nodup) (hi : X.N[i]? = some n)
    (hln : X.env.kindOf n = some .local) (n1 : NameC X x1 C1) (n2 : NameC X x2 C2)
    (hb : ∀ (W : WX) (pn : List (Addr × Obj)) (xe : Value → Shared → Prop), Takes (X.tr pn xe) W → PassesOwn (model X.prog X.w) X.A X.env xe → PSs (X.tr pn xe) body (tb W))
    (hsu : ∀ (a : Addr) (pn : List (Addr × Obj)), PSs (X.suite a pn) (b₀ :: suite) ts) :
    PS X (.Try body [.ExceptHandler (some (.Tuple [.Name x1 q1, .Name x2 q2] kk q3)) (some n) (b₀ :: suite) pos'] [] [] pos) (fun Z σ H => tb (wGot X.K C1 C2 i ts Z) Z σ H) := by
  refine ⟨fun pins s σ H Z I h => ?_⟩
  have ok := I.ok
  have frs0 : X.A.frames = some (X.env :: X.outer) := by rw [ok.frames, hs]
  have loc0 : Loc X.env.scope n := .inl hln
  refine wpAny_Try_except ?_
  refine wpAny_mono ((hb (wGot X.K C1 C2 i ts Z) (X.pn ++ pins) (fun v t1 => wpAny (model X.prog X.w) X.A (noteFrame v X.env) (fun _ t2 => wpAny (model X.prog X.w) X.A (setFlight v none) (fun _ t3 =>
    wpAny (model X.prog X.w) X.A (handleBy v X.env [.ExceptHandler (some (.Tuple [.Name x1 q1, .Name x2 q2] kk q3)) (some n) (b₀ :: suite) pos']) (SP X pins Z) X.xe t3) X.xe t2) X.xe t1) (fun u t xx => ?_) PassesOwn.looking).run [] s σ H Z (I.toTry _) h) (fun f t1 hsp => ?_) (fun _ _ z => z)
  · obtain ⟨a, B, sI, pins', σ', H', cls, d, rfl, J', nb, up, sky, na, os, ag, C, rfl, hm, q⟩ := xx
    have J : Inv X pins σ' H' sI := J'.ofTry ok
    have sky' : Sky B (X.env :: X.outer) a (Zc (.ref C) d) X.env.locals t.heap := by rw [← hs]; exact sky
    show wpAny (model X.prog X.w) X.A (noteFrame (.ref a) X.env) _ _ _
    refine Sky.land Zc.steady frs0 hf sky' fun h3 fl3 up3 => ?_
    have J3 : Inv X pins σ' H' { t with heap := h3 } := J.landed nb fl3.1 (up.trans up3) os ag
    obtain ⟨oe3, vs3, he3, hz3, hd3⟩ := fl3.there
    have offFr : ∀ {h : Heap} {o : Obj} {vs : Array Value}, h.FunFrames B (X.env :: X.outer) → h.get? a = some o → o.data = .fields vs → a ∉ frs (X.env :: X.outer) := fun {h o vs} ff e dd z => by
      obtain ⟨_, o', e', hnf⟩ := ff.mem z
      rw [e] at e'
      cases e'
      exact hnf _ dd
    have nfr := offFr fl3.2.2.1 he3 hd3
    have hBa : B.get? a = none := fl3.2.1
    refine wpAny_handleBy_cons (codeAny_handlers_test ?_) (by intro z; cases z)
    have S3 := suite_in J3 a
    refine wpAny_Tuple ?_
    refine wpAny_items_cons (ld_glob (X := X.suite a (X.pn ++ pins)) S3 n1.g n1.m ?_ n1.d)
    refine wpAny_items_cons (ld_glob (X := X.suite a (X.pn ++ pins)) S3 n2.g n2.m ?_ n2.d)
    refine wpAny_items_nil ⟨by size_fits, ?_⟩
    have kp : ∀ b o, h3.get? b = some o → (h3.push { cls := .type "tuple", data := .seq [Value.ref C1, .ref C2].toArray }).get? b = some o := fun _ _ z => Heap.get?_push_of_some _ z
    have LT : Looks (model X.prog X.w) h3 (typeOf (.ref a)) (.ref C) := fun A Q E s k q => wpAny_typeOf_ref (k _ _ he3) (by rw [hz3.1]; exact q)
    refine (exm_tup2 (J3.kIn.keeps kp) (LT.keeps kp) (Heap.get?_push_size h3 rfl) hm).here ?_
    have fl5 := fly_more fl3 kp
    generalize hh5 : h3.push { cls := .type "tuple", data := .seq [Value.ref C1, .ref C2].toArray } = h5 at kp fl5
    have up5 : h3.UpToSlots h5 := Heap.UpToSlots.of_keeps kp
    refine codeAny_handlers_suite_as ?_
    refine HandSPX.lands_againZ fl5 fun h4 fl4 up4 => ?_
    obtain ⟨oe4, vs4, he4, hz4, hd4⟩ := fl4.there
    have J4 := inv_xob (s' := { t with heap := h4 }) J nb fl4.1 (((up.trans up3).trans up5).trans up4) os ag hBa (by rw [hs]; exact nfr) na he4 hz4.1 hz4.2 hd4
    have S4 := suite_in J4 a
    refine store_ok (X := X.suite a (X.pn ++ pins)) (v := .ref a) S4 hN hi loc0 rfl (fun s5 S5 => ?_) (.inr hln)
    refine wpAny_mono ((hsu a (X.pn ++ pins)).run [] s5 _ _ _ S5 (q a na)) (fun f s6 hsp => ?_) (fun _ _ z => False.elim z)
    have fin : ∀ {σ6 : L2.St} {H6 : Hp} {Q : Shared → Prop}, Inv (X.suite a (X.pn ++ pins)) [] σ6 H6 s6 → (∀ s7, Inv X pins (σ6.set i none) H6 s7 → Q s7) →
        wpAny (model X.prog X.w) X.A (do bindName X.env n .none; unbindBehindTheSuite X.env n pos') (fun _ s7 => Q s7) X.xe s6 := fun {σ6 H6 Q} S6 hq => gone_ok (suite_out S6 ok) hN hi hln hq
    cases f with
    | next =>
      obtain ⟨σ6, H6, S6, q6⟩ := hsp
      exact fin S6 fun s7 J7 => ⟨_, _, J7, q6⟩
    | brk =>
      obtain ⟨σ6, H6, S6, q6⟩ := hsp
      exact fin S6 fun s7 J7 => ⟨_, _, J7, q6⟩
    | cont =>
      obtain ⟨σ6, H6, S6, q6⟩ := hsp
      exact fin S6 fun s7 J7 => ⟨_, _, J7, q6⟩
    | ret u =>
      obtain ⟨v6, σ6, H6, S6, r6, q6⟩ := hsp
      exact fin S6 fun s7 J7 => ⟨_, _, _, J7, r6, q6⟩
  · cases f with
    | next =>
      obtain ⟨σ', H', J', z⟩ := hsp
      exact wpAny_execs_nil ⟨σ', H', J'.ofTry ok, z⟩
    | brk =>
      obtain ⟨σ', H', J', z⟩ := hsp
      exact ⟨σ', H', J'.ofTry ok, z⟩
    | cont =>
      obtain ⟨σ', H', J', z⟩ := hsp
      exact ⟨σ', H', J'.ofTry ok, z⟩
    | ret u =>
      obtain ⟨v, σ', H', J', r, z⟩ := hsp
      exact ⟨v, σ', H', J'.ofTry ok, r, z⟩
end Dn
namespace Dn
open PySem PySem.Spec PyProof.Rows L2 LamX

/-! g(lambda: body), with room and no guards -/
theorem passM {CX0 : CXT} {P : Program} {w : World} {K : PySem.W.Frag} {mg : Str → Option Value} {base : Heap} {N : List Str} {q : Str} {sc0 : Scope} {f0 : Addr} {cd : Value} {A0 : Around} {out0 : List Env} {s0 : Shared} {H0 : Hp} {E0 : XK} {A : Around} {out : List Env} {s : Shared} {H : Hp} {E : XK} {sc : Scope} {f c : Addr} :
    Passes (L2.CX P w) (lamCx (cxOf CX0 P w K mg base N q sc0 f0 cd A0 out0 s0 H0 E0) A out s H E sc f c) E := passes_call (takes_of rfl rfl rfl rfl) fun _ _ _ _ h => h
section
variable {X : Cx} {pins : List (Addr × Obj)} {σ : L2.St} {H : Hp} {s : Shared}
/-- a(), in the def that got the lambda -/
theorem act_A {Ng : List Str} {qg : Str} {sg : Scope} {g f c' : Addr} {cdg pm ctv : Value} {params : Arguments} {body : Expr} {scope : Scope} {k i : Nat} {a : Str} {pn : List (Addr × Obj)} {xe : Value → Shared → Prop} {W : WX} {tb : XK → TE} {p1 p2 : Pos}
    (I : Inv X pins σ H s) (L : LamS X.env.scope scope) (hf : s.heap.get? f = some (PySem.W.kla_obj "<lambda>" (X.env.qual ++ "<lambda>") params body scope (cloFrom X.env.cells scope.names []) pm c' ctv)) (hfn : H f = none) (hfr : f ∉ frs X.stack)
    (bnd : bindArgs (PySem.W.kla_fn "<lambda>" (X.env.qual ++ "<lambda>") params body scope (cloFrom X.env.cells scope.names []) pm (.ref c') ctv) ⟨[], []⟩ = pure [])
    (tk : Takes ((cxOf C8.CX0 X.prog X.w X.K X.mg X.base Ng qg sg g cdg X.A X.stack s H C8.E0).tr pn xe) W) (rm : RG (k + 1) (X.A.deeper (envOfC qg sg s.heap.objs.size g cdg)))
    (bd : ∀ (A : Around) (out : List Env) (s : Shared) (H : Hp) (E : XK), RG k (A.deeper (lamEnv X scope s.heap.objs.size f c')) → PE (lamCx X A out s H E scope f c') body (tb E))
    (hN : Ng[i]? = some a) (hv : Vis sg a) (hd : (a == ("__debug__" : Str)) = false) (hcd : (a == ("__classdict__" : Str)) = false) :
    PE ((cxOf C8.CX0 X.prog X.w X.K X.mg X.base Ng qg sg g cdg X.A X.stack s H C8.E0).tr pn xe) (.Call (.Name a p1) [] [] p2)
      (fun σZ HZ Q => σZ[i]? = some (some (.ref f)) ∧ HZ c' = some (CodeO c' (X.env.qual ++ "<lambda>")) ∧ ∃ E : XK, (∀ cls d H', E cls d H' → W cls d σZ H') ∧ tb E σ HZ Q) := by
  refine ⟨fun pinsZ sZ σZ HZ Q IZ hZ => ?_⟩
  obtain ⟨hs, hc, E, hW, ht⟩ := hZ
  refine wpAny_Call_Name_kw (thn ((pe_var (pos := p1) (i := i) hN hv hd hcd).run pinsZ sZ σZ HZ (fun v H1 => v = .ref f ∧ H1 = HZ) IZ ⟨.ref f, hs, rfl, rfl⟩) fun u s1 ⟨v, H1, I1, r1, ev, eH⟩ => ?_)
  subst ev
  subst eH
  obtain rfl : u = Value.ref f := r1
  have at1 : s1.heap.get? f = some (PySem.W.kla_obj "<lambda>" (X.env.qual ++ "<lambda>") params body scope (cloFrom X.env.cells scope.names []) pm c' ctv) := I1.base.keep f _ hf hfn hfr List.not_mem_nil
  refine PySem.W.callWith_F0 ⟨_, _, _, _, at1⟩ ?_
  have un1 : Un (frs X.stack) [] H H1 s.heap s1.heap := I1.base
  obtain ⟨⟨oc, vs, t, hoc, hdc, hvc⟩, _, _⟩ := I1.hok c' _ hc
  have runs : codeAny (model X.prog X.w) (X.A.deeper (envOfC qg sg s.heap.objs.size g cdg)) (.call (.ref f) ⟨[], []⟩) (CR (L2.CX X.prog X.w) (envOfC qg sg s.heap.objs.size g cdg :: X.stack) X.prog X.w H1 s1 Q E) s1 := by
    refine PySem.W.kla_callFunE rm.rm.depth at1 rfl L.co L.gen rfl ⟨c', oc, vs, t, rfl, hoc, hdc, hvc⟩ ?_
    rw [bnd]
    refine wpAny_pure (wpAny_newFunctionEnv (fun y hy => (L.own y hy).2) (fun y hy => absurd hy List.not_mem_nil) (fun h₁ hns hsb => ⟨I1.nolimit.fresh _ hsb, ?_⟩) L.kind)
    show codeAny _ _ (.expr body (lamEnv X scope s1.heap.objs.size f c')) _ _
    have kp1 : ∀ b o, s1.heap.get? b = some o → h₁.get? b = some o := fun b o q => hsb.extBut b o (Nat.ne_of_lt (Heap.lt_size q)) (Heap.get?_push_of_some _ q)
    have J : Inv (lamCx X (X.A.deeper (envOfC qg sg s.heap.objs.size g cdg)) (envOfC qg sg s.heap.objs.size g cdg :: X.stack) s1 H1 E scope f c') [] σ H1 { s1 with heap := h₁, toks := s1.toks + ([] : List (Str × Value)).length } :=
      lam_start2 I L I1.env0 rm.rm.hd un1 hns kp1
    refine PySem.W.kla_codeExpr (wpAny_mono ((bd _ _ s1 H1 E (rm.down _)).run [] _ _ H1 Q J ht) (fun v s' hq => ?_) fun _ _ z => z)
    obtain ⟨w', H', J', rv, q⟩ := hq
    exact ⟨w', H', J'.os, J'.bare, J'.base, J'.hok, rv, q⟩
  refine wpAny_call (codeAny_mono runs fun r s' hq => ?_)
  match r, hq with
  | .error u, hq => exact tk u s' (XE.of_call I1 (fun cls d H' z => hW cls d H' z) hq)
  | .ok (.ret u), hq => exact I1.after hq
  | .ok .next, hq => exact hq.elim
  | .ok .brk, hq => exact hq.elim
  | .ok .cont, hq => exact hq.elim
end
/-- the def that calls what it got: TT is what it makes of the lambda's reading -/
def GivesA (X : Cx) (Ng : List Str) (x : Str) (sg : Scope) (g : Addr) (cdg : Value) (bg : List Stmt) (a : Str) (q : Str) (TT : (XK → Hp → VK → Prop) → Hp → VK → Prop) : Prop :=
  ∀ (f c' : Addr) (s : Shared) (H : Hp) (Q : VK) (tl : XK → Hp → VK → Prop),
    (∀ (W : WX) (pn : List (Addr × Obj)) (xe : Value → Shared → Prop) (p1 p2 : Pos), Takes ((cxOf C8.CX0 X.prog X.w X.K X.mg X.base Ng x sg g cdg X.A X.stack s H C8.E0).tr pn xe) W →
      PE ((cxOf C8.CX0 X.prog X.w X.K X.mg X.base Ng x sg g cdg X.A X.stack s H C8.E0).tr pn xe) (.Call (.Name a p1) [] [] p2) (fun σZ HZ Q => σZ[0]? = some (some (.ref f)) ∧ HZ c' = some (CodeO c' q) ∧ ∃ E : XK, (∀ cls d H', E cls d H' → W cls d σZ H') ∧ tl E HZ Q)) →
    H c' = some (CodeO c' q) → TT tl H Q →
    ∃ t, PSs (cxOf C8.CX0 X.prog X.w X.K X.mg X.base Ng x sg g cdg X.A X.stack s H C8.E0).nox bg t ∧ t { nx := fun _ H' => Q .non H', rt := Q } (L2.start Ng [.ref f]) H
/-- the maker's code object, its table -/
structure TabO (X : Cx) (T : List (Addr × Str)) (c P : Addr) : Prop where
  tb : TabB X.base X.mg c P
  cd : X.env.code = .ref c
  mem : (P, X.env.qual ++ "<lambda>") ∈ T
  one : ∀ p ∈ T, p.1 = P → p.2 = X.env.qual ++ "<lambda>"
section
variable {X : Cx}
/-- g(lambda: body) -/
theorem pe_lamA {T : List (Addr × Str)} {TT : (XK → Hp → VK → Prop) → Hp → VK → Prop} {x a : Str} {g c P : Addr} {k : Nat} {sd : Stmt} {Ng : List Str}
    {params : Arguments} {body : Expr} {scope : Scope} {t : XK → TE} {p lpos pos : Pos} (hg : Gl X x) (hm : X.mg x = some (.ref g)) (F : ∃ fd, Fun X.K x x sd g fd ∧ L2.Binds X.K fd [a] []) (Sg : FnScope Ng [a] (defScope sd)) (hNg : Ng[0]? = some a) (hva : Vis (defScope sd) a)
    (hG : ∀ cdv : Value, GivesA X Ng x (defScope sd) g cdv (defBody sd) a (X.env.qual ++ "<lambda>") TT)
    (TO : TabO X T c P) (hr : RG (k + 2) X.A) (L : LamS X.env.scope scope) (hdef : defaultsOf params X.env = ([], []))
    (hbind : ∀ (q : Str) (cl : List (Str × Addr)) (pm cv ctv : Value), bindArgs (PySem.W.kla_fn "<lambda>" q params body scope cl pm cv ctv) ⟨[], []⟩ = pure [])
    (hbody : ∀ (A : Around) (out : List Env) (s : Shared) (H : Hp) (E : XK) (f c' : Addr), RG k (A.deeper (lamEnv X scope s.heap.objs.size f c')) → PE (lamCx X A out s H E scope f c') body (t E))
    (hdb : (x == ("__debug__" : Str)) = false := by decide) (hd : (a == ("__debug__" : Str)) = false := by decide) (hcd : (a == ("__classdict__" : Str)) = false := by decide) :
    PE X (.Call (.Name x p) [.Lambda params body scope lpos] [] pos) (tLam T TT t) := by
  refine ⟨fun pins s σ H Q I h => ?_⟩
  obtain ⟨hT, h⟩ := h
  obtain ⟨fd, F, hb⟩ := F
  obtain ⟨oc, od, kV, doc, pm, an, cdv, ct, osl, hfd, lk, hcg⟩ := F.ex
  subst hfd
  refine wpAny_Call_Name_kw (ld_glob I hg hm ?_ hdb)
  refine PySem.W.callWith_K (h₀ := X.base) I.ok.mod.kin F.kp ?_ (by rfl) (by rfl)
  show wpAny _ _ (spliced ((false, eval (.Lambda params body scope lpos) X.env) :: backTo pos (starEach [] X.env))) _ _ s
  refine Calls.spliced_cons (lam_make2 I TO.tb TO.cd TO.mem TO.one hT hdef (L.has I.ok) fun f c' pm' ctv H1 s' I1 eN T1 hf hfn hfr hco => ?_)
  refine Calls.spliced_nil ⟨I1.kIn, ?_⟩
  have res : codeAny (model X.prog X.w) X.A (.call (.ref g) ⟨[.ref f], []⟩) (CR C8.CX0 X.stack X.prog X.w H1 s' Q C8.E0) s' := by
    refine run_ofS (N := Ng) (ps := [a]) (us := [.ref f]) (vs := [.ref f]) (k := k + 1) lk hcg Sg hr.rm I1.env0 (hb s' [.ref f] I1.kIn rfl) (.cons rfl .nil) rfl fun _ => ?_
    obtain ⟨t', ht', hq'⟩ := hG cdv f c' s' H1 Q (fun E H' Q' => t E σ H' Q') (fun W pn xe p1 p2 tk => act_A (i := 0) (tb := t) I1 L hf hfn hfr (hbind _ _ _ _ _) tk (hr.down _) (fun A out s H E hr2 => hbody A out s H E f c' hr2) hNg hva hd hcd) hco (h H1 eN T1)
    exact ⟨t', ht'.nox, hq'⟩
  refine wpAny_call (codeAny_mono res fun r s2 hq => ?_)
  match r, hq with
  | .error u, hq => exact (show False from hq).elim
  | .ok (.ret u), hq => exact I1.after hq
  | .ok .next, hq => exact hq.elim
  | .ok .brk, hq => exact hq.elim
  | .ok .cont, hq => exact hq.elim
end
end Dn
namespace Dn
open PySem PySem.Spec PyProof.Rows L2 LamX

/-! a def that calls what it got within a try, its rest as data -/
def wrD (b : Bool) (d : D) : D := if b = true then .lst [d] else d
def iniD (b : Bool) : D := if b = true then .lst [] else .non
def outD : SR → R D
  | .nx _ m => .ok .non m
  | .rt d m => .ok d m
  | .exc c l m => .exc c l m
  | _ => .bad
/-- the slots: what is called, told, error, e, the rest's -/
def heardD (ok : Nat → Bool) (b : Bool) (n : Nat) (f : DS) (r : R D) : R D := match r with
  | .bad => .bad
  | .ok d m => outD (f (none :: some (.v (wrD b d)) :: some (.v .non) :: none :: List.replicate n none) m)
  | .exc c l m => if ok c = true then outD (f (none :: some (.v (iniD b)) :: some (.v (.exc c l)) :: none :: List.replicate n none) m) else .bad
def TTh (G : Cl) (F : R D → R D) : (XK → Hp → VK → Prop) → Hp → VK → Prop := fun tl H Q =>
  ∃ (M : AP) (m : Mo) (r : R D), Start G M m H ∧ (∀ (E : XK) (H' : Hp) (Q' : VK), Go G (bxOf G H M m) M m H H' → Post G E (bxOf G H M m) M H' (Rep G m.ad M) r Q' → tl E H' Q') ∧ Post G C8.E0 (bxOf G H M m) M H (Rep G m.ad M) (F r) Q
section
variable {G : Cl} {E : XK}
theorem outD_post {B : Bx} {M : AP} {H : Hp} {r : SR} {Q : VK} (hB : ∀ b, M b → MB B b) (hH : B.H0 = H) (p : Post G E B M H (Rep G B.ad M) (outD r) Q) : PostS G E B M H r { nx := fun _ H' => Q .non H', rt := Q } := by
  cases r with
  | bad => exact p
  | nx ρ m => exact fun M' pm σ H' e s => p _ _ ⟨by rw [← hH]; exact e.ext, e.ea, e.eh, e.mr.less fun b hb => e.mb b (hB b hb), e.tb⟩ .non
  | rt d m => exact fun v H' g rv => p v H' (by rw [← hH]; exact g.less hB) (rv.less hB)
  | bk ρ m => exact p.elim
  | ct ρ m => exact p.elim
  | exc c l m => exact fun cls dd H' g hx => p cls dd H' (by rw [← hH]; exact g.less hB) (hx.less hB)
/-- PostS told at a later heap of the same def -/
theorem PostS.at0 {B : Bx} {M M' : AP} {H H' : Hp} {r : SR} {Z : Ends} (h : PostS G E B M H r Z) (x : Ext B.A B.H0 H') (hn : ∀ b, M' b → M b ∨ ¬ Liv H b) (hx : Ext M H H') : PostS G E B M' H' r Z := h.later ⟨hx, hn⟩
/-- what the try's body makes of the call -/
def wrT (b : Bool) (tc : TE) : TE := if b = true then tLst (tCons tc tNil) else tc
/-- behind 'told, error = .., None': the try, and the rest -/
def tGot (f c' : Addr) (q : Str) (tl : XK → Hp → VK → Prop) (K : PySem.W.Frag) (C1 C2 : Addr) (b : Bool) : TS := fun Z σ H =>
  (fun (W : WX) (Z : Ends) (σ : L2.St) (H : Hp) => tAsg (wrT b fun σ H Q => σ[0]? = some (some (.ref f)) ∧ H c' = some (CodeO c' q) ∧ ∃ E : XK, (∀ cls d H', E cls d H' → W cls d σ H') ∧ tl E H Q) (gName 1) Z σ H)
    (wGot K C1 C2 3 (tAsg (tVar 3) (gName 2)) Z) Z σ H
theorem got_run {G : Cl} {f c' C1 C2 : Addr} {q : Str} {tl : XK → Hp → VK → Prop} {b : Bool} {n : Nat} {ok : Nat → Bool} {fr : DS} {tr : TS} {M : AP} {m : Mo} {r : R D} {H H1 : Hp} {Q : VK} {M1 : AP} {pm : Nat → Addr} {u1 u2 : Option V}
    (hok : ∀ c, ok c = true → PySem.W.exmAny G.K (.ref (G.xc c)) [.ref C1, .ref C2] = some true) (hrest : Ds G C8.E0 tr fr) (st : Start G M m H)
    (htl : ∀ (E : XK) (H' : Hp) (Q' : VK), Go G (bxOf G H M m) M m H H' → Post G E (bxOf G H M m) M H' (Rep G m.ad M) r Q' → tl E H' Q')
    (hco : H c' = some (CodeO c' q)) (hp : Post G C8.E0 (bxOf G H M m) M H (Rep G m.ad M) (heardD ok b n fr r) Q)
    (e : EnvR G (bxOf G H M m) M1 pm (none :: some (.v (iniD b)) :: some (.v .non) :: none :: List.replicate n none) m (some (V.ref f) :: u1 :: u2 :: none :: List.replicate n none) H1) (hc1 : H1 c' = some (CodeO c' q)) :
    tSeq (tGot f c' q tl G.K C1 C2 b) tr { nx := fun _ H' => Q .non H', rt := Q } (some (V.ref f) :: u1 :: u2 :: none :: List.replicate n none) H1 := by
  have hB : ∀ b, M b → MB (bxOf G H M m) b := fun b hb => bx_back hb
  have eM : EnvR G (bxOf G H M m) M pm (none :: some (.v (iniD b)) :: some (.v .non) :: none :: List.replicate n none) m (some (V.ref f) :: u1 :: u2 :: none :: List.replicate n none) H1 := e.cut (fun b hb => by
    rcases bx_back (m := m) (G := G) (H := H) hb with z | z
    · exact e.em b (.inl z)
    · exact e.em b (.inr (.inl z))) fun b hb => by
    rcases hb with z | z | ⟨i, ⟨s, h1, h2⟩, _⟩
    · exact st.aM b z
    · exact z.1
    · match i, h1 with
      | 1, h1 => cases h1; cases h2
      | 2, h1 => cases h1; cases h2
      | i + 4, h1 =>
        have h1' : (List.replicate n (none : Option Sv))[i]? = some (some s) := h1
        rw [List.getElem?_replicate] at h1'
        split at h1' <;> cases h1'
  clear e
  have g1 : Go G (bxOf G H M m) M m H H1 := ⟨eM.ext, eM.ea, eM.eh, eM.mr, eM.tb⟩
  -- the rest, from any frame that fits
  have rest : ∀ {m2 : Mo} {ρ : Ro} {σ2 : L2.St} {H2 : Hp}, EnvR G (bxOf G H M m) M pm ρ m2 σ2 H2 → Post G C8.E0 (bxOf G H M m) M H (Rep G m.ad M) (outD (fr ρ m2)) Q → tr { nx := fun _ H' => Q .non H', rt := Q } σ2 H2 := fun {m2 ρ σ2 H2} e2 p2 =>
    hrest.run e2 _ ((outD_post hB rfl p2).later ⟨e2.ext.imp fun b hb => st.aM b hb, fun b hb => .inl hb⟩)
  have all : ∀ Q' : VK, (∀ d m', r = .ok d m' → ∀ v H2, Go G (bxOf G H M m) M m' H1 H2 → Rep G m.ad M H2 v d → Q' v H2) →
      Post G (fun cls d H' => wGot G.K C1 C2 3 (tAsg (tVar 3) (gName 2)) { nx := tr { nx := fun _ H' => Q .non H', rt := Q }, rt := Q } cls d (some (V.ref f) :: u1 :: u2 :: none :: List.replicate n none) H') (bxOf G H M m) M H1 (Rep G m.ad M) r Q' := fun Q' hQ => by
    cases r with
    | bad => exact hp
    | ok d m' => exact fun v H2 g2 rv => hQ d m' rfl v H2 g2 rv
    | exc c l m' =>
      have hp' : Post G C8.E0 (bxOf G H M m) M H (Rep G m.ad M) (if ok c = true then outD (fr (none :: some (.v (iniD b)) :: some (.v (.exc c l)) :: none :: List.replicate n none) m') else .bad) Q := hp
      by_cases hc : ok c = true
      · rw [if_pos hc] at hp'
        intro cls dd H2 g2 hx
        have e2 := eM.go g2
        obtain ⟨hcls, hx⟩ := hx
        refine ⟨G.xc c, hcls, hok c hc, fun a ha => ?_⟩
        have x3 : ExN H2 (upd H2 a (xob a (G.xc c) dd)) := ExN.new ha
        have e3 := e2.go (e2.same x3)
        have na : ¬ M a := fun z => (e2.hl _ z).ne ha
        have rx : Rep G m.ad M (upd H2 a (xob a (G.xc c) dd)) (.ref a) (.exc c l) := by
          cases hf : G.xf c with
          | none =>
            rw [hf] at hx
            cases l with
            | cons _ _ => exact hx.elim
            | nil =>
              cases (show dd = none from hx)
              exact .exc0 upd_same na hf
          | some fl =>
            rw [hf] at hx
            match l, hx with
            | [d], hx =>
              obtain ⟨dx, v, rfl, hd, nd, rv⟩ := hx
              exact .exc1 (dx := dx) (f := fl) (v := v) upd_same (by rw [upd_ne (ne_of_none hd ha)]; exact hd) na nd hf (rv.ext x3.k fun _ z => z.elim)
        have e4 := e3.setv (i := 2) rx
        refine ⟨.ref a, rfl, ?_⟩
        refine rest (e4.keepσ rfl fun i s hi => ?_) hp'
        match i, hi with
        | 0, _ => rfl
        | 1, _ => rfl
        | 2, _ => rfl
        | i + 4, _ => rfl
      · rw [if_neg hc] at hp'
        exact hp'.elim
  cases b with
  | true =>
    refine ⟨rfl, hc1, _, fun _ _ _ z => z, htl _ _ _ g1 (all _ fun d m' hr v H2 g2 rv => ?_)⟩
    subst hr
    refine ⟨sz_ok (show 1 ≤ 10000000 by decide), fun p hpn => ?_⟩
    have e2 := eM.go g2
    have e3 := e2.go (e2.same (ExN.new (o := .lst [v]) hpn))
    have rl : Rep G m.ad M (upd H2 p (.lst [v])) (.ref p) (.lst [d]) := Reps.newL e2.hm hpn (.one rv)
    exact rest (e3.setv (i := 1) rl) hp
  | false =>
    refine ⟨rfl, hc1, _, fun _ _ _ z => z, htl _ _ _ g1 (all _ fun d m' hr v H2 g2 rv => ?_)⟩
    subst hr
    exact rest ((eM.go g2).setv (i := 1) rv) hp
end
end Dn
namespace Dn
open PySem PySem.Spec PyProof.Rows L2 LamX

/-! the def that hears a call -/
def iniT (b : Bool) : TE := if b = true then tLst tNil else tC .non
section
variable {X : Cx} {G : Cl} {Ng : List Str} {x a q : Str} {sg : Scope} {g C1 C2 : Addr} {cdg : Value} {bg : List Stmt} {b : Bool} {n : Nat} {ok : Nat → Bool} {trest : TS} {frest : DS}
theorem heard_core (hN : L2.start Ng [V.non] = some V.non :: none :: none :: none :: List.replicate n none) (hlen : Ng.length = n + 4)
    (hk : ∀ (f c' : Addr) (s : Shared) (H : Hp) (tl : XK → Hp → VK → Prop),
      (∀ (W : WX) (pn : List (Addr × Obj)) (xe : Value → Shared → Prop) (p1 p2 : Pos), Takes ((cxOf C8.CX0 X.prog X.w X.K X.mg X.base Ng x sg g cdg X.A X.stack s H C8.E0).tr pn xe) W →
        PE ((cxOf C8.CX0 X.prog X.w X.K X.mg X.base Ng x sg g cdg X.A X.stack s H C8.E0).tr pn xe) (.Call (.Name a p1) [] [] p2) (fun σZ HZ Q => σZ[0]? = some (some (.ref f)) ∧ HZ c' = some (CodeO c' q) ∧ ∃ E : XK, (∀ cls d H', E cls d H' → W cls d σZ H') ∧ tl E HZ Q)) →
      PSs (cxOf C8.CX0 X.prog X.w X.K X.mg X.base Ng x sg g cdg X.A X.stack s H C8.E0).nox bg (tSeq (tPar 1 2 (tCons (iniT b) (tCons (tC .non) tNil))) (tSeq (tGot f c' q tl G.K C1 C2 b) trest)))
    (hrest : Ds G C8.E0 trest frest) (hok : ∀ c, ok c = true → PySem.W.exmAny G.K (.ref (G.xc c)) [.ref C1, .ref C2] = some true) :
    GivesA X Ng x sg g cdg bg a q (TTh G (heardD ok b n frest)) := by
  intro f c' s H Q tl act hc h
  refine ⟨_, hk f c' s H tl act, ?_⟩
  obtain ⟨M, m, r, st, htl, hp⟩ := h
  have e0 : EnvR G (bxOf G H M m) M (fun _ => 0) (none :: none :: none :: none :: List.replicate n none) m (some (V.ref f) :: none :: none :: none :: List.replicate n none) H := by
    have z := env_start (N := Ng) (vs := [V.non]) (ds := [D.non]) st (.cons .non .nil) (fun _ => 0)
    have er : ro0 Ng.length [D.non] = some (.v .non) :: none :: none :: none :: List.replicate n none := by
      unfold ro0
      rw [hlen]
      rfl
    rw [er, hN] at z
    refine (z.clr (i := 0)).keepσ rfl fun i s hi => ?_
    match i, hi with
    | i + 1, _ => rfl
  have es : L2.start Ng [V.ref f] = some (V.ref f) :: none :: none :: none :: List.replicate n none := by
    have z : L2.start Ng [V.ref f] = (L2.start Ng [V.non]).set 0 (some (V.ref f)) := rfl
    rw [z, hN]
    rfl
  rw [es]
  have go : ∀ (u : V) (H1 : Hp), ExN H H1 → Rep G m.ad M H1 u (iniD b) → tSeq (tGot f c' q tl G.K C1 C2 b) trest { nx := fun _ H' => Q .non H', rt := Q } (some (V.ref f) :: some u :: some V.non :: none :: List.replicate n none) H1 := fun u H1 x1 ru => by
    have e1 := (((e0.go (e0.same x1)).setv (i := 1) ru).setv (i := 2) .non)
    exact got_run hok hrest st htl hc hp e1 (x1.k _ _ (fun z => z) codeO_ne hc)
  show iniT b _ _ _
  unfold iniT
  cases b with
  | true =>
    refine ⟨Nat.zero_le _, fun p hpn => ⟨_, _, rfl, ?_⟩⟩
    exact go (.ref p) _ (ExN.new hpn) (Reps.newL e0.hm hpn .nil)
  | false => exact ⟨_, _, rfl, go .non _ ExN.refl .non⟩
/-- told = [call()] -/
theorem heard_1 {nt ne nx x1 x2 : Str} {p1 p2 p3 p4 p5 p6 p7 r1 r2 r3 r4 r5 q1 q2 q3 s1 s2 s3 pos pos' : Pos} {k1 k2 k3 k4 : Nat} {rest : List Stmt} (hG : G.K = X.K)
    (hN : L2.start Ng [V.non] = some V.non :: none :: none :: none :: List.replicate n none) (hlen : Ng.length = n + 4) (nd : Ng.Nodup) (h1 : Ng[1]? = some nt) (h2 : Ng[2]? = some nx) (h3 : Ng[3]? = some ne)
    (l1 : sg.names.lookup nt = some .local) (l2 : sg.names.lookup nx = some .local) (l3 : sg.names.lookup ne = some .local) (v3 : Vis sg ne) (hd1 : (ne == ("__debug__" : Str)) = false) (hd2 : (ne == ("__classdict__" : Str)) = false)
    (n1 : sg.names.lookup x1 = some .globalImplicit ∧ X.mg x1 = some (.ref C1) ∧ (x1 == ("__debug__" : Str)) = false) (n2 : sg.names.lookup x2 = some .globalImplicit ∧ X.mg x2 = some (.ref C2) ∧ (x2 == ("__debug__" : Str)) = false)
    (hw : ∀ s : Shared, swappedStores [.Tuple [.Name nt p1, .Name nx p2] k1 p3] (.Tuple [.List [] p4, .Constant .none k2 p5] k3 p6) (envOfC x sg s.heap.objs.size g cdg) = pure (some [nt, nx]))
    (hs : ∀ s : Shared, swapsWithSole [.Tuple [.Name nt p1, .Name nx p2] k1 p3] (.Tuple [.List [] p4, .Constant .none k2 p5] k3 p6) p7.line (envOfC x sg s.heap.objs.size g cdg) = pure false)
    (hrest : Ds G C8.E0 trest frest) (hr : ∀ (s : Shared) (H : Hp), PSs (cxOf C8.CX0 X.prog X.w X.K X.mg X.base Ng x sg g cdg X.A X.stack s H C8.E0).nox rest trest) (hok : ∀ c, ok c = true → PySem.W.exmAny G.K (.ref (G.xc c)) [.ref C1, .ref C2] = some true) :
    GivesA X Ng x sg g cdg (.Assign [.Tuple [.Name nt p1, .Name nx p2] k1 p3] (.Tuple [.List [] p4, .Constant .none k2 p5] k3 p6) p7 ::
      .Try [.Assign [.Name nt r1] (.List [.Call (.Name a r2) [] [] r3] r4) r5] [.ExceptHandler (some (.Tuple [.Name x1 q1, .Name x2 q2] k4 q3)) (some ne) [.Assign [.Name nx s1] (.Name ne s2) s3] pos'] [] [] pos :: rest) a q (TTh G (heardD ok true n frest)) := by
  refine heard_core hN hlen (fun f c' s H tl act => ?_) hrest hok
  rw [hG]
  refine pss_cons (ps_par (i := 1) (j := 2) rfl nd h1 h2 (by decide) l1 l2 (pa_cons (pe_lst pa_nil) (pa_cons pe_non pa_nil)) (hw s) (hs s)) (pss_cons ?_ (hr s H))
  exact ps_try_got (X := (cxOf C8.CX0 X.prog X.w X.K X.mg X.base Ng x sg g cdg X.A X.stack s H C8.E0).nox) (tb := fun W => tAsg (wrT true fun σ H Q => σ[0]? = some (some (.ref f)) ∧ H c' = some (CodeO c' q) ∧ ∃ E : XK, (∀ cls d H', E cls d H' → W cls d σ H') ∧ tl E H Q) (gName 1)) (ts := tAsg (tVar 3) (gName 2))
    rfl rfl nd (i := 3) h3 l3 ⟨n1.1, n1.2.1, n1.2.2⟩ ⟨n2.1, n2.2.1, n2.2.2⟩ (fun W pn xe tk _ => pss_one (ps_set (i := 1) nd h1 (.inl l1) (pe_lst (pa_cons (act W pn xe r2 r3 tk) pa_nil)))) fun a pn => pss_one (ps_set (i := 2) nd h2 (.inl l2) (pe_var (i := 3) h3 v3 hd1 hd2))
/-- found = call() -/
theorem heard_2 {nt ne nx x1 x2 : Str} {p1 p2 p3 p4 p5 p6 p7 r1 r2 r3 r5 q1 q2 q3 s1 s2 s3 pos pos' : Pos} {k1 k2 k3 k4 k5 : Nat} {rest : List Stmt} (hG : G.K = X.K)
    (hN : L2.start Ng [V.non] = some V.non :: none :: none :: none :: List.replicate n none) (hlen : Ng.length = n + 4) (nd : Ng.Nodup) (h1 : Ng[1]? = some nt) (h2 : Ng[2]? = some nx) (h3 : Ng[3]? = some ne)
    (l1 : sg.names.lookup nt = some .local) (l2 : sg.names.lookup nx = some .local) (l3 : sg.names.lookup ne = some .local) (v3 : Vis sg ne) (hd1 : (ne == ("__debug__" : Str)) = false) (hd2 : (ne == ("__classdict__" : Str)) = false)
    (n1 : sg.names.lookup x1 = some .globalImplicit ∧ X.mg x1 = some (.ref C1) ∧ (x1 == ("__debug__" : Str)) = false) (n2 : sg.names.lookup x2 = some .globalImplicit ∧ X.mg x2 = some (.ref C2) ∧ (x2 == ("__debug__" : Str)) = false)
    (hw : ∀ s : Shared, swappedStores [.Tuple [.Name nt p1, .Name nx p2] k1 p3] (.Tuple [.Constant .none k5 p4, .Constant .none k2 p5] k3 p6) (envOfC x sg s.heap.objs.size g cdg) = pure (some [nt, nx]))
    (hs : ∀ s : Shared, swapsWithSole [.Tuple [.Name nt p1, .Name nx p2] k1 p3] (.Tuple [.Constant .none k5 p4, .Constant .none k2 p5] k3 p6) p7.line (envOfC x sg s.heap.objs.size g cdg) = pure false)
    (hrest : Ds G C8.E0 trest frest) (hr : ∀ (s : Shared) (H : Hp), PSs (cxOf C8.CX0 X.prog X.w X.K X.mg X.base Ng x sg g cdg X.A X.stack s H C8.E0).nox rest trest) (hok : ∀ c, ok c = true → PySem.W.exmAny G.K (.ref (G.xc c)) [.ref C1, .ref C2] = some true) :
    GivesA X Ng x sg g cdg (.Assign [.Tuple [.Name nt p1, .Name nx p2] k1 p3] (.Tuple [.Constant .none k5 p4, .Constant .none k2 p5] k3 p6) p7 ::
      .Try [.Assign [.Name nt r1] (.Call (.Name a r2) [] [] r3) r5] [.ExceptHandler (some (.Tuple [.Name x1 q1, .Name x2 q2] k4 q3)) (some ne) [.Assign [.Name nx s1] (.Name ne s2) s3] pos'] [] [] pos :: rest) a q (TTh G (heardD ok false n frest)) := by
  refine heard_core hN hlen (fun f c' s H tl act => ?_) hrest hok
  rw [hG]
  refine pss_cons (ps_par (i := 1) (j := 2) rfl nd h1 h2 (by decide) l1 l2 (pa_cons pe_non (pa_cons pe_non pa_nil)) (hw s) (hs s)) (pss_cons ?_ (hr s H))
  exact ps_try_got (X := (cxOf C8.CX0 X.prog X.w X.K X.mg X.base Ng x sg g cdg X.A X.stack s H C8.E0).nox) (tb := fun W => tAsg (wrT false fun σ H Q => σ[0]? = some (some (.ref f)) ∧ H c' = some (CodeO c' q) ∧ ∃ E : XK, (∀ cls d H', E cls d H' → W cls d σ H') ∧ tl E H Q) (gName 1)) (ts := tAsg (tVar 3) (gName 2))
    rfl rfl nd (i := 3) h3 l3 ⟨n1.1, n1.2.1, n1.2.2⟩ ⟨n2.1, n2.2.1, n2.2.2⟩ (fun W pn xe tk _ => pss_one (ps_set (i := 1) nd h1 (.inl l1) (act W pn xe r2 r3 tk))) fun a pn => pss_one (ps_set (i := 2) nd h2 (.inl l2) (pe_var (i := 3) h3 v3 hd1 hd2))
end
end Dn
namespace Dn
open PySem PySem.Spec PyProof.Rows L2 LamX

/-! g(lambda: body) as data -/
def noX (r : R D) : R D := match r with
  | .exc _ _ _ => .bad
  | r => r
def dHeard (F : R D → R D) (f : DE) : DE := fun ρ m => noX (F (f ρ m))
theorem noX_post {G : Cl} {E : XK} {B : Bx} {M : AP} {H : Hp} {r : R D} {Q : VK} (p : Post G E B M H (Rep G B.ad M) (noX r) Q) : Post G C8.E0 B M H (Rep G B.ad M) r Q := by
  cases r with
  | bad => exact p
  | ok d m => exact p
  | exc c l m => exact p.elim
theorem de_heard {G : Cl} {E : XK} {t : XK → TE} {f : DE} {F : R D → R D} (ht : ∀ E' : XK, De G E' (t E') f) : De G E (tLam G.T (TTh G F) t) (dHeard F f) := ⟨fun {B M pm ρ m σ H} e Q p => by
  refine ⟨by rw [← e.tt]; exact e.tb, fun H1 eN T1 => ?_⟩
  have x1 : Ext Non H H1 := fun b o _ n h => eN b o h n
  have g1 : Go G B M m H H1 := ⟨x1.imp fun _ z => z.elim, e.ea, e.eh, e.mr.ext x1, by rw [e.tt]; exact T1⟩
  have e1 := e.go g1
  have p1 : Post G C8.E0 B M H1 (Rep G B.ad M) (F (f ρ m)) Q := (noX_post p).later g1
  refine ⟨M, m, f ρ m, e1.start, fun E' H' Q' g p' => ?_, p1.down e1⟩
  have g' : Go G B M m H1 H' := Go.up e1 g
  have e2 := e1.go g'
  refine (ht E').run e2 Q' ?_
  cases hr : f ρ m with
  | bad => rw [hr] at p'; exact p'.elim
  | ok d m' =>
    rw [hr] at p'
    exact fun v H'' g2 rv => p' v H'' ⟨g2.x.imp fun b hb => by show m.has b; rw [e.eh]; exact hb, g2.ea.trans e.ea.symm, g2.eh.trans e.eh.symm, g2.mr, by show LamX.Tabs G.T _; rw [← e.tt]; exact g2.tb⟩ (by rw [e.ea]; exact rv)
  | exc c l m' =>
    rw [hr] at p'
    exact fun cls dd H'' g2 hx => p' cls dd H'' ⟨g2.x.imp fun b hb => by show m.has b; rw [e.eh]; exact hb, g2.ea.trans e.ea.symm, g2.eh.trans e.eh.symm, g2.mr, by show LamX.Tabs G.T _; rw [← e.tt]; exact g2.tb⟩ (by show XRep G m.ad M _ _ _ _ _; rw [e.ea]; exact hx)⟩
/-! a def's own code object -/
def CodeAt (K : PySem.W.Frag) (f : Addr) (cdv : Value) : Prop := ∃ oc od osl fd c, K.lookup f = some ⟨oc, od, .func fd, osl⟩ ∧ fd.code = cdv ∧ cdv = .ref c
theorem codeIn_ref {K : PySem.W.Frag} {cdv : Value} {q : Str} (h : PySem.W.codeIn K cdv q = true) : ∃ c, cdv = .ref c := by
  unfold PySem.W.codeIn at h
  split at h
  · exact ⟨_, rfl⟩
  · cases h
theorem fnA_ofC {P : Program} {w : World} {K : PySem.W.Frag} {mg : Str → Option Value} {base : Heap} {k : Nat} {f : Addr} {sp : Sp} {x qual : Str} {st : Stmt} {fd : FuncData} {N ps : List Str} (F : Fun K x qual st f fd) (S : FnScope N ps (defScope st)) (hbi : Binds K fd ps [])
    (hbody : ∀ (cdv : Value) (A : Around) (out : List Env) (s : Shared) (H : Hp) (vs : List V) (Q : VK) (E : XK), CodeAt K f cdv → RG k (A.deeper (envOfC qual (defScope st) s.heap.objs.size f cdv)) → sp vs H Q E → vs.length = ps.length ∧
      ∃ t, PSs (cxOf (L2.CX P w) P w K mg base N qual (defScope st) f cdv A out s H E) (defBody st) t ∧ t { nx := fun _ H' => Q .non H', rt := Q } (start N vs) H) :
    FnA P w K mg base (k + 1) f sp := by
  intro A out s H zs vs Q E hr env hv hsp
  obtain ⟨oc, od, kV, doc, pm, an, cdv, ct, osl, hfd, lk, hcd⟩ := F.ex
  have hdown := hr.down (envOfC qual (defScope st) s.heap.objs.size f cdv)
  obtain ⟨hlen, t, ht, hq⟩ := hbody cdv A out s H vs Q E (let ⟨c, ec⟩ := codeIn_ref hcd; ⟨oc, od, osl, fd, c, lk, by rw [hfd], ec⟩) hdown hsp
  have hzl : zs.length = ps.length := hv.length.symm.trans hlen
  have KX : K.In s.heap := env.mod.kin.keeps fun b o q => (env.bs b o q).1
  have lim : s.heap.NoLimit := env.mod.nolimit.keeps fun b o q => (env.bs b o q).1
  have hk1 : ∀ y ∈ ps.zip zs, (defScope st).names.lookup y.1 = some .local ∨ ((defScope st).names.lookup y.1 = some .cell ∧ ((cellsFrom (s.heap.objs.size + 1) (defScope st).names []).lookup y.1).isSome = true) := by
    rintro ⟨n, v⟩ hy
    exact (S.par n (List.of_mem_zip hy).1).imp id fun q => ⟨q, PySem.W.cellsFrom_some _ _ _ (.inl q)⟩
  have hbb := hbi s zs KX (by simpa using hzl)
  rw [List.append_nil] at hbb
  subst hfd
  refine codeAny_call_function hr.rm.depth (KX _ _ lk) rfl S.co S.gen rfl (PySem.W.codeRec_of KX hcd) (hbb _ _ _ _ ?_)
  refine wpAny_newFunctionEnv_cells S.kind hk1 fun en hen s1 cl => ?_
  subst hen
  refine ⟨lim.keeps cl.toInCall.keep, codeAny_func ?_⟩
  have I := inv_start (CX := L2.CX P w) (P := P) (E := E) S hr.rm.hd env hlen hv cl
  refine wpAny_mono (ht.run [] s1 (start N vs) H _ I hq) (fun fl s' hs => ?_) fun e s' hs => hs
  cases fl with
  | ret u =>
    obtain ⟨v, σ', H', J, rv, q⟩ := hs
    exact ⟨v, H', J.os, J.bare, J.base, J.hok, rv, q⟩
  | next =>
    obtain ⟨σ', H', J, q⟩ := hs
    exact ⟨.non, H', J.os, J.bare, J.base, J.hok, rfl, q⟩
  | brk => exact hs.elim fun _ z => z.elim fun _ z => z.2.elim
  | cont => exact hs.elim fun _ z => z.elim fun _ z => z.2.elim
theorem fnDC {G : Cl} {P : Program} {w : World} {K : PySem.W.Frag} {mg : Str → Option Value} {base : Heap} {k : Nat} {f : Addr} {x qual : Str} {st : Stmt} {fd : FuncData} {N ps : List Str} {fb : DS} (F : Fun K x qual st f fd) (S : FnScope N ps (defScope st)) (hbi : Binds K fd ps [])
    (hbody : ∀ (cdv : Value) (A : Around) (out : List Env) (s : Shared) (H : Hp) (E : XK), CodeAt K f cdv → RG k (A.deeper (envOfC qual (defScope st) s.heap.objs.size f cdv)) →
      ∃ t, PSs (cxOf (L2.CX P w) P w K mg base N qual (defScope st) f cdv A out s H E) (defBody st) t ∧ Ds G E t fb) :
    FnA P w K mg base (k + 1) f (spD G ps.length (runD N.length fb)) := fnA_ofC F S hbi fun cdv A out s H vs Q E hc hr h => by
  obtain ⟨t, h1, h2⟩ := hbody cdv A out s H E hc hr
  obtain ⟨e1, e2⟩ := body_keeps h2 h
  exact ⟨e1, t, h1, e2⟩
theorem tabO_of {X : Cx} {p : He.Defn} {T : List (Addr × Str)} (hc : CodeAt X.K (He.fAd X.K p) X.env.code) (hd : PySem.W.codeHdIn X.K (He.cT X.K p).1 (He.cT X.K p).2 = true) (tb : TabB X.base X.mg (He.cT X.K p).1 (He.cT X.K p).2)
    (mem : ((He.cT X.K p).2, X.env.qual ++ "<lambda>") ∈ T) (one : ∀ y ∈ T, y.1 = (He.cT X.K p).2 → y.2 = X.env.qual ++ "<lambda>") : TabO X T (He.cT X.K p).1 (He.cT X.K p).2 := by
  refine ⟨tb, ?_, mem, one⟩
  obtain ⟨oc, od, osl, fd, c, lk, e, ec⟩ := hc
  show X.env.code = .ref (He.codeOf X.K p)
  unfold He.codeOf
  rw [lk]
  rw [ec] at e ⊢
  simp [e]
end Dn
namespace Dn
open PySem PySem.Spec PyProof.Rows L2
open PySem.W PySem.Calls Builtin

/-! x == y, x != y, x of a class with its own __eq__ -/
section
variable {prog : Program} {w : World} {A : Around} {E : Value → Shared → Prop} {s : Shared} {K : Frag} {x C f : Addr} {ox : Obj} {od : Option Obj} {b tb : Value}
theorem rich_K {op : CmpOp} {Q : Value → Shared → Prop} (hu : A.units < cLine) (X : K.In s.heap) (I : InstAt s.heap x ox C od) (hb : Looks (model prog w) s.heap (typeOf b) tb) (hn : notFirst K C tb = true)
    (one : wpAny (model prog w) A (tryCompare (.ref x) (cmpInfo op).2.1 b) (fun r s' => ∃ v, r = some v ∧ Q v s') E s) : wpAny (model prog w) A (richCompare op (.ref x) b) Q E s := by
  unfold richCompare
  simp only [oneThing_ref]
  refine wpAny_holding (wpAny_bind (wpAny_cRoomFor hu ?_))
  refine wpAny_bind (I.type.here (wpAny_bind (hb.here ?_)))
  split
  · rename_i q
    have e : subIn K tb (.ref C) = some false := by
      rcases Bool.or_eq_true_iff.mp hn with e | e
      · rw [beq_iff_eq.mp e] at q
        simp at q
      · exact beq_iff_eq.mp e
    refine wpAny_bind ((looks_subIn X e).here ?_)
    simp only [Bool.false_eq_true, if_false]
    refine wpAny_bind (wpAny_mono one (fun r s' z => ?_) fun _ _ z => z)
    obtain ⟨v, rfl, hq⟩ := z
    exact wpAny_pure hq
  · refine wpAny_bind (wpAny_pure ?_)
    simp only [Bool.false_eq_true, if_false]
    refine wpAny_bind (wpAny_mono one (fun r s' z => ?_) fun _ _ z => z)
    obtain ⟨v, rfl, hq⟩ := z
    exact wpAny_pure hq
/-- the class's def is asked -/
theorem try_eq {Q : Value → Shared → Prop} (X : K.In s.heap) (I : InstAt s.heap x ox C od) (hs : findIn K (.ref C) "__eq__" = some (some (.ref f))) (hf : isFn K (.ref f) = true)
    (h : wpAny (model prog w) A (call (.ref f) [.ref x, b]) (fun v s' => ∃ k, v = .bool k ∧ Q (.bool k) s') E s) : wpAny (model prog w) A (tryCompare (.ref x) "__eq__" b) (fun r s' => ∃ v, r = some v ∧ Q v s') E s := by
  unfold tryCompare
  refine wpAny_bind (ifBound_K X I hs (beq_iff_eq.mpr (beq_iff_eq.mp hf)) (wpAny_mono h (fun v s' hv => ?_) fun _ _ z => z))
  obtain ⟨k, rfl, hq⟩ := hv
  exact wpAny_pure ⟨_, rfl, hq⟩
theorem neBound {M : Model} {args : List Value} {Q : Option Value → Shared → Prop} (X : K.In s.heap) (I : InstAt s.heap x ox C od) (hs : findIn K (.ref C) "__ne__" = some (some (.builtin "object.__ne__")))
    (h : wpAny M A (call (.builtin "object.__ne__") (.ref x :: args)) (fun v => Q (some v)) E s) : wpAny M A (callSpecialIfBound? (.ref x) "__ne__" args) Q E s := by
  simp only [callSpecialIfBound?, bindSpecialIfBound?]
  refine wpAny_holding (wpAny_bind (wpAny_bind (wpAny_bind (I.type.here ((looks_findIn X hs).here ?_)))))
  simp only [F.cmp_object.ne.bind]
  refine wpAny_bind (wpAny_askSetting (wpAny_ite ?_))
  have fin : wpAny M A (call (.builtin "object.__ne__") ([.ref x] ++ args) >>= fun v => pure (some v)) Q E s := wpAny_bind (wpAny_mono h (fun v s' h' => wpAny_pure h') fun _ _ h' => h')
  split
  · exact wpAny_bind (wpAny_pure (wpAny_pure fin))
  · exact wpAny_tryCatch (wpAny_bind (wpAny_pure (wpAny_pure fin)))
theorem try_ne {Q : Value → Shared → Prop} (hu : A.units + 1 < cLine) (X : K.In s.heap) (I : InstAt s.heap x ox C od) (hn : findIn K (.ref C) "__ne__" = some (some (.builtin "object.__ne__"))) (ho : subIn K (.ref C) (.type "object") = some true)
    (hs : findIn K (.ref C) "__eq__" = some (some (.ref f))) (hf : isFn K (.ref f) = true)
    (h : wpAny (model prog w) A.in1 (call (.ref f) [.ref x, b]) (fun v s' => ∃ k, v = .bool k ∧ Q (.bool (!k)) s') E s) : wpAny (model prog w) A (tryCompare (.ref x) "__ne__" b) (fun r s' => ∃ v, r = some v ∧ Q v s') E s := by
  unfold tryCompare
  refine wpAny_bind (neBound X I hn (wpAny_call (codeAny_call_builtin F.cmp_object.ne.plain F.cmpEntry_ne (check_slot F.cmpKind_ne F.cmpSplit_ne (I.type.andThen (looks_subIn X ho)) (F.cmpArgs_ne _ _) ?_))))
  unfold Builtin.«object.__ne__»
  refine wpAny_bind (wpAny_of_eq (a := ((Value.ref x : Value), [b])) (by first | rfl | (simp only [slotArgs]; rfl)) ?_)
  refine wpAny_bind (wpAny_cRoomFor (show A.in1.units < cLine from hu) ?_)
  refine wpAny_bind (m := callSpecialIfBound? (.ref x) (PySem.Str.ofString "__eq__") [b]) (ifBound_K X I hs hf (wpAny_mono h (fun v s' hv => ?_) fun _ _ z => z))
  obtain ⟨k, rfl, hq⟩ := hv
  refine wpAny_bind (m := truthy (.bool k)) (wpAny_truthy_bool ?_)
  first
    | exact wpAny_pure ⟨.bool (!k), rfl, wpAny_pure ⟨_, rfl, hq⟩⟩
    | exact wpAny_pure (wpAny_pure ⟨_, rfl, hq⟩)
    | exact wpAny_pure ⟨_, rfl, hq⟩
end
end Dn
namespace Dn
open PySem PySem.Spec PyProof.Rows L2
open PySem.W PySem.Calls Builtin

/-! == and != of an instance with slots and anything -/
inductive TyA (K : Frag) (H : Hp) : V → Value → Prop where
  | b {x : V} {t : Value} (h : TyX K H x t) : TyA K H x t
  | s {a C dx : Addr} {vs : List (Option V)} (h : SlX.Slt H a C dx vs) : TyA K H (.ref a) (.ref C)
theorem tyA_looks {X : Cx} {pins : List (Addr × Obj)} {σ : L2.St} {H : Hp} {s : Shared} {x : V} {u t : Value} (I : Inv X pins σ H s) (rx : RelV x u) (h : TyA X.K H x t) : Looks (model X.prog X.w) s.heap (typeOf u) t := by
  cases h with
  | b h =>
    obtain ⟨P, k, p, _⟩ := kit_of I rx h
    exact k.ty _ _ I.kIn p
  | s h =>
    cases (show u = Value.ref _ from rx)
    obtain ⟨_, _, _, J, _⟩ := SlX.slt_inst I h
    exact J.type
structure EqC (K : Frag) (C g : Addr) : Prop where
  eq : findIn K (.ref C) "__eq__" = some (some (.ref g))
  fn : isFn K (.ref g) = true
  ne : findIn K (.ref C) "__ne__" = some (some (.builtin "object.__ne__"))
  ob : subIn K (.ref C) (.type "object") = some true
def eqCB (K : Frag) (C g : Addr) : Bool := He.eqO (findIn K (.ref C) "__eq__") (some (some (.ref g))) && (isFn K (.ref g) && (He.eqO (findIn K (.ref C) "__ne__") (some (some (.builtin "object.__ne__"))) && decide (subIn K (.ref C) (.type "object") = some true)))
theorem eqCB_ok {K : Frag} {C g : Addr} (h : eqCB K C g = true) : EqC K C g := by
  obtain ⟨h1, h⟩ := He.ba h
  obtain ⟨h2, h⟩ := He.ba h
  obtain ⟨h3, h4⟩ := He.ba h
  exact ⟨He.eqO_ok h1, h2, He.eqO_ok h3, of_decide_eq_true h4⟩
def rOwnX (neg : Bool) (K : Frag) (C : Addr) (sp : Sp) (E : XK) : R2 := fun x y H Q => ∃ a dx vs t, x = .ref a ∧ SlX.Slt H a C dx vs ∧ TyA K H y t ∧ notFirst K C t = true ∧ sp [x, y] H (fun z H' => ∃ k, z = .bl k ∧ Q (.bl (neg ^^ k)) H') E
section
variable {X : Cx} {k : Nat} {C g : Addr} {sp : Sp} {E : XK}
theorem op_eqOwn (T : EqC X.K C g) (F : FnA X.prog X.w X.K X.mg X.base k g sp) (hr : RG k X.A) (hx : Passes (L2.CX X.prog X.w) X E) : OpR X (compareOp .Eq) (rOwnX false X.K C sp E) := by
  intro pins s σ H x y v u Q I rx ry h
  obtain ⟨a, dx, vs, t, rfl, ha, ty, hn, q⟩ := h
  cases (show v = Value.ref a from rx)
  obtain ⟨_, _, _, J, _⟩ := SlX.slt_inst I ha
  refine rich_K (op := .Eq) hr.rm.units0 I.kIn J (tyA_looks I ry ty) hn (try_eq I.kIn J T.eq T.fn ?_)
  refine wpAny_mono (wpAny_call (runA (zs := [.ref a, u]) (vs := [.ref a, y]) F hr I.env0 hx I (.cons rfl (.cons ry .nil)) q)) (fun z s' hz => ?_) fun _ _ i => i
  obtain ⟨z', H', I', rz, b, ez, qz⟩ := hz
  subst ez
  cases (show z = Value.bool b from rz)
  exact ⟨b, rfl, .bl b, H', I', rfl, by rw [Bool.false_xor] at qz; exact qz⟩
theorem op_neOwn (T : EqC X.K C g) (F : FnA X.prog X.w X.K X.mg X.base k g sp) (hr : RG (k + 1) X.A) (hx : Passes (L2.CX X.prog X.w) X E) : OpR X (compareOp .NotEq) (rOwnX true X.K C sp E) := by
  intro pins s σ H x y v u Q I rx ry h
  obtain ⟨a, dx, vs, t, rfl, ha, ty, hn, q⟩ := h
  cases (show v = Value.ref a from rx)
  obtain ⟨_, _, _, J, _⟩ := SlX.slt_inst I ha
  refine rich_K (op := .NotEq) hr.rm.units0 I.kIn J (tyA_looks I ry ty) hn (try_ne (by have := hr.rm.un; omega) I.kIn J T.ne T.ob T.eq T.fn ?_)
  refine wpAny_mono (wpAny_call (runA (zs := [.ref a, u]) (vs := [.ref a, y]) F hr.in1 I.env0.in1 hx I (.cons rfl (.cons ry .nil)) q)) (fun z s' hz => ?_) fun _ _ i => i
  obtain ⟨z', H', I', rz, b, ez, qz⟩ := hz
  subst ez
  cases (show z = Value.bool b from rz)
  exact ⟨b, rfl, .bl (!b), H', I', rfl, by rw [Bool.true_xor] at qz; exact qz⟩
end
/-! as data -/
def rEqA (K : Frag) (C : Addr) (sp : Sp) (E : XK) : R2 := fun x y H Q => rEqU K x y H Q ∨ rOwnX false K C sp E x y H Q
def rNeA (K : Frag) (C : Addr) (sp : Sp) (E : XK) : R2 := fun x y H Q => rNeU K x y H Q ∨ rOwnX true K C sp E x y H Q
theorem op_eqA {X : Cx} {k : Nat} {C g : Addr} {sp : Sp} {E : XK} (hu : X.A.units + 64 < cLine) (T : EqC X.K C g) (F : FnA X.prog X.w X.K X.mg X.base k g sp) (hr : RG k X.A) (hx : Passes (L2.CX X.prog X.w) X E) : OpR X (compareOp .Eq) (rEqA X.K C sp E) := OpR.or (op_eqU hu) (op_eqOwn T F hr hx)
theorem op_neA {X : Cx} {k : Nat} {C g : Addr} {sp : Sp} {E : XK} (hu : X.A.units + 64 < cLine) (T : EqC X.K C g) (F : FnA X.prog X.w X.K X.mg X.base k g sp) (hr : RG (k + 1) X.A) (hx : Passes (L2.CX X.prog X.w) X E) : OpR X (compareOp .NotEq) (rNeA X.K C sp E) := OpR.or (op_neU hu) (op_neOwn T F hr hx)
/-- the class of an instance, 0 else -/
def D.ok2 (okc : Nat → Bool) : D → Bool
  | .obj c _ => okc c
  | d => (tyD d).isSome
def dEqA (neg : Bool) (c : Nat) (okc : Nat → Bool) (F : DF) (fa fb : DE) : DE := fun ρ m => (fa ρ m).bind fun x m1 => (fb ρ m1).bind fun y m2 => match x with
  | .obj c' d => if c' = c ∧ y.ok2 okc = true then (F [.obj c' d, y] m2).bind fun z m3 => match z with
      | .bl k => .ok (.bl (neg ^^ k)) m3
      | _ => .bad
    else .bad
  | x => R.of (if neg = true then neD x y else eqD x y) m2
/-- what is asked of the fragment -/
structure NfC (G : Cl) (c : Nat) (okc : Nat → Bool) : Prop where
  t : ∀ n ∈ tyNames, notFirst G.K (G.cl c) (.type n) = true
  o : ∀ c', okc c' = true → notFirst G.K (G.cl c) (.ref (G.cl c')) = true
theorem ok2_ty {G : Cl} {ad : Ad} {M : AP} {H : Hp} {v : V} {y : D} {c : Nat} {okc : Nat → Bool} (N : NfC G c okc) (r : Rep G ad M H v y) (h : y.ok2 okc = true) : ∃ t, TyA G.K H v t ∧ notFirst G.K (G.cl c) t = true := by
  have gen : ∀ n, tyD y = some n → ∃ t, TyA G.K H v t ∧ notFirst G.K (G.cl c) t = true := fun n hn => ⟨.type n, .b (ty_rep (A := Non) (.r r) hn), N.t n (ty_names hn)⟩
  cases y with
  | obj c' d =>
    obtain ⟨a, dx, v', rfl, hs, _, _⟩ := r.slt
    exact ⟨_, .s hs, N.o c' h⟩
  | non => exact gen _ rfl
  | bl b => exact gen _ rfl
  | int i => exact gen _ rfl
  | str x => exact gen _ rfl
  | tup l => exact gen _ rfl
  | lst l => exact gen _ rfl
  | dct l => exact gen _ rfl
  | exc c' l => cases h
  | drw => cases h
  | scr ns => cases h
  | dcn l => cases h
  | cel k => cases h
theorem own_post {G : Cl} {E : XK} {B : Bx} {M : AP} {pm : Nat → Addr} {ρ : Ro} {m : Mo} {σ : L2.St} {H : Hp} {neg : Bool} {c : Nat} {okc : Nat → Bool} {F : DF} {x y : V} {d e : D} {Q : VK} (en : EnvR G B M pm ρ m σ H) (N : NfC G c okc) (rx : Rep G B.ad M H x (.obj c d)) (ry : Rep G B.ad M H y e) (ho : e.ok2 okc = true)
    (p : Post G E B M H (Rep G B.ad M) ((F [.obj c d, e] m).bind fun z m3 => match z with
      | .bl k => .ok (.bl (neg ^^ k)) m3
      | _ => .bad) Q) : rOwnX neg G.K (G.cl c) (spD G 2 F) E x y H Q := by
  obtain ⟨t, ty, hn⟩ := ok2_ty N ry ho
  obtain ⟨a, dx, v, rfl, hs, _, _⟩ := rx.slt
  refine ⟨a, dx, _, t, rfl, hs, ty, hn, M, [_, _], m, rfl, by rw [en.ea]; exact .cons rx (.cons ry .nil), en.start, (Post.seq en p).imp' fun z H2 ⟨d2, m2, g2, r2, p2⟩ => ?_⟩
  have e2 := en.go g2
  split at p2
  · rename_i b
    cases r2
    exact ⟨b, rfl, p2 _ _ e2.here (.bl _)⟩
  · exact p2.elim
theorem de_eqA {G : Cl} {E : XK} {c : Nat} {okc : Nat → Bool} {F : DF} {ta tb : TE} {fa fb : DE} (N : NfC G c okc) (ha : De G E ta fa) (hb : De G E tb fb) : De G E (tOp (rEqA G.K (G.cl c) (spD G 2 F) E) ta tb) (dEqA false c okc F fa fb) := ⟨fun {B M pm ρ m σ H} e Q p => by
  refine ha.run e _ ((Post.bind p).imp' fun x H1 ⟨d1, m1, g1, r1, p1⟩ => ?_)
  have e1 := e.go g1
  refine hb.run e1 _ ((Post.bind p1).imp' fun y H2 ⟨d2, m2, g2, r2, p2⟩ => ?_)
  have e2 := e1.go g2
  have rx := r1.ext g2.x e.aM
  split at p2
  · split at p2
    · rename_i h
      obtain ⟨rfl, ho⟩ := h
      exact .inr (own_post e2 N rx r2 ho p2)
    · exact p2.elim
  · rw [if_neg Bool.false_ne_true] at p2
    obtain ⟨z, q, k⟩ := Post.of e2 p2
    exact .inl (o_eq.run e2.hm e2.aM (.r rx) (.r r2) q Q k)⟩
theorem de_neA {G : Cl} {E : XK} {c : Nat} {okc : Nat → Bool} {F : DF} {ta tb : TE} {fa fb : DE} (N : NfC G c okc) (ha : De G E ta fa) (hb : De G E tb fb) : De G E (tOp (rNeA G.K (G.cl c) (spD G 2 F) E) ta tb) (dEqA true c okc F fa fb) := ⟨fun {B M pm ρ m σ H} e Q p => by
  refine ha.run e _ ((Post.bind p).imp' fun x H1 ⟨d1, m1, g1, r1, p1⟩ => ?_)
  have e1 := e.go g1
  refine hb.run e1 _ ((Post.bind p1).imp' fun y H2 ⟨d2, m2, g2, r2, p2⟩ => ?_)
  have e2 := e1.go g2
  have rx := r1.ext g2.x e.aM
  split at p2
  · split at p2
    · rename_i h
      obtain ⟨rfl, ho⟩ := h
      exact .inr (own_post e2 N rx r2 ho p2)
    · exact p2.elim
  · rw [if_pos rfl] at p2
    obtain ⟨z, q, k⟩ := Post.of e2 p2
    exact .inl (o_ne.run e2.hm e2.aM (.r rx) (.r r2) q Q k)⟩
/-! isinstance, own classes and others -/
def rIsA (K : Frag) (u : Value) : List V → Hp → VK → Prop := fun xs H Q => rIsi K xs H Q ∨ SlX.rIsiSl K u xs H Q ∨ rIsO K xs H Q
theorem call_isA {X : Cx} (u : Value) : CallR X (.builtin "isinstance") (rIsA X.K u) := CallR.or call_isi (CallR.or (SlX.call_isiSl u) call_isO)
/-- the answers: of built-in types, of own instances, of exceptions -/
structure IsT where
  t : String → Option Bool
  o : Nat → Option Bool
  x : Nat → Option Bool
def IsT.of (I : IsT) : D → Option Bool
  | .obj c _ => I.o c
  | .exc c _ => I.x c
  | d => (tyD d).bind I.t
structure IsOk (G : Cl) (u : Value) (I : IsT) : Prop where
  t : ∀ n ∈ tyNames, ∀ b, I.t n = some b → kitOne G.K (.type n) u = some b
  o : ∀ c b, I.o c = some b → SlX.SCls G.K (G.cl c) ∧ SlX.SIsi G.K (G.cl c) ∧ kitOne G.K (.ref (G.cl c)) u = some b
  x : ∀ c b, I.x c = some b → L2.ExcC G.K (G.xc c) ∧ kitOne G.K (.ref (G.xc c)) u = some b
def dIsA (I : IsT) (f : DE) : DE := fun ρ m => (f ρ m).bind fun d m1 => match I.of d with
  | some b => .ok (.bl b) m1
  | none => .bad
theorem de_isA {G : Cl} {E : XK} {t : TE} {f : DE} {cv : V} {u : Value} {I : IsT} (k : ClsV cv u) (hI : IsOk G u I) (h : Dq G E t f) : De G E (tCB (rIsA G.K u) (tCons t (tCons (tC cv) tNil))) (dIsA I f) := ⟨fun {B M pm ρ m σ H} e Q p => by
  refine h.run e _ ((Post.bind p).imp' fun x H1 ⟨d1, m1, g1, r1, p1⟩ => ?_)
  have e1 := e.go g1
  split at p1
  · rename_i b hb
    have gen : ∀ n, tyD d1 = some n → I.t n = some b → rIsA G.K u [x, cv] H1 Q := fun n hn hb => .inl ⟨x, cv, .type n, u, b, rfl, k, ty_rep r1 hn, hI.t n (ty_names hn) b hb, p1 _ _ e1.here (.bl _)⟩
    cases d1 with
    | obj c d =>
      obtain ⟨h1, h2, h3⟩ := hI.o c b hb
      cases r1 with
      | r r1 =>
        obtain ⟨a, dx, v', rfl, hs, _, _⟩ := r1.slt
        refine .inr (.inl ⟨a, G.cl c, dx, _, cv, b, rfl, ?_, fun w => k.eq, hs, h1, h2, h3, p1 _ _ e1.here (.bl _)⟩)
        cases k with
        | ty n => rfl
        | own C => rfl
    | exc c l =>
      obtain ⟨h1, h2⟩ := hI.x c b hb
      cases r1 with
      | r r1 =>
        cases r1 with
        | exc0 hx n q => exact .inr (.inr ⟨_, G.xc c, none, cv, u, b, rfl, hx, (fun dx z => nomatch z), k, h1, h2, p1 _ _ e1.here (.bl _)⟩)
        | exc1 hx hxd n nx q r' => exact .inr (.inr ⟨_, G.xc c, _, cv, u, b, rfl, hx, (fun dx' z => by cases z; exact ⟨_, hxd⟩), k, h1, h2, p1 _ _ e1.here (.bl _)⟩)
    | non => exact gen _ rfl hb
    | bl y => exact gen _ rfl hb
    | int y => exact gen _ rfl hb
    | str y => exact gen _ rfl hb
    | tup y => exact gen _ rfl hb
    | lst y => exact gen _ rfl hb
    | dct y => exact gen _ rfl hb
    | drw => cases hb
    | scr y => cases hb
    | dcn y => cases hb
    | cel y => cases hb
  · exact p1.elim⟩
end Dn
namespace Dn
open PySem PySem.Spec PyProof.Rows L2

/-! frames told otherwise -/
section
variable {G : Cl} {B : Bx} {M : AP} {pm : Nat → Addr} {ρ : Ro} {m m' : Mo} {σ : L2.St} {H H' : Hp}
/-- another frame, whose names hold what names of this one hold -/
theorem EnvR.ren {ρ' : Ro} {σ' : L2.St} {pm' : Nat → Addr} (e : EnvR G B M pm ρ m σ H) (hl : σ'.length = ρ'.length) (k : Nat → Nat)
    (h : ∀ (j : Nat) (s : Sv), ρ'[j]? = some (some s) → ρ[k j]? = some (some s) ∧ σ'[j]? = σ[k j]? ∧ (s.mu = true → pm' j = pm (k j)))
    (ij : ∀ i j : Nat, isM ρ' i → isM ρ' j → k i = k j → i = j) : EnvR G B M pm' ρ' m σ' H := by
  have im : ∀ i, isM ρ' i → isM ρ (k i) ∧ pm' i = pm (k i) := fun i ⟨s, h1, h2⟩ => ⟨⟨s, (h i s h1).1, h2⟩, (h i s h1).2.2 h2⟩
  refine ⟨fun b hb => e.em b ?_, e.hl, e.ea, e.eh, hl, fun j d hj => ?_, fun j ds hj => ?_, fun j l hj => ?_, fun j l hj => ?_, fun i j hi hj q => ?_, fun i hi => ?_, e.xs, e.mr, e.mx, fun i hi => ?_, e.ext, e.tb, e.tt⟩
  · rcases hb with z | z | ⟨i, hi, z⟩
    · exact .inl z
    · exact .inr (.inl z)
    · exact .inr (.inr ⟨k i, (im i hi).1, by rw [← (im i hi).2]; exact z⟩)
  · obtain ⟨h1, h2, _⟩ := h j _ hj
    rw [h2]
    exact e.sv _ d h1
  · obtain ⟨h1, h2, h3⟩ := h j _ hj
    rw [h2, h3 rfl]
    exact e.sl _ ds h1
  · obtain ⟨h1, h2, h3⟩ := h j _ hj
    rw [h2, h3 rfl]
    exact e.sk _ l h1
  · obtain ⟨h1, h2, h3⟩ := h j _ hj
    rw [h2, h3 rfl]
    exact e.sn _ l h1
  · obtain ⟨hi1, hi2⟩ := im i hi
    obtain ⟨hj1, hj2⟩ := im j hj
    rw [hi2, hj2] at q
    exact ij i j hi hj (e.inj _ _ hi1 hj1 q)
  · obtain ⟨hi1, hi2⟩ := im i hi
    rw [hi2]
    exact e.fr _ hi1
  · obtain ⟨hi1, hi2⟩ := im i hi
    rw [hi2]
    exact e.mut _ hi1
/-- one more name, empty -/
theorem EnvR.app (e : EnvR G B M pm ρ m σ H) : EnvR G B M pm (ρ ++ [none]) m (σ ++ [none]) H := by
  have hlen := e.len
  have key : ∀ (j : Nat) (s : Sv), (ρ ++ [none])[j]? = some (some s) → ρ[j]? = some (some s) := fun j s h => by
    by_cases hj : j < ρ.length
    · rwa [List.getElem?_append_left hj] at h
    · rw [List.getElem?_append_right (by omega)] at h
      cases q : j - ρ.length with
      | zero => rw [q] at h; cases h
      | succ n => rw [q] at h; cases h
  refine e.ren (by simp [hlen]) id (fun j s h => ?_) fun i j _ _ q => q
  have h1 := key j s h
  have hj : j < ρ.length := (List.getElem?_eq_some_iff.mp h1).1
  exact ⟨h1, by rw [List.getElem?_append_left (by omega)]; rfl, fun _ => rfl⟩
end
section
variable {G : Cl} {E : XK}
/-- xi, xj = xj, [] -/
def sMov (i j : Nat) : DS := fun ρ m => match ρ[j]? with
  | some (some (.ml ds)) => if i < ρ.length ∧ i ≠ j then .nx ((ρ.set i (some (.ml ds))).set j (some (.ml []))) m else .bad
  | _ => .bad
theorem ds_mov {i j : Nat} : Ds G E (tPar i j (tCons (tVar j) (tCons (tLst tNil) tNil))) (sMov i j) := ⟨fun {B M pm ρ m σ H} e Z p => by
  unfold sMov at p
  split at p
  rotate_left
  · exact p.elim
  rename_i ds hs
  split at p
  rotate_left
  · exact p.elim
  rename_i hi
  obtain ⟨hi, hij⟩ := hi
  obtain ⟨vs, h1, h2, h3⟩ := e.sl j ds hs
  have hj : j < ρ.length := (List.getElem?_eq_some_iff.mp hs).1
  have hlen := e.len
  refine ⟨_, h1, Nat.zero_le _, fun q hq => ⟨_, _, rfl, ?_⟩⟩
  have n := Liv.none hq
  have ea := e.app
  obtain ⟨e1, s1⟩ := EnvR.setm (i := ρ.length) (p := q) (s := .ml []) (m' := m) (H' := upd H q (.lst [])) ea n (ea.same (ExN.new hq)) ⟨[], upd_same, .nil⟩ ((e.mr.off n).ext (Ext.new hq)) (by simp)
  refine p _ (fun k => if k = j then q else if k = i then pm j else pm k) _ _ (e1.ren (by simp [hlen]) (fun k => if k = j then ρ.length else if k = i then j else k) (fun k s hk => ?_) fun a b ha hb q => ?_) s1
  · by_cases hkj : k = j
    · subst hkj
      rw [List.getElem?_set_self (by simp; exact hj)] at hk
      cases hk
      refine ⟨by rw [if_pos rfl, List.getElem?_set_self (by simp)], ?_, fun _ => by simp⟩
      rw [List.getElem?_set_self (by simp; omega), if_pos rfl, List.getElem?_set_self (by simp; omega)]
    · rw [List.getElem?_set_ne (Ne.symm hkj)] at hk
      by_cases hki : k = i
      · subst hki
        rw [List.getElem?_set_self hi] at hk
        cases hk
        rw [if_neg hkj, if_pos rfl]
        refine ⟨by rw [List.getElem?_set_ne (by omega), List.getElem?_append_left hj]; exact hs, ?_, fun _ => ?_⟩
        · rw [List.getElem?_set_ne (Ne.symm hkj), List.getElem?_set_self (by omega), List.getElem?_set_ne (by omega), List.getElem?_append_left (by omega)]
          exact h1.symm
        · show (if k = j then q else if k = k then pm j else pm k) = if j = ρ.length then q else pm j
          rw [if_neg hkj, if_pos rfl, if_neg (by omega)]
      · rw [List.getElem?_set_ne (Ne.symm hki)] at hk
        have hkl : k < ρ.length := (List.getElem?_eq_some_iff.mp hk).1
        rw [if_neg hkj, if_neg hki]
        refine ⟨by rw [List.getElem?_set_ne (by omega), List.getElem?_append_left hkl]; exact hk, ?_, fun _ => ?_⟩
        · rw [List.getElem?_set_ne (Ne.symm hkj), List.getElem?_set_ne (Ne.symm hki), List.getElem?_set_ne (by omega), List.getElem?_append_left (by omega)]
        · show (if k = j then q else if k = i then pm j else pm k) = if k = ρ.length then q else pm k
          rw [if_neg hkj, if_neg hki, if_neg (by omega)]
  · have lt : ∀ a, isM ((ρ.set i (some (.ml ds))).set j (some (.ml []))) a → a < ρ.length := fun a ⟨s, h, _⟩ => by
      have z := (List.getElem?_eq_some_iff.mp h).1
      simpa using z
    have la := lt a ha
    have lb := lt b hb
    have nj : ∀ a, a ≠ i → a ≠ j → True := fun _ _ _ => trivial
    by_cases a1 : a = j <;> by_cases b1 : b = j <;> by_cases a2 : a = i <;> by_cases b2 : b = i <;> simp only [a1, b1, a2, b2, if_true, if_false] at q <;> (try simp only [if_neg hij] at q) <;> omega⟩
/-! expressions that change a list of the frame -/
inductive RX where
  | bad
  | ok (d : D) (ρ : Ro) (m : Mo)
  | exc (c : Nat) (l : List D) (m : Mo)
abbrev DX := Ro → Mo → RX
def PostX (G : Cl) (E : XK) (B : Bx) (M : AP) (pm : Nat → Addr) (σ : L2.St) (H : Hp) (r : RX) (Q : VK) : Prop := match r with
  | .bad => False
  | .ok d ρ m => ∀ v H', EnvR G B M pm ρ m σ H' → Stp M H M H' → Rep G B.ad M H' v d → Q v H'
  | .exc c l m => ∀ cls dd H', Go G B (MB B) m B.H0 H' → XRep G B.ad (MB B) H' c l cls dd → E cls dd H'
structure Dx (G : Cl) (E : XK) (t : TE) (f : DX) : Prop where
  run : ∀ {B : Bx} {M : AP} {pm : Nat → Addr} {ρ : Ro} {m : Mo} {σ : L2.St} {H : Hp}, EnvR G B M pm ρ m σ H → ∀ Q : VK, PostX G E B M pm σ H (f ρ m) Q → t σ H Q
def xBind (r : R D) (k : D → Mo → RX) : RX := match r with
  | .bad => .bad
  | .ok a m => k a m
  | .exc c l m => .exc c l m
theorem PostX.bind {B : Bx} {M : AP} {pm : Nat → Addr} {ρ : Ro} {m : Mo} {σ : L2.St} {H : Hp} {r : R D} {k : D → Mo → RX} {Q : VK} (e : EnvR G B M pm ρ m σ H) (h : PostX G E B M pm σ H (xBind r k) Q) :
    Post G E B M H (Rep G B.ad M) r (fun b H1 => ∃ a m1, Go G B M m1 H H1 ∧ Rep G B.ad M H1 b a ∧ PostX G E B M pm σ H (k a m1) Q) := by
  cases r with
  | bad => exact h
  | ok a m1 => exact fun b H' g hr => ⟨a, m1, g, hr, h⟩
  | exc c l m' => exact fun cls dd H' g hx => h cls dd H' (Go.ofEnv e g) (hx.less e.mb)
/-- xs.pop(k) -/
def xPop (j : Nat) (fk : DE) : DX := fun ρ m => match ρ[j]? with
  | some (some (.ml ds)) => xBind (fk ρ m) fun k m1 => match k with
    | .int k => match ixN ds.length k with
      | some n => match ds[n]? with
        | some d => if ds.length ≤ 100000 then .ok d (ρ.set j (some (.ml (ds.eraseIdx n)))) m1 else .bad
        | none => .bad
      | none => .bad
    | _ => .bad
  | _ => .bad
theorem Reps.erase {ad : Ad} {M : AP} {H : Hp} : ∀ {vs : List V} {ds : List D} (n : Nat), Reps G ad M H vs ds → Reps G ad M H (vs.eraseIdx n) (ds.eraseIdx n)
  | _, _, _, .nil => .nil
  | _, _, 0, .cons _ t => t
  | _, _, n + 1, .cons r t => .cons r (Reps.erase n t)
theorem dx_pop {tk : TE} {fk : DE} (j : Nat) (hk : De G E tk fk) : Dx G E (tBM G.K "list" rPopAt (tVar j) (tCons tk tNil)) (xPop j fk) := ⟨fun {B M pm ρ m σ H} e Q p => by
  unfold xPop at p
  split at p
  rotate_left
  · exact p.elim
  rename_i ds hs
  obtain ⟨vs, h1, h2, h3⟩ := e.sl j ds hs
  refine ⟨_, h1, .inl ⟨rfl, _, SqL.of h2⟩, ?_⟩
  refine hk.run e _ ((PostX.bind e p).imp' fun x H1 ⟨d1, m1, g1, r1, p1⟩ => ?_)
  have e1 := e.go g1
  obtain ⟨vs', h1', h2', h3'⟩ := e1.sl j ds hs
  split at p1
  rotate_left
  · exact p1.elim
  rename_i k
  cases r1
  split at p1
  rotate_left
  · exact p1.elim
  rename_i n hn
  split at p1
  rotate_left
  · exact p1.elim
  rename_i d hd
  split at p1
  rotate_left
  · exact p1.elim
  rename_i hl
  obtain ⟨v, hv, rv⟩ := h3'.getD hd
  obtain ⟨q1, q2, q3, q4⟩ := ixN_seq hn
  refine ⟨_, vs', k, n, v, rfl, rfl, h2', by omega, by omega, by rw [h3'.length]; exact q1, hv, ?_⟩
  obtain ⟨e2, s2⟩ := e1.updm (s' := .ml (ds.eraseIdx n)) (o := .lst (vs'.eraseIdx n)) hs rfl ⟨_, rfl, h3'.erase n⟩
  exact p1 v _ e2 ((e.stp g1).trans s2) (s2.mono rv)⟩
/-- without a change -/
def xOf (f : DE) : DX := fun ρ m => xBind (f ρ m) fun d m1 => .ok d ρ m1
theorem dx_of {t : TE} {f : DE} (h : De G E t f) : Dx G E t (xOf f) := ⟨fun {B M pm ρ m σ H} e Q p => by
  refine h.run e _ ((PostX.bind e p).imp' fun x H1 ⟨d1, m1, g1, r1, p1⟩ => ?_)
  exact p1 _ _ (e.go g1) (e.stp g1) r1⟩
/-- x op y, the left one changes -/
def xOpL (g : D → D → Option D) (fa : DX) (fb : DE) : DX := fun ρ m => match fa ρ m with
  | .bad => .bad
  | .exc c l m1 => .exc c l m1
  | .ok x ρ1 m1 => xBind (fb ρ1 m1) fun y m2 => match g x y with
    | some z => .ok z ρ1 m2
    | none => .bad
theorem PostX.later {B : Bx} {M : AP} {pm : Nat → Addr} {σ : L2.St} {H H1 : Hp} {r : RX} {Q : VK} (h : PostX G E B M pm σ H r Q) (s : Stp M H M H1) : PostX G E B M pm σ H1 r Q := by
  cases r with
  | bad => exact h
  | ok d ρ m => exact fun v H' e s' rv => h v H' e (s.trans s') rv
  | exc c l m => exact h
theorem dx_opL {r : R2} {g : D → D → Option D} {ta tb : TE} {fa : DX} {fb : DE} (o : O2 G r g) (ha : Dx G E ta fa) (hb : De G E tb fb) : Dx G E (tOp r ta tb) (xOpL g fa fb) := ⟨fun {B M pm ρ m σ H} e Q p => by
  refine ha.run e _ ?_
  unfold xOpL at p
  cases hr : fa ρ m with
  | bad => rw [hr] at p; exact p
  | exc c l m1 => rw [hr] at p; exact p
  | ok x ρ1 m1 =>
    rw [hr] at p
    intro v H1 e1 s1 rv
    have p' := PostX.later p s1
    refine hb.run e1 _ ((PostX.bind e1 p').imp' fun y H2 ⟨d2, m2, g2, r2, p2⟩ => ?_)
    have e2 := e1.go g2
    split at p2
    · rename_i z hz
      refine o.run e2.hm e2.aM (.r (rv.ext g2.x e1.aM)) (.r r2) hz Q fun w H3 x3 rw' => ?_
      exact p2 w H3 (e2.go (e2.same x3)) ((e1.stp g2).trans (e2.stp (e2.same x3))) rw'
    · exact p2.elim⟩
/-- xs.append(x) -/
def sAppX (i : Nat) (f : DX) : DS := fun ρ m => match ρ[i]? with
  | some (some (.ml _)) => match f ρ m with
    | .bad => .bad
    | .exc c l m1 => .exc c l m1
    | .ok d ρ1 m1 => match ρ1[i]? with
      | some (some (.ml ds)) => if ds.length ≤ 10000 then .nx (ρ1.set i (some (.ml (ds ++ [d])))) m1 else .bad
      | _ => .bad
  | _ => .bad
theorem ds_appX {t : TE} {f : DX} (i : Nat) (h : Dx G E t f) : Ds G E (tDrop (tBM G.K "list" rAppend (tVar i) (tCons t tNil))) (sAppX i f) := ⟨fun {B M pm ρ m σ H} e Z p => by
  unfold sAppX at p
  split at p
  rotate_left
  · exact p.elim
  rename_i ds0 hs0
  obtain ⟨vs, h1, h2, h3⟩ := e.sl i ds0 hs0
  refine ⟨_, h1, .inl ⟨rfl, _, SqL.of h2⟩, ?_⟩
  refine h.run e _ ?_
  cases hr : f ρ m with
  | bad => rw [hr] at p; exact p
  | exc c l m1 => rw [hr] at p; exact p
  | ok d ρ1 m1 =>
    rw [hr] at p
    intro v H1 e1 s1 rv
    dsimp only at p
    split at p
    rotate_left
    · exact p.elim
    rename_i ds hs
    obtain ⟨vs', h1', h2', h3'⟩ := e1.sl i ds hs
    split at p
    rotate_left
    · exact p.elim
    rename_i hl
    refine ⟨_, vs', v, rfl, rfl, h2', Nat.lt_of_le_of_lt (Nat.le_of_eq h3'.length) (Nat.lt_of_le_of_lt hl (by decide)), ?_⟩
    obtain ⟨e2, s2⟩ := e1.updm (s' := .ml (ds ++ [d])) (o := .lst (vs' ++ [v])) hs rfl ⟨_, rfl, h3'.append (.one rv)⟩
    exact p _ _ _ _ e2 (s1.trans s2)⟩
/-! list(range(..)) -/
def dvRg2 (fa fb : DE) : DV := fun ρ m => (fa ρ m).bind fun x m1 => (fb ρ m1).bind fun y m2 => match x, y with
  | .int i, .int j => if rgOk i j = true then .ok (.ml (rgD i j)) m2 else .bad
  | _, _ => .bad
theorem dv_rg2 {ta tb : TE} {fa fb : DE} (ha : De G E ta fa) (hb : De G E tb fb) : Dv G E (tLstRg (tRg2 ta tb)) (dvRg2 fa fb) := ⟨fun {B M pm ρ m σ H} e Q p => by
  refine ha.run e _ ((PostM.bind p).imp' fun x H1 ⟨d1, m1, g1, r1, p1⟩ => ?_)
  have e1 := e.go g1
  refine hb.run e1 _ ((PostM.bind p1).imp' fun y H2 ⟨d2, m2, g2, r2, p2⟩ => ?_)
  have e2 := e1.go g2
  split at p2
  · split at p2
    · rename_i h
      cases r1
      cases r2
      exact ⟨_, _, rfl, rfl, rgOk_ok h, fun q hq => Post.newV (s := .ml _) e (g1.trans g2) hq rfl ⟨_, upd_same, ((rg_rep _ _).off (Liv.none hq)).ext (Ext.new (A := Non) hq) fun _ z => z.elim⟩ p2⟩
    · exact p2.elim
  · exact p2.elim⟩
def dRgL2 (fa fb : DE) : DE := fun ρ m => (fa ρ m).bind fun x m1 => (fb ρ m1).bind fun y m2 => match x, y with
  | .int i, .int j => if rgOk i j = true then .ok (.lst (rgD i j)) m2 else .bad
  | _, _ => .bad
theorem de_rgL2 {ta tb : TE} {fa fb : DE} (ha : De G E ta fa) (hb : De G E tb fb) : De G E (tLstRg (tRg2 ta tb)) (dRgL2 fa fb) := ⟨fun {B M pm ρ m σ H} e Q p => by
  refine ha.run e _ ((Post.bind p).imp' fun x H1 ⟨d1, m1, g1, r1, p1⟩ => ?_)
  have e1 := e.go g1
  refine hb.run e1 _ ((Post.bind p1).imp' fun y H2 ⟨d2, m2, g2, r2, p2⟩ => ?_)
  have e2 := e1.go g2
  split at p2
  · split at p2
    · rename_i h
      cases r1
      cases r2
      exact ⟨_, _, rfl, rfl, rgOk_ok h, fun q hq => p2 _ _ (e2.same (ExN.new hq)) ((rg_rep _ _).newL e2.hm hq)⟩
    · exact p2.elim
  · exact p2.elim⟩
/-! a list of the frame lent to an expression -/
mutual
/-- no lists, no dicts within -/
def D.noL : D → Bool
  | .non => true
  | .bl _ => true
  | .int _ => true
  | .str _ => true
  | .tup l => D.noLs l
  | .obj _ d => D.noL d
  | _ => false
def D.noLs : List D → Bool
  | [] => true
  | d :: r => D.noL d && D.noLs r
end
section
variable {ad : Ad} {M : AP} {H : Hp} {p : Addr} {vs : List V}
mutual
theorem Rep.apart (hp : H p = some (.lst vs)) : ∀ (d : D) (v : V), d.noL = true → Rep G ad M H v d → Rep G ad (fun b => M b ∨ b = p) H v d
  | .non, _, _, .non => .non
  | .bl _, _, _, .bl b => .bl b
  | .int _, _, _, .int i => .int i
  | .str _, _, _, .str x => .str x
  | .tup ds, _, h, .tup h1 n r => .tup h1 (fun z => z.elim n fun q => by subst q; rw [hp] at h1; cases h1) (Reps.apart hp ds _ (by simpa [D.noL] using h) r)
  | .obj _ d, _, h, .obj h1 hx n nx r => .obj h1 hx (fun z => z.elim n fun q => by subst q; rw [hp] at h1; unfold SlX.SlO at h1; cases h1) (fun z => z.elim nx fun q => by subst q; rw [hp] at hx; cases hx) (Rep.apart hp d _ (by simpa [D.noL] using h) r)
  | .lst _, _, h, _ => by simp [D.noL] at h
  | .dct _, _, h, _ => by simp [D.noL] at h
  | .exc _ _, _, h, _ => by simp [D.noL] at h
  | .drw, _, h, _ => by simp [D.noL] at h
  | .scr _, _, h, _ => by simp [D.noL] at h
  | .dcn _, _, h, _ => by simp [D.noL] at h
  | .cel _, _, h, _ => by simp [D.noL] at h
theorem Reps.apart (hp : H p = some (.lst vs)) : ∀ (ds : List D) (ws : List V), D.noLs ds = true → Reps G ad M H ws ds → Reps G ad (fun b => M b ∨ b = p) H ws ds
  | [], _, _, .nil => .nil
  | d :: ds, _, h, .cons r rs => by
    have h' : d.noL = true ∧ D.noLs ds = true := by simpa [D.noLs] using h
    exact .cons (Rep.apart hp d _ h'.1 r) (Reps.apart hp ds _ h'.2 rs)
end
mutual
theorem kD_noL : ∀ k : NestedKey, (kD k).noL = true
  | .none => rfl
  | .num _ => rfl
  | .text _ => rfl
  | .tup l => by
    unfold kD D.noL
    exact kDs_noL l
theorem kDs_noL : ∀ ks : List NestedKey, D.noLs (kDs ks) = true
  | [] => rfl
  | k :: r => by
    unfold kDs D.noLs
    rw [kD_noL k, kDs_noL r]
    rfl
end
end
/-- no lists in what changes -/
def Fd.noL : Fd → Bool
  | .v d => d.noL
  | .mn _ l => D.noLs (l.map (·.2))
def Mo.noL : Mo → Bool
  | none => true
  | some r => r.cs.all fun c => c.fs.all fun f => f.2.noL
section
variable {ad : Ad} {M : AP} {H : Hp} {p : Addr} {us : List V}
theorem FdR.apart (hp : H p = some (.lst us)) {v : V} {f : Fd} (hn : f.noL = true) (h : FdR G ad M H v f) : FdR G ad (fun b => M b ∨ b = p) H v f := by
  cases f with
  | v d => exact Rep.apart hp d v hn h
  | mn q l =>
    obtain ⟨h0, kvs, h1, h2, h3, h4⟩ := h
    exact ⟨h0, kvs, h1, h2, Reps.apart hp _ _ (kDs_noL _) h3, Reps.apart hp _ _ hn h4⟩
theorem FsR.apart (hp : H p = some (.lst us)) : ∀ {vs : List (Str × V)} {fs : List (Str × Fd)}, (fs.all fun f => f.2.noL) = true → FsR G ad M H vs fs → FsR G ad (fun b => M b ∨ b = p) H vs fs
  | _, _, _, .nil => .nil
  | _, _, hn, .cons r t => by
    rw [List.all_cons, Bool.and_eq_true] at hn
    exact .cons ⟨r.1, r.2.apart hp hn.1⟩ (FsR.apart hp hn.2 t)
theorem MRep.apart {m : Mo} (r : MRep G M H m) (hp : H p = some (.lst us)) (hn : m.noL = true) : MRep G (fun b => M b ∨ b = p) H m := by
  cases m with
  | none => exact True.intro
  | some q =>
    obtain ⟨h1, hc⟩ := r
    have hn2 : (q.cs.all fun c => c.fs.all fun f => f.2.noL) = true := hn
    rw [List.all_eq_true] at hn2
    exact ⟨h1, fun c hc' => ⟨let ⟨vs, a, b⟩ := (hc.c c hc').at_; ⟨vs, a, b.apart hp (hn2 c hc')⟩, (hc.c c hc').own, (hc.c c hc').len⟩, hc.nd, hc.ap⟩
end
def dLend (i : Nat) (f : DE) : DE := fun ρ m => match ρ[i]? with
  | some (some (.ml ds)) => match f (ρ.set i (some (.v (.lst ds)))) m with
    | .ok d m1 => if d.noL = true ∧ m1.noL = true then .ok d m1 else .bad
    | .exc c l m1 => if l = [] ∧ m1.noL = true then .exc c l m1 else .bad
    | .bad => .bad
  | _ => f ρ m
theorem de_lend {t : TE} {f : DE} (i : Nat) (h : De G E t f) : De G E t (dLend i f) := ⟨fun {B M pm ρ m σ H} e Q p => by
  unfold dLend at p
  split at p
  rotate_left
  · exact h.run e Q p
  rename_i ds hs
  obtain ⟨vs, h1, h2, h3⟩ := e.sl i ds hs
  have him : isM ρ i := ⟨_, hs, rfl⟩
  have ec := (e.clr (i := i)).cut (N := fun b => M b ∧ b ≠ pm i) (fun b hb => hb.1) fun b hb => by
    refine ⟨(e.clr (i := i)).em b hb, fun z => ?_⟩
    subst z
    rcases hb with z | z | ⟨j, hj, z⟩
    · exact e.mut i him z
    · exact (e.fr i him).2 z
    · exact (isM_clr hj).2 (e.inj j i (isM_clr hj).1 him z)
  have rl : Rep G B.ad (fun b => M b ∧ b ≠ pm i) H (.ref (pm i)) (.lst ds) := .lst h2 (fun z => z.2 rfl) (h3.less fun b hb => hb.1)
  have e2 := ec.setv (i := i) rl
  rw [List.set_set] at e2
  have hi : i < ρ.length := (List.getElem?_eq_some_iff.mp hs).1
  have es : σ.set i (some (.ref (pm i))) = σ := by
    apply List.ext_getElem?
    intro j
    by_cases q : j = i
    · subst q
      rw [List.getElem?_set_self (by rw [e.len]; exact hi), h1]
    · rw [List.getElem?_set_ne (Ne.symm q)]
  rw [es] at e2
  refine h.run e2 Q ?_
  have nA : ¬ B.A (pm i) := e.mut i him
  cases hr : f (ρ.set i (some (.v (.lst ds)))) m with
  | bad => rw [hr] at p; exact p
  | ok d m1 =>
    rw [hr] at p
    have p' : Post G E B M H (Rep G B.ad M) (if d.noL = true ∧ m1.noL = true then .ok d m1 else .bad) Q := p
    by_cases hn : d.noL = true ∧ m1.noL = true
    · rw [if_pos hn] at p'
      intro v H' g rv
      have hp : H' (pm i) = some (.lst vs) := g.x _ _ nA (fun ps z => by cases z) h2
      have lm : ∀ b, M b → (M b ∧ b ≠ pm i) ∨ b = pm i := fun b hb => by
        by_cases q : b = pm i
        · exact .inr q
        · exact .inl ⟨hb, q⟩
      exact p' v H' ⟨g.x, g.ea, g.eh, (g.mr.apart hp hn.2).less lm, g.tb⟩ ((Rep.apart hp d v hn.1 rv).less lm)
    · rw [if_neg hn] at p'
      exact p'.elim
  | exc c l m1 =>
    rw [hr] at p
    have p' : Post G E B M H (Rep G B.ad M) (if l = [] ∧ m1.noL = true then .exc c l m1 else .bad) Q := p
    by_cases hn : l = [] ∧ m1.noL = true
    · rw [if_pos hn] at p'
      obtain ⟨hn, hm⟩ := hn
      subst hn
      intro cls dd H' g hx
      have hp : H' (pm i) = some (.lst vs) := g.x _ _ nA (fun ps z => by cases z) h2
      have lm : ∀ b, M b → (M b ∧ b ≠ pm i) ∨ b = pm i := fun b hb => by
        by_cases q : b = pm i
        · exact .inr q
        · exact .inl ⟨hb, q⟩
      refine p' cls dd H' ⟨g.x, g.ea, g.eh, (g.mr.apart hp hm).less lm, g.tb⟩ ⟨hx.1, ?_⟩
      have hx2 := hx.2
      cases hf : G.xf c with
      | none => rw [hf] at hx2; exact hx2
      | some fl => rw [hf] at hx2; exact hx2.elim
    · rw [if_neg hn] at p'
      exact p'.elim⟩
end
end Dn
namespace Dn
open PySem PySem.Spec PyProof.Rows L2 PySem.W

/-! what the head looks at, as one list of Bools -/
theorem all_at {l : List Bool} (h : l.all id = true) (i : Nat) {b : Bool} (hb : l[i]? = some b) : b = true := by
  have z := List.all_eq_true.mp h b (List.mem_of_getElem? hb)
  exact z
def excCB (K : Frag) (C : Addr) : Bool := He.eqO (findIn K (.ref C) "__getattribute__") (some (some (.builtin "BaseException.__getattribute__"))) && (He.eqO (findIn K (.ref C) "__getattr__") (some none) && (decide (subIn K (.ref C) (.type "BaseException") = some true) && (hasDictIn K C && (He.eqO (findIn K (.ref C) "__class__") (some (some (.builtin "object.__class__"))) &&
  (He.eqO (specialIn K (.builtin "object.__class__") "__get__") (some (some (.builtin "getset_descriptor.__get__"))) && (decide (takesIn K (.builtin "object.__class__") = some true) && decide (mroIn K C (.type "object") = some true)))))))
theorem excCB_ok {K : Frag} {C : Addr} (h : excCB K C = true) : L2.ExcC K C ∧ XfC K C := by
  obtain ⟨h1, h⟩ := He.ba h
  obtain ⟨h2, h⟩ := He.ba h
  obtain ⟨h3, h⟩ := He.ba h
  obtain ⟨h4, h⟩ := He.ba h
  obtain ⟨h5, h⟩ := He.ba h
  obtain ⟨h6, h⟩ := He.ba h
  obtain ⟨h7, h8⟩ := He.ba h
  have e1 := He.eqO_ok h1
  have e2 := He.eqO_ok h2
  exact ⟨⟨e1, e2, of_decide_eq_true h3, h4, He.eqO_ok h5, He.eqO_ok h6, of_decide_eq_true h7, of_decide_eq_true h8⟩, ⟨e1, e2, of_decide_eq_true h3, h4⟩⟩
def sIsiB (K : Frag) (C : Addr) : Bool := He.eqO (findIn K (.ref C) "__class__") (some (some (.builtin "object.__class__"))) && (He.eqO (specialIn K (.builtin "object.__class__") "__get__") (some (some (.builtin "getset_descriptor.__get__"))) && (decide (takesIn K (.builtin "object.__class__") = some true) && decide (mroIn K C (.type "object") = some true)))
theorem sIsiB_ok {K : Frag} {C : Addr} (h : sIsiB K C = true) : SlX.SIsi K C := by
  obtain ⟨h1, h⟩ := He.ba h
  obtain ⟨h2, h⟩ := He.ba h
  obtain ⟨h3, h4⟩ := He.ba h
  exact ⟨He.eqO_ok h1, He.eqO_ok h2, of_decide_eq_true h3, of_decide_eq_true h4⟩
/-- own classes with slots (their numbers below n), exceptions (below k) -/
def clAllB (G : Cl) (n k : Nat) : Bool := (List.range n).all (fun c => clsX G.K (G.cl c) && sIsiB G.K (G.cl c)) && (List.range k).all fun c => excCB G.K (G.xc c)
structure ClsOk (G : Cl) (n k : Nat) : Prop where
  o : ∀ c, c < n → SlX.SCls G.K (G.cl c) ∧ SlX.SIsi G.K (G.cl c)
  x : ∀ c, c < k → L2.ExcC G.K (G.xc c) ∧ XfC G.K (G.xc c)
theorem clAllB_ok {G : Cl} {n k : Nat} (h : clAllB G n k = true) : ClsOk G n k := by
  obtain ⟨h1, h2⟩ := He.ba h
  refine ⟨fun c hc => ?_, fun c hc => excCB_ok (List.all_eq_true.mp h2 c (List.mem_range.mpr hc))⟩
  obtain ⟨h3, h4⟩ := He.ba (List.all_eq_true.mp h1 c (List.mem_range.mpr hc))
  exact ⟨clsX_ok h3, sIsiB_ok h4⟩
/-- isinstance's answers as lists -/
def isT (ts : List (String × Bool)) (os xs : List Bool) : IsT := ⟨fun n => ts.lookup n, fun c => os[c]?, fun c => xs[c]?⟩
def isB (G : Cl) (u : Value) (ts : List (String × Bool)) (os xs : List Bool) : Bool := ts.all (fun p => decide (kitOne G.K (.type p.1) u = some p.2)) && ((List.range os.length).all (fun c => decide (kitOne G.K (.ref (G.cl c)) u = os[c]?)) && (List.range xs.length).all fun c => decide (kitOne G.K (.ref (G.xc c)) u = xs[c]?))
theorem isB_ok {G : Cl} {u : Value} {ts : List (String × Bool)} {os xs : List Bool} {n k : Nat} (h : isB G u ts os xs = true) (c : ClsOk G n k) (h1 : os.length ≤ n) (h2 : xs.length ≤ k) : IsOk G u (isT ts os xs) := by
  obtain ⟨a1, a⟩ := He.ba h
  obtain ⟨a2, a3⟩ := He.ba h |>.2 |> He.ba
  refine ⟨fun n hn b hb => ?_, fun i b hb => ?_, fun i b hb => ?_⟩
  · have hb' : ts.lookup n = some b := hb
    have hm : (n, b) ∈ ts := by
      clear a a1 a2 a3 h
      induction ts with
      | nil => cases hb'
      | cons p r ih =>
        obtain ⟨p1, p2⟩ := p
        simp only [List.lookup] at hb'
        split at hb'
        · rename_i q
          cases hb'
          rw [beq_iff_eq.mp q]
          exact List.mem_cons_self
        · exact List.mem_cons_of_mem _ (ih hb' hb')
    exact of_decide_eq_true (List.all_eq_true.mp a1 _ hm)
  · have hb' : os[i]? = some b := hb
    have hi : i < os.length := (List.getElem?_eq_some_iff.mp hb').1
    have z := of_decide_eq_true (List.all_eq_true.mp a2 i (List.mem_range.mpr hi))
    obtain ⟨z1, z2⟩ := c.o i (Nat.lt_of_lt_of_le hi h1)
    exact ⟨z1, z2, z.trans hb'⟩
  · have hb' : xs[i]? = some b := hb
    have hi : i < xs.length := (List.getElem?_eq_some_iff.mp hb').1
    have z := of_decide_eq_true (List.all_eq_true.mp a3 i (List.mem_range.mpr hi))
    exact ⟨(c.x i (Nat.lt_of_lt_of_le hi h2)).1, z.trans hb'⟩
/-- the left side of == goes first -/
def nfB (G : Cl) (c : Nat) (os : List Nat) : Bool := tyNames.all (fun n => notFirst G.K (G.cl c) (.type n)) && os.all fun c' => notFirst G.K (G.cl c) (.ref (G.cl c'))
theorem nfB_ok {G : Cl} {c : Nat} {os : List Nat} (h : nfB G c os = true) : NfC G c (fun c' => os.contains c') := by
  obtain ⟨h1, h2⟩ := He.ba h
  refine ⟨fun n hn => List.all_eq_true.mp h1 n hn, fun c' hc => List.all_eq_true.mp h2 c' ?_⟩
  simpa using hc
/-- all exceptions are caught -/
def exmB (G : Cl) (C1 C2 : Addr) (k : Nat) : Bool := (List.range k).all fun c => decide (exmAny G.K (.ref (G.xc c)) [.ref C1, .ref C2] = some true)
theorem exmB_ok {G : Cl} {C1 C2 : Addr} {k : Nat} (h : exmB G C1 C2 k = true) : ∀ c, decide (c < k) = true → exmAny G.K (.ref (G.xc c)) [.ref C1, .ref C2] = some true := fun c hc =>
  of_decide_eq_true (List.all_eq_true.mp h c (List.mem_range.mpr (of_decide_eq_true hc)))
/-- a field of exceptions -/
def fldB (G : Cl) (f : Str) (xs : List Nat) : Bool := xs.all fun c => decide (G.xf c = some f) && He.eqO (findIn G.K (.ref (G.xc c)) f) (some none)
theorem fldB_ok {G : Cl} {f : Str} {xs : List Nat} {n k : Nat} (h : fldB G f xs = true) (c : ClsOk G n k) (hk : ∀ i ∈ xs, i < k) : ∀ i, xs.contains i = true → G.xf i = some f ∧ XfC G.K (G.xc i) ∧ findIn G.K (.ref (G.xc i)) f = some none := fun i hi => by
  have hi' : i ∈ xs := by simpa using hi
  obtain ⟨h1, h2⟩ := He.ba (List.all_eq_true.mp h i hi')
  exact ⟨of_decide_eq_true h1, (c.x i (hk i hi')).2, He.eqO_ok h2⟩
/-! tables -/
theorem one_of {T : List (Addr × Str)} {P : Addr} {q : Str} (hn : (T.map (·.1)).Nodup) (h : (P, q) ∈ T) : ∀ y ∈ T, y.1 = P → y.2 = q := by
  induction T with
  | nil => cases h
  | cons a r ih =>
    rw [List.map_cons, List.nodup_cons] at hn
    intro y hy e
    rcases List.mem_cons.mp h with h' | h' <;> rcases List.mem_cons.mp hy with hy' | hy'
    · rw [hy', ← h']
    · exact (hn.1 (List.mem_map.mpr ⟨y, hy', by rw [e, ← h']⟩)).elim
    · exact (hn.1 (List.mem_map.mpr ⟨(P, q), h', by rw [← hy']; exact e.symm⟩)).elim
    · exact ih hn.2 h' y hy' e
theorem tabsAt_of {K : Frag} {h : Heap} {tf : List He.Defn} (X : K.In h) (hd : ∀ p ∈ tf, codeHdIn K (He.cT K p).1 (He.cT K p).2 = true) (ou : ∀ p ∈ tf, K.lookup (He.cT K p).2 = none) (em : ∀ p ∈ tf, h.get? (He.cT K p).2 = some { cls := .none, data := .fields #[] }) : TabsAt K h (tf.map (He.cT K)) := by
  refine ⟨fun p hp => ?_, fun p hp => ?_, fun p hp => ?_⟩ <;> obtain ⟨q, hq, rfl⟩ := List.mem_map.mp hp
  · exact em q hq
  · exact ou q hq
  · exact codeHd_of_K X (hd q hq)
/-! the new denotations, evaluated -/
section
variable {m : Mo} {ρ : Ro}
theorem ev_isA {I : IsT} {f : DE} : dIsA I f ρ m = (f ρ m).bind fun d m1 => match I.of d with
  | some b => .ok (.bl b) m1
  | none => .bad := Eq.trans rfl rfl
theorem ev_eqA {neg : Bool} {c : Nat} {okc : Nat → Bool} {F : DF} {fa fb : DE} : dEqA neg c okc F fa fb ρ m = (fa ρ m).bind fun x m1 => (fb ρ m1).bind fun y m2 => match x with
  | .obj c' d => if c' = c ∧ y.ok2 okc = true then (F [.obj c' d, y] m2).bind fun z m3 => match z with
      | .bl k => .ok (.bl (neg ^^ k)) m3
      | _ => .bad
    else .bad
  | x => R.of (if neg = true then neD x y else eqD x y) m2 := Eq.trans rfl rfl
theorem ev_heard {F : R D → R D} {f : DE} : dHeard F f ρ m = noX (F (f ρ m)) := Eq.trans rfl rfl
theorem ev_heardD {ok : Nat → Bool} {b : Bool} {n : Nat} {f : DS} {d : D} : heardD ok b n f (.ok d m) = outD (f (none :: some (.v (wrD b d)) :: some (.v .non) :: none :: List.replicate n none) m) := Eq.trans rfl rfl
theorem ev_heardX {ok : Nat → Bool} {b : Bool} {n : Nat} {f : DS} {c : Nat} {l : List D} : heardD ok b n f (.exc c l m) = if ok c = true then outD (f (none :: some (.v (iniD b)) :: some (.v (.exc c l)) :: none :: List.replicate n none) m) else .bad := Eq.trans rfl rfl
theorem ev_xf {c : Nat → Bool} {f : DE} : dXf c f ρ m = (f ρ m).bind fun d m1 => match d with
  | .exc k [x] => if c k = true then .ok x m1 else .bad
  | _ => .bad := Eq.trans rfl rfl
theorem ev_exc {c : Nat} {f : DE} : dExc c f ρ m = (f ρ m).bind fun d m1 => .ok (.exc c [d]) m1 := Eq.trans rfl rfl
theorem ev_exc0 {c : Nat} : dExc0 c ρ m = .ok (.exc c []) m := Eq.trans rfl rfl
theorem ev_mov {i j : Nat} : sMov i j ρ m = match ρ[j]? with
  | some (some (.ml ds)) => if i < ρ.length ∧ i ≠ j then .nx ((ρ.set i (some (.ml ds))).set j (some (.ml []))) m else .bad
  | _ => .bad := Eq.trans rfl rfl
theorem ev_lend {i : Nat} {f : DE} : dLend i f ρ m = match ρ[i]? with
  | some (some (.ml ds)) => match f (ρ.set i (some (.v (.lst ds)))) m with
    | .ok d m1 => if d.noL = true ∧ m1.noL = true then .ok d m1 else .bad
    | .exc c l m1 => if l = [] ∧ m1.noL = true then .exc c l m1 else .bad
    | .bad => .bad
  | _ => f ρ m := Eq.trans rfl rfl
theorem ev_raise1 {c : Nat} {f : DE} : sRaise1 c f ρ m = sBind (f ρ m) fun d m1 => .exc c [d] m1 := Eq.trans rfl rfl
theorem ev_raise0 {c : Nat} : sRaise0 c ρ m = .exc c [] m := Eq.trans rfl rfl
theorem ev_rgL2 {fa fb : DE} : dRgL2 fa fb ρ m = (fa ρ m).bind fun x m1 => (fb ρ m1).bind fun y m2 => match x, y with
  | .int i, .int j => if rgOk i j = true then .ok (.lst (rgD i j)) m2 else .bad
  | _, _ => .bad := Eq.trans rfl rfl
theorem ev_dvRg2 {fa fb : DE} : dvRg2 fa fb ρ m = (fa ρ m).bind fun x m1 => (fb ρ m1).bind fun y m2 => match x, y with
  | .int i, .int j => if rgOk i j = true then .ok (.ml (rgD i j)) m2 else .bad
  | _, _ => .bad := Eq.trans rfl rfl
end
end Dn
namespace Dn
open PySem PySem.Spec PyProof.Rows L2
section
variable {G : Cl} {E : XK}
/-- {} as a value -/
def dDNew : DE := fun _ m => .ok (.dct []) m
theorem de_dnew : De G E tDNewK dDNew := ⟨fun {B M pm ρ m σ H} e Q p => by
  intro q hq
  exact p _ _ (e.same (ExN.new hq)) (Rep.dct (kvs := []) (l := []) upd_same (fun z => (e.hl _ z).ne hq) rfl .nil)⟩
/-- {i: j} of written numbers -/
def dDI (i j : Int) : DE := fun _ m => .ok (.dct [(Sum.inl i, .int j)]) m
theorem de_dI {i j : Int} : De G E (tDisp [(tC (.int i), tC (.int j))]) (dDI i j) := ⟨fun {B M pm ρ m σ H} e Q p => by
  intro q hq
  refine ⟨upd_same, [(Sum.inl i, .int j)], rfl, (show 1 ≤ 15 by decide), ?_⟩
  have eu : upd (upd H q (.dK [])) q (.dK (mergeK [] [((Sum.inl i : Key), V.int j)])) = upd H q (.dK [((Sum.inl i : Key), V.int j)]) := by
    funext b
    unfold upd
    split <;> rfl
  rw [eu]
  exact p _ _ (e.same (ExN.new hq)) (Rep.dct (kvs := [((Sum.inl i : Key), V.int j)]) (l := [(Sum.inl i, .int j)]) upd_same (fun z => (e.hl _ z).ne hq) rfl (.cons (.int j) .nil))⟩
theorem ev_dnew {ρ : Ro} {m : Mo} : dDNew ρ m = .ok (.dct []) m := Eq.trans rfl rfl
theorem ev_dI {ρ : Ro} {m : Mo} {i j : Int} : dDI i j ρ m = .ok (.dct [(Sum.inl i, .int j)]) m := Eq.trans rfl rfl
end
section
variable {m m1 : Mo} {ρ : Ro}
theorem ev_andV {fa fb : DE} : dAndV fa fb ρ m = (fa ρ m).bind fun x m1 => match x with
  | .bl true => fb ρ m1
  | .bl false => .ok (.bl false) m1
  | _ => .bad := Eq.trans rfl rfl
theorem ev_orV {fa fb : DE} : dOrV fa fb ρ m = (fa ρ m).bind fun x m1 => match x with
  | .bl false => fb ρ m1
  | .bl true => .ok (.bl true) m1
  | _ => .bad := Eq.trans rfl rfl
theorem ev_notV {fa : DE} : dNotV fa ρ m = (fa ρ m).bind fun x m1 => match x with
  | .bl b => .ok (.bl (!b)) m1
  | _ => .bad := Eq.trans rfl rfl
variable {ts : List (String × Bool)} {os xs : List Bool}
theorem ev_ofX {c : Nat} {l : List D} : (isT ts os xs).of (.exc c l) = xs[c]? := Eq.trans rfl rfl
theorem ev_ofO {c : Nat} {d : D} : (isT ts os xs).of (.obj c d) = os[c]? := Eq.trans rfl rfl
theorem ev_ofI {i : Int} : (isT ts os xs).of (.int i) = ts.lookup "int" := Eq.trans rfl rfl
theorem ev_ofN : (isT ts os xs).of .non = ts.lookup "NoneType" := Eq.trans rfl rfl
theorem ev_ofB {b : Bool} : (isT ts os xs).of (.bl b) = ts.lookup "bool" := Eq.trans rfl rfl
theorem ev_ofS {x : Str} : (isT ts os xs).of (.str x) = ts.lookup "str" := Eq.trans rfl rfl
theorem ev_ofT {l : List D} : (isT ts os xs).of (.tup l) = ts.lookup "tuple" := Eq.trans rfl rfl
theorem ev_ofL {l : List D} : (isT ts os xs).of (.lst l) = ts.lookup "list" := Eq.trans rfl rfl
theorem ev_outN {ρ : Ro} : outD (.nx ρ m) = .ok .non m := Eq.trans rfl rfl
theorem ev_outR {d : D} : outD (.rt d m) = .ok d m := Eq.trans rfl rfl
theorem ev_outX {c : Nat} {l : List D} : outD (.exc c l m) = .exc c l m := Eq.trans rfl rfl
theorem ev_noX {d : D} : noX (.ok d m) = .ok d m := Eq.trans rfl rfl
/-- a loop, its body as it stands -/
theorem forD_gen {h : D → Ro → Option Ro} {body : DS} {ds : List D} {r : SR} (e : forD h body ds ρ m = r) (I : Nat → Ro → Mo → Prop) (h0 : I 0 ρ m) (st : ∀ i d ρ m, ds[i]? = some d → I i ρ m → ∃ ρ1 ρ2 m2, h d ρ = some ρ1 ∧ (body ρ1 m = .nx ρ2 m2 ∨ body ρ1 m = .ct ρ2 m2) ∧ I (i + 1) ρ2 m2) :
    ∃ ρ' m', r = .nx ρ' m' ∧ I ds.length ρ' m' := by
  obtain ⟨ρ', m', e', q⟩ := forD_inv0 I ds ρ m st h0
  exact ⟨ρ', m', e.symm.trans e', q⟩
theorem forD_nil {h : D → Ro → Option Ro} {body : DS} : forD h body [] ρ m = .nx ρ m := Eq.trans rfl rfl
theorem forD_cons {h : D → Ro → Option Ro} {body : DS} {d : D} {r : List D} {ρ1 : Ro} (e : h d ρ = some ρ1) : forD h body (d :: r) ρ m = match body ρ1 m with
    | .nx ρ2 m2 => forD h body r ρ2 m2
    | .ct ρ2 m2 => forD h body r ρ2 m2
    | .bk ρ2 m2 => .nx ρ2 m2
    | x => x := by
  show (match h d ρ with
    | none => SR.bad
    | some ρ1 => match body ρ1 m with
      | .nx ρ2 m2 => forD h body r ρ2 m2
      | .ct ρ2 m2 => forD h body r ρ2 m2
      | .bk ρ2 m2 => .nx ρ2 m2
      | x => x) = _
  rw [e]
theorem while_step {c : DT} {body : DS} {n : Nat} : whileD c body (n + 1) ρ m = sBind (c ρ m) fun b m1 => if b = true then match body ρ m1 with
    | .nx ρ2 m2 => whileD c body n ρ2 m2
    | .ct ρ2 m2 => whileD c body n ρ2 m2
    | .bk ρ2 m2 => .nx ρ2 m2
    | x => x
  else .nx ρ m1 := Eq.trans rfl rfl
/-- a while, by a number that falls -/
theorem while_gen {c : DT} {body : DS} (I : Nat → Ro → Mo → Prop) (J : Ro → Mo → Prop) (st : ∀ k ρ m, I k ρ m → (c ρ m = .ok false m ∧ J ρ m) ∨ (∃ ρ2 m2, c ρ m = .ok true m ∧ (body ρ m = .nx ρ2 m2 ∨ body ρ m = .ct ρ2 m2) ∧ ∃ k', k = k' + 1 ∧ I k' ρ2 m2)) :
    ∀ (k n : Nat) (ρ : Ro) (m : Mo), k < n → I k ρ m → ∃ ρ' m', whileD c body n ρ m = .nx ρ' m' ∧ J ρ' m'
  | k, 0, ρ, m, h, _ => absurd h (by omega)
  | k, n + 1, ρ, m, h, hI => by
    rw [while_step]
    rcases st k ρ m hI with ⟨e, hJ⟩ | ⟨ρ2, m2, e, hb, k', rfl, hI2⟩
    · rw [e]
      exact ⟨ρ, m, rfl, hJ⟩
    · rw [e]
      obtain ⟨ρ', m', e', hJ⟩ := while_gen I J st k' n ρ2 m2 (by omega) hI2
      refine ⟨ρ', m', ?_, hJ⟩
      show (if true = true then match body ρ m with
        | .nx ρ2 m2 => whileD c body n ρ2 m2
        | .ct ρ2 m2 => whileD c body n ρ2 m2
        | .bk ρ2 m2 => .nx ρ2 m2
        | x => x
      else .nx ρ m) = _
      rw [if_pos rfl]
      rcases hb with hb | hb <;> rw [hb] <;> exact e'
theorem ev_toLstL {l : List D} : toLst [.lst l] = some (.lst l) := Eq.trans rfl rfl
theorem ev_toLstT {l : List D} : toLst [.tup l] = some (.lst l) := Eq.trans rfl rfl
theorem xopL_ok {g : D → D → Option D} {fa : DX} {fb : DE} {ρ1 : Ro} {m2 : Mo} {x y z : D} (ha : fa ρ m = .ok x ρ1 m1) (hb : fb ρ1 m1 = .ok y m2) (hg : g x y = some z) : xOpL g fa fb ρ m = .ok z ρ1 m2 := by
  unfold xOpL
  rw [ha]
  show xBind (fb ρ1 m1) _ = _
  rw [hb]
  show (match g x y with
    | some z => RX.ok z ρ1 m2
    | none => .bad) = _
  rw [hg]
theorem appX_ok {i : Nat} {f : DX} {ρ1 : Ro} {ds0 ds : List D} {d : D} (h0 : ρ[i]? = some (some (.ml ds0))) (hf : f ρ m = .ok d ρ1 m1) (h1 : ρ1[i]? = some (some (.ml ds))) (hl : ds.length ≤ 10000) : sAppX i f ρ m = .nx (ρ1.set i (some (.ml (ds ++ [d])))) m1 := by
  unfold sAppX
  rw [h0, hf]
  dsimp only
  rw [h1]
  dsimp only
  rw [if_pos hl]
theorem ev_negI {i : Int} : negD (.int i) = some (.int (-i)) := Eq.trans rfl rfl
theorem ev_max2 {i j : Int} : max2D [.int i, .int j] = some (.int (if j > i then j else i)) := Eq.trans rfl rfl
theorem ev_min2 {i j : Int} : min2D [.int i, .int j] = some (.int (if j < i then j else i)) := Eq.trans rfl rfl
end
end Dn
namespace Dn
open PySem PySem.Spec PyProof.Rows L2

/-! what repr shows, and that it fits -/
mutual
def mx : D → Nat
  | .non => 4
  | .bl _ => 5
  | .int _ => 1921
  | .str x => 10 * x.length + 2
  | .tup l => mxs l + 3
  | .lst l => mxs l + 3
  | _ => 0
def mxs : List D → Nat
  | [] => 0
  | d :: r => mx d + 2 + mxs r
end
mutual
def fitD : Nat → D → Bool
  | _, .non => true
  | _, .bl _ => true
  | _, .int i => decide (i.natAbs < 10 ^ 100)
  | _, .str x => PyData.strOk x && x.cps.toList.all fun c => decide (c < 16 ^ 8)
  | n + 1, .tup l => fits n l
  | n + 1, .lst l => fits n l
  | _, _ => false
def fits : Nat → List D → Bool
  | _, [] => true
  | n, d :: r => fitD n d && fits n r
end
theorem log_small {i : Int} (h : i.natAbs < 10 ^ 100) : i.natAbs.log2 < 1920 := PySem.Flt.log2_lt_of (by decide) (Nat.lt_trans h (by decide +kernel))
mutual
theorem fit_ok : ∀ (n : Nat) (d : D), fitD n d = true → d.plain n = true ∧ d.py.showable = true ∧ d.py.shown.length ≤ mx d
  | _, .non, _ => by
    simp only [D.plain, D.py, PyData.showable, PyData.shown, mx]
    exact ⟨trivial, trivial, by decide⟩
  | _, .bl b, _ => by
    simp only [D.plain, D.py, PyData.showable, PyData.shown, mx]
    exact ⟨trivial, trivial, by cases b <;> decide⟩
  | _, .int i, h => by
    have h' : i.natAbs < 10 ^ 100 := by simpa [fitD] using h
    simp only [D.plain, D.py, PyData.showable, PyData.shown, mx]
    refine ⟨trivial, decide_eq_true (log_small h'), ?_⟩
    exact PyProof.Rows.int_text_len_1921 (log_small h')
  | _, .str x, h => by
    have h' : PyData.strOk x = true ∧ ∀ c ∈ x.cps.toList, c < 16 ^ 8 := by simpa only [fitD, Bool.and_eq_true, List.all_eq_true, decide_eq_true_iff] using h
    simp only [D.plain, D.py, PyData.showable, PyData.shown, mx]
    exact ⟨h'.1, trivial, PySem.StrLaws.reprText_len x h'.2⟩
  | n + 1, .tup l, h => by
    obtain ⟨h1, h2, h3⟩ := fits_ok n l (by simpa [fitD] using h)
    simp only [D.plain, D.py, PyData.showable, PyData.shown, mx]
    refine ⟨h1, h2, Nat.le_trans (PySem.tupleText_len_le _) ?_⟩
    omega
  | n + 1, .lst l, h => by
    obtain ⟨h1, h2, h3⟩ := fits_ok n l (by simpa [fitD] using h)
    simp only [D.plain, D.py, PyData.showable, PyData.shown, mx]
    refine ⟨h1, h2, Nat.le_trans (PySem.listText_len_le _) ?_⟩
    omega
  | 0, .tup l, h => by simp [fitD] at h
  | 0, .lst l, h => by simp [fitD] at h
  | _, .obj _ _, h => by simp [fitD] at h
  | _, .dct _, h => by simp [fitD] at h
  | _, .exc _ _, h => by simp [fitD] at h
  | _, .drw, h => by simp [fitD] at h
  | _, .scr _, h => by simp [fitD] at h
theorem fits_ok : ∀ (n : Nat) (l : List D), fits n l = true → D.plains n l = true ∧ PyData.showableAll (D.pys l) = true ∧ ((PyData.shownAll (D.pys l)).map (·.length)).sum + 2 * (PyData.shownAll (D.pys l)).length ≤ mxs l
  | _, [], _ => by simp [D.plains, D.pys, PyData.showableAll, PyData.shownAll, mxs]
  | n, d :: r, h => by
    have h' : fitD n d = true ∧ fits n r = true := by simpa [fits] using h
    obtain ⟨a1, a2, a3⟩ := fit_ok n d h'.1
    obtain ⟨b1, b2, b3⟩ := fits_ok n r h'.2
    simp only [D.plains, D.pys, PyData.showableAll, PyData.shownAll, mxs, a1, a2, b1, b2, List.map_cons, List.sum_cons, List.length_cons]
    exact ⟨rfl, rfl, by omega⟩
end
theorem reprD_ne {d : D} (hd : ∀ x, d ≠ .str x) : reprD [d] = if d.plain 60 = true ∧ d.py.showable = true ∧ d.py.shown.length ≤ 10000000 then some (.str d.py.shown) else none := by
  cases d <;> first | rfl | exact absurd rfl (hd _)
theorem repr_fitD {d : D} (h : fitD 60 d = true) (hm : mx d ≤ 10000000) : reprD [d] = some (.str d.py.shown) := by
  obtain ⟨h1, h2, h3⟩ := fit_ok 60 d h
  cases d with
  | str x =>
    have e : (D.str x).py.shown = reprText x := by simp only [D.py, PyData.shown]
    rw [e] at h3 ⊢
    exact if_pos (by omega)
  | _ =>
    rw [reprD_ne (fun x z => by cases z), if_pos ⟨h1, h2, by omega⟩]
theorem fits_ints {n : Nat} : ∀ {w : List Int}, (∀ x ∈ w, x.natAbs < 10 ^ 100) → fits n (w.map .int) = true
  | [], _ => by simp [fits]
  | x :: r, h => by
    rw [List.map_cons]
    simp only [fits, fitD, Bool.and_eq_true, decide_eq_true_iff]
    exact ⟨h x List.mem_cons_self, fits_ints fun y hy => h y (List.mem_cons_of_mem _ hy)⟩
theorem mxs_ints : ∀ {w : List Int}, mxs (w.map .int) = 1923 * w.length
  | [] => by simp [mxs]
  | x :: r => by
    rw [List.map_cons]
    simp only [mxs, mx, mxs_ints (w := r), List.length_cons]
    omega
theorem fit_tints {n : Nat} {w : List Int} (h : ∀ x ∈ w, x.natAbs < 10 ^ 100) : fitD (n + 1) (.tup (w.map .int)) = true := by
  simp only [fitD]
  exact fits_ints h
theorem fit_lints {n : Nat} {w : List Int} (h : ∀ x ∈ w, x.natAbs < 10 ^ 100) : fitD (n + 1) (.lst (w.map .int)) = true := by
  simp only [fitD]
  exact fits_ints h
theorem noL_ints : ∀ {w : List Int}, D.noLs (w.map .int) = true
  | [] => by simp [D.noLs]
  | x :: r => by
    rw [List.map_cons]
    simp [D.noLs, D.noL, noL_ints (w := r)]
theorem noL_row {c : Nat} {w : List Int} : (D.obj c (.tup (w.map .int))).noL = true := by
  simp [D.noL, noL_ints]
theorem ev_dvList {fa : DA} {ρ : Ro} {m : Mo} : dvList fa ρ m = (fa ρ m).bind fun xs m1 => match xs with
  | [.lst l] => .ok (.ml l) m1
  | [.tup l] => .ok (.ml l) m1
  | _ => .bad := Eq.trans rfl rfl
theorem ev_lenOwn {c : Nat} {F : DF} {fa : DA} {ρ : Ro} {m : Mo} : dLenOwn c F fa ρ m = (fa ρ m).bind fun ds m1 => match ds with
  | [.obj c' d] => if c' = c then (F [.obj c' d] m1).bind fun z m2 => match z with
      | .int i => if 0 ≤ i ∧ i < 1000000 then .ok (.int i) m2 else .bad
      | _ => .bad
    else .bad
  | _ => .bad := Eq.trans rfl rfl
end Dn
namespace Dn
open PySem PySem.Spec PyProof.Rows L2

/-! repr of what holds dicts, but no lists -/
def keyP : Key → PyData
  | .inl i => .int i
  | .inr x => .str x
mutual
inductive DpE (K : PySem.W.Frag) (H : Hp) : V → PyData → Prop
  | non : DpE K H .non .none
  | bl (b : Bool) : DpE K H (.bl b) (.bool b)
  | int (i : Int) : DpE K H (.int i) (.int i)
  | str (x : Str) : DpE K H (.str x) (.str x)
  | tup {a : Addr} {xs : List V} {ds : List PyData} : SqT K H a xs → DpEs K H xs ds → DpE K H (.ref a) (.tuple ds)
  | dk {a : Addr} {kvs : List (Key × V)} {ds : List PyData} : H a = some (.dK kvs) → DpEs K H (kvs.map (·.2)) ds → DpE K H (.ref a) (.dict ((kvs.map fun p => keyP p.1).zip ds))
inductive DpEs (K : PySem.W.Frag) (H : Hp) : List V → List PyData → Prop
  | nil : DpEs K H [] []
  | cons {v : V} {vs : List V} {d : PyData} {ds : List PyData} : DpE K H v d → DpEs K H vs ds → DpEs K H (v :: vs) (d :: ds)
end
theorem DpEs.length {K : PySem.W.Frag} {H : Hp} : ∀ {vs : List V} {ds : List PyData}, DpEs K H vs ds → vs.length = ds.length
  | _, _, .nil => rfl
  | _, _, .cons _ r => congrArg (· + 1) (DpEs.length r)
section
variable {X : Cx} {pins : List (Addr × Obj)} {σ : L2.St} {H : Hp} {s : Shared}
theorem reads_keys {P : Program} {w : World} {h : Heap} : ∀ {es : List DictEntry} {vs : List (Key × Value)}, Pairs (mixKind P w) es vs → ReadsAll h (es.map (·.key)) (vs.map fun p => keyP p.1) []
  | _, _, .nil => .nil
  | _, _, .cons (kv := kv) h1 _ r => by
    have z := reads_keys (h := h) r
    obtain ⟨k, u⟩ := kv
    have h1' : keyIs k _ = true := h1
    rcases keyIs_shape h1' with ⟨i, t, e1, e2⟩ | ⟨x, t, e1, e2⟩
    · rw [List.map_cons, List.map_cons, e2]
      dsimp only
      rw [e1]
      exact ReadsAll.cons (as := []) (bs := []) (Reads.int i t) z
    · rw [List.map_cons, List.map_cons, e2]
      dsimp only
      rw [e1]
      exact ReadsAll.cons (as := []) (bs := []) (Reads.str x t) z
theorem pairs_vals {P : Program} {w : World} : ∀ {es : List DictEntry} {vs : List (Key × Value)}, Pairs (mixKind P w) es vs → es.map (·.val) = vs.map (·.2)
  | _, _, .nil => rfl
  | _, _, .cons _ h2 r => by rw [List.map_cons, List.map_cons, pairs_vals r, h2]
theorem kv_keys : ∀ {kvs : List (Key × V)} {vs : List (Key × Value)}, KV kvs vs → vs.map (fun p => keyP p.1) = kvs.map fun p => keyP p.1
  | _, _, .nil => rfl
  | _, _, .cons h r => by rw [List.map_cons, List.map_cons, kv_keys r, h.1]
theorem kv_vals : ∀ {kvs : List (Key × V)} {vs : List (Key × Value)}, KV kvs vs → Vals (kvs.map (·.2)) (vs.map (·.2))
  | _, _, .nil => .nil
  | _, _, .cons h r => .cons h.2 (kv_vals r)
mutual
theorem DpE.reads (I : Inv X pins σ H s) : ∀ {v : V} {d : PyData} (u : Value), DpE X.K H v d → RelV v u → ∃ as, Reads s.heap u d as ∧ sysModules ∉ as
  | _, _, u, .non, r => by
    cases r
    exact ⟨_, Reads.none, by simp⟩
  | _, _, u, .bl b, r => by
    cases r
    exact ⟨_, Reads.bool b, by simp⟩
  | _, _, u, .int i, r => by
    obtain ⟨t, rfl⟩ := r
    exact ⟨_, Reads.int i t, by simp⟩
  | _, _, u, .str x, r => by
    obtain ⟨t, rfl⟩ := r
    exact ⟨_, Reads.str x t, by simp⟩
  | _, _, u, .tup hs ha, r => by
    cases r
    obtain ⟨its, rv, ⟨o, ho, hc, n, hd⟩, _⟩ := I.tuple hs
    obtain ⟨as, hr, hn⟩ := DpEs.reads I its ha rv
    exact ⟨_, Reads.tuple ho hc hd hr, hn⟩
  | _, _, u, .dk (ds := ds) h ha, r => by
    cases r
    obtain ⟨_, hsm, vs, kv, o, es, ep, ho, hx, hd, _, hp, _⟩ := dk_of I.hok h
    have l1 := ha.length
    rw [List.length_map] at l1
    obtain ⟨as, hr, hn⟩ := DpEs.reads I (vs.map (·.2)) ha (kv_vals kv)
    rw [← pairs_vals hp] at hr
    have hk := reads_keys (h := s.heap) hp
    rw [kv_keys kv] at hk
    refine ⟨_, Reads.dict (as := []) (bs := as) ho hx.1 hd ?_ ?_, ?_⟩
    · rw [List.map_fst_zip (by rw [List.length_map]; omega)]
      exact hk
    · rw [List.map_snd_zip (by rw [List.length_map]; omega)]
      exact hr
    · intro z
      rcases List.mem_cons.mp z with z | z
      · rw [← z] at hsm
        simp at hsm
      · exact hn z
theorem DpEs.reads (I : Inv X pins σ H s) : ∀ {vs : List V} {ds : List PyData} (us : List Value), DpEs X.K H vs ds → Vals vs us → ∃ as, ReadsAll s.heap us ds as ∧ sysModules ∉ as
  | _, _, us, .nil, r => by
    cases r
    exact ⟨_, ReadsAll.nil, by simp⟩
  | _, _, us, .cons h1 h2, r => by
    cases r with
    | cons r1 r2 =>
      obtain ⟨as, q1, n1⟩ := DpE.reads I _ h1 r1
      obtain ⟨bs, q2, n2⟩ := DpEs.reads I _ h2 r2
      exact ⟨_, ReadsAll.cons q1 q2, fun z => (List.mem_append.mp z).elim n1 n2⟩
end
end
def rReprE (K : PySem.W.Frag) : List V → Hp → VK → Prop := fun xs H Q => rReprD K xs H Q ∨ ∃ a d, xs = [.ref a] ∧ DpE K H (.ref a) d ∧ d.depth ≤ 64 ∧ d.showable = true ∧ d.shown.length ≤ sizeLine ∧ Q (.str d.shown) H
theorem call_reprE {X : Cx} (hg : X.A.guards = some []) (hu : X.A.units + 200 < cLine) : CallR X (.builtin "repr") (rReprE X.K) := by
  intro pins s σ H xs us Q I r h
  rcases h with h | ⟨a, d, rfl, hd, hdep, hw, hz, q⟩
  · exact call_reprD hg hu pins s σ H xs us Q I r h
  · cases r with
    | cons rv rt =>
      cases rt
      cases rv
      obtain ⟨as, rd, hn⟩ := DpE.reads I _ hd rfl
      have fin : ∀ (h' : Heap) (t : Tok) (tk : Nat), (∀ b o, s.heap.get? b = some o → h'.get? b = some o) → EP X pins σ Q (.str d.shown t) { s with heap := h', toks := tk } := fun h' t tk hk => ⟨.str d.shown, H, I.kept (t' := tk) hk, ⟨t, rfl⟩, q⟩
      exact repr_of_reads' rd hw (fun _ => hn) hg (by omega) (fun _ _ e => e) fin hz
mutual
def D.pyE : D → PyData
  | .non => .none
  | .bl b => .bool b
  | .int i => .int i
  | .str x => .str x
  | .tup l => .tuple (D.pysE l)
  | .dct l => .dict (D.pyKv l)
  | _ => .none
def D.pysE : List D → List PyData
  | [] => []
  | d :: r => D.pyE d :: D.pysE r
def D.pyKv : List (Key × D) → List (PyData × PyData)
  | [] => []
  | (k, d) :: r => (keyP k, D.pyE d) :: D.pyKv r
end
mutual
def D.plE : Nat → D → Bool
  | _, .non => true
  | _, .bl _ => true
  | _, .int _ => true
  | _, .str x => PyData.strOk x
  | n + 1, .tup l => D.plsE n l
  | n + 1, .dct l => D.plKv n l
  | _, _ => false
def D.plsE : Nat → List D → Bool
  | _, [] => true
  | n, d :: r => D.plE n d && D.plsE n r
def D.plKv : Nat → List (Key × D) → Bool
  | _, [] => true
  | n, (_, d) :: r => D.plE n d && D.plKv n r
end
section
variable {G : Cl} {ad : Ad} {A M : AP} {H : Hp}
theorem pyKv_zip : ∀ l : List (Key × D), D.pyKv l = ((l.map (·.1)).map keyP).zip (D.pysE (l.map (·.2)))
  | [] => by simp [D.pyKv]
  | (k, d) :: r => by
    simp only [D.pyKv, D.pysE, List.map_cons, List.zip_cons_cons, pyKv_zip r]
theorem plKv_zip (n : Nat) : ∀ l : List (Key × D), D.plKv n l = true → D.plsE n (l.map (·.2)) = true
  | [], _ => by simp [D.plsE]
  | (k, d) :: r, z => by
    have z' : d.plE n = true ∧ D.plKv n r = true := by simpa [D.plKv] using z
    simp only [List.map_cons, D.plsE, Bool.and_eq_true]
    exact ⟨z'.1, plKv_zip n r z'.2⟩
theorem reps_dpE {n : Nat} (ih : ∀ (d : D) (v : V), d.plE n = true → Rep G ad M H v d → DpE G.K H v d.pyE) : ∀ (ds : List D) (vs : List V), D.plsE n ds = true → Reps G ad M H vs ds → DpEs G.K H vs (D.pysE ds)
  | [], _, _, r => by cases r; simp only [D.pysE]; exact .nil
  | d :: ds, _, h, r => by
    have h' : d.plE n = true ∧ D.plsE n ds = true := by simpa [D.plsE] using h
    cases r with
    | cons r rs =>
      simp only [D.pysE]
      exact .cons (ih d _ h'.1 r) (reps_dpE ih ds _ h'.2 rs)
theorem Rep.dpE : ∀ (n : Nat) (d : D) (v : V), d.plE n = true → Rep G ad M H v d → DpE G.K H v d.pyE := by
  intro n
  induction n with
  | zero =>
    intro d v h r
    cases r <;> first
      | (simp [D.plE] at h; done)
      | (simp only [D.pyE]; constructor)
  | succ n ih =>
    intro d v h r
    cases r with
    | tup q _ r =>
      simp only [D.pyE]
      exact .tup (SqT.of q) (reps_dpE ih _ _ (by simpa [D.plE] using h) r)
    | @dct a kvs l q _ e r =>
      have h' : D.plsE n (l.map (·.2)) = true := plKv_zip n l (by simpa [D.plE] using h)
      simp only [D.pyE]
      rw [pyKv_zip, ← e, List.map_map]
      exact .dk q (reps_dpE ih _ _ h' r)
    | _ => first
      | (simp [D.plE] at h; done)
      | (simp only [D.pyE]; constructor)
def isCon : D → Bool
  | .tup _ => true
  | .dct _ => true
  | _ => false
theorem RepT.dpE {v : V} {d : D} (hc : isCon d = true) (h : d.plE 60 = true) (r : RepT G ad A M H v d) : ∃ a, v = .ref a ∧ DpE G.K H (.ref a) d.pyE := by
  cases r with
  | r r =>
    have z := Rep.dpE 60 d v h r
    cases r with
    | tup q n r => exact ⟨_, rfl, z⟩
    | dct q n e r => exact ⟨_, rfl, z⟩
    | _ => cases hc
  | ml n q r => cases hc
  | mn q e rk r na => cases hc
  | @mk a kvs l na q e r =>
    have h' : D.plsE 59 (l.map (·.2)) = true := plKv_zip 59 l (by simpa [D.plE] using h)
    refine ⟨_, rfl, ?_⟩
    simp only [D.pyE]
    rw [pyKv_zip, ← e, List.map_map]
    exact .dk q (reps_dpE (Rep.dpE 59) _ _ h' r)
end
section
variable {G : Cl} {E : XK}
def reprE : List D → Option D
  | [d] => match reprD [d] with
    | some z => some z
    | none => if isCon d = true ∧ d.plE 60 = true ∧ d.pyE.depth ≤ 64 ∧ d.pyE.showable = true ∧ d.pyE.shown.length ≤ 10000000 then some (.str d.pyE.shown) else none
  | _ => none
theorem n_reprE : ON G (rReprE G.K) reprE := ⟨fun {ad A M H xs ds z} hm hA r g Q q => by
  unfold reprE at g
  split at g
  · rename_i d
    split at g
    · rename_i y hy
      cases g
      exact .inl (n_repr.run hm hA r hy Q q)
    · split at g
      · rename_i h
        cases g
        obtain ⟨x, rfl, rx⟩ := r.one
        obtain ⟨a, rfl, hd⟩ := rx.dpE h.1 h.2.1
        exact .inr ⟨a, _, rfl, hd, h.2.2.1, h.2.2.2.1, sz_ok (by omega), q _ _ .refl (.str _)⟩
      · cases g
  · cases g⟩
theorem reprE_D {d z : D} (h : reprD [d] = some z) : reprE [d] = some z := by
  show (match reprD [d] with
    | some z => some z
    | none => _) = _
  rw [h]
theorem ev_asg {f : DE} {h : D → Ro → Option Ro} {ρ : Ro} {m : Mo} : sAsg f h ρ m = sBind (f ρ m) fun d m1 => match h d ρ with
  | some ρ' => .nx ρ' m1
  | none => .bad := Eq.trans rfl rfl
theorem ev_ok2O {okc : Nat → Bool} {c : Nat} {d : D} : (D.obj c d).ok2 okc = okc c := Eq.trans rfl rfl
end
end Dn
namespace Dn
open PySem PySem.Spec PyProof.Rows L2

/-! comprehensions with two fors -/
def lc2D (h : D → Ro → Option Ro) (tt : DT) (f2 : Ro → Mo → R (List D)) : List D → Ro → Mo → R (List D)
  | [], _, m => .ok [] m
  | d :: r, ρ, m => match h d ρ with
    | none => .bad
    | some ρ1 => match tt ρ1 m with
      | .ok true m1 => match f2 ρ1 m1 with
        | .ok xs m2 => (lc2D h tt f2 r ρ m2).bind fun ys m3 => .ok (xs ++ ys) m3
        | _ => .bad
      | .ok false m1 => lc2D h tt f2 r ρ m1
      | _ => .bad
def dLc2 (fi : DI) (h : D → Ro → Option Ro) (tt : DT) (fi1 : DI) (h1 : D → Ro → Option Ro) (tt1 : DT) (fe : DE) (vs vs1 : List Nat) : Ro → Mo → R (List D) := fun ρ m => (fi ρ m).bind fun ds m1 => if ds.length ≤ 100000 then (lc2D h tt (dLc fi1 h1 tt1 fe vs1) ds (wipeD ρ vs) m1).bind fun xs m2 => if xs.length ≤ 100000 then .ok xs m2 else .bad else .bad
theorem lc2D_exc {h : D → Ro → Option Ro} {tt : DT} {f2 : Ro → Mo → R (List D)} {c : Nat} {l : List D} {mx : Mo} : ∀ (ds : List D) (ρ : Ro) (m : Mo), lc2D h tt f2 ds ρ m ≠ .exc c l mx
  | [], _, _ => fun z => by cases z
  | d :: r, ρ, m => fun z => by
    unfold lc2D at z
    split at z
    · cases z
    · split at z
      · split at z
        · rename_i x m2 _
          cases q : lc2D h tt f2 r ρ m2 with
          | bad => rw [q] at z; cases z
          | ok a m' => rw [q] at z; cases z
          | exc c' l' m' => exact lc2D_exc r _ _ q
        · cases z
      · exact lc2D_exc r _ _ z
      · cases z
section
variable {G : Cl} {E : XK} {B : Bx} {M : AP} {pm : Nat → Addr} {ρ : Ro} {m m' : Mo} {σ : L2.St} {H H' : Hp}
theorem lcc2 {wi wi1 : TI} {g g1 : TG} {tt tt1 : TT} {te : TE} {fi fi1 : DI} {h h1 : D → Ro → Option Ro} {ft ft1 : DT} {fe : DE} {os os1 vs vs1 : List Nat} (hi : Di G E wi fi) (hg : Dg G g h os) (ht : Dt G E00 tt ft) (hi1 : Di G E00 wi1 fi1) (hg1 : Dg G g1 h1 os1) (ht1 : Dt G E00 tt1 ft1) (he : De G E00 te fe) (hos : ∀ i ∈ os, i ∈ vs) (hos1 : ∀ i ∈ os1, i ∈ vs1)
    (e : EnvR G B M pm ρ m σ H) (Q : VK) (p : PostM G E B M H (fun m' H' v xs => ∃ D vs', v = .ref D ∧ ¬ Liv H D ∧ H' D = some (.lst vs') ∧ Reps G B.ad (fun b => M b ∨ b = D) H' vs' xs ∧ MRep G (fun b => M b ∨ b = D) H' m') (dLc2 fi h ft fi1 h1 ft1 fe vs vs1 ρ m) Q) : tLc2 wi g tt wi1 g1 tt1 te vs vs1 σ H Q := by
  refine hi.run e _ ((PostM.bind p).imp' fun J H1 ⟨ds, m1, g1, ⟨I, wk, hI⟩, p1⟩ => ?_)
  have e1 := e.go g1
  split at p1
  rotate_left
  · exact p1.elim
  rename_i hlen
  intro D hD
  have xD : Ext Non H1 (upd H1 D (.lst [])) := Ext.new hD
  have eP := (e1.plus (o := .lst []) hD (fun ps z => by cases z))
  have offD := e1.offX (Liv.none hD)
  have eW := eP.wipe (vs := vs)
  have st0 : Stp M H1 (fun b => M b ∨ b = D) (upd H1 D (.lst [])) := ⟨xD.imp fun _ z => z.elim, fun b hb => hb.elim .inl fun z => .inr (by rw [z]; exact Liv.none hD)⟩
  have nD : ¬ (B.plus D).A D := offD.2.2
  have hXD : (B.plus D).X D := .inr rfl
  cases hxs : lc2D h ft (dLc fi1 h1 ft1 fe vs1) ds (wipeD ρ vs) m1 with
  | bad =>
    rw [hxs] at p1
    exact p1.elim
  | exc c l mx => exact (lc2D_exc ds _ _ hxs).elim
  | ok xs mx =>
    rw [hxs] at p1
    have p1' : PostM G E B M H1 (fun m' H' v xs => ∃ D vs', v = .ref D ∧ ¬ Liv H D ∧ H' D = some (.lst vs') ∧ Reps G B.ad (fun b => M b ∨ b = D) H' vs' xs ∧ MRep G (fun b => M b ∨ b = D) H' m') (if xs.length ≤ 100000 then R.ok xs mx else .bad) Q := p1
    clear p1
    split at p1'
    rotate_left
    · exact p1'.elim
    rename_i hxl
    have p1 := p1'
    refine ⟨fun i n H' => n = ds.length - i ∧ i ≤ ds.length ∧ ∃ m' done left vs', done ++ left = xs ∧ lc2D h ft (dLc fi1 h1 ft1 fe vs1) (ds.drop i) (wipeD ρ vs) m' = .ok left mx ∧ EnvR G (B.plus D) (fun b => M b ∨ b = D) pm (wipeD ρ vs) m' (L2.wipe σ vs) H' ∧ Stp M H1 (fun b => M b ∨ b = D) H' ∧ I (fun b => M b ∨ b = D) H' ∧
        H' D = some (.lst vs') ∧ Reps G B.ad (fun b => M b ∨ b = D) H' vs' done ∧ Ext B.A H1 H',
      ⟨ds.length, by omega, Nat.zero_le _, m1, [], xs, [], rfl, hxs, eW, st0, wk.keep hI st0, upd_same, .nil, xD.imp fun _ z => z.elim⟩, ?_⟩
    rintro i n H' ⟨rfl, hile, m', done, left, vs', hdl, hl, e', s', I', hD', hr, xx⟩
    by_cases hlt : i < ds.length
    · refine .inr ⟨wk.go I' hlt, fun H2 => ∃ m2 done left vs2, done ++ left = xs ∧ lc2D h ft (dLc fi1 h1 ft1 fe vs1) (ds.drop (i + 1)) (wipeD ρ vs) m2 = .ok left mx ∧ EnvR G (B.plus D) (fun b => M b ∨ b = D) pm (wipeD ρ vs) m2 (L2.wipe σ vs) H2 ∧ Stp M H1 (fun b => M b ∨ b = D) H2 ∧ I (fun b => M b ∨ b = D) H2 ∧
          H2 D = some (.lst vs2) ∧ Reps G B.ad (fun b => M b ∨ b = D) H2 vs2 done ∧ Ext B.A H1 H2, ?_, ?_⟩
      · rintro H2 ⟨m2, done, left, vs2, a1, a2, a3, a4, a5, a6, a8, a9⟩
        exact ⟨ds.length - (i + 1), by omega, rfl, by omega, m2, done, left, vs2, a1, a2, a3, a4, a5, a6, a8, a9⟩
      · intro x H2 hy
        obtain ⟨x2, r2⟩ := wk.yld I' e'.hm (List.getElem?_eq_getElem hlt) hy
        have g2 := e'.same x2
        have e2 := e'.go g2
        rw [List.drop_eq_getElem_cons hlt] at hl
        unfold lc2D at hl
        cases hρ : h ds[i] (wipeD ρ vs) with
        | none =>
          rw [hρ] at hl
          cases hl
        | some ρ1 =>
          rw [hρ] at hl
          dsimp only at hl
          refine hg.run e2 r2 hρ _ fun σ3 e3 w3 => ⟨?_, ?_⟩
          · rw [w3 vs hos]
            exact wipe_twice
          · refine ht.run e3 _ ?_
            cases hb : ft ρ1 m' with
            | bad => rw [hb] at hl; cases hl
            | exc c l m4 => rw [hb] at hl; cases hl
            | ok b m4 =>
              rw [hb] at hl
              intro b' H4 g4 hbb
              subst hbb
              have e4 := e2.go g4
              have s4 : Stp M H1 (fun b => M b ∨ b = D) H4 := (s'.trans (e'.stp g2)).trans (e2.stp g4)
              have I4 := wk.keep I' ((e'.stp g2).trans (e2.stp g4))
              have hD4 : H4 D = some (.lst vs') := g4.x _ _ nD (fun ps z => by cases z) (x2.k _ _ (fun z => z) (fun ps z => by cases z) hD')
              have hr4 : Reps G B.ad (fun b => M b ∨ b = D) H4 vs' done := (hr.ext x2.k fun _ z => z.elim).ext g4.x e2.aM
              have xx4 : Ext B.A H1 H4 := (xx.trans (x2.k.imp fun _ z => z.elim)).trans g4.x
              cases b' with
              | false =>
                refine iteF ?_
                exact ⟨m4, done, left, vs', hdl, hl, e4, s4, I4, hD4, hr4, xx4⟩
              | true =>
                refine iteT ?_
                have hl' : (match dLc fi1 h1 ft1 fe vs1 ρ1 m4 with
                  | .ok zs m2 => (lc2D h ft (dLc fi1 h1 ft1 fe vs1) (ds.drop (i + 1)) (wipeD ρ vs) m2).bind fun ys m3 => R.ok (zs ++ ys) m3
                  | _ => .bad) = .ok left mx := hl
                have e34 := e3.go g4
                refine hi1.run e34 _ ?_
                unfold dLc at hl'
                cases hf : fi1 ρ1 m4 with
                | bad => rw [hf] at hl'; cases hl'
                | exc c l m5 => rw [hf] at hl'; cases hl'
                | ok ds1 m5 =>
                  rw [hf] at hl'
                  rintro J1 H5 g5 ⟨I1, wk1, hI1⟩
                  have hl2 : (match (if ds1.length ≤ 100000 then lcD h1 ft1 fe ds1 (wipeD ρ1 vs1) m5 else .bad) with
                    | .ok zs m2 => (lc2D h ft (dLc fi1 h1 ft1 fe vs1) (ds.drop (i + 1)) (wipeD ρ vs) m2).bind fun ys m3 => R.ok (zs ++ ys) m3
                    | _ => .bad) = .ok left mx := hl'
                  by_cases hl1 : ds1.length ≤ 100000
                  rotate_left
                  · rw [if_neg hl1] at hl2
                    cases hl2
                  rw [if_pos hl1] at hl2
                  cases hz : lcD h1 ft1 fe ds1 (wipeD ρ1 vs1) m5 with
                  | bad => rw [hz] at hl2; cases hl2
                  | exc c l m6 => exact (lcD_exc ds1 _ _ hz).elim
                  | ok zs m6 =>
                    rw [hz] at hl2
                    obtain ⟨tl, m7, q1, q2⟩ := ok_bind hl2
                    cases q2
                    have e5 := e4.go g5
                    have i5 := (e34.go g5).wipe (vs := vs1)
                    have s5 := s4.trans (e4.stp g5)
                    have I5 := wk.keep I4 (e4.stp g5)
                    have hD5 : H5 D = some (.lst vs') := g5.x _ _ nD (fun ps z => by cases z) hD4
                    have hr5 : Reps G B.ad (fun b => M b ∨ b = D) H5 vs' done := hr4.ext g5.x e4.aM
                    have xx5 : Ext B.A H1 H5 := xx4.trans g5.x
                    refine ⟨fun j k H' => k = ds1.length - j ∧ j ≤ ds1.length ∧ ∃ m' done1 left1 vs', done1 ++ left1 = zs ∧ lcD h1 ft1 fe (ds1.drop j) (wipeD ρ1 vs1) m' = .ok left1 m6 ∧ EnvR G (B.plus D) (fun b => M b ∨ b = D) pm (wipeD ρ vs) m' (L2.wipe σ vs) H' ∧ EnvR G (B.plus D) (fun b => M b ∨ b = D) pm (wipeD ρ1 vs1) m' (L2.wipe σ3 vs1) H' ∧ Stp M H1 (fun b => M b ∨ b = D) H' ∧ I (fun b => M b ∨ b = D) H' ∧ I1 (fun b => M b ∨ b = D) H' ∧
                        H' D = some (.lst vs') ∧ Reps G B.ad (fun b => M b ∨ b = D) H' vs' (done ++ done1) ∧ Ext B.A H1 H',
                      ⟨ds1.length, by omega, Nat.zero_le _, m5, [], zs, vs', rfl, hz, e5, i5, s5, I5, hI1, hD5, by rw [List.append_nil]; exact hr5, xx5⟩, ?_⟩
                    clear hD5 hr5 hD4 hr4 xx5 s5 I5 e5 i5
                    rintro j k H' ⟨rfl, hjle, m', done1, left1, vs', hdl1, hl3, e6, i6, s6, I6, J6, hD6, hr6, xx6⟩
                    by_cases hlt1 : j < ds1.length
                    · refine .inr ⟨wk1.go J6 hlt1, fun H2 => ∃ m2 done1 left1 vs2, done1 ++ left1 = zs ∧ lcD h1 ft1 fe (ds1.drop (j + 1)) (wipeD ρ1 vs1) m2 = .ok left1 m6 ∧ EnvR G (B.plus D) (fun b => M b ∨ b = D) pm (wipeD ρ vs) m2 (L2.wipe σ vs) H2 ∧ EnvR G (B.plus D) (fun b => M b ∨ b = D) pm (wipeD ρ1 vs1) m2 (L2.wipe σ3 vs1) H2 ∧ Stp M H1 (fun b => M b ∨ b = D) H2 ∧ I (fun b => M b ∨ b = D) H2 ∧ I1 (fun b => M b ∨ b = D) H2 ∧
                          H2 D = some (.lst vs2) ∧ Reps G B.ad (fun b => M b ∨ b = D) H2 vs2 (done ++ done1) ∧ Ext B.A H1 H2, ?_, ?_⟩
                      · rintro H2 ⟨m2, done1, left1, vs2, a1, a2, a3, a4, a5, a6, a7, a8, a9, a10⟩
                        exact ⟨ds1.length - (j + 1), by omega, rfl, by omega, m2, done1, left1, vs2, a1, a2, a3, a4, a5, a6, a7, a8, a9, a10⟩
                      · intro x H7 hy
                        obtain ⟨x7, r7⟩ := wk1.yld J6 i6.hm (List.getElem?_eq_getElem hlt1) hy
                        have gi7 := i6.same x7
                        have ge7 := e6.same x7
                        have i7 := i6.go gi7
                        have e7 := e6.go ge7
                        rw [List.drop_eq_getElem_cons hlt1] at hl3
                        unfold lcD at hl3
                        cases hρ1 : h1 ds1[j] (wipeD ρ1 vs1) with
                        | none =>
                          rw [hρ1] at hl3
                          cases hl3
                        | some ρ2 =>
                          rw [hρ1] at hl3
                          dsimp only at hl3
                          refine hg1.run i7 r7 hρ1 _ fun σ4 i8 w4 => ⟨?_, ?_⟩
                          · rw [w4 vs1 hos1]
                            exact wipe_twice
                          · refine ht1.run i8 _ ?_
                            cases hb1 : ft1 ρ2 m' with
                            | bad => rw [hb1] at hl3; cases hl3
                            | exc c l m4 => rw [hb1] at hl3; cases hl3
                            | ok b1 m8 =>
                              rw [hb1] at hl3
                              intro b' H8 g8 hbb
                              subst hbb
                              have e8 := e7.go g8
                              have i78 := i7.go g8
                              have st8 := (e6.stp ge7).trans (e7.stp g8)
                              have s8 := s6.trans st8
                              have I8 := wk.keep I6 st8
                              have J8 := wk1.keep J6 st8
                              have hD8 : H8 D = some (.lst vs') := g8.x _ _ nD (fun ps z => by cases z) (x7.k _ _ (fun z => z) (fun ps z => by cases z) hD6)
                              have hr8 : Reps G B.ad (fun b => M b ∨ b = D) H8 vs' (done ++ done1) := (hr6.ext x7.k fun _ z => z.elim).ext g8.x e7.aM
                              have xx8 : Ext B.A H1 H8 := (xx6.trans (x7.k.imp fun _ z => z.elim)).trans g8.x
                              cases b' with
                              | false =>
                                refine iteF ?_
                                exact ⟨m8, done1, left1, vs', hdl1, hl3, e8, i78, s8, I8, J8, hD8, hr8, xx8⟩
                              | true =>
                                refine iteT ?_
                                have hl4 : (match fe ρ2 m8 with
                                  | .ok x m2 => (lcD h1 ft1 fe (ds1.drop (j + 1)) (wipeD ρ1 vs1) m2).bind fun xs m3 => R.ok (x :: xs) m3
                                  | _ => .bad) = .ok left1 m6 := hl3
                                refine he.run (i8.go g8) _ ?_
                                cases hv : fe ρ2 m8 with
                                | bad => rw [hv] at hl4; cases hl4
                                | exc c l m9 => rw [hv] at hl4; cases hl4
                                | ok z m9 =>
                                  rw [hv] at hl4
                                  obtain ⟨tl1, m10, q3, q4⟩ := ok_bind hl4
                                  cases q4
                                  intro v H9 g9 rv
                                  have e9 := e8.go g9
                                  have i9 := i78.go g9
                                  have hD9 : H9 D = some (.lst vs') := g9.x _ _ nD (fun ps z => by cases z) hD8
                                  have hr9 : Reps G B.ad (fun b => M b ∨ b = D) H9 vs' (done ++ done1) := hr8.ext g9.x e8.aM
                                  refine ⟨vs', hD9, ?_, ?_⟩
                                  · have lx : (done ++ (zs ++ tl)).length ≤ 100000 := by rw [hdl]; exact hxl
                                    rw [← hdl1] at lx
                                    simp only [List.length_append, List.length_cons] at lx
                                    rw [hr9.length, List.length_append]
                                    exact Nat.lt_of_lt_of_le (show done.length + done1.length < 100000 by omega) (by decide)
                                  · have e10 := e9.chgX (o := .lst (vs' ++ [v])) hXD offD.1 (fun ps z => by cases z) (.lst hD9)
                                    have i10 := i9.chgX (o := .lst (vs' ++ [v])) hXD offD.1 (fun ps z => by cases z) (.lst hD9)
                                    have x10 : Ext (fun b => M b ∨ b = D) H9 (upd H9 D (.lst (vs' ++ [v]))) := Ext.refl.chg (.inr (.inr rfl))
                                    have s10 : Stp (fun b => M b ∨ b = D) H9 (fun b => M b ∨ b = D) (upd H9 D (.lst (vs' ++ [v]))) := ⟨x10, fun _ h => .inl h⟩
                                    have st10 := (e8.stp g9).trans s10
                                    refine ⟨m9, done1 ++ [z], tl1, vs' ++ [v], by rw [← hdl1]; simp, q3, e10, i10, s8.trans st10, wk.keep I8 st10, wk1.keep J8 st10, upd_same, ?_, (xx8.trans g9.x).chg (.inl (Liv.none hD))⟩
                                    rw [← List.append_assoc]
                                    exact (hr9.append (.one rv)).ext x10 fun _ h => h
                    · have hj : j = ds1.length := by omega
                      subst hj
                      rw [List.drop_length] at hl3
                      unfold lcD at hl3
                      cases hl3
                      rw [List.append_nil] at hdl1
                      subst hdl1
                      exact .inl ⟨wk1.stop J6, _, done ++ done1, tl, vs', by rw [List.append_assoc]; exact hdl, q1, e6, s6, I6, hD6, hr6, xx6⟩
    · have hi' : i = ds.length := by omega
      subst hi'
      rw [List.drop_length] at hl
      unfold lc2D at hl
      cases hl
      rw [List.append_nil] at hdl
      subst hdl
      exact .inl ⟨wk.stop I', p1 _ _ ⟨xx, e'.ea, e'.eh, e'.mr.less fun b h => .inl h, e'.tb⟩ ⟨D, vs', rfl, none_back e g1 hD, hD', hr, e'.mr⟩⟩
theorem de_lc2 {wi wi1 : TI} {g g1 : TG} {tt tt1 : TT} {te : TE} {fi fi1 : DI} {h h1 : D → Ro → Option Ro} {ft ft1 : DT} {fe : DE} {os os1 vs vs1 : List Nat} (hi : Di G E wi fi) (hg : Dg G g h os) (ht : Dt G E00 tt ft) (hi1 : Di G E00 wi1 fi1) (hg1 : Dg G g1 h1 os1) (ht1 : Dt G E00 tt1 ft1) (he : De G E00 te fe) (hos : ∀ i ∈ os, i ∈ vs) (hos1 : ∀ i ∈ os1, i ∈ vs1) :
    De G E (tLc2 wi g tt wi1 g1 tt1 te vs vs1) (fun ρ m => (dLc2 fi h ft fi1 h1 ft1 fe vs vs1 ρ m).map .lst) := ⟨fun {B M pm ρ m σ H} e Q p => by
  refine lcc2 hi hg ht hi1 hg1 ht1 he hos hos1 e Q ((Post.bindM p).imp' fun v H' ⟨xs, m1, g1, ⟨D, vs', hv, hD, hD', hr, hmr⟩, p1⟩ => ?_)
  subst hv
  have e' := e.go g1
  have nM : ¬ M D := fun z => hD (e.hl D z)
  exact p1 _ _ e'.here (.lst hD' nM (hr.less fun b h => .inl h))⟩
end
theorem ev_lc2 {fi fi1 : DI} {h h1 : D → Ro → Option Ro} {tt tt1 : DT} {fe : DE} {vs vs1 : List Nat} {ρ : Ro} {m : Mo} : dLc2 fi h tt fi1 h1 tt1 fe vs vs1 ρ m = (fi ρ m).bind fun ds m1 => if ds.length ≤ 100000 then (lc2D h tt (dLc fi1 h1 tt1 fe vs1) ds (wipeD ρ vs) m1).bind fun xs m2 => if xs.length ≤ 100000 then .ok xs m2 else .bad else .bad := Eq.trans rfl rfl
/-- what a comprehension with two fors gives, when each turn changes nothing -/
theorem lc2D_gen {α : Type} {h : D → Ro → Option Ro} {tt : DT} {f2 : Ro → Mo → R (List D)} {ρ : Ro} {m : Mo} (f : α → D) (g : α → List D) : ∀ (xs : List α), (∀ x ∈ xs, ∃ ρ1, h (f x) ρ = some ρ1 ∧ tt ρ1 m = .ok true m ∧ f2 ρ1 m = .ok (g x) m) → lc2D h tt f2 (xs.map f) ρ m = .ok (xs.map g).flatten m
  | [], _ => rfl
  | x :: r, H => by
    obtain ⟨ρ1, h1, h2, h3⟩ := H x List.mem_cons_self
    have ih := lc2D_gen f g r fun y hy => H y (List.mem_cons_of_mem _ hy)
    rw [List.map_cons]
    unfold lc2D
    rw [h1]
    dsimp only
    rw [h2]
    dsimp only
    rw [h3]
    dsimp only
    rw [ih]
    rfl
end Dn
namespace Dn
open PySem PySem.Spec PyProof.Rows L2

/-! a, b = x, [] where b is changed later -/
section
variable {G : Cl} {E : XK}
def sPar2L (i j : Nat) (fa : DE) : DS := fun ρ m => sBind (fa ρ m) fun x m1 => if j < ρ.length then .nx ((ρ.set i (some (.v x))).set j (some (.ml []))) m1 else .bad
def sPar3L (i j l : Nat) (fa fb : DE) : DS := fun ρ m => sBind (fa ρ m) fun x m1 => sBind (fb ρ m1) fun y m2 => if l < ρ.length then .nx (((ρ.set i (some (.v x))).set j (some (.v y))).set l (some (.ml []))) m2 else .bad
theorem new_two {H2 : Hp} {p q : Addr} {o : HO} (hp : H2 p = none) (hq : upd H2 p (.lst []) q = none) : upd (upd H2 p (.lst [])) q o p = some (.lst []) := by
  have hne : p ≠ q := fun z => by
    rw [← z, upd_same] at hq
    cases hq
  rw [upd_ne hne, upd_same]
theorem ds_par2L {i j : Nat} {ta : TE} {fa : DE} (ha : De G E ta fa) : Ds G E (tPar i j (tCons ta (tCons (tLst tNil) tNil))) (sPar2L i j fa) := ⟨fun {B M pm ρ m σ H} e Z p => by
  refine ha.run e _ ((PostS.bind0 e p).imp' fun x H1 ⟨d1, m1, g1, r1, p1⟩ => ?_)
  have e1 := e.go g1
  split at p1
  rotate_left
  · exact p1.elim
  rename_i hj
  refine ⟨Nat.zero_le _, fun q hq => ⟨_, _, rfl, ?_⟩⟩
  have e2 := e1.setv (i := i) r1
  obtain ⟨e3, s3⟩ := e2.setm (i := j) (p := q) (s := .ml []) (Liv.none hq) (e2.same (ExN.new (o := .lst []) hq)) ⟨[], upd_same, .nil⟩ ((e2.mr.off (Liv.none hq)).ext (Ext.new hq)) (by rw [List.length_set]; exact hj)
  exact p1 _ _ _ _ e3 ((e.stp g1).trans s3)⟩
theorem ds_tup2L {i j : Nat} {ta : TE} {fa : DE} (ha : De G E ta fa) : Ds G E (tAsg (tTup (tCons ta (tCons (tLst tNil) tNil))) (gTup G.K 2 (gCons (gName i) (gCons (gName j) gNil)))) (sPar2L i j fa) := ⟨fun {B M pm ρ m σ H} e Z p => by
  refine ha.run e _ ((PostS.bind0 e p).imp' fun x H1 ⟨d1, m1, g1, r1, p1⟩ => ?_)
  have e1 := e.go g1
  split at p1
  rotate_left
  · exact p1.elim
  rename_i hj
  refine ⟨Nat.zero_le _, fun q hq => ⟨by simp [sizeLine], fun t ht => ⟨t, _, rfl, SqT.of upd_same, rfl, _, _, rfl, _, _, rfl, rfl, ?_⟩⟩⟩
  have e2 := e1.setv (i := i) r1
  have g2 := e2.same (ExN.new (o := .lst []) hq)
  have g3 := (e2.go g2).same (ExN.new (o := .tup [x, .ref q]) ht)
  obtain ⟨e3, s3⟩ := e2.setm (i := j) (p := q) (s := .ml []) (Liv.none hq) (g2.trans g3) ⟨[], new_two hq ht, .nil⟩ (((e2.mr.off (Liv.none hq)).ext (Ext.new hq)).ext (Ext.new ht)) (by rw [List.length_set]; exact hj)
  exact p1 _ _ _ _ e3 ((e.stp g1).trans s3)⟩
theorem ds_tup3L {i j l : Nat} {ta tb : TE} {fa fb : DE} (ha : De G E ta fa) (hb : De G E tb fb) : Ds G E (tAsg (tTup (tCons ta (tCons tb (tCons (tLst tNil) tNil)))) (gTup G.K 3 (gCons (gName i) (gCons (gName j) (gCons (gName l) gNil))))) (sPar3L i j l fa fb) := ⟨fun {B M pm ρ m σ H} e Z p => by
  refine ha.run e _ ((PostS.bind0 e p).imp' fun x H1 ⟨d1, m1, g1, r1, p1⟩ => ?_)
  have e1 := e.go g1
  refine hb.run e1 _ ((PostS.bind0 e1 (p1.later (e.stp g1))).imp' fun y H2 ⟨d2, m2, g2, r2, p2⟩ => ?_)
  have e2 := e1.go g2
  split at p2
  rotate_left
  · exact p2.elim
  rename_i hl
  refine ⟨Nat.zero_le _, fun q hq => ⟨by simp [sizeLine], fun t ht => ⟨t, _, rfl, SqT.of upd_same, rfl, _, _, rfl, _, _, rfl, _, _, rfl, rfl, ?_⟩⟩⟩
  have e3 := (e2.setv (i := i) (r1.ext g2.x e1.aM)).setv (i := j) r2
  have g3 := e3.same (ExN.new (o := .lst []) hq)
  have g4 := (e3.go g3).same (ExN.new (o := .tup [x, y, .ref q]) ht)
  obtain ⟨e4, s4⟩ := e3.setm (i := l) (p := q) (s := .ml []) (Liv.none hq) (g3.trans g4) ⟨[], new_two hq ht, .nil⟩ (((e3.mr.off (Liv.none hq)).ext (Ext.new hq)).ext (Ext.new ht)) (by rw [List.length_set, List.length_set]; exact hl)
  exact p2 _ _ _ _ e4 ((e1.stp g2).trans s4)⟩
theorem ds_par3L {i j l : Nat} {ta tb : TE} {fa fb : DE} (ha : De G E ta fa) (hb : De G E tb fb) : Ds G E (tPar3 i j l (tCons ta (tCons tb (tCons (tLst tNil) tNil)))) (sPar3L i j l fa fb) := ⟨fun {B M pm ρ m σ H} e Z p => by
  refine ha.run e _ ((PostS.bind0 e p).imp' fun x H1 ⟨d1, m1, g1, r1, p1⟩ => ?_)
  have e1 := e.go g1
  refine hb.run e1 _ ((PostS.bind0 e1 (p1.later (e.stp g1))).imp' fun y H2 ⟨d2, m2, g2, r2, p2⟩ => ?_)
  have e2 := e1.go g2
  split at p2
  rotate_left
  · exact p2.elim
  rename_i hl
  refine ⟨Nat.zero_le _, fun q hq => ⟨_, _, _, rfl, ?_⟩⟩
  have e3 := (e2.setv (i := i) (r1.ext g2.x e1.aM)).setv (i := j) r2
  obtain ⟨e4, s4⟩ := e3.setm (i := l) (p := q) (s := .ml []) (Liv.none hq) (e3.same (ExN.new (o := .lst []) hq)) ⟨[], upd_same, .nil⟩ ((e3.mr.off (Liv.none hq)).ext (Ext.new hq)) (by rw [List.length_set, List.length_set]; exact hl)
  exact p2 _ _ _ _ e4 ((e1.stp g2).trans s4)⟩
end
theorem ev_par2L {i j : Nat} {fa : DE} {ρ : Ro} {m : Mo} : sPar2L i j fa ρ m = sBind (fa ρ m) fun x m1 => if j < ρ.length then .nx ((ρ.set i (some (.v x))).set j (some (.ml []))) m1 else .bad := Eq.trans rfl rfl
theorem ev_par3L {i j l : Nat} {fa fb : DE} {ρ : Ro} {m : Mo} : sPar3L i j l fa fb ρ m = sBind (fa ρ m) fun x m1 => sBind (fb ρ m1) fun y m2 => if l < ρ.length then .nx (((ρ.set i (some (.v x))).set j (some (.v y))).set l (some (.ml []))) m2 else .bad := Eq.trans rfl rfl
end Dn
namespace Dn
open PySem PySem.Spec PyProof.Rows L2

/-! a, b = [], x where a is changed later -/
section
variable {G : Cl} {E : XK}
def sPar2F (i j : Nat) (fb : DE) : DS := fun ρ m => sBind (fb ρ m) fun y m1 => if i < ρ.length then .nx ((ρ.set i (some (.ml []))).set j (some (.v y))) m1 else .bad
theorem ds_par2F {i j : Nat} {tb : TE} {fb : DE} (hb : De G E tb fb) : Ds G E (tPar i j (tCons (tLst tNil) (tCons tb tNil))) (sPar2F i j fb) := ⟨fun {B M pm ρ m σ H} e Z p => by
  refine ⟨Nat.zero_le _, fun q hq => ?_⟩
  have n := Liv.none hq
  obtain ⟨o1, o2, o3⟩ := e.offX n
  have eP := e.plus (o := .lst []) hq (fun ps z => by cases z)
  refine hb.run eP _ ?_
  unfold sPar2F at p
  cases hf : fb ρ m with
  | bad =>
    rw [hf] at p
    exact p
  | exc c l m' =>
    rw [hf] at p
    intro cls dd H' g hx
    have g' : Go G B M m' H H' := (e.same (ExN.new (o := .lst []) hq)).trans ⟨g.x, g.ea, g.eh, g.mr.less fun b h => .inl h, g.tb⟩
    exact p cls dd H' (Go.ofEnv e g') (hx.less fun b h => .inl (e.mb b h))
  | ok y m1 =>
    rw [hf] at p
    intro v H2 g r
    have p1 : PostS G E B M H (if i < ρ.length then .nx ((ρ.set i (some (.ml []))).set j (some (.v y))) m1 else .bad) Z := p
    split at p1
    rotate_left
    · exact p1.elim
    rename_i hi
    have g' : Go G B M m1 H H2 := (e.same (ExN.new (o := .lst []) hq)).trans ⟨g.x, g.ea, g.eh, g.mr.less fun b h => .inl h, g.tb⟩
    have hq2 : H2 q = some (.lst []) := g.x _ _ o3 (fun ps z => by cases z) upd_same
    refine ⟨_, _, rfl, ?_⟩
    obtain ⟨e3, s3⟩ := e.setm (i := i) (p := q) (s := .ml []) n g' ⟨[], hq2, .nil⟩ g.mr hi
    exact p1 _ _ _ _ (e3.setv (i := j) r) s3⟩
def sPar2K (i j : Nat) (fb : DE) : DS := fun ρ m => sBind (fb ρ m) fun y m1 => if i < ρ.length then .nx ((ρ.set i (some (.mk []))).set j (some (.v y))) m1 else .bad
theorem ds_par2K {i j : Nat} {tb : TE} {fb : DE} (hb : De G E tb fb) : Ds G E (tPar i j (tCons tDNewK (tCons tb tNil))) (sPar2K i j fb) := ⟨fun {B M pm ρ m σ H} e Z p => by
  intro q hq
  have n := Liv.none hq
  obtain ⟨o1, o2, o3⟩ := e.offX n
  have eP := e.plus (o := .dK []) hq (fun ps z => by cases z)
  refine hb.run eP _ ?_
  unfold sPar2K at p
  cases hf : fb ρ m with
  | bad =>
    rw [hf] at p
    exact p
  | exc c l m' =>
    rw [hf] at p
    intro cls dd H' g hx
    have g' : Go G B M m' H H' := (e.same (ExN.new (o := .dK []) hq)).trans ⟨g.x, g.ea, g.eh, g.mr.less fun b h => .inl h, g.tb⟩
    exact p cls dd H' (Go.ofEnv e g') (hx.less fun b h => .inl (e.mb b h))
  | ok y m1 =>
    rw [hf] at p
    intro v H2 g r
    have p1 : PostS G E B M H (if i < ρ.length then .nx ((ρ.set i (some (.mk []))).set j (some (.v y))) m1 else .bad) Z := p
    split at p1
    rotate_left
    · exact p1.elim
    rename_i hi
    have g' : Go G B M m1 H H2 := (e.same (ExN.new (o := .dK []) hq)).trans ⟨g.x, g.ea, g.eh, g.mr.less fun b h => .inl h, g.tb⟩
    have hq2 : H2 q = some (.dK []) := g.x _ _ o3 (fun ps z => by cases z) upd_same
    refine ⟨_, _, rfl, ?_⟩
    obtain ⟨e3, s3⟩ := e.setm (i := i) (p := q) (s := .mk []) n g' ⟨[], hq2, rfl, .nil⟩ g.mr hi
    exact p1 _ _ _ _ (e3.setv (i := j) r) s3⟩
end
theorem ev_par2F {i j : Nat} {fb : DE} {ρ : Ro} {m : Mo} : sPar2F i j fb ρ m = sBind (fb ρ m) fun y m1 => if i < ρ.length then .nx ((ρ.set i (some (.ml []))).set j (some (.v y))) m1 else .bad := Eq.trans rfl rfl
theorem ev_par2K {i j : Nat} {fb : DE} {ρ : Ro} {m : Mo} : sPar2K i j fb ρ m = sBind (fb ρ m) fun y m1 => if i < ρ.length then .nx ((ρ.set i (some (.mk []))).set j (some (.v y))) m1 else .bad := Eq.trans rfl rfl
end Dn
namespace Dn
open PySem PySem.Spec PyProof.Rows L2 LamX

/-! g(lambda y=0: body): a parameter that is not given -/
structure LamD (sc scope : Scope) (y : Str) : Prop where
  kind : scope.kind = .function
  co : scope.isCoroutine = false
  gen : scope.isGenerator = false
  own : ∀ z ∈ scope.names, z.2 ≠ .cell ∧ (z.2 = .local → z.1 = y)
  loc : scope.names.lookup y = some .local
  free : ∀ z ∈ scope.names, z.2 = .free → sc.names.lookup z.1 = some .cell ∨ sc.names.lookup z.1 = some .free
def lamDB (sc scope : Scope) (y : Str) : Bool :=
  decide (scope.kind = .function) && (!scope.isCoroutine && (!scope.isGenerator && (decide (scope.names.lookup y = some .local) && scope.names.all fun z =>
    !decide (z.2 = .cell) && ((!decide (z.2 = .local) || decide (z.1 = y)) && (!decide (z.2 = .free) || decide (sc.names.lookup z.1 = some .cell) || decide (sc.names.lookup z.1 = some .free))))))
theorem lamD_by {sc scope : Scope} {y : Str} (h : lamDB sc scope y = true) : LamD sc scope y := by
  unfold lamDB at h
  simp only [Bool.and_eq_true, Bool.or_eq_true, Bool.not_eq_true', decide_eq_true_eq, decide_eq_false_iff_not, List.all_eq_true] at h
  obtain ⟨h1, h2, h3, h4, h5⟩ := h
  refine ⟨h1, h2, h3, fun z hz => ⟨(h5 z hz).1, fun e => (h5 z hz).2.1.resolve_left fun n => n e⟩, h4, fun z hz e => ?_⟩
  rcases (h5 z hz).2.2 with (q | q) | q
  · exact absurd e q
  · exact .inl q
  · exact .inr q
theorem LamD.has {X : Cx} {scope : Scope} {y : Str} (L : LamD X.env.scope scope y) (ok : X.Ok) : ∀ z ∈ scope.names, z.2 = .free → ∃ c, X.env.cells.lookup z.1 = some c := fun z hz e => by
  rcases L.free z hz e with k | k
  · exact ok.has _ (.inl k)
  · exact ok.has _ (.inr k)
/-- the names that the body sees by their places -/
def nmOk (N N' : List Str) (y : Str) : Bool := decide (N'.length = N.length) && (N.zip N').all fun q => decide (q.2 = "") || (decide (q.1 = q.2) && decide (q.2 ≠ y))
theorem nmOk_ok {N N' : List Str} {y : Str} (h : nmOk N N' y = true) : ∀ (i : Nat) (x : Str), N'[i]? = some x → x = "" ∨ (N[i]? = some x ∧ x ≠ y) := fun i x hx => by
  unfold nmOk at h
  simp only [Bool.and_eq_true, decide_eq_true_eq, List.all_eq_true, Bool.or_eq_true] at h
  obtain ⟨h1, h2⟩ := h
  have hi : i < N'.length := (List.getElem?_eq_some_iff.mp hx).1
  have hz : (N.zip N')[i]? = some (N[i]'(by omega), x) := by
    rw [List.getElem?_zip_eq_some]
    exact ⟨List.getElem?_eq_getElem (by omega), hx⟩
  rcases h2 _ (List.mem_of_getElem? hz) with e | ⟨e1, e2⟩
  · exact .inl e
  · refine .inr ⟨?_, e2⟩
    rw [List.getElem?_eq_getElem (by omega)]
    exact congrArg some e1
def lamCxN (X : Cx) (N' : List Str) (A : Around) (outs : List Env) (s : Shared) (H : Hp) (E : XK) (scope : Scope) (f c' : Addr) : Cx := { lamCx X A outs s H E scope f c' with N := N' }
section
variable {X : Cx} {pins : List (Addr × Obj)} {σ : L2.St} {H HZ : Hp} {s s1 : Shared}
theorem lam_startD {A : Around} {outs : List Env} {E : XK} {scope : Scope} {f c' : Addr} {hn : Heap} {tk : Nat} {y : Str} {v0 : Value} {N' : List Str} (I : Inv X pins σ H s) (L : LamD X.env.scope scope y) (hN : ∀ (i : Nat) (x : Str), N'[i]? = some x → x = "" ∨ (X.N[i]? = some x ∧ x ≠ y))
    (hlen : N'.length = X.N.length) (hE : scope.names.lookup ("" : Str) = none) (e0 : Env0 X.prog X.w X.K X.mg X.base A outs s1 HZ) (hdl : A.handled = none)
    (uu : Un (frs X.stack) [] H HZ s.heap s1.heap) (hns : hn.Ns s1.heap.objs.size fun z => ([(y, v0)] : List (Str × Value)).reverse.lookup z) (kp : ∀ b o, s1.heap.get? b = some o → hn.get? b = some o) :
    Inv (lamCxN X N' A outs s1 HZ E scope f c') [] σ HZ { s1 with heap := hn, toks := tk } := by
  have hfr := L.has I.ok
  have cm : ∀ {z c}, (cloFrom X.env.cells scope.names []).lookup z = some c → X.env.cells.lookup z = some c := fun {z c} e => by
    rcases cloFrom_mem (PySem.mem_of_lookup e) with hm | ⟨q1, q2⟩
    · cases hm
    · obtain ⟨c1, hc1⟩ := hfr _ q1 rfl
      have hc1 : X.env.cells.lookup z = some c1 := hc1
      have ee : c = c1 := by
        rw [q2, hc1] <;> rfl
      rw [ee]
      exact hc1
  have see : ∀ {z}, scope.names.lookup z = some .free → ∃ c, (cloFrom X.env.cells scope.names []).lookup z = some c := fun {z} hl => by
    have hz : (z, NameKind.free) ∈ scope.names := PySem.mem_of_lookup hl
    exact mem_lookup (cloFrom_has (cells := X.env.cells) (acc := []) hz)
  have cellQ : ∀ {c : Addr} {v : Option Value}, H c = none → s.heap.IsCell c v → hn.IsCell c v := fun {c v} n ⟨o, ho, hd⟩ => by
    obtain ⟨sl, q⟩ := uu.any ho n (by simp)
    exact ⟨_, kp _ _ q, hd⟩
  have noex : ∀ b : Addr, b ∉ (lamCxN X N' A outs s1 HZ E scope f c').ex := fun b z => absurd (show b ∈ ([] : List Addr) from z) (by simp)
  refine ⟨⟨e0.mod, L.kind, rfl, rfl, Nat.le_refl _, fun x z c e1 e2 => I.ok.inj x z c (cm e1) (cm e2), fun z hz => ?_, fun z c q _ => ?_, fun _ => hdl, Around.frames_deeper e0.frames, .inr ⟨rfl, rfl⟩, fun b z => absurd z (noex b), e0.bs, e0.bsz, fun b _ _ => noex b,
      fun b z => absurd z (noex b), e0.funs, e0.frf⟩,
    rfl, e0.bare, Un.kept kp, ⟨_, hns, fun i x v e1 e2 e3 => ?_⟩, fun z c e => ?_, e0.hok.fresh (Nat.le_refl _), fun z c e => ?_, fun q hq => absurd (show q ∈ ([] : List (Addr × Obj)) ++ [] from hq) (by simp), e0.hok.kept kp, I.len.trans hlen.symm⟩
  · have hz : scope.names.lookup z = some .cell ∨ scope.names.lookup z = some .free := hz
    rcases hz with hz | hz
    · exact absurd rfl (L.own _ (PySem.mem_of_lookup hz)).1
    · exact see hz
  · have z : false = true := q
    cases z
  · have e3 : Vis scope x := e3
    have e1 : N'[i]? = some x := e1
    rcases hN i x e1 with rfl | ⟨e1', nx⟩
    · rcases e3 with k | k | k <;> rw [hE] at k <;> cases k
    · rcases e3 with k | k | k
      · exact absurd ((L.own _ (PySem.mem_of_lookup k)).2 rfl) nx
      · exact absurd rfl (L.own _ (PySem.mem_of_lookup k)).1
      · obtain ⟨m0, hn0, hl⟩ := I.loc
        have hv : Vis X.env.scope x := (L.free _ (PySem.mem_of_lookup k) rfl).elim (fun k => .inr (.inl k)) (fun k => .inr (.inr k))
        obtain ⟨u', r, q⟩ := hl i x v e1' e2 hv
        obtain ⟨c2, h2⟩ := see k
        refine ⟨u', r, .inr ⟨.inr k, c2, h2, ?_⟩⟩
        have c1 := cm h2
        rcases q with ⟨k', _⟩ | ⟨_, c3, e', z⟩
        · have k' : X.env.scope.names.lookup x = some .local := k'
          rcases L.free _ (PySem.mem_of_lookup k) rfl with k2 | k2 <;> rw [show X.env.scope.names.lookup x = _ from k2] at k' <;> cases k'
        · rw [c1] at e'
          cases e'
          exact cellQ (I.freeC x _ c1) z
  · obtain ⟨u', z'⟩ := I.cell z c (cm e)
    exact ⟨u', cellQ (I.freeC z c (cm e)) z'⟩
  · obtain ⟨v, o, ho, hd⟩ := I.cell z c (cm e)
    exact uu.free c o ho (I.freeC z c (cm e)) (by simp)
/-- the function object -/
abbrev lamOb (q : Str) (params : Arguments) (body : Expr) (scope : Scope) (cl : List (Str × Addr)) (T : Addr) (doc pm : Value) (c' : Addr) (ctv : Value) : Obj := PySem.W.kdv_obj "<lambda>" q params (.expr body) scope cl (.ref T) doc pm c' ctv
theorem lam_makeD {T : List (Addr × Str)} {c P : Addr} {params : Arguments} {body : Expr} {scope : Scope} {pos cpos : Pos} {ck : Nat} {i0 : Int} {Q : Value → Shared → Prop} (I : Inv X pins σ H s) (TB : TabB X.base X.mg c P) (hcode : X.env.code = .ref c)
    (hm : (P, X.env.qual ++ "<lambda>") ∈ T) (hu : ∀ p ∈ T, p.1 = P → p.2 = X.env.qual ++ "<lambda>") (hT : Tabs T H) (hdef : params.defaults = [.Constant (.int i0) ck cpos]) (hkw : params.kw_defaults = []) (hfree : ∀ z ∈ scope.names, z.2 = .free → ∃ c, X.env.cells.lookup z.1 = some c)
    (h : ∀ (f c' T0 : Addr) (tk0 : Tok) (doc pm ctv : Value) (H1 : Hp) (s' : Shared), Inv X pins σ H1 s' → ExtN H H1 → Tabs T H1 →
      s'.heap.get? f = some (lamOb (X.env.qual ++ "<lambda>") params body scope (cloFrom X.env.cells scope.names []) T0 doc pm c' ctv) → H1 f = none → f ∉ frs X.stack → s'.heap.get? T0 = some (PySem.W.kdv_tup [.int i0 tk0]) → H1 T0 = none → T0 ∉ frs X.stack →
      H1 c' = some (CodeO c' (X.env.qual ++ "<lambda>")) → Q (.ref f) s') :
    wpAny (model X.prog X.w) X.A (eval (.Lambda params body scope pos) X.env) Q X.xe s := by
  have nofr : ∀ f, s.heap.objs.size ≤ f → f ∉ frs X.stack := fun f hf z => by
    rcases List.mem_cons.mp (I.stkSub _ z) with e | e
    · have h1 := I.lt
      rw [← e] at h1
      exact Nat.lt_irrefl _ (Nat.lt_of_lt_of_le h1 hf)
    · exact I.nofs hf e
  refine PySem.W.kdv_lam (by rw [hdef]; rfl) hkw ?_
  rw [hdef]
  refine PySem.W.kdv_all1 ?_
  refine wpAny_mono ((pe_int (X := X) (i := i0) (j := ck) (pos := cpos)).run pins s σ H (fun v H1 => v = .int i0 ∧ H1 = H) I ⟨rfl, rfl⟩) (fun u s1 hq => ?_) fun _ _ z => z
  obtain ⟨v, H1, I1, r1, ev, eH⟩ := hq
  subst ev
  rw [eH] at I1
  obtain ⟨tk0, rfl⟩ : ∃ t, u = .int i0 t := r1
  refine PySem.W.kdv_all0 ?_
  rw [makeFunction_eq]
  simp only [List.zip_nil_right, List.filterMap_nil, List.isEmpty_nil, List.isEmpty_cons, if_true, pure_bind, Bool.false_eq_true, if_false]
  refine wpAny_bind (wpAny_newTextTuple ?_)
  have I2 : Inv X pins σ H { s1 with heap := s1.heap.push { cls := .type "tuple", data := .seq ([.int i0 tk0] : List Value).toArray } } := I1.kept fun b o e => Heap.get?_push_of_some _ e
  have hT0 : (s1.heap.push { cls := .type "tuple", data := .seq ([.int i0 tk0] : List Value).toArray }).get? s1.heap.objs.size = some (PySem.W.kdv_tup [.int i0 tk0]) := Heap.get?_push_size _ rfl
  have nT0 : H s1.heap.objs.size = none := I1.hok.fresh (Nat.le_refl _)
  have nofr : ∀ f, s1.heap.objs.size ≤ f → f ∉ frs X.stack := fun f hf z => by
    rcases List.mem_cons.mp (I1.stkSub _ z) with e | e
    · have h1 := I1.lt
      rw [← e] at h1
      exact Nat.lt_irrefl _ (Nat.lt_of_lt_of_le h1 hf)
    · exact I1.nofs hf e
  have szp : (s1.heap.push { cls := .type "tuple", data := .seq ([.int i0 tk0] : List Value).toArray }).objs.size = s1.heap.objs.size + 1 := by rw [Heap.size_push]
  generalize hT0e : s1.heap.objs.size = T0 at *
  generalize s1.heap.push { cls := .type "tuple", data := .seq ([.int i0 tk0] : List Value).toArray } = hp at *
  obtain ⟨ps, hP, ht, ha⟩ := hT _ hm
  have bP : hp.BuiltinsAt X.mg P := TB.bm.keeps I2.bk
  have hP' : hp.get? P = some { cls := .none, data := .fields ps } := I2.hok P _ hP
  have nTP : T0 ≠ P := fun z => by
    rw [z, hP] at nT0
    cases nT0
  cases hc : codeAmong pos ps.toList with
  | none =>
    refine PySem.W.kdv_makeTail (mg := X.mg) (c := c) (P := P) (ps := ps) (s := { s1 with heap := hp }) (closure_ok hfree) I.ok.glob (I.mod.glob.keeps I2.bk) hcode (TB.code.keeps I2.bk) hP' ht hc TB.gP bP fun c' ctv doc h' tk hx hge hlt hrec htb => ?_
    obtain ⟨c2, oc, vs, t, e2, hoc, hd, hv⟩ := hrec
    cases e2
    have hsz : hp.objs.size ≤ h'.objs.size := Nat.le_trans hge (Nat.le_of_lt hlt)
    have nC : H c' = none := I2.hok.fresh hge
    have I3 := inv_table (t' := tk) (more := #[rawInt pos.line, rawInt pos.col, .ref c']) (h' := h'.push (lamOb (X.env.qual ++ "<lambda>") params body scope (cloFrom X.env.cells scope.names []) T0 doc ((X.mg "__name__").getD .none) c' ctv)) I2 hP
      (fun b o hb e => Heap.get?_push_of_some _ (hx b o hb e)) (Heap.get?_push_of_some _ htb) hge ⟨oc, vs, t, Heap.get?_push_of_some _ hoc, hd, hv⟩
    have hE : ExtN H (upd (upd H P (.tbl (ps ++ #[rawInt pos.line, rawInt pos.col, .ref c']))) c' (CodeO c' (X.env.qual ++ "<lambda>"))) := fun b o e n => by
      rw [upd_ne (ne_of_none e nC), upd_ne (fun z => n ps (Option.some.inj (e.symm.trans (by rw [z]; exact hP))))]
      exact e
    have eL : (ps ++ #[rawInt pos.line, rawInt pos.col, .ref c']).toList = ps.toList ++ [rawInt pos.line, rawInt pos.col, .ref c'] := by simp
    have nTc : T0 ≠ c' := fun z => by
      have q : hp.objs.size ≤ c' := hge
      rw [szp, ← z] at q
      exact Nat.lt_irrefl _ q
    refine h h'.objs.size c' T0 tk0 doc ((X.mg "__name__").getD .none) ctv _ _ I3 hE (fun p hp' => ?_) (Heap.get?_push_size _ rfl) ?_ (nofr _ (Nat.le_trans (by rw [szp]; exact Nat.le_succ _) hsz)) (Heap.get?_push_of_some _ (hx _ _ nTP hT0)) ?_ (nofr _ (Nat.le_refl _)) upd_same
    · by_cases hb : p.1 = P
      · rw [hu p hp' hb, hb]
        refine ⟨_, by rw [upd_ne (ne_of_none hP nC), upd_same], by rw [eL]; exact PySem.TriplesOk_snoc _ _ _ _ ht, fun pp cv hcv => ?_⟩
        rw [eL] at hcv
        rcases among_app _ ht hcv with z | z
        · obtain ⟨c0, e1, e2⟩ := ha pp cv z
          exact ⟨c0, e1, hE _ _ e2 codeO_ne⟩
        · exact ⟨c', z, upd_same⟩
      · obtain ⟨ps', a1, a2, a3⟩ := hT p hp'
        refine ⟨ps', by rw [upd_ne (ne_of_none a1 nC), upd_ne hb]; exact a1, a2, fun pp cv hcv => ?_⟩
        obtain ⟨c0, e1, e2⟩ := a3 pp cv hcv
        exact ⟨c0, e1, hE _ _ e2 codeO_ne⟩
    · have n1 : h'.objs.size ≠ c' := Nat.ne_of_gt hlt
      have n2 : h'.objs.size ≠ P := Nat.ne_of_gt (Nat.lt_of_lt_of_le (Heap.lt_size hP') hsz)
      rw [upd_ne n1, upd_ne n2]
      exact I2.hok.fresh hsz
    · rw [upd_ne nTc, upd_ne nTP]
      exact nT0
  | some cv =>
    obtain ⟨c', e, hco⟩ := ha pos cv hc
    subst e
    refine PySem.W.kdv_makeTailHit (mg := X.mg) (c := c) (P := P) (ps := ps) (s := { s1 with heap := hp }) (closure_ok hfree) I.ok.glob (I.mod.glob.keeps I2.bk) hcode (TB.code.keeps I2.bk) hP' ht hc bP fun ctv doc h' tk hx hsz => ?_
    have I3 : Inv X pins σ H { s1 with heap := h'.push (lamOb (X.env.qual ++ "<lambda>") params body scope (cloFrom X.env.cells scope.names []) T0 doc ((X.mg "__name__").getD .none) c' ctv), toks := tk } := I2.kept fun b o e => Heap.get?_push_of_some _ (hx b o e)
    exact h h'.objs.size c' T0 tk0 doc ((X.mg "__name__").getD .none) ctv H _ I3 (ExtN.refl H) hT (Heap.get?_push_size _ rfl) (I2.hok.fresh hsz) (nofr _ (Nat.le_trans (by rw [szp]; exact Nat.le_succ _) hsz)) (Heap.get?_push_of_some _ (hx _ _ hT0)) nT0 (nofr _ (Nat.le_refl _)) hco
/-- a(), in the def that got the lambda -/
theorem act_D {Ng : List Str} {qg : Str} {sg : Scope} {g f c' T0 : Addr} {tk0 : Tok} {i0 : Int} {y : Str} {cdg doc pm ctv : Value} {params : Arguments} {body : Expr} {scope : Scope} {k i : Nat} {a : Str} {pn : List (Addr × Obj)} {xe : Value → Shared → Prop} {W : WX} {tb : XK → TE} {p1 p2 : Pos} {N' : List Str}
    (I : Inv X pins σ H s) (L : LamD X.env.scope scope y) (hNN : ∀ (i : Nat) (x : Str), N'[i]? = some x → x = "" ∨ (X.N[i]? = some x ∧ x ≠ y)) (hlen : N'.length = X.N.length) (hE : scope.names.lookup ("" : Str) = none)
    (hf : s.heap.get? f = some (lamOb (X.env.qual ++ "<lambda>") params body scope (cloFrom X.env.cells scope.names []) T0 doc pm c' ctv)) (hfn : H f = none) (hfr : f ∉ frs X.stack) (hT : s.heap.get? T0 = some (PySem.W.kdv_tup [.int i0 tk0])) (hTn : H T0 = none) (hTr : T0 ∉ frs X.stack)
    (bnd : ∃ kk : Option (Array Value) → Sem (List (Str × Value)), bindArgs (PySem.W.kdv_fn "<lambda>" (X.env.qual ++ "<lambda>") params (.expr body) scope (cloFrom X.env.cells scope.names []) (.ref T0) doc pm (.ref c') ctv) ⟨[], []⟩ = seqItems? (.ref T0) >>= kk ∧ kk (some ([.int i0 tk0] : List Value).toArray) = pure [(y, .int i0 tk0)])
    (tk : Takes ((cxOf C8.CX0 X.prog X.w X.K X.mg X.base Ng qg sg g cdg X.A X.stack s H C8.E0).tr pn xe) W) (rm : RG (k + 1) (X.A.deeper (envOfC qg sg s.heap.objs.size g cdg)))
    (bd : ∀ (A : Around) (out : List Env) (s : Shared) (H : Hp) (E : XK), RG k (A.deeper (lamEnv X scope s.heap.objs.size f c')) → PE (lamCxN X N' A out s H E scope f c') body (tb E))
    (hN : Ng[i]? = some a) (hv : Vis sg a) (hd : (a == ("__debug__" : Str)) = false) (hcd : (a == ("__classdict__" : Str)) = false) :
    PE ((cxOf C8.CX0 X.prog X.w X.K X.mg X.base Ng qg sg g cdg X.A X.stack s H C8.E0).tr pn xe) (.Call (.Name a p1) [] [] p2)
      (fun σZ HZ Q => σZ[i]? = some (some (.ref f)) ∧ HZ c' = some (CodeO c' (X.env.qual ++ "<lambda>")) ∧ ∃ E : XK, (∀ cls d H', E cls d H' → W cls d σZ H') ∧ tb E σ HZ Q) := by
  refine ⟨fun pinsZ sZ σZ HZ Q IZ hZ => ?_⟩
  obtain ⟨hs, hc, E, hW, ht⟩ := hZ
  refine wpAny_Call_Name_kw (thn ((pe_var (pos := p1) (i := i) hN hv hd hcd).run pinsZ sZ σZ HZ (fun v H1 => v = .ref f ∧ H1 = HZ) IZ ⟨.ref f, hs, rfl, rfl⟩) fun u s1 ⟨v, H1, I1, r1, ev, eH⟩ => ?_)
  subst ev
  subst eH
  obtain rfl : u = Value.ref f := r1
  have at1 : s1.heap.get? f = some (lamOb (X.env.qual ++ "<lambda>") params body scope (cloFrom X.env.cells scope.names []) T0 doc pm c' ctv) := I1.base.keep f _ hf hfn hfr List.not_mem_nil
  have atT : s1.heap.get? T0 = some (PySem.W.kdv_tup [.int i0 tk0]) := I1.base.keep T0 _ hT hTn hTr List.not_mem_nil
  refine PySem.W.callWith_F0 ⟨_, _, _, _, at1⟩ ?_
  have un1 : Un (frs X.stack) [] H H1 s.heap s1.heap := I1.base
  obtain ⟨⟨oc, vs, t, hoc, hdc, hvc⟩, _, _⟩ := I1.hok c' _ hc
  have runs : codeAny (model X.prog X.w) (X.A.deeper (envOfC qg sg s.heap.objs.size g cdg)) (.call (.ref f) ⟨[], []⟩) (CR (L2.CX X.prog X.w) (envOfC qg sg s.heap.objs.size g cdg :: X.stack) X.prog X.w H1 s1 Q E) s1 := by
    refine PySem.W.kla_callFunE rm.rm.depth at1 rfl L.co L.gen rfl ⟨c', oc, vs, t, rfl, hoc, hdc, hvc⟩ ?_
    obtain ⟨kk, b1, b2⟩ := bnd
    refine (BindsTo.of_defaults (binds := [(y, .int i0 tk0)]) rfl atT rfl b1 b2) _ _ _ _ ?_
    refine wpAny_newFunctionEnv (fun z hz => (L.own z hz).1) (fun z hz => by cases List.mem_singleton.mp hz; exact L.loc) (fun h₁ hns hsb => ⟨I1.nolimit.fresh _ hsb, ?_⟩) L.kind
    show codeAny _ _ (.expr body (lamEnv X scope s1.heap.objs.size f c')) _ _
    have kp1 : ∀ b o, s1.heap.get? b = some o → h₁.get? b = some o := fun b o q => hsb.extBut b o (Nat.ne_of_lt (Heap.lt_size q)) (Heap.get?_push_of_some _ q)
    have J : Inv (lamCxN X N' (X.A.deeper (envOfC qg sg s.heap.objs.size g cdg)) (envOfC qg sg s.heap.objs.size g cdg :: X.stack) s1 H1 E scope f c') [] σ H1 { s1 with heap := h₁, toks := s1.toks + ([(y, .int i0 tk0)] : List (Str × Value)).length } :=
      lam_startD I L hNN hlen hE I1.env0 rm.rm.hd un1 hns kp1
    refine PySem.W.kla_codeExpr (wpAny_mono ((bd _ _ s1 H1 E (rm.down _)).run [] _ _ H1 Q J ht) (fun v s' hq => ?_) fun _ _ z => z)
    obtain ⟨w', H', J', rv, q⟩ := hq
    exact ⟨w', H', J'.os, J'.bare, J'.base, J'.hok, rv, q⟩
  refine wpAny_call (codeAny_mono runs fun r s' hq => ?_)
  match r, hq with
  | .error u, hq => exact tk u s' (XE.of_call I1 (fun cls d H' z => hW cls d H' z) hq)
  | .ok (.ret u), hq => exact I1.after hq
  | .ok .next, hq => exact hq.elim
  | .ok .brk, hq => exact hq.elim
  | .ok .cont, hq => exact hq.elim
/-- g(lambda y=0: body) -/
theorem pe_lamD {T : List (Addr × Str)} {TT : (XK → Hp → VK → Prop) → Hp → VK → Prop} {x a : Str} {g c P : Addr} {k : Nat} {sd : Stmt} {Ng N' : List Str} {i0 : Int} {y : Str} {cpos : Pos} {ck : Nat}
    {params : Arguments} {body : Expr} {scope : Scope} {t : XK → TE} {p lpos pos : Pos} (hg : Gl X x) (hm : X.mg x = some (.ref g)) (F : ∃ fd, Fun X.K x x sd g fd ∧ L2.Binds X.K fd [a] []) (Sg : FnScope Ng [a] (defScope sd)) (hNg : Ng[0]? = some a) (hva : Vis (defScope sd) a)
    (hG : ∀ cdv : Value, GivesA X Ng x (defScope sd) g cdv (defBody sd) a (X.env.qual ++ "<lambda>") TT)
    (TO : TabO X T c P) (hr : RG (k + 2) X.A) (L : LamD X.env.scope scope y) (hNN : nmOk X.N N' y = true) (hE : scope.names.lookup ("" : Str) = none) (hdef : params.defaults = [.Constant (.int i0) ck cpos]) (hkw : params.kw_defaults = [])
    (hbind : ∀ (q : Str) (cl : List (Str × Addr)) (T0 : Addr) (tk0 : Tok) (doc pm cv ctv : Value), ∃ kk : Option (Array Value) → Sem (List (Str × Value)), bindArgs (PySem.W.kdv_fn "<lambda>" q params (.expr body) scope cl (.ref T0) doc pm cv ctv) ⟨[], []⟩ = seqItems? (.ref T0) >>= kk ∧ kk (some ([.int i0 tk0] : List Value).toArray) = pure [(y, .int i0 tk0)])
    (hbody : ∀ (A : Around) (out : List Env) (s : Shared) (H : Hp) (E : XK) (f c' : Addr), RG k (A.deeper (lamEnv X scope s.heap.objs.size f c')) → PE (lamCxN X N' A out s H E scope f c') body (t E))
    (hdb : (x == ("__debug__" : Str)) = false := by decide) (hd : (a == ("__debug__" : Str)) = false := by decide) (hcd : (a == ("__classdict__" : Str)) = false := by decide) :
    PE X (.Call (.Name x p) [.Lambda params body scope lpos] [] pos) (tLam T TT t) := by
  refine ⟨fun pins s σ H Q I h => ?_⟩
  obtain ⟨hT, h⟩ := h
  obtain ⟨fd, F, hb⟩ := F
  obtain ⟨oc, od, kV, doc, pm, an, cdv, ct, osl, hfd, lk, hcg⟩ := F.ex
  subst hfd
  have hlen : N'.length = X.N.length := by
    unfold nmOk at hNN
    rw [Bool.and_eq_true] at hNN
    exact of_decide_eq_true hNN.1
  refine wpAny_Call_Name_kw (ld_glob I hg hm ?_ hdb)
  refine PySem.W.callWith_K (h₀ := X.base) I.ok.mod.kin F.kp ?_ (by rfl) (by rfl)
  show wpAny _ _ (spliced ((false, eval (.Lambda params body scope lpos) X.env) :: backTo pos (starEach [] X.env))) _ _ s
  refine Calls.spliced_cons (lam_makeD I TO.tb TO.cd TO.mem TO.one hT hdef hkw (L.has I.ok) fun f c' T0 tk0 doc2 pm' ctv H1 s' I1 eN T1 hf hfn hfr hT0 hTn hTr hco => ?_)
  refine Calls.spliced_nil ⟨I1.kIn, ?_⟩
  have res : codeAny (model X.prog X.w) X.A (.call (.ref g) ⟨[.ref f], []⟩) (CR C8.CX0 X.stack X.prog X.w H1 s' Q C8.E0) s' := by
    refine run_ofS (N := Ng) (ps := [a]) (us := [.ref f]) (vs := [.ref f]) (k := k + 1) lk hcg Sg hr.rm I1.env0 (hb s' [.ref f] I1.kIn rfl) (.cons rfl .nil) rfl fun _ => ?_
    obtain ⟨t', ht', hq'⟩ := hG cdv f c' s' H1 Q (fun E H' Q' => t E σ H' Q') (fun W pn xe p1 p2 tk => act_D (i := 0) (tb := t) I1 L (nmOk_ok hNN) hlen hE hf hfn hfr hT0 hTn hTr (hbind _ _ _ _ _ _ _ _) tk (hr.down _) (fun A out s H E hr2 => hbody A out s H E f c' hr2) hNg hva hd hcd) hco (h H1 eN T1)
    exact ⟨t', ht'.nox, hq'⟩
  refine wpAny_call (codeAny_mono res fun r s2 hq => ?_)
  match r, hq with
  | .error u, hq => exact (show False from hq).elim
  | .ok (.ret u), hq => exact I1.after hq
  | .ok .next, hq => exact hq.elim
  | .ok .brk, hq => exact hq.elim
  | .ok .cont, hq => exact hq.elim
end
/-! passes within such a lambda -/
theorem passN {CX0 : CXT} {P : Program} {w : World} {K : PySem.W.Frag} {mg : Str → Option Value} {base : Heap} {N N' : List Str} {q : Str} {sc0 : Scope} {f0 : Addr} {cd : Value} {A0 : Around} {out0 : List Env} {s0 : Shared} {H0 : Hp} {E0 : XK} {A : Around} {out : List Env} {s : Shared} {H : Hp} {E : XK} {sc : Scope} {f c : Addr} :
    Passes (L2.CX P w) (lamCxN (cxOf CX0 P w K mg base N q sc0 f0 cd A0 out0 s0 H0 E0) N' A out s H E sc f c) E := passes_call (takes_of rfl rfl rfl rfl) fun _ _ _ _ h => h
end Dn
namespace Dn
open PySem PySem.Spec PyProof.Rows L2 LamX

/-! found, error = None, None: a tuple that is there already -/
section
variable {X : Cx} {G : Cl} {Ng : List Str} {x a q : Str} {sg : Scope} {g C1 C2 : Addr} {cdg : Value} {bg : List Stmt} {n : Nat} {ok : Nat → Bool} {trest : TS} {frest : DS}
theorem heard_coreN (hN : L2.start Ng [V.non] = some V.non :: none :: none :: none :: List.replicate n none) (hlen : Ng.length = n + 4) (hG : G.K = X.K)
    (hk : ∀ (f c' : Addr) (s : Shared) (H : Hp) (tl : XK → Hp → VK → Prop),
      (∀ (W : WX) (pn : List (Addr × Obj)) (xe : Value → Shared → Prop) (p1 p2 : Pos), Takes ((cxOf C8.CX0 X.prog X.w X.K X.mg X.base Ng x sg g cdg X.A X.stack s H C8.E0).tr pn xe) W →
        PE ((cxOf C8.CX0 X.prog X.w X.K X.mg X.base Ng x sg g cdg X.A X.stack s H C8.E0).tr pn xe) (.Call (.Name a p1) [] [] p2) (fun σZ HZ Q => σZ[0]? = some (some (.ref f)) ∧ HZ c' = some (CodeO c' q) ∧ ∃ E : XK, (∀ cls d H', E cls d H' → W cls d σZ H') ∧ tl E HZ Q)) →
      PSs (cxOf C8.CX0 X.prog X.w X.K X.mg X.base Ng x sg g cdg X.A X.stack s H C8.E0).nox bg (tSeq (tAsg (tTup (tCons (tC .non) (tCons (tC .non) tNil))) (gTup X.K 2 (gCons (gName 1) (gCons (gName 2) gNil)))) (tSeq (tGot f c' q tl G.K C1 C2 false) trest)))
    (hrest : Ds G C8.E0 trest frest) (hok : ∀ c, ok c = true → PySem.W.exmAny G.K (.ref (G.xc c)) [.ref C1, .ref C2] = some true) :
    GivesA X Ng x sg g cdg bg a q (TTh G (heardD ok false n frest)) := by
  intro f c' s H Q tl act hc h
  refine ⟨_, hk f c' s H tl act, ?_⟩
  obtain ⟨M, m, r, st, htl, hp⟩ := h
  have e0 : EnvR G (bxOf G H M m) M (fun _ => 0) (none :: none :: none :: none :: List.replicate n none) m (some (V.ref f) :: none :: none :: none :: List.replicate n none) H := by
    have z := env_start (N := Ng) (vs := [V.non]) (ds := [D.non]) st (.cons .non .nil) (fun _ => 0)
    have er : ro0 Ng.length [D.non] = some (.v .non) :: none :: none :: none :: List.replicate n none := by
      unfold ro0
      rw [hlen]
      rfl
    rw [er, hN] at z
    refine (z.clr (i := 0)).keepσ rfl fun i s hi => ?_
    match i, hi with
    | i + 1, _ => rfl
  have es : L2.start Ng [V.ref f] = some (V.ref f) :: none :: none :: none :: List.replicate n none := by
    have z : L2.start Ng [V.ref f] = (L2.start Ng [V.non]).set 0 (some (V.ref f)) := rfl
    rw [z, hN]
    rfl
  rw [es]
  refine ⟨by show 2 ≤ sizeLine; decide, fun t ht => ⟨t, _, rfl, SqT.of upd_same, rfl, _, _, rfl, _, _, rfl, rfl, ?_⟩⟩
  have x1 : ExN H (upd H t (.tup [.non, .non])) := ExN.new ht
  have e1 := (((e0.go (e0.same x1)).setv (i := 1) (d := iniD false) .non).setv (i := 2) .non)
  exact got_run hok hrest st htl hc hp e1 (x1.k _ _ (fun z => z) codeO_ne hc)
/-- found = call() -/
theorem heard_3N {nt ne nx x1 x2 : Str} {p1 p2 p3 p4 p5 p6 p7 r1 r2 r3 r5 q1 q2 q3 s1 s2 s3 pos pos' : Pos} {k1 k2 k3 k4 k5 : Nat} {rest : List Stmt} (hG : G.K = X.K)
    (hN : L2.start Ng [V.non] = some V.non :: none :: none :: none :: List.replicate n none) (hlen : Ng.length = n + 4) (nd : Ng.Nodup) (h1 : Ng[1]? = some nt) (h2 : Ng[2]? = some nx) (h3 : Ng[3]? = some ne)
    (l1 : sg.names.lookup nt = some .local) (l2 : sg.names.lookup nx = some .local) (l3 : sg.names.lookup ne = some .local) (v3 : Vis sg ne) (hd1 : (ne == ("__debug__" : Str)) = false) (hd2 : (ne == ("__classdict__" : Str)) = false)
    (n1 : sg.names.lookup x1 = some .globalImplicit ∧ X.mg x1 = some (.ref C1) ∧ (x1 == ("__debug__" : Str)) = false) (n2 : sg.names.lookup x2 = some .globalImplicit ∧ X.mg x2 = some (.ref C2) ∧ (x2 == ("__debug__" : Str)) = false)
    (has : ∀ (s : Shared) (H : Hp), PS (cxOf C8.CX0 X.prog X.w X.K X.mg X.base Ng x sg g cdg X.A X.stack s H C8.E0).nox (.Assign [.Tuple [.Name nt p1, .Name nx p2] k1 p3] (.Tuple [.Constant .none k5 p4, .Constant .none k2 p5] k3 p6) p7) (tAsg (tTup (tCons (tC .non) (tCons (tC .non) tNil))) (gTup X.K 2 (gCons (gName 1) (gCons (gName 2) gNil)))))
    (hrest : Ds G C8.E0 trest frest) (hr : ∀ (s : Shared) (H : Hp), PSs (cxOf C8.CX0 X.prog X.w X.K X.mg X.base Ng x sg g cdg X.A X.stack s H C8.E0).nox rest trest) (hok : ∀ c, ok c = true → PySem.W.exmAny G.K (.ref (G.xc c)) [.ref C1, .ref C2] = some true) :
    GivesA X Ng x sg g cdg (.Assign [.Tuple [.Name nt p1, .Name nx p2] k1 p3] (.Tuple [.Constant .none k5 p4, .Constant .none k2 p5] k3 p6) p7 ::
      .Try [.Assign [.Name nt r1] (.Call (.Name a r2) [] [] r3) r5] [.ExceptHandler (some (.Tuple [.Name x1 q1, .Name x2 q2] k4 q3)) (some ne) [.Assign [.Name nx s1] (.Name ne s2) s3] pos'] [] [] pos :: rest) a q (TTh G (heardD ok false n frest)) := by
  refine heard_coreN hN hlen hG (fun f c' s H tl act => ?_) hrest hok
  refine pss_cons (has s H) (pss_cons ?_ (hr s H))
  rw [hG]
  exact ps_try_got (X := (cxOf C8.CX0 X.prog X.w X.K X.mg X.base Ng x sg g cdg X.A X.stack s H C8.E0).nox) (tb := fun W => tAsg (wrT false fun σ H Q => σ[0]? = some (some (.ref f)) ∧ H c' = some (CodeO c' q) ∧ ∃ E : XK, (∀ cls d H', E cls d H' → W cls d σ H') ∧ tl E H Q) (gName 1)) (ts := tAsg (tVar 3) (gName 2))
    rfl rfl nd (i := 3) h3 l3 ⟨n1.1, n1.2.1, n1.2.2⟩ ⟨n2.1, n2.2.1, n2.2.2⟩ (fun W pn xe tk _ => pss_one (ps_set (i := 1) nd h1 (.inl l1) (act W pn xe r2 r3 tk))) fun a pn => pss_one (ps_set (i := 2) nd h2 (.inl l2) (pe_var (i := 3) h3 v3 hd1 hd2))
end
end Dn
namespace Dn
open PySem PySem.Spec PyProof.Rows L2

/-! a, b, c = x, y, z: new lists and dicts among them that are changed later -/
section
variable {G : Cl} {B : Bx} {M : AP} {pm : Nat → Addr} {ρ : Ro} {m m' : Mo} {σ : L2.St} {H H' : Hp}
/-- what a list or dict at p is, all else being known to avoid p -/
def CnAt (G : Cl) (ad : Ad) (M : AP) (H : Hp) (p : Addr) : Sv → Prop
  | .v _ => False
  | .ml ds => ∃ vs, H p = some (.lst vs) ∧ Reps G ad M H vs ds
  | .mk l => ∃ kvs : List (Key × V), H p = some (.dK kvs) ∧ kvs.map (·.1) = l.map (·.1) ∧ Reps G ad M H (kvs.map (·.2)) (l.map (·.2))
  | .mn l => ∃ kvs : List (NestedKey × Addr × V) × Obj, H p = some (dN G.w p kvs) ∧ kvs.1.map (·.1) = l.map (·.1) ∧ Reps G ad M H (kvs.1.map fun p => V.ref p.2.1) (kDs (l.map (·.1))) ∧ Reps G ad M H (kvs.1.map (·.2.2)) (l.map (·.2))
theorem CnAt.mu {ad : Ad} {p : Addr} {s : Sv} (h : CnAt G ad M H p s) : s.mu = true := by
  cases s with
  | v d => exact h.elim
  | ml _ => rfl
  | mk _ => rfl
  | mn _ => rfl
theorem CnAt.live {ad : Ad} {p : Addr} {s : Sv} (h : CnAt G ad M H p s) : Liv H p := by
  cases s with
  | v d => exact h.elim
  | ml ds =>
    obtain ⟨vs, h1, _⟩ := h
    exact ⟨_, h1, fun ps z => by cases z⟩
  | mk l =>
    obtain ⟨vs, h1, _⟩ := h
    exact ⟨_, h1, fun ps z => by cases z⟩
  | mn l =>
    obtain ⟨vs, h1, _⟩ := h
    exact ⟨_, h1, dN_ntbl⟩
theorem CnAt.mono {ad : Ad} {p : Addr} {s : Sv} {A M' : AP} (h : CnAt G ad M H p s) (e : Ext A H H') (hA : ∀ b, A b → M b) (hM : ∀ b, M' b → M b) (n : ¬ A p) : CnAt G ad M' H' p s := by
  cases s with
  | v d => exact h.elim
  | ml ds =>
    obtain ⟨vs, h1, h2⟩ := h
    exact ⟨vs, e _ _ n (fun ps z => by cases z) h1, h2.mono e hA hM⟩
  | mk l =>
    obtain ⟨vs, h1, h2, h3⟩ := h
    exact ⟨vs, e _ _ n (fun ps z => by cases z) h1, h2, h3.mono e hA hM⟩
  | mn l =>
    obtain ⟨vs, h1, h2, h3, h4⟩ := h
    exact ⟨vs, e _ _ n dN_ntbl h1, h2, h3.mono e hA hM, h4.mono e hA hM⟩
theorem CnAt.off {ad : Ad} {p q : Addr} {s : Sv} (h : CnAt G ad M H p s) (o : ¬ Liv H q) : CnAt G ad (fun b => M b ∨ b = q) H p s := by
  cases s with
  | v d => exact h.elim
  | ml ds =>
    obtain ⟨vs, h1, h2⟩ := h
    exact ⟨vs, h1, h2.off o⟩
  | mk l =>
    obtain ⟨vs, h1, h2, h3⟩ := h
    exact ⟨vs, h1, h2, h3.off o⟩
  | mn l =>
    obtain ⟨vs, h1, h2, h3, h4⟩ := h
    exact ⟨vs, h1, h2, h3.off o, h4.off o⟩
theorem NewAt.cn {p : Addr} {s : Sv} (n : NewAt G B M H p s) : CnAt G B.ad (fun b => M b ∨ b = p) H p s := by
  cases s <;> exact n
/-- a new list or dict, kept aside -/
theorem EnvR.aside {p : Addr} (e : EnvR G B M pm ρ m σ H) (hp : ¬ Liv H p) (g : Go G B M m' H H') (lp : Liv H' p) (mr' : MRep G (fun b => M b ∨ b = p) H' m') : EnvR G (B.plus p) (fun b => M b ∨ b = p) pm ρ m' σ H' := by
  obtain ⟨o1, o2, o3⟩ := e.offX hp
  have x := g.x
  have up : ∀ {v : V} {d : D}, Rep G B.ad M H v d → Rep G B.ad (fun b => M b ∨ b = p) H' v d := fun {v d} r => (r.off hp).ext x fun b hb => .inl (e.aM b hb)
  have ups : ∀ {v : List V} {d : List D}, Reps G B.ad M H v d → Reps G B.ad (fun b => M b ∨ b = p) H' v d := fun {v d} r => (r.off hp).ext x fun b hb => .inl (e.aM b hb)
  refine ⟨fun b h => ?_, fun b h => ?_, g.ea, g.eh, e.len, fun i d h => ?_, fun i ds h => ?_, fun i l h => ?_, fun i l h => ?_, e.inj, fun i hi => ⟨(e.fr i hi).1, fun z => z.elim (e.fr i hi).2 fun q => ?_⟩, fun b hb => ?_, mr', fun b hb z => z.elim (e.mx b hb) fun q => o3 (q ▸ hb), e.mut, e.ext.trans x, g.tb, e.tt⟩
  · rcases h with h | (h | h) | h
    · exact .inl (e.em b (.inl h))
    · exact .inl (e.em b (.inr (.inl h)))
    · exact .inr h
    · exact .inl (e.em b (.inr (.inr h)))
  · rcases h with h | h
    · exact (e.go g).hl b h
    · rw [h]
      exact lp
  · obtain ⟨v, h1, h2⟩ := e.sv i d h
    exact ⟨v, h1, up h2⟩
  · obtain ⟨v, h1, h2, h3⟩ := e.sl i ds h
    exact ⟨v, h1, x _ _ (e.mut i ⟨_, h, rfl⟩) (fun ps z => by cases z) h2, ups h3⟩
  · obtain ⟨v, h1, h2, h3, h4⟩ := e.sk i l h
    exact ⟨v, h1, x _ _ (e.mut i ⟨_, h, rfl⟩) (fun ps z => by cases z) h2, h3, ups h4⟩
  · obtain ⟨v, h1, h2, h3, h4, h5⟩ := e.sn i l h
    exact ⟨v, h1, x _ _ (e.mut i ⟨_, h, rfl⟩) dN_ntbl h2, h3, ups h4, ups h5⟩
  · exact hp (q ▸ e.hl (pm i) (e.em _ (.inr (.inr ⟨i, hi, rfl⟩))))
  · rcases hb with hb | hb
    · exact (e.xs b hb).ext x fun z => e.mx b z hb
    · rw [hb]
      exact lp
/-- what was kept aside gets a name -/
theorem EnvR.named {i : Nat} {p : Addr} {s : Sv} (e : EnvR G (B.plus p) M pm ρ m σ H) (o1 : ¬ Liv B.H0 p) (o2 : ¬ B.X p) (o3 : ¬ B.A p) (n : CnAt G B.ad M H p s) (hi : i < ρ.length) :
    EnvR G B M (fun j => if j = i then p else pm j) (ρ.set i (some s)) m (σ.set i (some (.ref p))) H := by
  have hmu := n.mu
  have hMp : M p := e.em p (.inr (.inl (.inr rfl)))
  have old : ∀ {j : Nat}, isM (ρ.set i (some s)) j → j = i ∨ (j ≠ i ∧ isM ρ j) := fun {j} hj => by
    rcases isM_set hj with ⟨z, _, _⟩ | ⟨z1, z⟩
    · exact .inl z
    · exact .inr ⟨z1, z⟩
  have npm : ∀ j, isM ρ j → pm j ≠ p := fun j hj z => (e.fr j hj).2 (.inr z)
  refine ⟨fun b h => ?_, e.hl, e.ea, e.eh, by rw [List.length_set, List.length_set, e.len], fun j d' hj => ?_, fun j ds hj => ?_, fun j l hj => ?_, fun j l hj => ?_, fun a b ha hb hab => ?_, fun a ha => ?_, fun b hb => e.xs b (.inl hb), e.mr, fun b hb z => e.mx b hb (.inl z), fun a ha => ?_, e.ext, e.tb, e.tt⟩
  · rcases h with h | h | ⟨j, hj, hb⟩
    · exact e.em b (.inl h)
    · exact e.em b (.inr (.inl (.inl h)))
    · rcases old hj with z | ⟨z, z2⟩
      · have q : p = b := by rw [← hb]; exact (if_pos z).symm
        rw [← q]
        exact hMp
      · exact e.em b (.inr (.inr ⟨j, z2, by rw [← hb]; exact (if_neg z).symm⟩))
  · by_cases hji : j = i
    · subst hji
      rw [List.getElem?_set_self hi] at hj
      cases hj
      exact n.elim
    · rw [List.getElem?_set_ne (Ne.symm hji)] at hj
      obtain ⟨w, h1, h2⟩ := e.sv j d' hj
      exact ⟨w, by rw [List.getElem?_set_ne (Ne.symm hji)]; exact h1, h2⟩
  · by_cases hji : j = i
    · subst hji
      rw [List.getElem?_set_self hi] at hj
      cases hj
      obtain ⟨vs, h1, h2⟩ := n
      exact ⟨vs, by rw [if_pos rfl, List.getElem?_set_self (by rw [e.len]; exact hi)], by rw [if_pos rfl]; exact h1, h2⟩
    · rw [List.getElem?_set_ne (Ne.symm hji)] at hj
      obtain ⟨w, h1, h2, h3⟩ := e.sl j ds hj
      exact ⟨w, by rw [List.getElem?_set_ne (Ne.symm hji), if_neg hji]; exact h1, by rw [if_neg hji]; exact h2, h3⟩
  · by_cases hji : j = i
    · subst hji
      rw [List.getElem?_set_self hi] at hj
      cases hj
      obtain ⟨vs, h1, h2, h3⟩ := n
      exact ⟨vs, by rw [if_pos rfl, List.getElem?_set_self (by rw [e.len]; exact hi)], by rw [if_pos rfl]; exact h1, h2, h3⟩
    · rw [List.getElem?_set_ne (Ne.symm hji)] at hj
      obtain ⟨w, h1, h2, h3, h4⟩ := e.sk j l hj
      exact ⟨w, by rw [List.getElem?_set_ne (Ne.symm hji), if_neg hji]; exact h1, by rw [if_neg hji]; exact h2, h3, h4⟩
  · by_cases hji : j = i
    · subst hji
      rw [List.getElem?_set_self hi] at hj
      cases hj
      obtain ⟨vs, h1, h2, h3, h4⟩ := n
      exact ⟨vs, by rw [if_pos rfl, List.getElem?_set_self (by rw [e.len]; exact hi)], by rw [if_pos rfl]; exact h1, h2, h3, h4⟩
    · rw [List.getElem?_set_ne (Ne.symm hji)] at hj
      obtain ⟨w, h1, h2, h3, h4, h5⟩ := e.sn j l hj
      exact ⟨w, by rw [List.getElem?_set_ne (Ne.symm hji), if_neg hji]; exact h1, by rw [if_neg hji]; exact h2, h3, h4, h5⟩
  · rcases old ha with rfl | ⟨z1, z2⟩ <;> rcases old hb with h | ⟨y1, y2⟩
    · exact h.symm
    · simp only [if_true, if_neg y1] at hab
      exact absurd hab.symm (npm b y2)
    · subst h
      simp only [if_true, if_neg z1] at hab
      exact absurd hab (npm a z2)
    · simp only [if_neg z1, if_neg y1] at hab
      exact e.inj a b z2 y2 hab
  · rcases old ha with rfl | ⟨z1, z2⟩
    · simp only [if_true]
      exact ⟨o1, o2⟩
    · simp only [if_neg z1]
      exact ⟨(e.fr a z2).1, fun z => (e.fr a z2).2 (.inl z)⟩
  · rcases old ha with rfl | ⟨z1, z2⟩
    · simp only [if_true]
      exact o3
    · simp only [if_neg z1]
      exact e.mut a z2
end
/-! values in a row, new ones kept aside -/
def Bx.plusL (B : Bx) : List Addr → Bx
  | [] => B
  | p :: ps => (B.plus p).plusL ps
def MpL (M : AP) : List Addr → AP
  | [] => M
  | p :: ps => MpL (fun b => M b ∨ b = p) ps
theorem MpL.sub {M : AP} : ∀ {ps : List Addr} {b : Addr}, M b → MpL M ps b
  | [], _, h => h
  | _ :: ps, _, h => MpL.sub (ps := ps) (.inl h)
theorem plusL_f {B : Bx} : ∀ {ps : List Addr}, (B.plusL ps).A = B.A ∧ (B.plusL ps).ad = B.ad ∧ (B.plusL ps).H0 = B.H0 ∧ (B.plusL ps).T = B.T
  | [] => ⟨rfl, rfl, rfl, rfl⟩
  | p :: ps => by
    obtain ⟨h1, h2, h3, h4⟩ := plusL_f (B := B.plus p) (ps := ps)
    exact ⟨h1, h2, h3, h4⟩
/-- the values and what stands aside for them, from the left -/
inductive VsR (G : Cl) (M : AP) (H : Hp) : Bx → List V → List Sv → List Addr → Prop
  | nil {B : Bx} : VsR G M H B [] [] []
  | v {B : Bx} {v : V} {d : D} {vs : List V} {ss : List Sv} {ps : List Addr} (r : Rep G B.ad M H v d) (t : VsR G M H B vs ss ps) : VsR G M H B (v :: vs) (.v d :: ss) ps
  | n {B : Bx} {p : Addr} {s : Sv} {vs : List V} {ss : List Sv} {ps : List Addr} (o1 : ¬ Liv B.H0 p) (o2 : ¬ B.X p) (o3 : ¬ B.A p) (c : CnAt G B.ad M H p s) (t : VsR G M H (B.plus p) vs ss ps) : VsR G M H B (.ref p :: vs) (s :: ss) (p :: ps)
abbrev DVs := Ro → Mo → R (List Sv)
def PostVs (G : Cl) (E : XK) (B : Bx) (M : AP) (pm : Nat → Addr) (ρ : Ro) (σ : L2.St) (H : Hp) (r : R (List Sv)) (Q : List V → Hp → Prop) : Prop := match r with
  | .bad => False
  | .ok ss m' => ∀ vs ps H', EnvR G (B.plusL ps) (MpL M ps) pm ρ m' σ H' → VsR G (MpL M ps) H' B vs ss ps → Ext B.A H H' → (∀ b, MpL M ps b → M b ∨ ¬ Liv H b) → Q vs H'
  | .exc c l m' => ∀ cls dd H', Go G B (MB B) m' B.H0 H' → XRep G B.ad (MB B) H' c l cls dd → E cls dd H'
structure Dvs (G : Cl) (E : XK) (t : TA) (f : DVs) : Prop where
  run : ∀ {B : Bx} {M : AP} {pm : Nat → Addr} {ρ : Ro} {m : Mo} {σ : L2.St} {H : Hp}, EnvR G B M pm ρ m σ H → ∀ Q : List V → Hp → Prop, PostVs G E B M pm ρ σ H (f ρ m) Q → t σ H Q
def dvsNil : DVs := fun _ m => .ok [] m
def dvsCons (f : DV) (g : DVs) : DVs := fun ρ m => (f ρ m).bind fun s m1 => (g ρ m1).bind fun ss m2 => .ok (s :: ss) m2
section
variable {G : Cl} {E : XK}
theorem dvs_nil : Dvs G E tNil dvsNil := ⟨fun {B M pm ρ m σ H} e Q p => p [] [] H e .nil .refl fun _ h => .inl h⟩
theorem dvs_cons {t : TE} {f : DV} {u : TA} {g : DVs} (hf : Dv G E t f) (hg : Dvs G E u g) : Dvs G E (tCons t u) (dvsCons f g) := ⟨fun {B M pm ρ m σ H} e Q p => by
  unfold dvsCons at p
  refine hf.run e _ ?_
  cases hr : f ρ m with
  | bad => rw [hr] at p; exact p
  | exc c l m1 =>
    rw [hr] at p
    exact fun cls dd H' g' hx => p cls dd H' (Go.ofEnv e g') (hx.less e.mb)
  | ok s m1 =>
    rw [hr] at p
    intro v H1 g1 r1
    have p1 : PostVs G E B M pm ρ σ H ((g ρ m1).bind fun ss m2 => .ok (s :: ss) m2) Q := p
    have e1 := e.go g1
    -- a value that stays
    have plain : ∀ d, s = .v d → Rep G B.ad M H1 v d → u σ H1 fun vs H2 => Q (v :: vs) H2 := fun d hs rv => by
      subst hs
      refine hg.run e1 _ ?_
      cases hr2 : g ρ m1 with
      | bad => rw [hr2] at p1; exact p1
      | exc c l m2 => rw [hr2] at p1; exact p1
      | ok ss m2 =>
        rw [hr2] at p1
        intro vs ps H2 e2 w2 x2 k2
        obtain ⟨fA, fa, _, _⟩ := plusL_f (B := B) (ps := ps)
        have rz : Rep G B.ad (MpL M ps) H2 v d := by
          have z : Rep G B.ad (fun b => M b ∨ MpL M ps b) H1 v d := Rep.or k2 rv
          exact (z.ext x2 fun b hb => .inl (e.aM b hb)).less fun b hb => .inr hb
        refine p1 (v :: vs) ps H2 e2 (.v rz w2) (g1.x.trans x2) fun b hb => ?_
        · rcases k2 b hb with q | q
          · exact .inl q
          · by_cases hm : M b
            · exact .inl hm
            · exact .inr fun l => q (l.ext g1.x fun z => hm (e.aM b z))
    -- a new one
    have fresh : ∀ q, v = .ref q → ¬ Liv H q → NewAt G B M H1 q s → MRep G (fun b => M b ∨ b = q) H1 m1 → u σ H1 fun vs H2 => Q (v :: vs) H2 := fun q hv hq n mr => by
      subst hv
      obtain ⟨o1, o2, o3⟩ := e.offX hq
      have c1 := n.cn
      have e1' := e.aside hq g1 c1.live mr
      refine hg.run e1' _ ?_
      cases hr2 : g ρ m1 with
      | bad => rw [hr2] at p1; exact p1
      | exc c l m2 =>
        rw [hr2] at p1
        intro cls dd H' g' hx
        have sub : ∀ b, MB B b → MB (B.plus q) b := fun b h => h.elim .inl fun z => .inr (.inl z)
        exact p1 cls dd H' ⟨g'.x, g'.ea, g'.eh, g'.mr.less sub, g'.tb⟩ (hx.less sub)
      | ok ss m2 =>
        rw [hr2] at p1
        intro vs ps H2 e2 w2 x2 k2
        have cz : CnAt G B.ad (MpL (fun b => M b ∨ b = q) ps) H2 q s := by
          have z : CnAt G B.ad (fun b => (M b ∨ b = q) ∨ MpL (fun b => M b ∨ b = q) ps b) H1 q s := by
            cases s with
            | v d => exact c1.elim
            | ml ds =>
              obtain ⟨vs, h1, h2⟩ := c1
              exact ⟨vs, h1, h2.or k2⟩
            | mk l =>
              obtain ⟨vs, h1, h2, h3⟩ := c1
              exact ⟨vs, h1, h2, h3.or k2⟩
            | mn l =>
              obtain ⟨vs, h1, h2, h3, h4⟩ := c1
              exact ⟨vs, h1, h2, h3.or k2, h4.or k2⟩
          exact z.mono x2 (fun b hb => .inl (.inl (e.aM b hb))) (fun b hb => .inr hb) o3
        refine p1 (.ref q :: vs) (q :: ps) H2 e2 (.n o1 o2 o3 cz w2) (g1.x.trans x2) fun b hb => ?_
        · rcases k2 b hb with (h | h) | h
          · exact .inl h
          · exact .inr (h ▸ hq)
          · by_cases hm : M b
            · exact .inl hm
            · exact .inr fun l => h (l.ext g1.x fun z => hm (e.aM b z))
    cases s with
    | v d => exact plain d rfl r1
    | ml ds =>
      obtain ⟨q, hv, hq, n, mr⟩ := r1
      exact fresh q hv hq n mr
    | mk l =>
      obtain ⟨q, hv, hq, n, mr⟩ := r1
      exact fresh q hv hq n mr
    | mn l =>
      obtain ⟨q, hv, hq, n, mr⟩ := r1
      exact fresh q hv hq n mr⟩
/-- names get values, from the left -/
def setsD : List Nat → List Sv → Ro → Ro
  | i :: is, s :: ss, ρ => setsD is ss (ρ.set i (some s))
  | _, _, ρ => ρ
def setsσ : List Nat → List V → L2.St → L2.St
  | i :: is, v :: vs, σ => setsσ is vs (σ.set i (some v))
  | _, _, σ => σ
theorem EnvR.swapB {B B' : Bx} {M : AP} {pm : Nat → Addr} {ρ : Ro} {m : Mo} {σ : L2.St} {H : Hp} (e : EnvR G B M pm ρ m σ H) (h0 : B'.H0 = B.H0) (hX : ∀ b, B'.X b ↔ B.X b) (hd : B'.ad = B.ad) (hA : B'.A = B.A) (hT : B'.T = B.T) : EnvR G B' M pm ρ m σ H := by
  obtain ⟨b1, b2, b3, b4, b5⟩ := B
  obtain ⟨c1, c2, c3, c4, c5⟩ := B'
  cases (show c1 = b1 from h0)
  cases (show c3 = b3 from hd)
  cases (show c4 = b4 from hA)
  cases (show c5 = b5 from hT)
  cases (show c2 = b2 from funext fun b => propext (hX b))
  exact e
theorem plusL_X {B : Bx} : ∀ {ps : List Addr} {b : Addr}, (B.plusL ps).X b ↔ B.X b ∨ b ∈ ps
  | [], b => by simp [Bx.plusL]
  | p :: ps, b => by
    show ((B.plus p).plusL ps).X b ↔ _
    rw [plusL_X (B := B.plus p) (ps := ps)]
    show (B.X b ∨ b = p) ∨ b ∈ ps ↔ _
    rw [List.mem_cons, or_assoc]
theorem sets_env {M : AP} {m : Mo} {H : Hp} : ∀ {vs : List V} {ss : List Sv} {ps : List Addr} {B : Bx} {is : List Nat} {pm : Nat → Addr} {ρ : Ro} {σ : L2.St}, VsR G M H B vs ss ps → EnvR G (B.plusL ps) M pm ρ m σ H → is.length = ss.length → (∀ i ∈ is, i < ρ.length) →
    ∃ pm', EnvR G B M pm' (setsD is ss ρ) m (setsσ is vs σ) H
  | _, _, _, B, is, pm, ρ, σ, .nil, e, hl, _ => by
    cases is with
    | nil => exact ⟨pm, e⟩
    | cons i is => cases hl
  | _, _, _, B, is, pm, ρ, σ, .v (v := v) (d := d) (ps := ps) r t, e, hl, hi => by
    cases is with
    | nil => cases hl
    | cons i is =>
      obtain ⟨fA, fa, _, _⟩ := plusL_f (B := B) (ps := ps)
      have e1 := e.setv (i := i) (v := v) (d := d) (by rw [fa]; exact r)
      have z := sets_env (is := is) t e1 (Nat.succ.inj hl) fun j hj => by rw [List.length_set]; exact hi j (List.mem_cons_of_mem _ hj)
      exact z
  | _, _, _, B, is, pm, ρ, σ, .n (p := p) (s := s) (vs := us) (ss := ts) (ps := ps) o1 o2 o3 c t, e, hl, hi => by
    cases is with
    | nil => cases hl
    | cons i is =>
      -- the first one is named while the others are still aside
      obtain ⟨fA, fa, f0, fT⟩ := plusL_f (B := B) (ps := ps)
      obtain ⟨gA, ga, g0, gT⟩ := plusL_f (B := B) (ps := p :: ps)
      have np : p ∉ ps := by
        clear e hl hi c o1 o2 o3
        have key : ∀ {vs : List V} {ss : List Sv} {qs : List Addr} {B' : Bx}, VsR G M H B' vs ss qs → B'.X p → p ∉ qs := by
          intro vs ss qs B' w
          induction w with
          | nil => exact fun _ z => by cases z
          | v r t ih => exact ih
          | n a1 a2 a3 c t ih =>
            intro hx z
            rcases List.mem_cons.mp z with rfl | z
            · exact a2 hx
            · exact ih (.inl hx) z
        exact key t (.inr rfl)
      have e' : EnvR G ((B.plusL ps).plus p) M pm ρ m σ H := e.swapB (by rw [g0]; exact f0) (fun b => by
        show (B.plusL ps).X b ∨ b = p ↔ _
        rw [plusL_X, plusL_X, List.mem_cons]
        constructor
        · rintro ((h | h) | h)
          · exact .inl h
          · exact .inr (.inr h)
          · exact .inr (.inl h)
        · rintro (h | h | h)
          · exact .inl (.inl h)
          · exact .inr h
          · exact .inl (.inr h)) (by rw [ga]; exact fa) (by rw [gA]; exact fA) (by rw [gT]; exact fT)
      have e1 := e'.named (i := i) (p := p) (s := s) (by rw [f0]; exact o1) (fun z => by rw [plusL_X] at z; exact z.elim o2 np) (by rw [fA]; exact o3) (by rw [fa]; exact c) (hi i (List.mem_cons_self ..))
      have t' : VsR G M H B us ts ps := by
        clear e e' e1 hl hi
        have key : ∀ {vs : List V} {ss : List Sv} {qs : List Addr} {C C' : Bx}, VsR G M H C vs ss qs → C'.H0 = C.H0 → C'.ad = C.ad → C'.A = C.A → (∀ b, C'.X b → C.X b) → VsR G M H C' vs ss qs := by
          intro vs ss qs C C' w
          induction w generalizing C' with
          | nil => exact fun _ _ _ _ => .nil
          | v r t ih => exact fun h0 hd hA hX => .v (by rw [hd]; exact r) (ih h0 hd hA hX)
          | n a1 a2 a3 c t ih => exact fun h0 hd hA hX => .n (by rw [h0]; exact a1) (fun z => a2 (hX _ z)) (by rw [hA]; exact a3) (by rw [hd]; exact c) (ih h0 hd hA fun b z => z.elim (fun z => .inl (hX b z)) .inr)
        exact key t rfl rfl rfl fun b z => .inl z
      have z := sets_env (is := is) t' e1 (Nat.succ.inj hl) fun j hj => by rw [List.length_set]; exact hi j (List.mem_cons_of_mem _ hj)
      exact z
def sParV (is : List Nat) (f : DVs) : DS := fun ρ m => sBind (f ρ m) fun ss m1 => if ss.length = is.length ∧ (∀ i ∈ is, i < ρ.length) then .nx (setsD is ss ρ) m1 else .bad
theorem VsR.len {M : AP} {H : Hp} {B : Bx} {vs : List V} {ss : List Sv} {ps : List Addr} (w : VsR G M H B vs ss ps) : vs.length = ss.length := by
  induction w with
  | nil => rfl
  | v r t ih => exact congrArg Nat.succ ih
  | n a1 a2 a3 c t ih => exact congrArg Nat.succ ih
theorem parV_run {is : List Nat} {t : TA} {f : DVs} (h : Dvs G E t f) {B : Bx} {M : AP} {pm : Nat → Addr} {ρ : Ro} {m : Mo} {σ : L2.St} {H : Hp} (e : EnvR G B M pm ρ m σ H) (Z : Ends) (p : PostS G E B M H (sParV is f ρ m) Z) (Q : List V → Hp → Prop)
    (hQ : ∀ vs H', vs.length = is.length → (∀ H2 : Hp, ExN H' H2 → Z.nx (setsσ is vs σ) H2) → Q vs H') : t σ H Q := by
  refine h.run e _ ?_
  unfold sParV at p
  cases hr : f ρ m with
  | bad => rw [hr] at p; exact p
  | exc c l m1 => rw [hr] at p; exact p
  | ok ss m1 =>
    rw [hr] at p
    have p1 : PostS G E B M H (if ss.length = is.length ∧ (∀ i ∈ is, i < ρ.length) then .nx (setsD is ss ρ) m1 else .bad) Z := p
    split at p1
    rotate_left
    · exact p1.elim
    rename_i hc
    intro vs ps H' e' w x k
    obtain ⟨pm', e2⟩ := sets_env w e' hc.1.symm hc.2
    have st : Stp M H (MpL M ps) H' := ⟨x.imp e.aM, k⟩
    exact hQ vs H' (w.len.trans hc.1) fun H2 x2 => p1 _ _ _ _ (e2.go (e2.same x2)) (st.trans (e2.stp (e2.same x2)))
theorem two_of {α : Type} {l : List α} (h : l.length = 2) : ∃ a b, l = [a, b] := match l, h with | [a, b], _ => ⟨a, b, rfl⟩
theorem three_of {α : Type} {l : List α} (h : l.length = 3) : ∃ a b c, l = [a, b, c] := match l, h with | [a, b, c], _ => ⟨a, b, c, rfl⟩
theorem ds_parV2 {i j : Nat} {t : TA} {f : DVs} (h : Dvs G E t f) : Ds G E (tPar i j t) (sParV [i, j] f) := ⟨fun {B M pm ρ m σ H} e Z p => by
  refine parV_run h e Z p _ fun vs H' hl k => ?_
  obtain ⟨a, b, rfl⟩ := two_of hl
  exact ⟨a, b, rfl, k H' ExN.refl⟩⟩
theorem ds_parV3 {i j l : Nat} {t : TA} {f : DVs} (h : Dvs G E t f) : Ds G E (tPar3 i j l t) (sParV [i, j, l] f) := ⟨fun {B M pm ρ m σ H} e Z p => by
  refine parV_run h e Z p _ fun vs H' hl k => ?_
  obtain ⟨a, b, c, rfl⟩ := three_of hl
  exact ⟨a, b, c, rfl, k H' ExN.refl⟩⟩
theorem ds_tupV2 {i j : Nat} {t : TA} {f : DVs} (h : Dvs G E t f) : Ds G E (tAsg (tTup t) (gTup G.K 2 (gCons (gName i) (gCons (gName j) gNil)))) (sParV [i, j] f) := ⟨fun {B M pm ρ m σ H} e Z p => by
  refine parV_run h e Z p _ fun vs H' hl k => ?_
  obtain ⟨a, b, rfl⟩ := two_of hl
  exact ⟨by show 2 ≤ sizeLine; decide, fun t ht => ⟨t, _, rfl, SqT.of upd_same, rfl, _, _, rfl, _, _, rfl, rfl, k _ (ExN.new ht)⟩⟩⟩
theorem ds_tupV3 {i j l : Nat} {t : TA} {f : DVs} (h : Dvs G E t f) : Ds G E (tAsg (tTup t) (gTup G.K 3 (gCons (gName i) (gCons (gName j) (gCons (gName l) gNil))))) (sParV [i, j, l] f) := ⟨fun {B M pm ρ m σ H} e Z p => by
  refine parV_run h e Z p _ fun vs H' hl k => ?_
  obtain ⟨a, b, c, rfl⟩ := three_of hl
  exact ⟨by show 3 ≤ sizeLine; decide, fun t ht => ⟨t, _, rfl, SqT.of upd_same, rfl, _, _, rfl, _, _, rfl, _, _, rfl, rfl, k _ (ExN.new ht)⟩⟩⟩
end
section
variable {ρ : Ro} {m : Mo}
theorem ev_parV {is : List Nat} {f : DVs} : sParV is f ρ m = sBind (f ρ m) fun ss m1 => if ss.length = is.length ∧ (∀ i ∈ is, i < ρ.length) then .nx (setsD is ss ρ) m1 else .bad := Eq.trans rfl rfl
theorem ev_dvsN : dvsNil ρ m = .ok [] m := Eq.trans rfl rfl
theorem ev_dvsC {f : DV} {g : DVs} : dvsCons f g ρ m = (f ρ m).bind fun s m1 => (g ρ m1).bind fun ss m2 => .ok (s :: ss) m2 := Eq.trans rfl rfl
theorem ev_setsC {i : Nat} {is : List Nat} {s : Sv} {ss : List Sv} : setsD (i :: is) (s :: ss) ρ = setsD is ss (ρ.set i (some s)) := Eq.trans rfl rfl
theorem ev_setsN {ss : List Sv} : setsD [] ss ρ = ρ := by cases ss <;> rfl
end
end Dn
namespace Dn
open PySem PySem.Spec PyProof.Rows L2

/-! dicts whose keys are tuples: what the object's rules ask -/
mutual
inductive NKey (H : Hp) : V → NestedKey → Prop
  | none : NKey H .non .none
  | num (i : Int) : NKey H (.int i) (.num i)
  | text (x : Str) : NKey H (.str x) (.text x)
  | tup {a : Addr} {vs : List V} {ks : List NestedKey} (h : H a = some (.tup vs)) (r : NKeys H vs ks) : NKey H (.ref a) (.tup ks)
inductive NKeys (H : Hp) : List V → List NestedKey → Prop
  | nil : NKeys H [] []
  | cons {v : V} {k : NestedKey} {vs : List V} {ks : List NestedKey} (r : NKey H v k) (t : NKeys H vs ks) : NKeys H (v :: vs) (k :: ks)
end
section
variable {G : Cl} {ad : Ad} {M : AP} {H : Hp}
mutual
theorem Rep.nkey : ∀ (k : NestedKey) (v : V), Rep G ad M H v (kD k) → NKey H v k
  | .none, _, r => by unfold kD at r; cases r; exact .none
  | .num i, _, r => by unfold kD at r; cases r; exact .num i
  | .text x, _, r => by unfold kD at r; cases r; exact .text x
  | .tup l, _, r => by
    unfold kD at r
    cases r with
    | tup h n r => exact .tup h (Reps.nkeys l _ r)
theorem Reps.nkeys : ∀ (ks : List NestedKey) (vs : List V), Reps G ad M H vs (kDs ks) → NKeys H vs ks
  | [], _, r => by unfold kDs at r; cases r; exact .nil
  | k :: ks, _, r => by
    unfold kDs at r
    cases r with
    | cons r t => exact .cons (Rep.nkey k _ r) (Reps.nkeys ks _ t)
end
end
section
variable {P : Program} {w : World} {H : Hp} {h : Heap}
mutual
theorem NKey.is (ok : HOk P w H h) : ∀ {v : V} {k : NestedKey} {u : Value}, NKey H v k → RelV v u → NestedIs h k u
  | _, _, u, .none, r => by cases (show u = Value.none from r); exact .none
  | _, _, u, .num i, r => by
    obtain ⟨t, rfl⟩ : ∃ t, u = .int i t := r
    exact .int i t
  | _, _, u, .text x, r => by
    obtain ⟨t, rfl⟩ : ∃ t, u = .str x t := r
    exact .text x t
  | _, _, u, .tup (a := a) q t, r => by
    cases (show u = Value.ref a from r)
    obtain ⟨_, its, rv, ob, e, c, n, d⟩ := ok _ _ q
    refine .tup e c d ?_
    rw [List.toList_toArray]
    exact NKeys.is ok t rv
theorem NKeys.is (ok : HOk P w H h) : ∀ {vs : List V} {ks : List NestedKey} {us : List Value}, NKeys H vs ks → Vals vs us → NestedAll h ks us
  | _, _, _, .nil, .nil => .nil
  | _, _, _, .cons r t, .cons q qs => .cons (NKey.is ok r q) (NKeys.is ok t qs)
end
end
abbrev KvN := List (NestedKey × Addr × V)
def valN (kvs : KvN) (k : NestedKey) : Option V := (kvs.find? fun p => decide (p.1 = k)).map (·.2.2)
def putN (kvs : KvN) (k : NestedKey) (b : Addr) (v : V) : KvN := if (valN kvs k).isSome = true then kvs.map (fun p => if p.1 = k then (p.1, p.2.1, v) else p) else kvs ++ [(k, b, v)]
abbrev NRel : KvN → List (NestedKey × Addr × Value) → Prop := Paired fun p q => p.1 = q.1 ∧ p.2.1 = q.2.1 ∧ RelV p.2.2 q.2.2
theorem NRel.val {kvs : KvN} {xs : List (NestedKey × Addr × Value)} (r : NRel kvs xs) (k : NestedKey) : RelO (valN kvs k) ((atKey xs k).map (·.2)) := by
  induction r with
  | nil => trivial
  | cons q t ih =>
    rename_i p x l l'
    obtain ⟨e1, e2, e3⟩ := q
    unfold valN atKey at ih ⊢
    rw [List.find?_cons, List.find?_cons, ← e1]
    by_cases hk : p.1 = k
    · rw [decide_eq_true hk]
      exact e3
    · rw [decide_eq_false hk]
      exact ih
theorem NRel.repl {kvs : KvN} {xs : List (NestedKey × Addr × Value)} (r : NRel kvs xs) (k : NestedKey) {v : V} {u : Value} (rv : RelV v u) : NRel (kvs.map fun p => if p.1 = k then (p.1, p.2.1, v) else p) (xs.map (putAt k u)) := by
  induction r with
  | nil => exact .nil
  | cons q t ih =>
    rename_i p x l l'
    obtain ⟨e1, e2, e3⟩ := q
    refine .cons ?_ ih
    unfold putAt
    dsimp only
    by_cases hk : p.1 = k
    · rw [if_pos hk, if_pos (by rw [← e1]; exact hk)]
      exact ⟨e1, e2, rv⟩
    · rw [if_neg hk, if_neg (by rw [← e1]; exact hk)]
      exact ⟨e1, e2, e3⟩
theorem NRel.snoc {kvs : KvN} {xs : List (NestedKey × Addr × Value)} (r : NRel kvs xs) {k : NestedKey} {b : Addr} {v : V} {u : Value} (rv : RelV v u) : NRel (kvs ++ [(k, b, v)]) (xs ++ [(k, b, u)]) := by
  induction r with
  | nil => exact .cons ⟨rfl, rfl, rv⟩ .nil
  | cons q t ih => exact .cons q ih
theorem NRel.put {kvs : KvN} {xs : List (NestedKey × Addr × Value)} (r : NRel kvs xs) (k : NestedKey) (b : Addr) {v : V} {u : Value} (rv : RelV v u) : NRel (putN kvs k b v) (storedH xs k b u) := by
  have e : (valN kvs k).isSome = (atKey xs k).isSome := by
    have z := (r.val k).isSome_eq
    rw [Option.isSome_map] at z
    exact z
  unfold putN storedH
  rw [e]
  by_cases h : (atKey xs k).isSome = true
  · rw [if_pos h, if_pos h]
    exact r.repl k rv
  · rw [if_neg h, if_neg h]
    exact r.snoc rv
theorem NRel.mem {kvs : KvN} {xs : List (NestedKey × Addr × Value)} {x : NestedKey × Addr × Value} (r : NRel kvs xs) (hx : x ∈ xs) : ∃ p ∈ kvs, p.1 = x.1 ∧ p.2.1 = x.2.1 := by
  induction r with
  | nil => cases hx
  | cons q t ih =>
    rename_i p y l l'
    rcases List.mem_cons.mp hx with rfl | hx
    · exact ⟨p, List.mem_cons_self .., q.1, q.2.1⟩
    · obtain ⟨p', hp', e⟩ := ih hx
      exact ⟨p', List.mem_cons_of_mem _ hp', e⟩
theorem length_putN (kvs : KvN) (k : NestedKey) (b : Addr) (v : V) : (putN kvs k b v).length ≤ kvs.length + 1 := by
  unfold putN
  split <;> simp
/-- at a stands such a dict, its keys stand as they are told -/
structure NDict (w : World) (H : Hp) (a : Addr) (kvs : KvN × Obj) : Prop where
  at_ : H a = some (dN w a kvs)
  ks : ∀ p ∈ kvs.1, NKey H (.ref p.2.1) p.1
structure KeyAt (H : Hp) (y : V) (k : NestedKey) (b : Addr) : Prop where
  e : y = .ref b
  nk : NKey H (.ref b) k
  d : k.depth ≤ 8
theorem NDict.raw {P : Program} {w : World} {H : Hp} {h : Heap} {a : Addr} {kvs : KvN × Obj} (ok : HOk P w H h) (D : NDict w H a kvs) : h.get? a = some kvs.2 ∧ kvs.1.length ≤ sizeLine ∧ (a == sysModules) = false ∧ ∃ xs, NRel kvs.1 xs ∧ h.DictOfH (nestedKind P w) a xs := by
  obtain ⟨⟨h0, z, hd, hdep, xs, r, es, ep, h2, h3, h4, h5⟩, _, _⟩ := ok _ _ D.at_
  refine ⟨h0, z, hd, xs, r, kvs.2, es, ep, h0, h2, h3, h4, fun x hx => ?_, h5⟩
  obtain ⟨p, hp, e1, e2⟩ := NRel.mem r hx
  rw [← e1, ← e2]
  exact ⟨(D.ks p hp).is ok rfl, hdep p hp⟩
theorem KeyAt.is {P : Program} {w : World} {H : Hp} {h : Heap} {y : V} {k : NestedKey} {b : Addr} (ok : HOk P w H h) (K : KeyAt H y k b) : (nestedKind P w).is h k b := ⟨K.nk.is ok rfl, K.d⟩
abbrev dictO : Obj := { cls := .type "dict", data := .dict #[] }
theorem NDict.empty {P : Program} {w : World} {H : Hp} (h : Heap) (hb : sysModules < h.objs.size) : ObjOk P w H (h.push dictO) h.objs.size (dN w h.objs.size ([], dictO)) := by
  refine ⟨⟨Heap.get?_push_size _ rfl, Nat.zero_le _, ?_, (fun p hp => by cases hp), [], .nil, #[], 0, ⟨rfl, rfl, rfl⟩, rfl, rfl, List.nodup_nil⟩, ⟨_, Heap.get?_push_size _ rfl⟩, fun h1 h2 a1 st => ⟨st _ a1.1, a1.2⟩⟩
  have : h.objs.size ≠ sysModules := Nat.ne_of_gt hb
  simpa using this
/-! the rules -/
section
variable {X : Cx} {pins : List (Addr × Obj)} {σ : L2.St} {H : Hp} {s : Shared} {a b : Addr} {kvs : KvN × Obj} {k : NestedKey} {y v : V} {u r : Value} {A : Around} {E : Value → Shared → Prop}
theorem room8 (hu : A.units + 10 < cLine) : (nestedKind X.prog X.w).room A.in1 := by
  show A.in1.units + 8 < cLine
  have : A.in1.units = A.units + 1 := rfl
  omega
theorem n_getItem {Q : Value → Shared → Prop} (hu : A.units + 10 < cLine) (I : Inv X pins σ H s) (D : NDict X.w H a kvs) (K : KeyAt H y k b) (hv : valN kvs.1 k = some v) (ry : RelV y u) (h : ∀ w' s', Inv X pins σ H s' → RelV v w' → Q w' s') :
    wpAny (model X.prog X.w) A (getItem (.ref a) u) Q E s := by
  obtain ⟨_, z, hd, xs, rel, dd⟩ := D.raw I.hok
  have e := K.e
  subst e
  cases (show u = Value.ref b from ry)
  obtain ⟨w', hw, rw'⟩ := RelO.some_of (v := v) (o := (atKey xs k).map (·.2)) (by rw [← hv]; exact NRel.val rel k)
  obtain ⟨p, hp, hp2⟩ := Option.map_eq_some_iff.mp hw
  refine wpAny_getItem_heap (room8 hu) (K.is I.hok) dd hp ?_
  rw [hp2]
  exact h w' _ (I.tok _) rw'
theorem n_in {Q : Value → Shared → Prop} (hu : A.units + 10 < cLine) (I : Inv X pins σ H s) (D : NDict X.w H a kvs) (K : KeyAt H y k b) (ry : RelV y u) (h : ∀ s', Inv X pins σ H s' → Q (.bool (valN kvs.1 k).isSome) s') :
    wpAny (model X.prog X.w) A (compareOp .In u (.ref a)) Q E s := by
  obtain ⟨_, z, hd, xs, rel, dd⟩ := D.raw I.hok
  have e := K.e
  subst e
  cases (show u = Value.ref b from ry)
  refine wpAny_in_heap (room8 hu) (K.is I.hok) hd dd ?_
  have q := (NRel.val rel k).isSome_eq
  rw [Option.isSome_map] at q
  rw [← q]
  exact h _ (I.tok _)
theorem n_notIn {Q : Value → Shared → Prop} (hu : A.units + 10 < cLine) (I : Inv X pins σ H s) (D : NDict X.w H a kvs) (K : KeyAt H y k b) (ry : RelV y u) (h : ∀ s', Inv X pins σ H s' → Q (.bool (!(valN kvs.1 k).isSome)) s') :
    wpAny (model X.prog X.w) A (compareOp .NotIn u (.ref a)) Q E s := by
  obtain ⟨_, z, hd, xs, rel, dd⟩ := D.raw I.hok
  have e := K.e
  subst e
  cases (show u = Value.ref b from ry)
  refine wpAny_notIn_heap (room8 hu) (K.is I.hok) hd dd ?_
  have q := (NRel.val rel k).isSome_eq
  rw [Option.isSome_map] at q
  rw [← q]
  exact h _ (I.tok _)
theorem n_get2 {d : V} {Q : Value → Shared → Prop} (hu : A.units + 10 < cLine) (I : Inv X pins σ H s) (D : NDict X.w H a kvs) (K : KeyAt H y k b) (ry : RelV y u) (rd : RelV d r) (h : ∀ w' s', Inv X pins σ H s' → RelV ((valN kvs.1 k).getD d) w' → Q w' s') :
    wpAny (model X.prog X.w) A (call (.builtin "dict.get") [.ref a, u, r]) Q E s := by
  obtain ⟨_, z, hd, xs, rel, dd⟩ := D.raw I.hok
  have e := K.e
  subst e
  cases (show u = Value.ref b from ry)
  exact call_meetsIn PySem.F.slot_dict_get dd.typeIs PySem.F.entry_dict_get (PySem.F.args_dict_get_3 _ _ _) (meetsH_dict_get_default (nestedKind X.prog X.w) a b hd r) ⟨room8 hu, k, xs, K.is I.hok, dd, h _ _ (I.tok _) ((NRel.val rel k).getD rd)⟩
theorem n_setItem {Q : Unit → Shared → Prop} (hu : A.units + 10 < cLine) (I : Inv X pins σ H s) (D : NDict X.w H a kvs) (K : KeyAt H y k b) (hl : kvs.1.length < sizeLine) (ry : RelV y u) (rv : RelV v r) (h : ∀ s' ob, Inv X pins σ (upd H a (dN X.w a (putN kvs.1 k b v, ob))) s' → Q () s') :
    wpAny (model X.prog X.w) A (setItem (.ref a) u r) Q E s := by
  obtain ⟨_, z, hd, xs, rel, dd⟩ := D.raw I.hok
  obtain ⟨⟨_, _, _, hdep, _⟩, _, _⟩ := I.hok _ _ D.at_
  have e := K.e
  subst e
  cases (show u = Value.ref b from ry)
  have hz : xs.length ≤ sizeLine := by rw [← Paired.length rel]; exact z
  have hl2 : (putN kvs.1 k b v).length ≤ sizeLine := by have := length_putN kvs.1 k b v; omega
  have hdep2 : ∀ p ∈ putN kvs.1 k b v, p.1.depth ≤ 8 := fun p hp => by
    unfold putN at hp
    split at hp
    · obtain ⟨q, hq, e⟩ := List.mem_map.mp hp
      split at e <;> rw [← e] <;> exact hdep q hq
    · rcases List.mem_append.mp hp with hp | hp
      · exact hdep p hp
      · cases List.mem_singleton.mp hp
        exact K.d
  refine wpAny_setItem_heap (hsz := hz) (room8 hu) (K.is I.hok) dd fun h' dd' hs => ?_
  obtain ⟨q, es, ep, hq, h2, h3, h4, _, h5⟩ := dd'
  refine h _ q (d_write I (by rw [D.at_]; unfold dN; exact True.intro) hs ⟨q, hq⟩ ⟨⟨hq, hl2, hd, hdep2, _, NRel.put rel k b rv, es, ep, h2, h3, h4, h5⟩, ⟨q, hq⟩, fun h1 h2 a1 st => ⟨st _ a1.1, a1.2⟩⟩)
end
end Dn
namespace Dn
open PySem PySem.Spec PyProof.Rows L2

/-! subscripts, in, stores: lists, tuples, texts and dicts alike -/
def DGetU (w : World) (H : Hp) (a : Addr) (y : V) (o : Option V) : Prop := DGet H a y o ∨ ∃ kvs k b, NDict w H a kvs ∧ KeyAt H y k b ∧ valN kvs.1 k = o
section
variable {X : Cx} {pins : List (Addr × Obj)} {σ : L2.St} {H : Hp} {s : Shared} {a : Addr} {y v d : V} {u r : Value} {o : Option V} {A : Around} {E : Value → Shared → Prop}
theorem u_getItem {Q : Value → Shared → Prop} (hu : A.units + 10 < cLine) (I : Inv X pins σ H s) (g : DGetU X.w H a y (some v)) (ry : RelV y u) (h : ∀ w' s', Inv X pins σ H s' → RelV v w' → Q w' s') :
    wpAny (model X.prog X.w) A (getItem (.ref a) u) Q E s := by
  rcases g with g | ⟨kvs, k, b, D, K, e⟩
  · exact d_getItem (by omega) I g ry h
  · exact n_getItem hu I D K e ry h
theorem u_typeIs (I : Inv X pins σ H s) (g : DGetU X.w H a y o) : s.TypeIs (.ref a) "dict" := by
  rcases g with g | ⟨kvs, k, b, D, K, e⟩
  · exact dict_typeIs I g
  · obtain ⟨_, _, _, xs, _, dd⟩ := D.raw I.hok
    exact dd.typeIs
theorem u_in {Q : Value → Shared → Prop} (hu : A.units + 10 < cLine) (I : Inv X pins σ H s) (g : DGetU X.w H a y o) (ry : RelV y u) (h : ∀ s', Inv X pins σ H s' → Q (.bool o.isSome) s') :
    wpAny (model X.prog X.w) A (compareOp .In u (.ref a)) Q E s := by
  rcases g with g | ⟨kvs, k, b, D, K, e⟩
  · exact d_in (by omega) I g ry h
  · subst e
    exact n_in hu I D K ry h
theorem u_notIn {Q : Value → Shared → Prop} (hu : A.units + 10 < cLine) (I : Inv X pins σ H s) (g : DGetU X.w H a y o) (ry : RelV y u) (h : ∀ s', Inv X pins σ H s' → Q (.bool (!o.isSome)) s') :
    wpAny (model X.prog X.w) A (compareOp .NotIn u (.ref a)) Q E s := by
  rcases g with g | ⟨kvs, k, b, D, K, e⟩
  · exact d_notIn (by omega) I g ry h
  · subst e
    exact n_notIn hu I D K ry h
theorem u_get2 {Q : Value → Shared → Prop} (hu : A.units + 10 < cLine) (I : Inv X pins σ H s) (g : DGetU X.w H a y o) (ry : RelV y u) (rd : RelV d r) (h : ∀ w' s', Inv X pins σ H s' → RelV (o.getD d) w' → Q w' s') :
    wpAny (model X.prog X.w) A (call (.builtin "dict.get") [.ref a, u, r]) Q E s := by
  rcases g with g | ⟨kvs, k, b, D, K, e⟩
  · exact d_get2 (by omega) I g ry rd h
  · subst e
    exact n_get2 hu I D K ry rd h
end
/-- a subscript's end, of a built-in type -/
theorem subT_end {prog : Program} {w : World} {A : Around} {E : Value → Shared → Prop} {s : Shared} {vx sx : Expr} {T id : String} {ov iv : Value} {Q : Value → Shared → Prop} (hT : s.TypeIs ov T)
    (hl : typeLookup (.type T) "__getitem__" = pure (some (.builtin id))) (hs : subscripted sx false ov iv = operate [ov, iv] (getItem ov iv)) (h : wpAny (model prog w) A (getItem ov iv) Q E s) : wpAny (model prog w) A (subscriptTail vx sx ov iv) Q E s := by
  unfold subscriptTail
  refine wpAny_bind ?_
  rw [getitemInPython_of_ne hT.not_modules]
  refine wpAny_bind (wpAny_specialOf hT hl ?_)
  have fin : wpAny (model prog w) A (subscripted sx false ov iv) (fun z s3 => wpAny (model prog w) A (letTemporaryGo vx ov z >>= fun _ => pure z) Q E s3) E s := by
    rw [hs]
    exact wpAny_operating (wpAny_mono h (fun z s3 q => wpAny_bind (wpAny_letTemporaryGo (wpAny_pure q))) fun _ _ z => z)
  first
    | exact wpAny_pure (wpAny_bind fin)
    | exact wpAny_bind (wpAny_pure (wpAny_bind fin))
    | exact wpAny_bind fin
def rIxD (w : World) : R2 := fun x y H Q => ∃ a v, x = .ref a ∧ DGetU w H a y (some v) ∧ Q v H
theorem ix_dict {X : Cx} (hu : X.A.units + 10 < cLine) : IxR X (rIxD X.w) := by
  intro value slice pins s σ H x y v u Q I rx ry h hs
  obtain ⟨a, z, rfl, g, q⟩ := h
  cases (show v = Value.ref a from rx)
  exact subT_end (u_typeIs I g) PySem.F.slot_dict_getitem.lookup hs (u_getItem hu I g ry fun w' s3 I3 rw' => ⟨z, H, I3, rw', q⟩)
def rIxV (K : PySem.W.Frag) (w : World) : R2 := fun x y H Q => rIx K x y H Q ∨ rIxD w x y H Q
theorem ix_V {X : Cx} (hu : X.A.units + 10 < cLine) : IxR X (rIxV X.K X.w) := IxR.or ix_seq (ix_dict hu)
def rInD2 (neg : Bool) (w : World) : R2 := fun x y H Q => ∃ a o, y = .ref a ∧ DGetU w H a x o ∧ Q (.bl (neg ^^ o.isSome)) H
theorem op_inD2 {X : Cx} (hu : X.A.units + 10 < cLine) : OpR X (compareOp .In) (rInD2 false X.w) := by
  intro pins s σ H x y v u Q I rx ry h
  obtain ⟨a, o, rfl, g, q⟩ := h
  cases (show u = Value.ref a from ry)
  refine u_in hu I g rx fun s3 I3 => ⟨.bl o.isSome, H, I3, rfl, ?_⟩
  rw [Bool.false_xor] at q
  exact q
theorem op_notInD2 {X : Cx} (hu : X.A.units + 10 < cLine) : OpR X (compareOp .NotIn) (rInD2 true X.w) := by
  intro pins s σ H x y v u Q I rx ry h
  obtain ⟨a, o, rfl, g, q⟩ := h
  cases (show u = Value.ref a from ry)
  refine u_notIn hu I g rx fun s3 I3 => ⟨.bl (!o.isSome), H, I3, rfl, ?_⟩
  rw [Bool.true_xor] at q
  exact q
def rInV (K : PySem.W.Frag) (w : World) : R2 := fun x y H Q => rInU K x y H Q ∨ rInD2 false w x y H Q
def rNotInV (K : PySem.W.Frag) (w : World) : R2 := fun x y H Q => rNotInU K x y H Q ∨ rInD2 true w x y H Q
theorem op_inV {X : Cx} (hu : X.A.units + 65 < cLine) : OpR X (compareOp .In) (rInV X.K X.w) := OpR.or (op_inU hu) (op_inD2 (by omega))
theorem op_notInV {X : Cx} (hu : X.A.units + 65 < cLine) : OpR X (compareOp .NotIn) (rNotInV X.K X.w) := OpR.or (op_notInU hu) (op_notInD2 (by omega))
theorem PSet.or {X : Cx} {t t' : TSet} (h : PSet X t) (h' : PSet X t') : PSet X (fun o i v H Q => t o i v H Q ∨ t' o i v H Q) := by
  intro pins s σ H o i v ov iv u Q I ro ri rv q
  rcases q with q | q
  · exact h pins s σ H o i v ov iv u Q I ro ri rv q
  · exact h' pins s σ H o i v ov iv u Q I ro ri rv q
def rSetD (w : World) : TSet := fun o i v H Q => (∃ a H', o = .ref a ∧ DPut H a i v H' ∧ Q H') ∨ ∃ a kvs k b, o = .ref a ∧ NDict w H a kvs ∧ KeyAt H i k b ∧ kvs.1.length < sizeLine ∧ ∀ ob, Q (upd H a (dN w a (putN kvs.1 k b v, ob)))
theorem set_dict {X : Cx} (hu : X.A.units + 10 < cLine) : PSet X (rSetD X.w) := by
  intro pins s σ H o i v ov iv u Q I ro ri rv h
  rcases h with ⟨a, H', rfl, g, q⟩ | ⟨a, kvs, k, b, rfl, D, K, hl, q⟩
  · cases (show ov = Value.ref a from ro)
    exact d_setItem (by omega) I g ri rv fun s3 I3 => ⟨H', I3, q⟩
  · cases (show ov = Value.ref a from ro)
    exact n_setItem hu I D K hl ri rv fun s3 ob I3 => ⟨_, I3, q ob⟩
def rSetV (w : World) : TSet := fun o i v H Q => rSetL o i v H Q ∨ rSetD w o i v H Q
theorem set_V {X : Cx} (hu : X.A.units + 10 < cLine) : PSet X (rSetV X.w) := PSet.or set_list (set_dict hu)
def IsDU (w : World) (H : Hp) (a : Addr) : Prop := IsD H a ∨ ∃ kvs, NDict w H a kvs
theorem isDU_at {X : Cx} {pins : List (Addr × Obj)} {σ : L2.St} {H : Hp} {s : Shared} {a : Addr} (I : Inv X pins σ H s) (h : IsDU X.w H a) :
    s.TypeIs (.ref a) "dict" ∧ (∀ b, Value.ref a = .ref b → ∃ ob, s.heap.get? b = some ob ∧ ob.dict = none) ∧ (a == sysModules) = false := by
  rcases h with h | ⟨kvs, D⟩
  · exact isD_at I h
  · obtain ⟨h0, _, hd, xs, _, dd⟩ := D.raw I.hok
    refine ⟨dd.typeIs, fun b q => ?_, hd⟩
    cases q
    obtain ⟨ob, _, _, h1, h2, _⟩ := dd
    exact ⟨ob, h1, h2.2.1⟩
/-- d.get(k, x) -/
def tDGetU2 (w : World) (td ty tx : TE) : TE := fun σ H Q => td σ H fun x H1 => ∃ a, x = .ref a ∧ IsDU w H1 a ∧ ty σ H1 fun y H2 => tx σ H2 fun z H3 => ∃ o, DGetU w H3 a y o ∧ Q (o.getD z) H3
theorem pe_dgetU2 {X : Cx} {o e f : Expr} {apos cpos : Pos} {td ty tx : TE} (hu : X.A.units + 10 < cLine) (ho : PE X o td) (he : PE X e ty) (hf : PE X f tx) (m : M2 X o "get" apos e f cpos) : PE X (.Call (.Attribute o "get" apos) [e, f] [] cpos) (tDGetU2 X.w td ty tx) := by
  refine ⟨fun pins s σ H Q I h => ?_⟩
  refine wpAny_Call_method m.base m.few m.line PySem.F.plainAttrs_dict PySem.F.slot_dict_get PySem.F.type_dict_get (thn (ho.run pins s σ H _ I h) fun u s1 ⟨x, H1, I1, rx, a, ex, hd, q1⟩ => ?_)
  subst ex
  obtain rfl : u = Value.ref a := rx
  obtain ⟨t1, t2, _⟩ := isDU_at I1 hd
  refine ⟨t1, t2, ?_⟩
  rw [m.trees]
  refine Calls.callWith_builtin rfl (Calls.evalArgs_plain (Calls.spliced_cons (thn (he.run pins s1 σ H1 _ I1 q1) fun iv s2 ⟨y, H2, I2, ry, q2⟩ =>
    Calls.spliced_cons (thn (hf.run pins s2 σ H2 _ I2 q2) fun fv s3 ⟨z, H3, I3, rz, ov, g, q3⟩ => Calls.spliced_nil ?_))))
  exact u_get2 hu I3 g ry rz fun w' s4 I4 rw' => ⟨_, H3, I4, rw', q3⟩

/-! as data -/
section
variable {κ : Type} [DecidableEq κ]
def kvGet (l : List (κ × D)) (k : κ) : Option D := (l.find? fun p => decide (p.1 = k)).map (·.2)
def kvPut (l : List (κ × D)) (k : κ) (d : D) : List (κ × D) := if (kvGet l k).isSome = true then l.map (fun p => if p.1 = k then (p.1, d) else p) else l ++ [(k, d)]
end
def D.key : D → Option Key
  | .int i => some (.inl i)
  | .str x => some (.inr x)
  | _ => none
mutual
def D.nk : D → Option NestedKey
  | .non => some .none
  | .int i => some (.num i)
  | .str x => some (.text x)
  | .tup l => (D.nks l).map .tup
  | _ => none
def D.nks : List D → Option (List NestedKey)
  | [] => some []
  | d :: r => match d.nk, D.nks r with
    | some k, some ks => some (k :: ks)
    | _, _ => none
end
mutual
theorem nk_kD : ∀ {d : D} {k : NestedKey}, d.nk = some k → kD k = d
  | .non, _, h => by cases (show some NestedKey.none = some _ from h); rfl
  | .int i, _, h => by cases (show some (NestedKey.num i) = some _ from h); rfl
  | .str x, _, h => by cases (show some (NestedKey.text x) = some _ from h); rfl
  | .tup l, k, h => by
    have h' : (D.nks l).map NestedKey.tup = some k := h
    cases q : D.nks l with
    | none => rw [q] at h'; cases h'
    | some ks =>
      rw [q] at h'
      cases h'
      unfold kD
      rw [nks_kD q]
  | .bl _, _, h => nomatch (show (none : Option NestedKey) = some _ from h)
  | .lst _, _, h => nomatch (show (none : Option NestedKey) = some _ from h)
  | .obj _ _, _, h => nomatch (show (none : Option NestedKey) = some _ from h)
  | .dct _, _, h => nomatch (show (none : Option NestedKey) = some _ from h)
  | .exc _ _, _, h => nomatch (show (none : Option NestedKey) = some _ from h)
  | .drw, _, h => nomatch (show (none : Option NestedKey) = some _ from h)
  | .scr _, _, h => nomatch (show (none : Option NestedKey) = some _ from h)
  | .dcn _, _, h => nomatch (show (none : Option NestedKey) = some _ from h)
  | .cel _, _, h => nomatch (show (none : Option NestedKey) = some _ from h)
theorem nks_kD : ∀ {l : List D} {ks : List NestedKey}, D.nks l = some ks → kDs ks = l
  | [], _, h => by cases (show some ([] : List NestedKey) = some _ from h); rfl
  | d :: r, ks, h => by
    have h' : (match d.nk, D.nks r with
      | some k, some ks => some (k :: ks)
      | _, _ => none) = some ks := h
    cases q1 : d.nk with
    | none => rw [q1] at h'; cases h'
    | some k =>
      cases q2 : D.nks r with
      | none => rw [q1, q2] at h'; cases h'
      | some ks2 =>
        rw [q1, q2] at h'
        cases h'
        unfold kDs
        rw [nk_kD q1, nks_kD q2]
end
def D.nkey : D → Option NestedKey
  | .tup l => match D.nks l with
    | some ks => if (NestedKey.tup ks).depth ≤ 8 then some (.tup ks) else none
    | none => none
  | _ => none
theorem nkey_of {d : D} {k : NestedKey} (h : d.nkey = some k) : kD k = d ∧ k.depth ≤ 8 ∧ ∃ l, d = .tup l := by
  cases d with
  | tup l =>
    have h' : (match D.nks l with
      | some ks => if (NestedKey.tup ks).depth ≤ 8 then some (NestedKey.tup ks) else none
      | none => none) = some k := h
    cases q : D.nks l with
    | none => rw [q] at h'; cases h'
    | some ks =>
      rw [q] at h'
      dsimp only at h'
      split at h'
      · rename_i hd
        cases h'
        refine ⟨?_, hd, l, rfl⟩
        unfold kD
        rw [nks_kD q]
      · cases h'
  | _ => cases h
section
variable {G : Cl} {ad : Ad} {A M : AP} {H H' : Hp}
theorem RepT.keyAt {y : V} {d : D} {k : NestedKey} (r : RepT G ad A M H y d) (h : d.nkey = some k) : ∃ b, KeyAt H y k b ∧ Rep G ad M H (.ref b) (kD k) := by
  obtain ⟨h1, h2, l, rfl⟩ := nkey_of h
  obtain ⟨a, vs, rfl, ha, na, ra⟩ := r.tup
  have rr : Rep G ad M H (.ref a) (kD k) := by
    rw [h1]
    exact .tup ha na ra
  exact ⟨a, ⟨rfl, rr.nkey, h2⟩, rr⟩
theorem RepT.key {y : V} {d : D} {k : Key} (r : RepT G ad A M H y d) (h : d.key = some k) : y = kV k := by
  cases d with
  | int i =>
    cases (show some (Sum.inl i) = some k from h)
    exact r.int
  | str x =>
    cases (show some (Sum.inr x) = some k from h)
    exact r.str
  | _ => cases h
/-- what is found, in values and in data -/
def LkR (G : Cl) (ad : Ad) (M : AP) (H : Hp) : Option D → Option V → Prop
  | some z, o => ∃ v, o = some v ∧ Rep G ad M H v z
  | none, o => o = none
theorem LkR.isSome {o : Option D} {o' : Option V} (h : LkR G ad M H o o') : o'.isSome = o.isSome := by
  cases o with
  | none => rw [show o' = none from h]; rfl
  | some z =>
    obtain ⟨v, h, _⟩ := h
    rw [h]
    rfl
theorem kv_get {κ : Type} [DecidableEq κ] (k : κ) : ∀ {kvs : List (κ × V)} {l : List (κ × D)}, kvs.map (·.1) = l.map (·.1) → Reps G ad M H (kvs.map (·.2)) (l.map (·.2)) → LkR G ad M H (kvGet l k) (valV kvs k)
  | [], [], _, _ => rfl
  | [], _ :: _, e, _ => by simp at e
  | _ :: _, [], e, _ => by simp at e
  | p :: kvs, q :: l, e, .cons r rs => by
    simp only [List.map_cons, List.cons.injEq] at e
    have ih := kv_get k e.2 rs
    unfold kvGet valV at ih ⊢
    rw [List.find?_cons, List.find?_cons, e.1]
    by_cases hk : q.1 = k
    · rw [decide_eq_true hk]
      exact ⟨_, rfl, r⟩
    · rw [decide_eq_false hk]
      exact ih
theorem kv_put {κ : Type} [DecidableEq κ] (k : κ) {kvs : List (κ × V)} {l : List (κ × D)} {v : V} {d : D} (e : kvs.map (·.1) = l.map (·.1)) (r : Reps G ad M H (kvs.map (·.2)) (l.map (·.2))) (rv : Rep G ad M H v d) :
    (putK kvs k v).map (·.1) = (kvPut l k d).map (·.1) ∧ Reps G ad M H ((putK kvs k v).map (·.2)) ((kvPut l k d).map (·.2)) := by
  have hs : (kvs.any fun kv => decide (kv.1 = k)) = (kvGet l k).isSome := by
    rw [valV_any]
    exact (kv_get k e r).isSome
  unfold putK kvPut
  rw [hs]
  by_cases h : (kvGet l k).isSome = true
  · rw [if_pos h, if_pos h]
    clear hs h
    induction kvs generalizing l with
    | nil =>
      cases l with
      | nil => exact ⟨rfl, .nil⟩
      | cons => simp at e
    | cons p kvs ih =>
      cases l with
      | nil => simp at e
      | cons q l =>
        simp only [List.map_cons, List.cons.injEq] at e
        cases r with
        | cons r rs =>
          obtain ⟨i1, i2⟩ := ih e.2 rs
          simp only [List.map_cons]
          by_cases hk : q.1 = k
          · rw [if_pos hk, if_pos (by rw [e.1]; exact hk)]
            exact ⟨by rw [i1, e.1], .cons rv i2⟩
          · rw [if_neg hk, if_neg (by rw [e.1]; exact hk)]
            exact ⟨by rw [i1, e.1], .cons r i2⟩
  · rw [if_neg h, if_neg h]
    simp only [List.map_append, List.map_cons, List.map_nil]
    exact ⟨by rw [e], r.append (.one rv)⟩
/-- the addresses put aside -/
def unN (kvs : KvN) : List (NestedKey × V) := kvs.map fun p => (p.1, p.2.2)
theorem unN_1 (kvs : KvN) : (unN kvs).map (·.1) = kvs.map (·.1) := by unfold unN; rw [List.map_map]; rfl
theorem unN_2 (kvs : KvN) : (unN kvs).map (·.2) = kvs.map (·.2.2) := by unfold unN; rw [List.map_map]; rfl
theorem valN_un (k : NestedKey) : ∀ kvs : KvN, valN kvs k = valV (unN kvs) k
  | [] => rfl
  | p :: kvs => by
    have ih := valN_un k kvs
    unfold valN valV unN at ih ⊢
    rw [List.map_cons, List.find?_cons, List.find?_cons]
    by_cases hk : p.1 = k
    · rw [decide_eq_true hk]
      rfl
    · rw [decide_eq_false hk]
      exact ih
theorem putN_un (k : NestedKey) (b : Addr) (v : V) (kvs : KvN) : unN (putN kvs k b v) = putK (unN kvs) k v := by
  have hs : (valN kvs k).isSome = ((unN kvs).any fun kv => decide (kv.1 = k)) := by rw [valN_un, valV_any]
  unfold putN putK
  rw [hs]
  by_cases h : ((unN kvs).any fun kv => decide (kv.1 = k)) = true
  · rw [if_pos h, if_pos h]
    unfold unN
    rw [List.map_map, List.map_map]
    apply List.map_congr_left
    intro p _
    show ((if p.1 = k then (p.1, p.2.1, v) else p).1, (if p.1 = k then (p.1, p.2.1, v) else p).2.2) = if p.1 = k then (p.1, v) else (p.1, p.2.2)
    by_cases hk : p.1 = k
    · rw [if_pos hk, if_pos hk]
    · rw [if_neg hk, if_neg hk]
  · rw [if_neg h, if_neg h]
    unfold unN
    rw [List.map_append]
    rfl
theorem kDs_map : ∀ ks : List NestedKey, kDs ks = ks.map kD
  | [] => rfl
  | k :: r => by
    unfold kDs
    rw [kDs_map r]
    rfl
theorem putN_keys {k : NestedKey} {b : Addr} {v : V} {d : D} {kvs : KvN} {l : List (NestedKey × D)} (e : kvs.map (·.1) = l.map (·.1)) (r : Reps G ad M H (kvs.map (·.2.2)) (l.map (·.2))) (rk : Reps G ad M H (kvs.map fun p => V.ref p.2.1) (kDs (l.map (·.1)))) (rb : Rep G ad M H (.ref b) (kD k)) :
    Reps G ad M H ((putN kvs k b v).map fun p => V.ref p.2.1) (kDs ((kvPut l k d).map (·.1))) := by
  have hs : (valN kvs k).isSome = (kvGet l k).isSome := by
    rw [valN_un]
    exact (kv_get (kvs := unN kvs) k (by rw [unN_1]; exact e) (by rw [unN_2]; exact r)).isSome
  unfold putN kvPut
  rw [hs]
  by_cases h : (kvGet l k).isSome = true
  · rw [if_pos h, if_pos h, List.map_map, List.map_map]
    have e1 : ((fun (p : NestedKey × Addr × V) => V.ref p.2.1) ∘ fun p => if p.1 = k then (p.1, p.2.1, v) else p) = fun p => V.ref p.2.1 := by
      funext p
      show V.ref (if p.1 = k then (p.1, p.2.1, v) else p).2.1 = _
      split <;> rfl
    have e2 : ((fun (p : NestedKey × D) => p.1) ∘ fun p => if p.1 = k then (p.1, d) else p) = fun p => p.1 := by
      funext p
      show (if p.1 = k then (p.1, d) else p).1 = _
      split <;> rfl
    rw [e1, e2]
    exact rk
  · rw [if_neg h, if_neg h, List.map_append, List.map_append, kDs_map, List.map_append]
    rw [kDs_map] at rk
    exact rk.append (.one rb)
/-- a dict that is read -/
theorem RepT.dct_ {v : V} {l : List (Key × D)} (r : RepT G ad A M H v (.dct l)) : ∃ a kvs, v = .ref a ∧ H a = some (.dK kvs) ∧ kvs.map (·.1) = l.map (·.1) ∧ Reps G ad M H (kvs.map (·.2)) (l.map (·.2)) := by
  cases r with
  | r r =>
    cases r with
    | dct h n e r => exact ⟨_, _, rfl, h, e, r⟩
  | mk n h e r => exact ⟨_, _, rfl, h, e, r⟩
theorem RepT.dcn_ {v : V} {l : List (NestedKey × D)} (r : RepT G ad A M H v (.dcn l)) : ∃ a kvs, v = .ref a ∧ NDict G.w H a kvs ∧ kvs.1.map (·.1) = l.map (·.1) ∧ Reps G ad M H (kvs.1.map fun p => V.ref p.2.1) (kDs (l.map (·.1))) ∧ Reps G ad M H (kvs.1.map (·.2.2)) (l.map (·.2)) := by
  have ks : ∀ {kvs : KvN} {l : List (NestedKey × D)}, kvs.map (·.1) = l.map (·.1) → Reps G ad M H (kvs.map fun p => V.ref p.2.1) (kDs (l.map (·.1))) → ∀ p ∈ kvs, NKey H (.ref p.2.1) p.1 := by
    intro kvs l e rk
    rw [← e] at rk
    clear e l
    induction kvs with
    | nil => exact fun p hp => by cases hp
    | cons q kvs ih =>
      simp only [List.map_cons] at rk
      unfold kDs at rk
      cases rk with
      | cons r rs =>
        intro p hp
        rcases List.mem_cons.mp hp with rfl | hp
        · exact r.nkey
        · exact ih rs p hp
  cases r with
  | r r =>
    cases r with
    | dcn h n e rk r => exact ⟨_, _, rfl, ⟨h, ks e rk⟩, e, rk, r⟩
  | mn h e rk r n => exact ⟨_, _, rfl, ⟨h, ks e rk⟩, e, rk, r⟩
/-- what a look-up tells -/
def lookD : D → D → Option (Option D)
  | .dct l, e => e.key.map (kvGet l)
  | .dcn l, e => e.nkey.map (kvGet l)
  | _, _ => none
theorem look_rep {x y : V} {d e : D} {o : Option D} (rx : RepT G ad A M H x d) (ry : RepT G ad A M H y e) (h : lookD d e = some o) : ∃ a o', x = .ref a ∧ IsDU G.w H a ∧ DGetU G.w H a y o' ∧ LkR G ad M H o o' := by
  cases d with
  | dct l =>
    have h' : e.key.map (kvGet l) = some o := h
    obtain ⟨k, hk, rfl⟩ := Option.map_eq_some_iff.mp h'
    obtain ⟨a, kvs, rfl, ha, e1, r⟩ := rx.dct_
    have hy := ry.key hk
    subst hy
    refine ⟨a, valV kvs k, rfl, .inl (.inl ⟨kvs, .inl ha⟩), .inl (DGet.k ha), ?_⟩
    exact kv_get k e1 r
  | dcn l =>
    have h' : e.nkey.map (kvGet l) = some o := h
    obtain ⟨k, hk, rfl⟩ := Option.map_eq_some_iff.mp h'
    obtain ⟨a, kvs, rfl, D, e1, rk, r⟩ := rx.dcn_
    obtain ⟨b, K, rb⟩ := ry.keyAt hk
    refine ⟨a, valN kvs.1 k, rfl, .inr ⟨kvs, D⟩, .inr ⟨kvs, k, b, D, K, rfl⟩, ?_⟩
    rw [valN_un]
    exact kv_get (kvs := unN kvs.1) k (by rw [unN_1]; exact e1) (by rw [unN_2]; exact r)
  | _ => cases h
end
def ixV (d e : D) : Option D := match lookD d e with
  | some o => o
  | none => ixD d e
theorem o_ixV {G : Cl} : O2 G (rIxV G.K G.w) ixV := ⟨fun {ad A M H x y d e z} hm hA rx ry g Q q => by
  unfold ixV at g
  cases h : lookD d e with
  | none =>
    rw [h] at g
    exact .inl (o_ix.run hm hA rx ry g Q q)
  | some o =>
    rw [h] at g
    cases (show o = some z from g)
    obtain ⟨a, o', rfl, _, g', v, rfl, rv⟩ := look_rep rx ry h
    exact .inr ⟨a, v, rfl, g', q v H .refl rv⟩⟩
def inV (neg : Bool) (e d : D) : Option D := match lookD d e with
  | some o => some (.bl (neg ^^ o.isSome))
  | none => inD neg e d
theorem o_inV {G : Cl} : O2 G (rInV G.K G.w) (inV false) := ⟨fun {ad A M H x y d e z} hm hA rx ry g Q q => by
  unfold inV at g
  cases h : lookD e d with
  | none =>
    rw [h] at g
    exact .inl (o_inG.run hm hA rx ry g Q q)
  | some o =>
    rw [h] at g
    obtain rfl := Option.some.inj g
    obtain ⟨a, o', rfl, _, g', hv⟩ := look_rep ry rx h
    refine .inr ⟨a, o', rfl, g', ?_⟩
    rw [hv.isSome]
    exact q _ H .refl (.bl _)⟩
theorem o_notInV {G : Cl} : O2 G (rNotInV G.K G.w) (inV true) := ⟨fun {ad A M H x y d e z} hm hA rx ry g Q q => by
  unfold inV at g
  cases h : lookD e d with
  | none =>
    rw [h] at g
    exact .inl (o_notInG.run hm hA rx ry g Q q)
  | some o =>
    rw [h] at g
    obtain rfl := Option.some.inj g
    obtain ⟨a, o', rfl, _, g', hv⟩ := look_rep ry rx h
    refine .inr ⟨a, o', rfl, g', ?_⟩
    rw [hv.isSome]
    exact q _ H .refl (.bl _)⟩
section
variable {G : Cl} {E : XK}
/-- d.get(k, x) -/
def dGet2 (fd fk fx : DE) : DE := fun ρ m => (fd ρ m).bind fun d m1 => (fk ρ m1).bind fun k m2 => (fx ρ m2).bind fun x m3 => match lookD d k with
  | some o => .ok (o.getD x) m3
  | none => .bad
theorem RepT.isDU {ad : Ad} {A M : AP} {H : Hp} {x : V} {d : D} (r : RepT G ad A M H x d) (h : (∃ l, d = .dct l) ∨ ∃ l, d = .dcn l) : ∃ a, x = .ref a ∧ IsDU G.w H a := by
  rcases h with ⟨l, rfl⟩ | ⟨l, rfl⟩
  · obtain ⟨a, kvs, rfl, ha, _⟩ := r.dct_
    exact ⟨a, rfl, .inl (.inl ⟨kvs, .inl ha⟩)⟩
  · obtain ⟨a, kvs, rfl, D, _⟩ := r.dcn_
    exact ⟨a, rfl, .inr ⟨kvs, D⟩⟩
theorem lookD_dict {d e : D} {o : Option D} (h : lookD d e = some o) : (∃ l, d = .dct l) ∨ ∃ l, d = .dcn l := by
  cases d with
  | dct l => exact .inl ⟨l, rfl⟩
  | dcn l => exact .inr ⟨l, rfl⟩
  | _ => cases h
def isDictD : D → Bool
  | .dct _ => true
  | .dcn _ => true
  | _ => false
theorem isDictD_of {d : D} (h : isDictD d = true) : (∃ l, d = .dct l) ∨ ∃ l, d = .dcn l := by
  cases d with
  | dct l => exact .inl ⟨l, rfl⟩
  | dcn l => exact .inr ⟨l, rfl⟩
  | _ => cases h
/-- d.get(k, x), d a dict for sure -/
def dGetU (fd fk fx : DE) : DE := fun ρ m => (fd ρ m).bind fun d m1 => if isDictD d = true then (fk ρ m1).bind fun k m2 => (fx ρ m2).bind fun x m3 => match lookD d k with
  | some o => .ok (o.getD x) m3
  | none => .bad
  else .bad
theorem de_getU {td ty tx : TE} {fd fk fx : DE} (hd : Dq G E td fd) (hk : Dq G E ty fk) (hx : De G E tx fx) : De G E (tDGetU2 G.w td ty tx) (dGetU fd fk fx) := ⟨fun {B M pm ρ m σ H} e Q p => by
  refine hd.run e _ ((Post.bind p).imp' fun x H1 ⟨d1, m1, g1, r1, p1⟩ => ?_)
  have e1 := e.go g1
  split at p1
  rotate_left
  · exact p1.elim
  rename_i hdd
  obtain ⟨a, rfl, hU⟩ := r1.isDU (isDictD_of hdd)
  refine ⟨a, rfl, hU, hk.run e1 _ ((Post.bind p1).imp' fun y H2 ⟨d2, m2, g2, r2, p2⟩ => ?_)⟩
  have e2 := e1.go g2
  refine hx.run e2 _ ((Post.bind p2).imp' fun z H3 ⟨d3, m3, g3, r3, p3⟩ => ?_)
  have e3 := e2.go g3
  cases h : lookD d1 d2 with
  | none =>
    rw [h] at p3
    exact p3.elim
  | some o =>
    rw [h] at p3
    obtain ⟨a', o', ea, _, g', hv⟩ := look_rep ((r1.ext g2.x e.aM).ext g3.x e.aM) (r2.ext g3.x e.aM) h
    cases ea
    refine ⟨o', g', ?_⟩
    cases o with
    | none =>
      rw [show o' = none from hv]
      exact p3 _ _ e3.here r3
    | some zz =>
      obtain ⟨v, rfl, rv⟩ := hv
      exact p3 _ _ e3.here rv⟩
/-- xs[k] = e, d[k] = e, of a name of the frame -/
def storeD (i : Nat) (d k : D) (ρ : Ro) : Option Ro := match ρ[i]? with
  | some (some (.ml ds)) => match k with
    | .int k => (ixN ds.length k).map fun j => ρ.set i (some (.ml (ds.set j d)))
    | _ => none
  | some (some (.mk l)) => match k.key with
    | some k => if l.length ≤ 100000 then some (ρ.set i (some (.mk (kvPut l k d)))) else none
    | none => none
  | some (some (.mn l)) => match k.nkey with
    | some k => if l.length ≤ 100000 then some (ρ.set i (some (.mn (kvPut l k d)))) else none
    | none => none
  | _ => none
def hasM (ρ : Ro) (i : Nat) : Bool := match ρ[i]? with
  | some (some s) => s.mu
  | _ => false
def sStore (i : Nat) (fk : DE) (d : D) : DS := fun ρ m => if hasM ρ i = true then sBind (fk ρ m) fun k m1 => match storeD i d k ρ with
    | some ρ' => .nx ρ' m1
    | none => .bad
  else .bad
def sPutU (i : Nat) (fv fk : DE) : DS := fun ρ m => sBind (fv ρ m) fun d m1 => sStore i fk d ρ m1
theorem hasM_at {B : Bx} {M : AP} {pm : Nat → Addr} {ρ : Ro} {m : Mo} {σ : L2.St} {H : Hp} {i : Nat} (e : EnvR G B M pm ρ m σ H) (h : hasM ρ i = true) : σ[i]? = some (some (.ref (pm i))) := by
  unfold hasM at h
  split at h
  · rename_i s hs
    cases s with
    | v d => cases h
    | ml ds => obtain ⟨_, h1, _⟩ := e.sl i ds hs; exact h1
    | mk l => obtain ⟨_, h1, _⟩ := e.sk i l hs; exact h1
    | mn l => obtain ⟨_, h1, _⟩ := e.sn i l hs; exact h1
  · cases h
/-- the store itself -/
theorem store_at {i : Nat} {B : Bx} {M : AP} {pm : Nat → Addr} {ρ ρ' : Ro} {m : Mo} {σ : L2.St} {H : Hp} {v y : V} {d k : D} {Q : Hp → Prop} (e : EnvR G B M pm ρ m σ H) (rv : Rep G B.ad M H v d) (ry : Rep G B.ad M H y k) (h : storeD i d k ρ = some ρ')
    (q : ∀ H', EnvR G B M pm ρ' m σ H' → Stp M H M H' → Q H') : rSetV G.w (.ref (pm i)) y v H Q := by
  unfold storeD at h
  split at h
  · rename_i ds hs
    obtain ⟨vs, h1, h2, h3⟩ := e.sl i ds hs
    split at h
    · rename_i k
      obtain ⟨j, hj, rfl⟩ := Option.map_eq_some_iff.mp h
      cases ry
      obtain ⟨e', s'⟩ := e.updm (s' := .ml (ds.set j d)) (o := .lst (vs.set j v)) hs rfl ⟨_, rfl, h3.set rv j⟩
      exact .inl ⟨_, vs, k, j, rfl, rfl, h2, by rw [h3.length]; exact hj, q _ e' s'⟩
    · cases h
  · rename_i l hs
    obtain ⟨kvs, h1, h2, h3, h4⟩ := e.sk i l hs
    split at h
    rotate_left
    · cases h
    rename_i k hk
    split at h
    rotate_left
    · cases h
    rename_i hl
    cases h
    have hy := RepT.key (A := B.A) (.r ry) hk
    subst hy
    obtain ⟨q1, q2⟩ := kv_put k h3 h4 rv
    obtain ⟨e', s'⟩ := e.updm (s' := .mk (kvPut l k d)) (o := .dK (putK kvs k v)) hs rfl ⟨_, rfl, q1, q2⟩
    have hlen : kvs.length = l.length := by simpa using congrArg List.length h3
    exact .inr (.inl ⟨_, _, rfl, DPut.k h2 (by rw [hlen]; exact Nat.lt_of_le_of_lt hl (by decide)), q _ e' s'⟩)
  · rename_i l hs
    obtain ⟨kvs, h1, h2, h3, h4, h5⟩ := e.sn i l hs
    split at h
    rotate_left
    · cases h
    rename_i k hk
    split at h
    rotate_left
    · cases h
    rename_i hl
    cases h
    obtain ⟨b, K, rb⟩ := RepT.keyAt (A := B.A) (.r ry) hk
    obtain ⟨a, kvs', ea, D, e1, rk, r⟩ := RepT.dcn_ (.mn h2 h3 h4 h5 (e.mut i ⟨_, hs, rfl⟩))
    cases ea
    obtain ⟨q1, q2⟩ := kv_put (kvs := unN kvs'.1) k (by rw [unN_1]; exact e1) (by rw [unN_2]; exact r) rv
    have hlen : kvs'.1.length = l.length := by simpa using congrArg List.length e1
    refine .inr (.inr ⟨_, kvs', k, b, rfl, D, K, by rw [hlen]; exact Nat.lt_of_le_of_lt hl (by decide), fun ob => ?_⟩)
    obtain ⟨e', s'⟩ := e.updm (s' := .mn (kvPut l k d)) (o := dN G.w (pm i) (putN kvs'.1 k b v, ob)) hs rfl ⟨(putN kvs'.1 k b v, ob), rfl, by
      show (putN kvs'.1 k b v).map (·.1) = _
      rw [← unN_1, putN_un]
      exact q1, putN_keys e1 r rk rb, by
      show Reps G B.ad M H ((putN kvs'.1 k b v).map (·.2.2)) _
      rw [← unN_2, putN_un]
      exact q2⟩
    exact q _ e' s'
  · cases h
theorem store_run {i : Nat} {tk : TE} {fk : DE} {B : Bx} {M : AP} {pm : Nat → Addr} {ρ : Ro} {m : Mo} {σ : L2.St} {H : Hp} {v : V} {d : D} {Z : Ends} {q : L2.St → Hp → Prop} (hk : Dq G E tk fk) (hkv : De G E tk fk) (e : EnvR G B M pm ρ m σ H) (rv : Rep G B.ad M H v d) (p : PostS G E B M H (sStore i fk d ρ m) { Z with nx := q }) :
    gSub (tVar i) tk (rSetV G.w) v σ H q := by
  unfold sStore at p
  split at p
  rotate_left
  · exact p.elim
  rename_i hm
  refine ⟨_, hasM_at e hm, ?_⟩
  refine hkv.run e _ ((PostS.bind0 e p).imp' fun y H2 ⟨d2, m2, g2, r2, p2⟩ => ?_)
  have e2 := e.go g2
  split at p2
  rotate_left
  · exact p2.elim
  rename_i ρ' hs
  exact store_at e2 (rv.ext g2.x e.aM) r2 hs fun H' e' s' => p2 _ _ _ _ e' ((e.stp g2).trans s')
theorem ds_putU {tv tk : TE} {fv fk : DE} (i : Nat) (hv : De G E tv fv) (hk : De G E tk fk) : Ds G E (tAsg tv (gSub (tVar i) tk (rSetV G.w))) (sPutU i fv fk) := ⟨fun {B M pm ρ m σ H} e Z p => by
  refine hv.run e _ ((PostS.bind e p).imp' fun v H1 ⟨d1, m1, g1, r1, p1⟩ => ?_)
  exact store_run (Z := Z) hk.q hk (e.go g1) r1 p1⟩
theorem PostS.nxImp {B : Bx} {M : AP} {H : Hp} {r : SR} {Z : Ends} {q : L2.St → Hp → Prop} (h : PostS G E B M H r Z) (w : ∀ σ H, Z.nx σ H → q σ H) : PostS G E B M H r { Z with nx := q } := by
  cases r with
  | nx ρ m => exact fun M' pm σ H' e s => w _ _ (h M' pm σ H' e s)
  | _ => exact h
/-- d[k], d[l] = x, y -/
def sPut2 (i j : Nat) (fa fb fk fl : DE) : DS := fun ρ m => sBind (fa ρ m) fun x m1 => sBind (fb ρ m1) fun y m2 => match sStore i fk x ρ m2 with
  | .nx ρ1 m3 => sStore j fl y ρ1 m3
  | .exc c l m3 => .exc c l m3
  | _ => .bad
theorem ds_put2 {ta tb tk tl : TE} {fa fb fk fl : DE} (i j : Nat) (ha : De G E ta fa) (hb : De G E tb fb) (hk : De G E tk fk) (hl : De G E tl fl) :
    Ds G E (tAsg (tTup (tCons ta (tCons tb tNil))) (gTup G.K 2 (gCons (gSub (tVar i) tk (rSetV G.w)) (gCons (gSub (tVar j) tl (rSetV G.w)) gNil)))) (sPut2 i j fa fb fk fl) := ⟨fun {B M pm ρ m σ H} e Z p => by
  refine ha.run e _ ((PostS.bind0 e p).imp' fun v H1 ⟨d1, m1, g1, r1, p1⟩ => ?_)
  have e1 := e.go g1
  refine hb.run e1 _ ((PostS.bind0 e1 (p1.later (e.stp g1))).imp' fun u H2 ⟨d2, m2, g2, r2, p2⟩ => ?_)
  have e2 := e1.go g2
  refine ⟨by show 2 ≤ sizeLine; decide, fun t ht => ⟨t, _, rfl, SqT.of upd_same, rfl, _, _, rfl, ?_⟩⟩
  have g3 := e2.same (ExN.new (o := .tup [v, u]) ht)
  have e3 := e2.go g3
  have rv := (r1.ext g2.x e1.aM).ext g3.x e2.aM
  have ru := r2.ext g3.x e2.aM
  have st3 : Stp M H1 M (upd H2 t (.tup [v, u])) := (e1.stp g2).trans (e2.stp g3)
  refine store_run (Z := Z) hk.q hk e3 rv ?_
  cases hs : sStore i fk d1 ρ m2 with
  | nx ρ1 m3 =>
    rw [hs] at p2
    intro M' pm' σ' H4 e4 s4
    have q4 : PostS G E B M' H4 (sStore j fl d2 ρ1 m3) Z := PostS.later p2 (st3.trans s4)
    exact ⟨_, _, rfl, store_run (Z := Z) hl.q hl e4 (s4.mono ru) (q4.nxImp fun σ H q => ⟨rfl, q⟩)⟩
  | exc c l m3 => rw [hs] at p2; exact p2
  | bad => rw [hs] at p2; exact p2.elim
  | rt d m3 => rw [hs] at p2; exact p2.elim
  | bk ρ1 m3 => rw [hs] at p2; exact p2.elim
  | ct ρ1 m3 => rw [hs] at p2; exact p2.elim⟩
end
end Dn
namespace Dn
open PySem PySem.Spec PyProof.Rows L2

theorem RG.u10 {k : Nat} {A : Around} (r : RG k A) : A.units + 10 < cLine := by
  have := r.u64
  omega
section
variable {m m1 : Mo} {ρ : Ro} {n : Bool} {l : List D} {e d : D} {i k : Int} {x y : Str}
theorem ev_ixVL : ixV (.lst l) e = ixD (.lst l) e := Eq.trans rfl rfl
theorem ev_ixVT : ixV (.tup l) e = ixD (.tup l) e := Eq.trans rfl rfl
theorem ev_ixVS : ixV (.str x) e = ixD (.str x) e := Eq.trans rfl rfl
theorem ev_ixVI {l : List (Key × D)} : ixV (.dct l) (.int k) = kvGet l (.inl k) := Eq.trans rfl rfl
theorem ev_ixVX {l : List (Key × D)} : ixV (.dct l) (.str x) = kvGet l (.inr x) := Eq.trans rfl rfl
theorem ev_ixVN {l : List (NestedKey × D)} {k : NestedKey} (h : e.nkey = some k) : ixV (.dcn l) e = kvGet l k := by
  show (match e.nkey.map (kvGet l) with
    | some o => o
    | none => ixD (.dcn l) e) = _
  rw [h]
  rfl
theorem ev_inVL : inV n e (.lst l) = inD n e (.lst l) := Eq.trans rfl rfl
theorem ev_inVT : inV n e (.tup l) = inD n e (.tup l) := Eq.trans rfl rfl
theorem ev_inVI {l : List (Key × D)} : inV n (.int k) (.dct l) = some (.bl (n ^^ (kvGet l (.inl k)).isSome)) := Eq.trans rfl rfl
theorem ev_inVX {l : List (Key × D)} : inV n (.str x) (.dct l) = some (.bl (n ^^ (kvGet l (.inr x)).isSome)) := Eq.trans rfl rfl
theorem ev_inVN {l : List (NestedKey × D)} {k : NestedKey} (h : e.nkey = some k) : inV n e (.dcn l) = some (.bl (n ^^ (kvGet l k).isSome)) := by
  show (match e.nkey.map (kvGet l) with
    | some o => some (D.bl (n ^^ o.isSome))
    | none => inD n e (.dcn l)) = _
  rw [h]
  rfl
theorem ev_getU {fd fk fx : DE} : dGetU fd fk fx ρ m = (fd ρ m).bind fun d m1 => if isDictD d = true then (fk ρ m1).bind fun k m2 => (fx ρ m2).bind fun x m3 => match lookD d k with
  | some o => .ok (o.getD x) m3
  | none => .bad
  else .bad := Eq.trans rfl rfl
theorem ev_isDd {l : List (Key × D)} : isDictD (.dct l) = true := Eq.trans rfl rfl
theorem ev_isDn {l : List (NestedKey × D)} : isDictD (.dcn l) = true := Eq.trans rfl rfl
theorem ev_lookI {l : List (Key × D)} : lookD (.dct l) (.int k) = some (kvGet l (.inl k)) := Eq.trans rfl rfl
theorem ev_lookX {l : List (Key × D)} : lookD (.dct l) (.str x) = some (kvGet l (.inr x)) := Eq.trans rfl rfl
theorem ev_lookN {l : List (NestedKey × D)} {k : NestedKey} (h : e.nkey = some k) : lookD (.dcn l) e = some (kvGet l k) := by
  show e.nkey.map (kvGet l) = _
  rw [h]
  rfl
theorem ev_putU {i : Nat} {fv fk : DE} : sPutU i fv fk ρ m = sBind (fv ρ m) fun d m1 => sStore i fk d ρ m1 := Eq.trans rfl rfl
theorem ev_put2 {i j : Nat} {fa fb fk fl : DE} : sPut2 i j fa fb fk fl ρ m = sBind (fa ρ m) fun x m1 => sBind (fb ρ m1) fun y m2 => match sStore i fk x ρ m2 with
  | .nx ρ1 m3 => sStore j fl y ρ1 m3
  | .exc c l m3 => .exc c l m3
  | _ => .bad := Eq.trans rfl rfl
theorem ev_store {i : Nat} {fk : DE} : sStore i fk d ρ m = if hasM ρ i = true then sBind (fk ρ m) fun k m1 => match storeD i d k ρ with
    | some ρ' => .nx ρ' m1
    | none => .bad
  else .bad := Eq.trans rfl rfl
theorem ev_hasML {i : Nat} {ds : List D} (h : ρ[i]? = some (some (.ml ds))) : hasM ρ i = true := by unfold hasM; rw [h]; rfl
theorem ev_hasMK {i : Nat} {l : List (Key × D)} (h : ρ[i]? = some (some (.mk l))) : hasM ρ i = true := by unfold hasM; rw [h]; rfl
theorem ev_hasMN {i : Nat} {l : List (NestedKey × D)} (h : ρ[i]? = some (some (.mn l))) : hasM ρ i = true := by unfold hasM; rw [h]; rfl
theorem ev_hasM {i : Nat} : hasM ρ i = match ρ[i]? with
  | some (some s) => s.mu
  | _ => false := Eq.trans rfl rfl
theorem ev_muL {ds : List D} : (Sv.ml ds).mu = true := Eq.trans rfl rfl
theorem ev_muK {l : List (Key × D)} : (Sv.mk l).mu = true := Eq.trans rfl rfl
theorem ev_muN {l : List (NestedKey × D)} : (Sv.mn l).mu = true := Eq.trans rfl rfl
theorem ev_storeD {i : Nat} {k : D} : storeD i d k ρ = match ρ[i]? with
  | some (some (.ml ds)) => match k with
    | .int k => (ixN ds.length k).map fun j => ρ.set i (some (.ml (ds.set j d)))
    | _ => none
  | some (some (.mk l)) => match k.key with
    | some k => if l.length ≤ 100000 then some (ρ.set i (some (.mk (kvPut l k d)))) else none
    | none => none
  | some (some (.mn l)) => match k.nkey with
    | some k => if l.length ≤ 100000 then some (ρ.set i (some (.mn (kvPut l k d)))) else none
    | none => none
  | _ => none := Eq.trans rfl rfl
theorem ev_keyI : (D.int i).key = some (.inl i) := Eq.trans rfl rfl
theorem ev_keyX : (D.str x).key = some (.inr x) := Eq.trans rfl rfl
theorem ev_dvnew : dvNew ρ m = .ok (.mk []) m := Eq.trans rfl rfl
theorem ev_peekK0 {l : List (Key × D)} {r : Ro} : dPeek 0 (some (.mk l) :: r) m = .ok (.dct l) m := Eq.trans rfl rfl
theorem ev_peekN0 {l : List (NestedKey × D)} {r : Ro} : dPeek 0 (some (.mn l) :: r) m = .ok (.dcn l) m := Eq.trans rfl rfl
end
/-! look-ups behind stores -/
section
variable {κ : Type} [DecidableEq κ]
theorem kvGet_nil (k : κ) : kvGet ([] : List (κ × D)) k = none := rfl
theorem kvGet_put (l : List (κ × D)) (k j : κ) (d : D) : kvGet (kvPut l k d) j = if j = k then some d else kvGet l j := by
  have map_ : ∀ l : List (κ × D), kvGet (l.map fun p => if p.1 = k then (p.1, d) else p) j = (kvGet l j).map fun x => if j = k then d else x := by
    intro l
    induction l with
    | nil => rfl
    | cons p r ih =>
      unfold kvGet at ih ⊢
      rw [List.map_cons, List.find?_cons, List.find?_cons]
      have e1 : (if p.1 = k then (p.1, d) else p).1 = p.1 := by split <;> rfl
      rw [e1]
      by_cases hj : p.1 = j
      · rw [decide_eq_true hj]
        show some (if p.1 = k then (p.1, d) else p).2 = some (if j = k then d else p.2)
        by_cases hk : p.1 = k
        · rw [if_pos hk, if_pos (hj ▸ hk)]
        · rw [if_neg hk, if_neg (fun z => hk (hj.trans z))]
      · rw [decide_eq_false hj]
        exact ih
  have snoc_ : ∀ l : List (κ × D), kvGet l k = none → kvGet (l ++ [(k, d)]) j = if j = k then some d else kvGet l j := by
    intro l
    induction l with
    | nil =>
      intro _
      unfold kvGet
      rw [List.nil_append, List.find?_cons]
      by_cases hj : k = j
      · rw [decide_eq_true hj, if_pos hj.symm] <;> rfl
      · rw [decide_eq_false hj, if_neg fun z => hj z.symm] <;> rfl
    | cons p r ih =>
      intro h
      unfold kvGet at ih h ⊢
      rw [List.find?_cons] at h
      rw [List.cons_append, List.find?_cons, List.find?_cons]
      by_cases hk : p.1 = k
      · rw [decide_eq_true hk] at h
        cases h
      · rw [decide_eq_false hk] at h
        by_cases hj : p.1 = j
        · rw [decide_eq_true hj, if_neg fun z => hk (hj.trans z)]
        · rw [decide_eq_false hj]
          exact ih h
  unfold kvPut
  cases h : kvGet l k with
  | none =>
    rw [if_neg (by simp)]
    exact snoc_ l h
  | some d0 =>
    rw [if_pos (show (some d0).isSome = true from rfl), map_]
    by_cases hj : j = k
    · rw [hj, h]
      simp
    · rw [if_neg hj]
      cases kvGet l j <;> simp [hj]
theorem kvPut_len (l : List (κ × D)) (k : κ) (d : D) : (kvPut l k d).length ≤ l.length + 1 := by
  unfold kvPut
  split <;> simp
theorem kvPut_new {l : List (κ × D)} {k : κ} {d : D} (h : kvGet l k = none) : kvPut l k d = l ++ [(k, d)] := by
  unfold kvPut
  rw [h]
  rfl
theorem kvGet_none {l : List (κ × D)} {k : κ} : kvGet l k = none ↔ k ∉ l.map (·.1) := by
  induction l with
  | nil => simp [kvGet]
  | cons p r ih =>
    unfold kvGet at ih ⊢
    rw [List.find?_cons]
    by_cases hk : p.1 = k
    · rw [decide_eq_true hk]
      simp [hk]
    · rw [decide_eq_false hk, ih]
      simp [Ne.symm hk, eq_comm]
end
end Dn
namespace Dn
open PySem PySem.Spec PyProof.Rows L2

/-! dict comprehensions, by what an entry asks -/
section
variable {X : Cx}
def tDcG (o0 : Addr → HO) (Sx : V → V → Addr → Hp → (Hp → Prop) → Prop) (wi : TI) (g : TG) (tt : TT) (tk tv : TE) (vs : List Nat) : TE := fun σ H Q => wi σ H fun J H1 => ∀ D, H1 D = none → ∃ W : Nat → Nat → Hp → Prop, (∃ m, W 0 m (upd H1 D (o0 D))) ∧ ∀ i m H, W i m H →
  (J.stop i H ∧ Q (.ref D) H) ∨ (J.go i H ∧ ∃ Nx : Hp → Prop, (∀ H', Nx H' → ∃ m', m' < m ∧ W (i + 1) m' H') ∧ ∀ x H', J.yld i H x H' → g x (wipe σ vs) H' fun σ2 H2 => wipe σ2 vs = wipe σ vs ∧ tt σ2 H2 fun b H3 =>
    if b = true then tk σ2 H3 fun y H4 => tv σ2 H4 fun z H5 => Sx y z D H5 Nx else Nx H3)
def SetG (P : Program) (w : World) (un : Nat) (Sx : V → V → Addr → Hp → (Hp → Prop) → Prop) : Prop := ∀ {X : Cx} {pins : List (Addr × Obj)} {σ : L2.St} {H : Hp} {s : Shared} {E : Value → Shared → Prop} {D : Addr} {y v : V} {u r : Value} {Q : Unit → Shared → Prop} {Nx : Hp → Prop}, X.prog = P → X.w = w → X.A.units = un → Inv X pins σ H s → Sx y v D H Nx → RelV y u → RelV v r →
  (∀ s' H', Inv X pins σ H' s' → Nx H' → Q () s') → wpAny (model X.prog X.w) X.A (dictSet D u r) Q E s
def stK (y z : V) (D : Addr) (H : Hp) (Nx : Hp → Prop) : Prop := ∃ kvs k, y = kV k ∧ H D = some (.dK kvs) ∧ kvs.length < sizeLine ∧ Nx (upd H D (.dK (putK kvs k z)))
def stN (w : World) (y z : V) (D : Addr) (H : Hp) (Nx : Hp → Prop) : Prop := ∃ (kvs : KvN × Obj) (k : NestedKey) (b : Addr), NDict w H D kvs ∧ KeyAt H y k b ∧ kvs.1.length < sizeLine ∧ ∀ ob, Nx (upd H D (dN w D (putN kvs.1 k b z, ob)))
theorem setK {P : Program} {w : World} {un : Nat} : SetG P w un stK := fun {X pins σ H s E D y v u r Q Nx} _ _ _ I h ry rv q => by
  obtain ⟨kvs, k, rfl, hD, hz, n⟩ := h
  exact d_dictSet I hD hz ry rv fun s' I' => q s' _ I' n
theorem setN {P : Program} {w : World} {un : Nat} (hu : un + 10 < cLine) : SetG P w un (stN w) := fun {X pins σ H s E D y v u r Q Nx} _ ew eu I h ry rv q => by
  obtain ⟨kvs, k, b, dd, K, hl, n⟩ := h
  subst ew
  subst eu
  obtain ⟨_, z, hd, xs, rel, d2⟩ := dd.raw I.hok
  obtain ⟨⟨_, _, _, hdep, _⟩, _, _⟩ := I.hok _ _ dd.at_
  have e := K.e
  subst e
  cases (show u = Value.ref b from ry)
  have hz : xs.length ≤ sizeLine := by rw [← Paired.length rel]; exact z
  have hl2 : (putN kvs.1 k b v).length ≤ sizeLine := by have := length_putN kvs.1 k b v; omega
  have hdep2 : ∀ p ∈ putN kvs.1 k b v, p.1.depth ≤ 8 := fun p hp => by
    unfold putN at hp
    split at hp
    · obtain ⟨q, hq, e⟩ := List.mem_map.mp hp
      split at e <;> rw [← e] <;> exact hdep q hq
    · rcases List.mem_append.mp hp with hp | hp
      · exact hdep p hp
      · cases List.mem_singleton.mp hp
        exact K.d
  have room : (nestedKind X.prog X.w).room X.A := by
    show X.A.units + 8 < cLine
    omega
  refine wpAny_dictSet_heap (hsz := hz) room (K.is I.hok) d2 fun h' dd' hs => ?_
  obtain ⟨q1, es, ep, hq, h2, h3, h4, _, h5⟩ := dd'
  refine q _ (upd H D (dN X.w D (putN kvs.1 k b v, q1))) (d_write I (by rw [dd.at_]; unfold dN; exact True.intro) hs ⟨q1, hq⟩ ⟨⟨hq, hl2, hd, hdep2, _, NRel.put rel k b rv, es, ep, h2, h3, h4, h5⟩, ⟨q1, hq⟩, fun h1 h2 a1 st => ⟨st _ a1.1, a1.2⟩⟩) (n q1)
theorem dcG_core {pis : List (Addr × Obj)} {s : Shared} {σ : L2.St} {H : Hp} {Q : VK} {kex vex tg iter : Expr} {ifs : List Expr} {scp : Scope} {ownx : List (Str × Nat)} {pos pos' : Pos} {wi : TI} {g : TG} {tt : TT} {tkx tvx : TE} {usx : Option (Value → Sem Unit)} {Qf : Value → Shared → Prop} {o0 : Addr → HO} {Sx : V → V → Addr → Hp → (Hp → Prop) → Prop}
    (hcx : X.calm = true) (hNx : X.N.Nodup) (I : Inv X pis σ H s) (hi : PI X tg iter wi) (ok : BlkOk X.N X.env.scope scp ownx)
    (hgx : ∀ (s : Shared) (H : Hp) (C : Addr) (cl : List (Str × Addr)) (fpx : List Addr), PG (X.blk s H scp (compEnvC scp cl C X.env) fpx) tg g) (htx : ∀ (s : Shared) (H : Hp) (C : Addr) (cl : List (Str × Addr)) (fpx : List Addr), PTs (X.blk s H scp (compEnvC scp cl C X.env) fpx) ifs tt)
    (hkx : ∀ (s : Shared) (H : Hp) (C : Addr) (cl : List (Str × Addr)) (fpx : List Addr), PE (X.blk s H scp (compEnvC scp cl C X.env) fpx) kex tkx)
    (hex : ∀ (s : Shared) (H : Hp) (C : Addr) (cl : List (Str × Addr)) (fpx : List Addr), PE (X.blk s H scp (compEnvC scp cl C X.env) fpx) vex tvx) (hs : ∀ x, foldedSetIterable iter X.env x = pure x)
    (emp : ∀ (H : Hp) (hh : Heap), sysModules < hh.objs.size → ObjOk X.prog X.w H (hh.push dictO) hh.objs.size (o0 hh.objs.size)) (sto : SetG X.prog X.w X.A.units Sx)
    (h : tDcG o0 Sx wi g tt tkx tvx (ownx.map (·.2)) σ H Q)
    (hRR : ∀ D C s' m H', Inv X pis σ H' s' → Q (.ref D) H' → s'.heap.Ns C m → FpOk X pis H' C → compPost (model X.prog X.w) X.A X.xe usx Qf (.ref D) C (.ok .next) s') :
    wpAny (model X.prog X.w) X.A (comprehension (.DictComp kex vex [⟨tg, iter, ifs, 0⟩] scp pos) scp X.env pos' newDict false (eval iter X.env) usx) Qf X.xe s := by
  have hfree : ∀ y ∈ scp.names, y.2 = .free → ∃ c, X.env.cells.lookup y.1 = some c := fun y hy e => by
    rcases ok.free y hy e with k | k
    · exact I.ok.has _ (.inl k)
    · exact I.ok.has _ (.inr k)
  refine wpAny_comprehension_free (use := usx) rfl hs (closure_ok hfree) ok.kind (fun y hy e => by rw [ok.uniq y hy, e])
    (thn (hi.run pis s σ H _ I h) fun xv s1 hx => thn hx fun itv u2 h2 => ?_)
  obtain ⟨itx, fpx, tn, J, L2_, e, J2, T, st2, f2, q⟩ := h2
  subst e
  refine wpAny_newObj_type (newEnv_comp ?_)
  generalize hD : u2.heap.objs.size = D
  have hDn : L2_ D = none := J2.hok.fresh (Nat.le_of_eq hD)
  obtain ⟨W, ⟨m0, w0⟩, turn⟩ := q D hDn
  -- the new list
  generalize hs3 : ({ u2 with heap := u2.heap.push { cls := .type "dict", data := .dict #[] } } : Shared) = u3
  have J3 : Inv X pis σ (upd L2_ D (o0 D)) u3 := by
    rw [← hs3]
    refine J2.laid (t' := u2.toks) (fun b o e => Heap.get?_push_of_some _ e) (Nat.le_of_eq hD) ?_
    rw [← hD]
    exact emp _ u2.heap J2.big
  have h3 : u3.heap = u2.heap.push { cls := .type "dict", data := .dict #[] } := by rw [← hs3]
  have sz : ∀ b ∈ fpx, b < u2.heap.objs.size := fun b hb => by
    obtain ⟨o, e, _⟩ := T.obj _ _ st2 b hb
    exact Heap.lt_size e
  have f3 : ∀ b ∈ fpx, FpOk X pis (upd L2_ D (o0 D)) b ∧ b < u3.heap.objs.size := fun b hb => by
    have hlt := sz b hb
    refine ⟨⟨?_, (f2 b hb).2⟩, by rw [h3, Heap.size_push]; exact Nat.lt_succ_of_lt hlt⟩
    rw [upd_ne (by rw [← hD]; exact Nat.ne_of_lt hlt)]
    exact (f2 b hb).1
  have st3 : tn 0 u3.heap := T.keep _ _ _ st2 fun b _ o e => by rw [h3]; exact Heap.get?_push_of_some _ e
  have J4 := block_start J3 ok hNx f3
  have pg := hgx u3 (upd L2_ D (o0 D)) u3.heap.objs.size (cellsFrom (u3.heap.objs.size + 1) scp.names (cloFrom X.env.cells scp.names [])) fpx
  have pt := htx u3 (upd L2_ D (o0 D)) u3.heap.objs.size (cellsFrom (u3.heap.objs.size + 1) scp.names (cloFrom X.env.cells scp.names [])) fpx
  have pk := hkx u3 (upd L2_ D (o0 D)) u3.heap.objs.size (cellsFrom (u3.heap.objs.size + 1) scp.names (cloFrom X.env.cells scp.names [])) fpx
  have pe := hex u3 (upd L2_ D (o0 D)) u3.heap.objs.size (cellsFrom (u3.heap.objs.size + 1) scp.names (cloFrom X.env.cells scp.names [])) fpx
  show codeAny _ _ (.compStart (.DictComp kex vex [⟨tg, iter, ifs, 0⟩] scp pos) 0 (.ref itx) (.ref D) (compEnvC scp (cellsFrom (u3.heap.objs.size + 1) scp.names (cloFrom X.env.cells scp.names [])) u3.heap.objs.size X.env)) (compPost (model X.prog X.w) X.A X.xe usx Qf (.ref D) u3.heap.objs.size) { u3 with heap := pushCells (u3.heap.push { cls := .type "dict", data := .dict #[] }) scp.names }
  have nfp : ∀ b ∈ fpx, (upd L2_ D (o0 D)) b = none := fun b hb => (f3 b hb).1.1
  generalize hce : compEnvC scp (cellsFrom (u3.heap.objs.size + 1) scp.names (cloFrom X.env.cells scp.names [])) u3.heap.objs.size X.env = cen at J4 pg pt pk pe ⊢
  have cL : cen.locals = u3.heap.objs.size := by subst hce; rfl
  generalize hH3 : upd L2_ D (o0 D) = L3_ at J3 J4 pg pt pk pe w0 nfp f3
  generalize hs4 : ({ u3 with heap := pushCells (u3.heap.push { cls := .type "dict", data := .dict #[] }) scp.names } : Shared) = u4 at J4 ⊢
  have st4 : tn 0 u4.heap := T.keep _ _ _ st3 fun b _ o e => by rw [← hs4]; exact pushCells_keeps _ _ _ _ (Heap.get?_push_of_some _ e)
  have stt : ∀ {σ' : L2.St} {H' : Hp} {s' : Shared}, Inv (X.blk u3 L3_ scp cen fpx) [] σ' H' s' → (∀ b ∈ fpx, H' b = none) → ∀ b ∈ fpx, FpOk (X.blk u3 L3_ scp cen fpx) [] H' b := fun {σ' H' s'} I' hn b hb =>
    ⟨hn b hb, (I'.ok.exf b hb).1, I'.ok.exfs b hb, .inl hb, fun x c e => (I'.ok.exf b hb).2 x c e, fun p hp => absurd (show p ∈ ([] : List (Addr × Obj)) ++ [] from hp) (by simp)⟩
  have loop : codeAny (model X.prog X.w) X.A (.compLoop (.DictComp kex vex [⟨tg, iter, ifs, 0⟩] scp pos) 0 (.ref itx) (.ref D) cen) (compPost (model X.prog X.w) X.A X.xe usx Qf (.ref D) u3.heap.objs.size) u4 := by
    refine compLoop_anyD (fun n s' => ∃ i H', Inv (X.blk u3 L3_ scp cen fpx) [] (wipe σ (ownx.map (·.2))) H' s' ∧ tn i s'.heap ∧ (∀ b ∈ fpx, H' b = none) ∧ W i n H') ?_ m0 ⟨0, L3_, J4, st4, nfp, w0⟩
    rintro n u5 ⟨i, L5_, J5, st5, n5, w5⟩
    rcases turn i n L5_ w5 with ⟨stop, qq⟩ | ⟨go, Nx, hNx, step⟩
    · have td := T.done (X.blk u3 L3_ scp cen fpx) rfl rfl rfl hcx i [] u5 _ L5_ (fun _ _ => False) J5 (stt J5 n5) st5 stop
      refine thnF td fun r u6 ⟨hr, J6⟩ => ?_
      subst hr
      -- back in the def's context
      have J7 : Inv X pis σ L5_ u6 := J3.call' (ch := fpx) J6.os J6.base J6.hok J6.bare fun b hb => ⟨(f3 b hb).1.2.2.2.1, (f3 b hb).1.2.1, (f3 b hb).1.2.2.2.2.1, (f3 b hb).1.2.2.2.2.2⟩
      have nC : L5_ u3.heap.objs.size = none := by
        have z : L5_ cen.locals = none := J6.free
        rw [cL] at z
        exact z
      obtain ⟨m, hn, _⟩ := J6.loc
      have hn : u6.heap.Ns cen.locals m := hn
      rw [cL] at hn
      exact hRR D u3.heap.objs.size u6 m L5_ J7 qq hn (J3.fpOk (Nat.le_refl _) nC)
    · have ti := T.item (X.blk u3 L3_ scp cen fpx) rfl rfl rfl hcx i [] u5 _ L5_ (fun _ _ => False) J5 (stt J5 n5) st5 go
      refine thnF ti fun r u6 ⟨u, hr, h6⟩ => ?_
      subst hr
      refine thnF h6 fun _ u7 ⟨x, L7_, J7, r7, y7, st7, n7⟩ => ?_
      have J7' := J7.pinned (stt J7 n7) (T.obj _ _ st7)
      refine thnF (pg.run _ u7 _ L7_ x u _ J7' r7 (step x L7_ y7)) fun _ u8 ⟨σ8, L8_, J8, hw8, q8⟩ => ?_
      refine thnF (pt.run _ u8 σ8 L8_ _ J8 q8) fun b u9 ⟨L9_, J9, q9⟩ => ?_
      -- the turn's end
      have fnn : ∀ {s' : Shared} {H' : Hp}, Inv (X.blk u3 L3_ scp cen fpx) ([] ++ pinsAt fpx u7.heap) σ8 H' s' → Nx H' → ∃ m, m < n ∧ ∃ i H', Inv (X.blk u3 L3_ scp cen fpx) [] (wipe σ (ownx.map (·.2))) H' s' ∧ tn i s'.heap ∧ (∀ b ∈ fpx, H' b = none) ∧ W i m H' := fun {s' H'} I' nx => by
        obtain ⟨m', hm, w'⟩ := hNx H' nx
        have pin' : ∀ b ∈ fpx, ∀ o, u7.heap.get? b = some o → s'.heap.get? b = some o ∧ H' b = none := fun b hb o e =>
          let z := I'.pin (b, o) (List.mem_append_right _ (List.mem_append_right _ (mem_pinsAt hb e)))
          ⟨z.1, z.2.1⟩
        have hl : (wipe σ (ownx.map (·.2))).length = σ8.length := by rw [← hw8, wipe_length]
        refine ⟨m', hm, i + 1, H', (I'.unpinned (pins := [])).weak hl (fun j v e => ?_), T.keep _ _ _ st7 fun b hb o e => (pin' b hb o e).1, fun b hb => ?_, w'⟩
        · rw [← hw8] at e
          exact (wipe_some e).1
        · obtain ⟨o, e, _⟩ := T.obj _ _ st7 b hb
          exact (pin' b hb o e).2
      cases b with
      | false =>
        simp only [Bool.false_eq_true, if_false] at q9 ⊢
        exact fnn J9 q9
      | true =>
        simp only [if_true] at q9 ⊢
        refine thnF (pk.run _ u9 σ8 L9_ _ J9 q9) fun z u10 ⟨yk, L10_, J10, r10, q10⟩ => ?_
        refine thnF (pe.run _ u10 σ8 L10_ _ J10 q10) fun z2 u11 ⟨yv, L11_, J11, r11, nx⟩ => ?_
        exact sto (X := X.blk u3 L3_ scp cen fpx) rfl rfl rfl J11 nx r10 r11 fun u12 L12_ J12 n12 => fnn J12 n12
  exact codeAny_compStart_dict loop (T.self X.A 0 _ _ _ st4 loop)
theorem pe_dcG {kx vx tg iter : Expr} {ifs : List Expr} {scope : Scope} {own : List (Str × Nat)} {pos : Pos} {wi : TI} {g : TG} {tt : TT} {tk tv : TE} {o0 : Addr → HO} {Sx : V → V → Addr → Hp → (Hp → Prop) → Prop} (hc : X.calm = true) (hN : X.N.Nodup)
    (emp : ∀ (H : Hp) (hh : Heap), sysModules < hh.objs.size → ObjOk X.prog X.w H (hh.push dictO) hh.objs.size (o0 hh.objs.size)) (sto : SetG X.prog X.w X.A.units Sx) (hi : PI X tg iter wi) (ok : BlkOk X.N X.env.scope scope own)
    (hg : ∀ (s : Shared) (H : Hp) (C : Addr) (cl : List (Str × Addr)) (fp : List Addr), PG (X.blk s H scope (compEnvC scope cl C X.env) fp) tg g)
    (ht : ∀ (s : Shared) (H : Hp) (C : Addr) (cl : List (Str × Addr)) (fp : List Addr), PTs (X.blk s H scope (compEnvC scope cl C X.env) fp) ifs tt)
    (hk : ∀ (s : Shared) (H : Hp) (C : Addr) (cl : List (Str × Addr)) (fp : List Addr), PE (X.blk s H scope (compEnvC scope cl C X.env) fp) kx tk)
    (he : ∀ (s : Shared) (H : Hp) (C : Addr) (cl : List (Str × Addr)) (fp : List Addr), PE (X.blk s H scope (compEnvC scope cl C X.env) fp) vx tv) (hs : ∀ x, foldedSetIterable iter X.env x = pure x := by intro _; rfl) :
    PE X (.DictComp kx vx [⟨tg, iter, ifs, 0⟩] scope pos) (tDcG o0 Sx wi g tt tk tv (own.map (·.2))) := ⟨fun pi s σ H Q I h => by
  rw [arm_eval_DictComp]
  refine dcG_core hc hN I hi ok hg ht hk he hs emp sto h fun D C s1 m H1 I1 q hn f => ⟨m, hn, fun h2 sb => ?_⟩
  obtain ⟨f0, f1, f2, f3, f4, f5⟩ := f
  exact ⟨.ref D, H1, I1.turned (t' := s1.toks) (fun b o hb e => (sb.2 b hb).trans e) f0 f1 f3 f4 f5, rfl, q⟩⟩
def o0K (_ : Addr) : HO := .dK []
def o0N (w : World) (D : Addr) : HO := dN w D ([], dictO)
/-- {k: v for ..}, keys whole numbers or texts -/
theorem empK {P : Program} {w : World} (H : Hp) (hh : Heap) (hb : sysModules < hh.objs.size) : ObjOk P w H (hh.push dictO) hh.objs.size (o0K hh.objs.size) := dk_empty hh hb
theorem empN {P : Program} {w : World} (H : Hp) (hh : Heap) (hb : sysModules < hh.objs.size) : ObjOk P w H (hh.push dictO) hh.objs.size (o0N w hh.objs.size) := NDict.empty hh hb
/-- {} for keys that are tuples -/
def tDNewN (w : World) : TE := fun _ H Q => ∀ p, H p = none → Q (.ref p) (upd H p (o0N w p))
theorem pe_dnewN {pos : Pos} : PE X (.Dict [] [] pos) (tDNewN X.w) := ⟨fun pi s σ H Q I h =>
  wpAny_Dict_empty ⟨.ref s.heap.objs.size, _, I.laid (a := s.heap.objs.size) (o := o0N X.w s.heap.objs.size) (t' := s.toks) (fun _ _ q => Heap.get?_push_of_some _ q) (Nat.le_refl _) (empN _ s.heap I.big), rfl, h _ (I.hok.fresh (Nat.le_refl _))⟩⟩
end
end Dn
namespace Dn
open PySem PySem.Spec PyProof.Rows L2

/-! dict comprehensions over data -/
section
variable {κ : Type} [DecidableEq κ]
def dcD (kf : D → Option κ) (h : D → Ro → Option Ro) (tt : DT) (fk fv : DE) : List D → List (κ × D) → Ro → Mo → R (List (κ × D))
  | [], acc, _, m => .ok acc m
  | d :: r, acc, ρ, m => match h d ρ with
    | none => .bad
    | some ρ1 => match tt ρ1 m with
      | .ok true m1 => match fk ρ1 m1 with
        | .ok y m2 => match fv ρ1 m2 with
          | .ok x m3 => match kf y with
            | some k => if acc.length ≤ 100000 then dcD kf h tt fk fv r (kvPut acc k x) ρ m3 else .bad
            | none => .bad
          | _ => .bad
        | _ => .bad
      | .ok false m1 => dcD kf h tt fk fv r acc ρ m1
      | _ => .bad
def dDcG (kf : D → Option κ) (fi : DI) (h : D → Ro → Option Ro) (tt : DT) (fk fv : DE) (vs : List Nat) : Ro → Mo → R (List (κ × D)) := fun ρ m => (fi ρ m).bind fun ds m1 => if ds.length ≤ 100000 then dcD kf h tt fk fv ds [] (wipeD ρ vs) m1 else .bad
theorem dcD_exc {kf : D → Option κ} {h : D → Ro → Option Ro} {tt : DT} {fk fv : DE} {c : Nat} {l : List D} {mx : Mo} : ∀ (ds : List D) (acc : List (κ × D)) (ρ : Ro) (m : Mo), dcD kf h tt fk fv ds acc ρ m ≠ .exc c l mx
  | [], _, _, _ => fun z => by cases z
  | d :: r, acc, ρ, m => fun z => by
    unfold dcD at z
    split at z
    · cases z
    · split at z
      · split at z
        · split at z
          · split at z
            · split at z
              · exact dcD_exc r _ _ _ z
              · cases z
            · cases z
          · cases z
        · cases z
      · exact dcD_exc r _ _ _ z
      · cases z
/-- what an entry's store needs to be told -/
structure StOk (G : Cl) (kf : D → Option κ) (mkS : List (κ × D) → Sv) (o0 : Addr → HO) (Sx : V → V → Addr → Hp → (Hp → Prop) → Prop) : Prop where
  t0 : ∀ q ps, o0 q ≠ .tbl ps
  c0 : ∀ {ad : Ad} {M : AP} {H : Hp} {q : Addr}, CnAt G ad M (upd H q (o0 q)) q (mkS [])
  fre : ∀ {ad : Ad} {M : AP} {H : Hp} {q : Addr} {l : List (κ × D)}, CnAt G ad M H q (mkS l) → Fre H q
  sto : ∀ {ad : Ad} {M : AP} {H : Hp} {q : Addr} {l : List (κ × D)} {y z : V} {e x : D} {k : κ} {Nx : Hp → Prop}, CnAt G ad M H q (mkS l) → Rep G ad M H y e → Rep G ad M H z x → kf e = some k → l.length ≤ 100000 → M q →
    (∀ o, (∀ ps, o ≠ .tbl ps) → CnAt G ad M (upd H q o) q (mkS (kvPut l k x)) → Nx (upd H q o)) → Sx y z q H Nx
/-- the two kinds -/
theorem stOkK {G : Cl} : StOk G D.key Sv.mk o0K stK where
  t0 := fun D ps z => by cases z
  c0 := fun {ad M H D} => ⟨[], upd_same, rfl, .nil⟩
  fre := fun {ad M H D l} h => by
    obtain ⟨kvs, h1, _⟩ := h
    exact .dK h1
  sto := fun {ad M H D l y z e x k Nx} c ry rz hk hl hM q => by
    obtain ⟨kvs, h1, h2, h3⟩ := c
    have hy := RepT.key (A := M) (.r ry) hk
    subst hy
    obtain ⟨q1, q2⟩ := kv_put k h2 h3 rz
    have hlen : kvs.length = l.length := by simpa using congrArg List.length h2
    have xx : Ext (fun b => b = D) H (upd H D (.dK (putK kvs k z))) := Ext.refl.chg (.inr rfl)
    exact ⟨kvs, k, rfl, h1, by rw [hlen]; exact Nat.lt_of_le_of_lt hl (by decide), q _ (fun ps z => by cases z) ⟨_, upd_same, q1, q2.ext xx fun b hb => hb ▸ hM⟩⟩
theorem stOkN {G : Cl} : StOk G D.nkey Sv.mn (o0N G.w) (stN G.w) where
  t0 := fun D ps => dN_ntbl ps
  c0 := fun {ad M H D} => ⟨([], dictO), upd_same, rfl, .nil, .nil⟩
  fre := fun {ad M H D l} h => by
    obtain ⟨kvs, h1, _⟩ := h
    exact .dN h1
  sto := fun {ad M H D l y z e x k Nx} c ry rz hk hl hM q => by
    obtain ⟨kvs0, h1, h2, h3, h4⟩ := c
    obtain ⟨b, K, rb⟩ := RepT.keyAt (A := Non) (.r ry) hk
    obtain ⟨a, kvs, ea, DD, e1, rk, r⟩ := RepT.dcn_ (A := Non) (.mn h1 h2 h3 h4 fun z => z)
    cases ea
    obtain ⟨q1, q2⟩ := kv_put (kvs := unN kvs.1) k (by rw [unN_1]; exact e1) (by rw [unN_2]; exact r) rz
    have hlen : kvs.1.length = l.length := by simpa using congrArg List.length e1
    refine ⟨kvs, k, b, DD, K, by rw [hlen]; exact Nat.lt_of_le_of_lt hl (by decide), fun ob => q _ dN_ntbl ?_⟩
    have xx : Ext (fun b => b = D) H (upd H D (dN G.w D (putN kvs.1 k b z, ob))) := Ext.refl.chg (.inr rfl)
    have hA : ∀ b, b = D → M b := fun b hb => hb ▸ hM
    exact ⟨(putN kvs.1 k b z, ob), upd_same, by
      show (putN kvs.1 k b z).map (·.1) = _
      rw [← unN_1, putN_un]
      exact q1, (putN_keys e1 r rk rb).ext xx hA, by
      show Reps G ad M _ ((putN kvs.1 k b z).map (·.2.2)) _
      rw [← unN_2, putN_un]
      exact q2.ext xx hA⟩
section
variable {G : Cl} {E : XK} {B : Bx} {M : AP} {pm : Nat → Addr} {ρ : Ro} {m m' : Mo} {σ : L2.St} {H H' : Hp}
theorem dc_run {kf : D → Option κ} {mkS : List (κ × D) → Sv} {o0 : Addr → HO} {Sx : V → V → Addr → Hp → (Hp → Prop) → Prop} {wi : TI} {g : TG} {tt : TT} {tk tv : TE} {fi : DI} {h : D → Ro → Option Ro} {ft : DT} {fk fv : DE} {os vs : List Nat} (S : StOk G kf mkS o0 Sx) (hi : Di G E wi fi) (hg : Dg G g h os) (ht : Dt G E00 tt ft) (hk : De G E00 tk fk) (hv : De G E00 tv fv) (hos : ∀ i ∈ os, i ∈ vs)
    (e : EnvR G B M pm ρ m σ H) (Q : VK) (p : PostM G E B M H (fun m' H' v l => ∃ D, v = .ref D ∧ ¬ Liv H D ∧ CnAt G B.ad (fun b => M b ∨ b = D) H' D (mkS l) ∧ MRep G (fun b => M b ∨ b = D) H' m') (dDcG kf fi h ft fk fv vs ρ m) Q) : tDcG o0 Sx wi g tt tk tv vs σ H Q := by
  refine hi.run e _ ((PostM.bind p).imp' fun J H1 ⟨ds, m1, g1, ⟨I, wk, hI⟩, p1⟩ => ?_)
  have e1 := e.go g1
  split at p1
  rotate_left
  · exact p1.elim
  rename_i hlen
  intro D hD
  have xD : Ext Non H1 (upd H1 D (o0 D)) := Ext.new hD
  have eP := (e1.plus (o := o0 D) hD (S.t0 D))
  have offD := e1.offX (Liv.none hD)
  have eW := eP.wipe (vs := vs)
  have st0 : Stp M H1 (fun b => M b ∨ b = D) (upd H1 D (o0 D)) := ⟨xD.imp fun _ z => z.elim, fun b hb => hb.elim .inl fun z => .inr (by rw [z]; exact Liv.none hD)⟩
  have nD : ¬ (B.plus D).A D := offD.2.2
  cases hxs : dcD kf h ft fk fv ds [] (wipeD ρ vs) m1 with
  | bad =>
    rw [hxs] at p1
    exact p1.elim
  | exc c l mx => exact (dcD_exc ds _ _ _ hxs).elim
  | ok xs mx =>
    rw [hxs] at p1
    refine ⟨fun i n H' => n = ds.length - i ∧ i ≤ ds.length ∧ ∃ m' acc, dcD kf h ft fk fv (ds.drop i) acc (wipeD ρ vs) m' = .ok xs mx ∧ EnvR G (B.plus D) (fun b => M b ∨ b = D) pm (wipeD ρ vs) m' (L2.wipe σ vs) H' ∧ Stp M H1 (fun b => M b ∨ b = D) H' ∧ I (fun b => M b ∨ b = D) H' ∧
        CnAt G B.ad (fun b => M b ∨ b = D) H' D (mkS acc) ∧ Ext B.A H1 H',
      ⟨ds.length, by omega, Nat.zero_le _, m1, [], hxs, eW, st0, wk.keep hI st0, S.c0, xD.imp fun _ z => z.elim⟩, ?_⟩
    rintro i n H' ⟨rfl, hile, m', acc, hl, e', s', I', hc, xx⟩
    by_cases hlt : i < ds.length
    · refine .inr ⟨wk.go I' hlt, fun H2 => ∃ m2 acc, dcD kf h ft fk fv (ds.drop (i + 1)) acc (wipeD ρ vs) m2 = .ok xs mx ∧ EnvR G (B.plus D) (fun b => M b ∨ b = D) pm (wipeD ρ vs) m2 (L2.wipe σ vs) H2 ∧ Stp M H1 (fun b => M b ∨ b = D) H2 ∧ I (fun b => M b ∨ b = D) H2 ∧
          CnAt G B.ad (fun b => M b ∨ b = D) H2 D (mkS acc) ∧ Ext B.A H1 H2, ?_, ?_⟩
      · rintro H2 ⟨m2, acc, a1, a2, a3, a4, a5, a6⟩
        exact ⟨ds.length - (i + 1), by omega, rfl, by omega, m2, acc, a1, a2, a3, a4, a5, a6⟩
      · intro x H2 hy
        obtain ⟨x2, r2⟩ := wk.yld I' e'.hm (List.getElem?_eq_getElem hlt) hy
        have g2 := e'.same x2
        have e2 := e'.go g2
        rw [List.drop_eq_getElem_cons hlt] at hl
        unfold dcD at hl
        cases hρ : h ds[i] (wipeD ρ vs) with
        | none =>
          rw [hρ] at hl
          cases hl
        | some ρ1 =>
          rw [hρ] at hl
          dsimp only at hl
          refine hg.run e2 r2 hρ _ fun σ3 e3 w3 => ⟨?_, ?_⟩
          · rw [w3 vs hos]
            exact wipe_twice
          · refine ht.run e3 _ ?_
            cases hb : ft ρ1 m' with
            | bad => rw [hb] at hl; cases hl
            | exc c l m4 => rw [hb] at hl; cases hl
            | ok b m4 =>
              rw [hb] at hl
              intro b' H4 g4 hbb
              subst hbb
              have e4 := e2.go g4
              have s4 : Stp M H1 (fun b => M b ∨ b = D) H4 := (s'.trans (e'.stp g2)).trans (e2.stp g4)
              have I4 := wk.keep I' ((e'.stp g2).trans (e2.stp g4))
              have hc4 : CnAt G B.ad (fun b => M b ∨ b = D) H4 D (mkS acc) := (hc.mono x2.k (fun _ z => z.elim) (fun _ h => h) (fun z => z)).mono g4.x e2.aM (fun _ h => h) nD
              have xx4 : Ext B.A H1 H4 := (xx.trans (x2.k.imp fun _ z => z.elim)).trans g4.x
              cases b' with
              | false =>
                refine iteF ?_
                exact ⟨m4, acc, hl, e4, s4, I4, hc4, xx4⟩
              | true =>
                refine iteT ?_
                dsimp only at hl
                refine hk.run (e3.go g4) _ ?_
                cases hvk : fk ρ1 m4 with
                | bad => rw [hvk] at hl; cases hl
                | exc c l m5 => rw [hvk] at hl; cases hl
                | ok y m5 =>
                  rw [hvk] at hl
                  dsimp only at hl
                  intro vy H5 g5 ry
                  have e5 := e4.go g5
                  have hc5 := hc4.mono g5.x e4.aM (fun _ h => h) nD
                  refine hv.run ((e3.go g4).go g5) _ ?_
                  cases hvv : fv ρ1 m5 with
                  | bad => rw [hvv] at hl; cases hl
                  | exc c l m6 => rw [hvv] at hl; cases hl
                  | ok z m6 =>
                    rw [hvv] at hl
                    dsimp only at hl
                    intro vz H6 g6 rz
                    have e6 := e5.go g6
                    have hc6 := hc5.mono g6.x e5.aM (fun _ h => h) nD
                    have ry6 := ry.ext g6.x e5.aM
                    split at hl
                    rotate_left
                    · cases hl
                    rename_i k hkk
                    split at hl
                    rotate_left
                    · cases hl
                    rename_i hla
                    refine S.sto hc6 ry6 rz hkk hla (.inr rfl) fun o to cn => ?_
                    have hXD : (B.plus D).X D := .inr rfl
                    have e7 := e6.chgX (o := o) hXD offD.1 to (S.fre hc6)
                    have x7 : Ext (fun b => M b ∨ b = D) H6 (upd H6 D o) := Ext.refl.chg (.inr (.inr rfl))
                    have s7 : Stp (fun b => M b ∨ b = D) H6 (fun b => M b ∨ b = D) (upd H6 D o) := ⟨x7, fun _ h => .inl h⟩
                    refine ⟨m6, kvPut acc k z, hl, e7, ((s4.trans (e4.stp g5)).trans (e5.stp g6)).trans s7, wk.keep I4 (((e4.stp g5).trans (e5.stp g6)).trans s7), cn, ?_⟩
                    exact ((xx4.trans g5.x).trans g6.x).chg (.inl (Liv.none hD))
    · have hi' : i = ds.length := by omega
      subst hi'
      rw [List.drop_length] at hl
      unfold dcD at hl
      cases hl
      exact .inl ⟨wk.stop I', p1 _ _ ⟨xx, e'.ea, e'.eh, e'.mr.less fun b h => .inl h, e'.tb⟩ ⟨D, rfl, none_back e g1 hD, hc, e'.mr⟩⟩
theorem dv_dcK {wi : TI} {g : TG} {tt : TT} {tk tv : TE} {fi : DI} {h : D → Ro → Option Ro} {ft : DT} {fk fv : DE} {os vs : List Nat} (hi : Di G E wi fi) (hg : Dg G g h os) (ht : Dt G E00 tt ft) (hk : De G E00 tk fk) (hv : De G E00 tv fv) (hos : ∀ i ∈ os, i ∈ vs) :
    Dv G E (tDcG o0K stK wi g tt tk tv vs) (fun ρ m => (dDcG D.key fi h ft fk fv vs ρ m).map .mk) := ⟨fun {B M pm ρ m σ H} e Q p => by
  refine dc_run stOkK hi hg ht hk hv hos e Q ((PostM.bindM p).imp' fun v H' ⟨l, m1, g1, ⟨D, hv, hD, hc, hmr⟩, p1⟩ => ?_)
  subst hv
  exact p1 _ _ (e.go g1).here ⟨D, rfl, hD, hc, hmr⟩⟩
theorem dv_dcN {wi : TI} {g : TG} {tt : TT} {tk tv : TE} {fi : DI} {h : D → Ro → Option Ro} {ft : DT} {fk fv : DE} {os vs : List Nat} (hi : Di G E wi fi) (hg : Dg G g h os) (ht : Dt G E00 tt ft) (hk : De G E00 tk fk) (hv : De G E00 tv fv) (hos : ∀ i ∈ os, i ∈ vs) :
    Dv G E (tDcG (o0N G.w) (stN G.w) wi g tt tk tv vs) (fun ρ m => (dDcG D.nkey fi h ft fk fv vs ρ m).map .mn) := ⟨fun {B M pm ρ m σ H} e Q p => by
  refine dc_run stOkN hi hg ht hk hv hos e Q ((PostM.bindM p).imp' fun v H' ⟨l, m1, g1, ⟨D, hv, hD, hc, hmr⟩, p1⟩ => ?_)
  subst hv
  exact p1 _ _ (e.go g1).here ⟨D, rfl, hD, hc, hmr⟩⟩
/-- as values that stay -/
theorem de_dcK {wi : TI} {g : TG} {tt : TT} {tk tv : TE} {fi : DI} {h : D → Ro → Option Ro} {ft : DT} {fk fv : DE} {os vs : List Nat} (hi : Di G E wi fi) (hg : Dg G g h os) (ht : Dt G E00 tt ft) (hk : De G E00 tk fk) (hv : De G E00 tv fv) (hos : ∀ i ∈ os, i ∈ vs) :
    De G E (tDcG o0K stK wi g tt tk tv vs) (fun ρ m => (dDcG D.key fi h ft fk fv vs ρ m).map .dct) := ⟨fun {B M pm ρ m σ H} e Q p => by
  refine dc_run stOkK hi hg ht hk hv hos e Q ((Post.bindM p).imp' fun v H' ⟨l, m1, g1, ⟨D, hv, hD, ⟨kvs, c1, c2, c3⟩, hmr⟩, p1⟩ => ?_)
  subst hv
  exact p1 _ _ (e.go g1).here (.dct c1 (fun z => hD (e.hl D z)) c2 (c3.less fun b h => .inl h))⟩
theorem de_dcN {wi : TI} {g : TG} {tt : TT} {tk tv : TE} {fi : DI} {h : D → Ro → Option Ro} {ft : DT} {fk fv : DE} {os vs : List Nat} (hi : Di G E wi fi) (hg : Dg G g h os) (ht : Dt G E00 tt ft) (hk : De G E00 tk fk) (hv : De G E00 tv fv) (hos : ∀ i ∈ os, i ∈ vs) :
    De G E (tDcG (o0N G.w) (stN G.w) wi g tt tk tv vs) (fun ρ m => (dDcG D.nkey fi h ft fk fv vs ρ m).map .dcn) := ⟨fun {B M pm ρ m σ H} e Q p => by
  refine dc_run stOkN hi hg ht hk hv hos e Q ((Post.bindM p).imp' fun v H' ⟨l, m1, g1, ⟨D, hv, hD, ⟨kvs, c1, c2, c3, c4⟩, hmr⟩, p1⟩ => ?_)
  subst hv
  exact p1 _ _ (e.go g1).here (.dcn c1 (fun z => hD (e.hl D z)) c2 (c3.less fun b h => .inl h) (c4.less fun b h => .inl h))⟩
/-- {} for keys that are tuples -/
def dvNewN : DV := fun _ m => .ok (.mn []) m
theorem dv_dnewN : Dv G E (tDNewN G.w) dvNewN := ⟨fun {B M pm ρ m σ H} e Q p => by
  intro d hd
  exact Post.newV (s := .mn []) e e.here hd rfl ⟨([], dictO), upd_same, rfl, .nil, .nil⟩ p⟩
end
end
end Dn
namespace Dn
open PySem PySem.Spec PyProof.Rows L2

/-! walking a dict whose keys are tuples: its object is pinned, so no lock is needed -/
def Itn (w : World) (d : Addr) (kvs : KvN × Obj) : It :=
  ⟨fun i H => NDict w H d kvs ∧ i < kvs.1.length, fun i H x H' => H' = H ∧ ∃ (k : NestedKey) (q : Addr) (v : V), kvs.1[i]? = some (k, q, v) ∧ x = .ref q, fun i H => NDict w H d kvs ∧ kvs.1.length ≤ i⟩
section
variable {X : Cx} {pins : List (Addr × Obj)} {σ : L2.St} {H : Hp} {s : Shared} {d : Addr} {kvs : KvN × Obj}
theorem NDict.ents (I : Inv X pins σ H s) (D : NDict X.w H d kvs) : (d == sysModules) = false ∧ s.heap.get? d = some kvs.2 ∧ kvs.2.ExactDict ∧ ∃ (es : Array DictEntry) (ep : Nat), kvs.2.data = .dict es ep ∧ es.size = kvs.1.length ∧
    ∀ (i : Nat) (k : NestedKey) (q : Addr) (v : V), kvs.1[i]? = some (k, q, v) → ∃ en : DictEntry, es[i]? = some en ∧ en.key = .ref q ∧ RelV v en.val := by
  obtain ⟨⟨h0, z, hd, hdep, xs, r, es, ep, h2, h3, h4, h5⟩, _, _⟩ := I.hok _ _ D.at_
  have l1 : es.size = xs.length := by
    have e := congrArg List.length h4
    rw [List.length_map, Array.length_toList] at e
    exact e
  refine ⟨hd, h0, h2, es, ep, h3, by rw [l1]; exact (Paired.length r).symm, fun i k q v e => ?_⟩
  obtain ⟨b, hb, e1, e2, e3⟩ := paired_get r e
  refine ⟨⟨NestedKey.hash X.w b.1, .ref b.2.1, b.2.2⟩, ?_, ?_, e3⟩
  · rw [← Array.getElem?_toList, h4, List.getElem?_map, hb]
    rfl
  · show Value.ref b.2.1 = Value.ref q
    rw [← e2]
end
section
variable {P : Program} {w : World} {K : PySem.W.Frag} {tg : Expr} {d : Addr} {es : Array DictEntry} {ep : Nat}
theorem turn_keysN {kvs : KvN × Obj} (it : Addr) (hod : kvs.2.data = .dict es ep) : Turn P w K tg (Itn w d kvs) [it] it (fun i h => h.IsKeyIter it d i kvs.1.length ep) where
  mem := by simp
  obj := fun i h tt b hb => by
    have eb : b = it := by simpa using hb
    subst eb
    obtain ⟨oi, e0, c0, dt⟩ := tt
    exact ⟨oi, e0, fun v z => by rw [dt] at z; cases z⟩
  keep := fun i h h' tt k => tt.at fun oi e => k it (by simp) oi e
  item := by
    intro X eP eW eK hc i pi u σ H E I hf tt hg
    subst eP eW eK
    obtain ⟨D, hi⟩ := hg
    obtain ⟨a0, a1, a2, a3, a4, a5⟩ := hf it (by simp)
    obtain ⟨b1, hgd, b2, es', ep', hdt, hsz, ent⟩ := NDict.ents I D
    obtain ⟨rfl, rfl⟩ := dict_ep hod hdt
    obtain ⟨⟨k, q, v⟩, hkv⟩ : ∃ p, kvs.1[i]? = some p := ⟨kvs.1[i], List.getElem?_eq_getElem hi⟩
    obtain ⟨en, hen, hkey, _⟩ := ent i k q v hkv
    refine next_key_item tt hgd hdt hsz hen fun h1 t1 sb => ?_
    have J1 : Inv X pi σ H { u with heap := h1 } := I.turned (t' := u.toks) (fun b ob hb e => (sb.2 b hb).trans e) a0 a1 a3 a4 a5
    obtain ⟨oi, e0, c0, dt⟩ := id t1
    exact ⟨en.key, rfl, go_of (s := { u with heap := h1 }) e0 c0 dt (by decide) ⟨.ref q, H, J1, hkey, ⟨rfl, k, q, v, hkv, rfl⟩, t1, fun b hb => (hf b hb).1⟩⟩
  done := by
    intro X eP eW eK hc i pi u σ H E I hf tt hg
    subst eP eW eK
    obtain ⟨D, hi⟩ := hg
    obtain ⟨a0, a1, a2, a3, a4, a5⟩ := hf it (by simp)
    obtain ⟨b1, hgd, b2, es', ep', hdt, hsz, ent⟩ := NDict.ents I D
    obtain ⟨rfl, rfl⟩ := dict_ep hod hdt
    exact next_key_end (I.ok.hd hc) tt hgd hdt hsz hi fun h1 eb => ⟨rfl, I.turned (t' := u.toks) (fun b ob hb e => eb b ob hb e) a0 a1 a3 a4 a5⟩
  self := fun A i u Q E tt h => by
    refine wpAny_pyIter_slot tt.typeIs F.slot_dict_keyiterator_iter (wpAny_call_entry F.slot_dict_keyiterator_iter tt.typeIs F.entry_dict_keyiterator_iter ?_ (F.args_dict_keyiterator_iter_1 _))
    show wpAny _ _ (ret (.ref it)) _ _ u
    exact wpAny_pure ⟨_, rfl, "dict_keyiterator", _, tt.typeIs, F.slot_dict_keyiterator_next.lookup, h⟩
end
def iKeysN (w : World) (td : TE) : TI := fun σ H R => td σ H fun x H1 => ∃ d kvs, x = .ref d ∧ NDict w H1 d kvs ∧ R (Itn w d kvs) H1
theorem pi_keysN {X : Cx} {tg e : Expr} {td : TE} (he : PE X e td) : PI X tg e (iKeysN X.w td) := by
  refine ⟨fun pi s σ H R I h => ?_⟩
  refine thn (he.run pi s σ H _ I h) fun u s1 ⟨x, H1, I1, rx, d, kvs, ex, D, q⟩ => ?_
  subst ex
  obtain rfl : u = Value.ref d := rx
  obtain ⟨hs, hgd, hx, es, ep, hdt, hsz, ent⟩ := NDict.ents I1 D
  refine iter_keys hs hgd hx hdt (pi_one (tk := s1.toks) I1 _ (turn_keysN _ hdt) ⟨_, Heap.get?_push_size _ rfl, rfl, ?_⟩ q)
  rw [hsz] <;> rfl
section
variable {G : Cl} {E : XK}
theorem kDs_len : ∀ ks : List NestedKey, (kDs ks).length = ks.length
  | [] => rfl
  | k :: r => by
    unfold kDs
    rw [List.length_cons, List.length_cons, kDs_len r]
theorem ksN {ad : Ad} {M : AP} {H : Hp} {kvs : KvN} {l : List (NestedKey × D)} (e : kvs.map (·.1) = l.map (·.1)) (rk : Reps G ad M H (kvs.map fun p => V.ref p.2.1) (kDs (l.map (·.1)))) : ∀ p ∈ kvs, NKey H (.ref p.2.1) p.1 := by
  rw [← e] at rk
  clear e
  induction kvs with
  | nil => exact fun p hp => by cases hp
  | cons q r ih =>
    cases rk with
    | cons r1 r2 =>
      intro p hp
      rcases List.mem_cons.mp hp with rfl | hp
      · exact r1.nkey
      · exact ih r2 p hp
theorem Reps.stp {ad : Ad} {M M' : AP} {H H' : Hp} (s : Stp M H M' H') : ∀ {vs : List V} {ds : List D}, Reps G ad M H vs ds → Reps G ad M' H' vs ds
  | _, _, .nil => .nil
  | _, _, .cons r rs => .cons (s.mono r) (Reps.stp s rs)
theorem wk_keysN {ad : Ad} {a : Addr} {kvs : KvN × Obj} {l : List (NestedKey × D)} (he : kvs.1.map (·.1) = l.map (·.1)) : Wk G ad (Itn G.w a kvs) (kDs (l.map (·.1))) (fun M H => H a = some (dN G.w a kvs) ∧ ¬ M a ∧ Reps G ad M H (kvs.1.map fun p => V.ref p.2.1) (kDs (l.map (·.1))) ∧ Reps G ad M H (kvs.1.map (·.2.2)) (l.map (·.2))) where
  keep := fun {M M' H H'} ⟨h, n, r, r2⟩ s => by
    have z := s.mono (.dcn h n he r r2)
    obtain ⟨kv2, e2, q⟩ : ∃ kv2 : KvN × Obj, H' a = some (dN G.w a kv2) ∧ True := by
      cases z with
      | dcn h' n' he' r' r2' => exact ⟨_, h', trivial⟩
    have e3 : H' a = some (dN G.w a kvs) := s.1 _ _ n dN_ntbl h
    have n' : ¬ M' a := by
      cases z with
      | dcn h' n' he' r' r2' => exact n'
    refine ⟨e3, n', ?_, ?_⟩
    · exact Reps.stp s r
    · exact Reps.stp s r2
  stop := fun {M H} ⟨h, n, r, r2⟩ => ⟨⟨h, ksN he r⟩, Nat.le_of_eq (by rw [kDs_len, ← he, List.length_map])⟩
  go := fun {M H i} ⟨h, n, r, r2⟩ hi => ⟨⟨h, ksN he r⟩, by rw [kDs_len, ← he, List.length_map] at hi; exact hi⟩
  yld := fun {M H H' i d x} ⟨h, n, r, r2⟩ _ hd y => by
    obtain ⟨rfl, k, q, v, hk, rfl⟩ := y
    obtain ⟨u, hu, ru⟩ := r.getD hd
    rw [List.getElem?_map, hk] at hu
    cases hu
    exact ⟨.refl, ru⟩
def dKeysN (f : DE) : DI := fun ρ m => (f ρ m).bind fun d m1 => match d with
  | .dcn l => .ok (kDs (l.map (·.1))) m1
  | _ => .bad
theorem di_keysN {t : TE} {f : DE} (h : De G E t f) : Di G E (iKeysN G.w t) (dKeysN f) := ⟨fun {B M pm ρ m σ H} e Q p => by
  refine h.run e _ ((Post.bind p).imp' fun x H1 ⟨d1, m1, g1, r1, p1⟩ => ?_)
  have e1 := e.go g1
  split at p1
  · cases r1 with
    | dcn hh n he rk r => exact ⟨_, _, rfl, ⟨hh, ksN he rk⟩, p1 _ _ e1.here ⟨_, wk_keysN he, hh, n, rk, r⟩⟩
  · exact p1.elim⟩
end
end Dn
namespace Dn
open PySem PySem.Spec PyProof.Rows L2
open PySem.W (dataLt alike AlikeAll iter_listW cmpIn_lt cmpIn_gt moved_old argBest_fold)

/-! min, max and sorted of lists of alike values -/
def betterD (mx : Bool) (x y : PyData) : Bool := if mx = true then dataLt y x else dataLt x y
def rBest (K : PySem.W.Frag) (mx : Bool) : List V → Hp → VK → Prop := fun vs H Q => ∃ a xs ds, vs = [V.ref a] ∧ SqL K H a xs ∧ DpAll K H xs ds ∧ 0 < ds.length ∧ AlikeAll ds ∧ PyData.depthAll ds ≤ 60 ∧
  ∀ x, xs[argBest (fun i j => betterD mx (ds.getD i .none) (ds.getD j .none)) (ds.length - 1)]? = some x → Q x H
section
variable {X : Cx}
theorem vals_back {xs : List V} {us : List Value} {i : Nat} {u : Value} (r : Vals xs us) (h : us[i]? = some u) : ∃ x, xs[i]? = some x ∧ RelV x u := by
  induction r generalizing i with
  | nil => simp at h
  | cons r t ih =>
    cases i with
    | zero =>
      simp only [List.getElem?_cons_zero, Option.some.injEq] at h
      subst h
      exact ⟨_, rfl, r⟩
    | succ i =>
      simp only [List.getElem?_cons_succ] at h ⊢
      exact ih h
theorem call_minU (hc : X.calm = true) (hu : X.A.units + 200 < cLine) : CallR X (.builtin "min") (rBest X.K false) := by
  intro pi s σ H vs us Q I r h
  obtain ⟨a, xs, ds, rfl, hs, dp, hne, hal, hd, q⟩ := h
  obtain ⟨its, rv, hl, _⟩ := I.list hs
  rw [Vals.ref1 r]
  obtain ⟨as, hr⟩ := Dp.readsAll I ds xs its dp rv
  have hr' : ReadsAll s.heap its.toArray.toList ds as := by
    rw [List.toList_toArray]
    exact hr
  have hn : its.toArray.size = ds.length := PySem.W.readsAll_len hr'
  refine call_min_walkH (iter_listW (A := X.A.in1) (I.ok.hd hc) hl.isList fun s₂ e W st hfp hw hk => ?_)
  refine ⟨_, _, _, _, _, _, _, s.heap, _, rfl, W, st, hfp, by omega, hw, hk, cmpIn_lt (A := X.A.in1) hr' hal (by show X.A.units + 1 + _ < _; omega), fun v s' hP m => ?_⟩
  obtain ⟨h', tk, rfl, hk'⟩ := moved_old e rfl m
  rw [hn] at hP
  have hP' : its[argBest (fun i j => betterD false (ds.getD i .none) (ds.getD j .none)) (ds.length - 1)]? = some v := by
    have z : its.toArray[argBest (fun i j => dataLt (ds.getD i .none) (ds.getD j .none)) (ds.length - 1)]? = some v := hP
    rw [List.getElem?_toArray] at z
    exact z
  obtain ⟨x, hx, rx⟩ := vals_back rv hP'
  exact ⟨x, H, I.kept hk', rx, q x hx⟩
theorem call_maxU (hc : X.calm = true) (hu : X.A.units + 200 < cLine) : CallR X (.builtin "max") (rBest X.K true) := by
  intro pi s σ H vs us Q I r h
  obtain ⟨a, xs, ds, rfl, hs, dp, hne, hal, hd, q⟩ := h
  obtain ⟨its, rv, hl, _⟩ := I.list hs
  rw [Vals.ref1 r]
  obtain ⟨as, hr⟩ := Dp.readsAll I ds xs its dp rv
  have hr' : ReadsAll s.heap its.toArray.toList ds as := by
    rw [List.toList_toArray]
    exact hr
  have hn : its.toArray.size = ds.length := PySem.W.readsAll_len hr'
  refine call_max_walkH (iter_listW (A := X.A.in1) (I.ok.hd hc) hl.isList fun s₂ e W st hfp hw hk => ?_)
  refine ⟨_, _, _, _, _, _, _, s.heap, _, rfl, W, st, hfp, by omega, hw, hk, cmpIn_gt (A := X.A.in1) hr' hal (by show X.A.units + 1 + _ < _; omega), fun v s' hP m => ?_⟩
  obtain ⟨h', tk, rfl, hk'⟩ := moved_old e rfl m
  rw [hn] at hP
  have hP' : its[argBest (fun i j => betterD true (ds.getD i .none) (ds.getD j .none)) (ds.length - 1)]? = some v := by
    have z : its.toArray[argBest (fun i j => dataLt (ds.getD j .none) (ds.getD i .none)) (ds.length - 1)]? = some v := hP
    rw [List.getElem?_toArray] at z
    exact z
  obtain ⟨x, hx, rx⟩ := vals_back rv hP'
  exact ⟨x, H, I.kept hk', rx, q x hx⟩
end
def bestD (mx : Bool) (x : D) (xs : List D) : D := xs.foldl (fun a y => if betterD mx y.py a.py then y else a) x
def isSomeD : D → Bool
  | .non => false
  | _ => true
def ordOk (ds : List D) : Bool := D.plains 60 ds && (ds.all fun x => ds.all fun y => alike x.py y.py) && ds.all isSomeD
def bestLD (mx : Bool) : List D → Option D
  | [.lst (x :: xs)] => if ordOk (x :: xs) = true then some (bestD mx x xs) else none
  | _ => none
theorem py_some {n : Nat} {d : D} (h : d.plain n = true) (s : isSomeD d = true) : d.py ≠ .none := by
  cases d <;> first
    | (intro z; simp [D.py] at z; done)
    | (cases n <;> simp [D.plain] at h; done)
    | (cases s; done)
theorem ordOk_alike {ds : List D} (h : ordOk ds = true) : D.plains 60 ds = true ∧ AlikeAll (D.pys ds) := by
  unfold ordOk at h
  rw [Bool.and_eq_true, Bool.and_eq_true] at h
  refine ⟨h.1.1, fun x hx y hy => ?_, fun x hx => ?_⟩
  · rw [D.pys_map] at hx hy
    obtain ⟨a, ha, rfl⟩ := List.mem_map.mp hx
    obtain ⟨b, hb, rfl⟩ := List.mem_map.mp hy
    exact List.all_eq_true.mp (List.all_eq_true.mp h.1.2 a ha) b hb
  · rw [D.pys_map] at hx
    obtain ⟨a, ha, rfl⟩ := List.mem_map.mp hx
    have hp := h.1.1
    rw [D.plains_all] at hp
    exact py_some (List.all_eq_true.mp hp a ha) (List.all_eq_true.mp h.2 a ha)
theorem pys_getD (ds : List D) (i : Nat) : (D.pys ds).getD i .none = (ds.getD i .non).py := by
  rw [D.pys_map, List.getD_eq_getElem?_getD, List.getD_eq_getElem?_getD, List.getElem?_map]
  cases ds[i]? <;> rfl
theorem n_best {G : Cl} {mx : Bool} : ON G (rBest G.K mx) (bestLD mx) := ⟨fun {ad A M H xs ds z} hm hA r g Q q => by
  unfold bestLD at g
  split at g
  · rename_i x l
    split at g
    · rename_i ho
      cases g
      obtain ⟨p1, p2⟩ := ordOk_alike ho
      obtain ⟨y, rfl, ry⟩ := r.one
      obtain ⟨a, vs, rfl, ha, ra⟩ := ry.lst
      have dp : DpAll G.K H vs (D.pys (x :: l)) := Reps.dp p1 ra
      refine ⟨a, vs, _, rfl, SqL.of ha, dp, by rw [D.pys_map, List.length_map]; exact Nat.zero_lt_succ _, p2, (plains_lay p1).2, fun v hv => q _ _ .refl ?_⟩
      have e1 : (D.pys (x :: l)).length - 1 = l.length := by rw [D.pys_map, List.length_map]; rfl
      rw [e1] at hv
      have e2 := argBest_fold (fun a b : D => betterD mx a.py b.py) D.non x l l.length (Nat.le_refl _)
      have e3 : (fun i j => betterD mx ((D.pys (x :: l)).getD i .none) ((D.pys (x :: l)).getD j .none)) = (fun i j => betterD mx ((x :: l).getD i D.non).py ((x :: l).getD j D.non).py) := by
        funext i j
        rw [pys_getD, pys_getD]
      rw [e3] at hv
      rw [List.take_length] at e2
      have hlt : argBest (fun i j => betterD mx ((x :: l).getD i D.non).py ((x :: l).getD j D.non).py) l.length < (x :: l).length := Nat.lt_succ_of_le e2.1
      obtain ⟨w, hw, rw_⟩ := ra.getD (List.getElem?_eq_getElem hlt)
      have e4 := Option.some.inj (hv.symm.trans hw)
      subst e4
      have e5 : (x :: l)[argBest (fun i j => betterD mx ((x :: l).getD i D.non).py ((x :: l).getD j D.non).py) l.length] = bestD mx x l := by
        have z := e2.2
        rw [List.getD_eq_getElem?_getD, List.getElem?_eq_getElem hlt] at z
        exact z
      rw [← e5]
      exact rw_
    · cases g
  · cases g⟩
end Dn
namespace Dn
open PySem PySem.Spec PyProof.Rows L2
open PySem.W (alike AllAlike EachIs dataLe sorted_data)

/-! sorted of lists of alike values -/
def rSrt (K : PySem.W.Frag) : List V → Hp → VK → Prop := fun vs H Q => ∃ a xs ds, vs = [V.ref a] ∧ SqL K H a xs ∧ DpAll K H xs ds ∧ AllAlike ds ∧ PySem.W.Sortable ds ∧ PyData.depthAll ds ≤ 60 ∧
  ∀ p, H p = none → Q (.ref p) (upd H p (.lst (((xs.zip ds).mergeSort (dataLe false (·.2))).map (·.1))))
theorem dpAll_len {K : PySem.W.Frag} {H : Hp} : ∀ {xs : List V} {ds : List PyData}, DpAll K H xs ds → xs.length = ds.length
  | _, _, .nil => rfl
  | _, _, .cons _ t => by rw [List.length_cons, List.length_cons, dpAll_len t]
theorem map_snd_zip' {α β : Type} : ∀ {xs : List α} {ds : List β}, xs.length = ds.length → (xs.zip ds).map (·.2) = ds ∧ (xs.zip ds).map (·.1) = xs
  | [], [], _ => ⟨rfl, rfl⟩
  | x :: xs, d :: ds, h => by
    obtain ⟨a, b⟩ := map_snd_zip' (xs := xs) (ds := ds) (by simpa using h)
    exact ⟨by simp only [List.zip_cons_cons, List.map_cons, a], by simp only [List.zip_cons_cons, List.map_cons, b]⟩
  | [], _ :: _, h => by simp at h
  | _ :: _, [], h => by simp at h
theorem depth_mem : ∀ {ds : List PyData} {d : PyData}, d ∈ ds → d.depth ≤ PyData.depthAll ds
  | x :: r, d, h => by
    rcases List.mem_cons.mp h with rfl | h
    · exact Nat.le_max_left _ _
    · exact Nat.le_trans (depth_mem h) (Nat.le_max_right _ _)
section
variable {X : Cx}
theorem each_zip {s : Shared} {K : PySem.W.Frag} {H : Hp} (rd : ∀ (d : PyData) (v : V) (u : Value), Dp K H v d → RelV v u → ∃ as, Reads s.heap u d as) : ∀ {xs : List V} {ds : List PyData} {us : List Value}, DpAll K H xs ds → Vals xs us →
    EachIs (fun u (b : V × PyData) => RelV b.1 u) us (xs.zip ds) ∧ EachIs (fun u (b : V × PyData) => ∃ as, Reads s.heap u b.2 as) us (xs.zip ds)
  | _, _, _, .nil, .nil => ⟨.nil, .nil⟩
  | _, _, _, .cons d t, .cons r rs => by
    obtain ⟨a, b⟩ := each_zip rd t rs
    exact ⟨.cons r a, .cons (rd _ _ _ d r) b⟩
theorem each_vals {out : List Value} : ∀ {bs : List (V × PyData)}, EachIs (fun u (b : V × PyData) => RelV b.1 u) out bs → Vals (bs.map (·.1)) out
  | _, h => by
    induction h with
    | nil => exact .nil
    | cons r t ih => exact .cons r ih
theorem call_sortU (hu : X.A.units + 200 < cLine) : CallR X (.builtin "sorted") (rSrt X.K) := by
  intro pi s σ H vs us Q I r h
  obtain ⟨a, xs, ds, rfl, hs, dp, hal, hk, hd, q⟩ := h
  obtain ⟨its, rv, hl, hz⟩ := I.list hs
  rw [Vals.ref1 r]
  obtain ⟨e1, e2⟩ := each_zip (s := s) (fun d v u h r => Dp.reads I d v u h r) dp rv
  have el := dpAll_len dp
  obtain ⟨z1, z2⟩ := map_snd_zip' el
  have hlz : (xs.zip ds).length = xs.length := by
    rw [← List.length_map (f := (·.1)), z2]
  refine sorted_data (enc := fun b : V × PyData => b.2) hl.isList e1 e2 (by rw [z1]; exact hal) (by rw [z1]; exact hk) (by rw [hlz]; exact hz) (fun b hb => ?_) fun out ho hE => ?_
  · have : b.2 ∈ ds := by
      rw [← z1]
      exact List.mem_map_of_mem hb
    have := depth_mem this
    omega
  · have rv2 := each_vals hE
    obtain ⟨ep, he'⟩ := PyProof.Rows.sortedAll_at s.heap its out.toArray
    have hlen : (((xs.zip ds).mergeSort (dataLe false (·.2))).map (·.1)).length ≤ sizeLine := by
      rw [List.length_map, List.length_mergeSort, hlz]
      exact hz
    exact ⟨.ref _, _, I.laid (t' := s.toks) (fun _ _ => PyProof.Rows.sortedAll_old) (Nat.le_succ _) (a := s.heap.objs.size + 1) (o := .lst (((xs.zip ds).mergeSort (dataLe false (·.2))).map (·.1))) ⟨hlen, out, ep, rv2, by simpa using he'⟩, rfl, q _ (I.hok.fresh (Nat.le_succ _))⟩
end
def srtOk (ds : List D) : Bool := D.plains 60 ds && (ds.all fun x => ds.all fun y => alike x.py y.py) && ((ds.all fun | .tup (_ :: _) => true | _ => false) || ds.all fun | .tup _ => false | .non => false | _ => true)
def srtLD : List D → Option D
  | [.lst l] => if srtOk l = true then some (.lst (l.mergeSort (dataLe false D.py))) else none
  | _ => none
theorem srtOk_ok {ds : List D} (h : srtOk ds = true) : D.plains 60 ds = true ∧ AllAlike (D.pys ds) ∧ PySem.W.Sortable (D.pys ds) := by
  unfold srtOk at h
  rw [Bool.and_eq_true, Bool.and_eq_true] at h
  have hp := h.1.1
  rw [D.plains_all] at hp
  refine ⟨h.1.1, fun x hx y hy => ?_, ?_⟩
  · rw [D.pys_map] at hx hy
    obtain ⟨a, ha, rfl⟩ := List.mem_map.mp hx
    obtain ⟨b, hb, rfl⟩ := List.mem_map.mp hy
    exact List.all_eq_true.mp (List.all_eq_true.mp h.1.2 a ha) b hb
  · rcases Bool.or_eq_true_iff.mp h.2 with q | q
    · refine .inl fun x hx => ?_
      rw [D.pys_map] at hx
      obtain ⟨a, ha, rfl⟩ := List.mem_map.mp hx
      have z := List.all_eq_true.mp q a ha
      cases a with
      | tup l =>
        cases l with
        | nil => cases z
        | cons y r => exact ⟨y.py, D.pys r, by simp [D.py, D.pys]⟩
      | _ => cases z
    · refine .inr fun x hx => ?_
      rw [D.pys_map] at hx
      obtain ⟨a, ha, rfl⟩ := List.mem_map.mp hx
      have z := List.all_eq_true.mp q a ha
      have hpa := List.all_eq_true.mp hp a ha
      cases a with
      | tup l => cases z
      | non => cases z
      | obj _ _ => simp [D.plain] at hpa
      | dct _ => simp [D.plain] at hpa
      | dcn _ => simp [D.plain] at hpa
      | exc _ _ => simp [D.plain] at hpa
      | drw => simp [D.plain] at hpa
      | scr _ => simp [D.plain] at hpa
      | cel _ => simp [D.plain] at hpa
      | bl b => exact ⟨by simp [D.py], fun xs z => by simp [D.py] at z⟩
      | int b => exact ⟨by simp [D.py], fun xs z => by simp [D.py] at z⟩
      | str b => exact ⟨by simp [D.py], fun xs z => by simp [D.py] at z⟩
      | lst b => exact ⟨by simp [D.py], fun xs z => by simp [D.py] at z⟩
theorem reps_zip {G : Cl} {ad : Ad} {M : AP} {H : Hp} {vs : List V} {ds : List D} (r : Reps G ad M H vs ds) : ∀ p ∈ vs.zip ds, Rep G ad M H p.1 p.2 := by
  induction vs generalizing ds with
  | nil => exact fun p hp => by simp at hp
  | cons v vs ih =>
    cases r with
    | cons r t =>
      intro p hp
      rcases List.mem_cons.mp hp with rfl | hp
      · exact r
      · exact ih t p hp
theorem reps_of {G : Cl} {ad : Ad} {M : AP} {H : Hp} : ∀ {l : List (V × D)}, (∀ p ∈ l, Rep G ad M H p.1 p.2) → Reps G ad M H (l.map (·.1)) (l.map (·.2))
  | [], _ => .nil
  | p :: r, h => .cons (h p List.mem_cons_self) (reps_of fun q hq => h q (List.mem_cons_of_mem _ hq))
theorem n_srt {G : Cl} : ON G (rSrt G.K) srtLD := ⟨fun {ad A M H xs ds z} hm hA r g Q q => by
  unfold srtLD at g
  split at g
  · rename_i l
    split at g
    · rename_i ho
      cases g
      obtain ⟨p1, p2, p3⟩ := srtOk_ok ho
      obtain ⟨y, rfl, ry⟩ := r.one
      obtain ⟨a, vs, rfl, ha, ra⟩ := ry.lst
      have dp : DpAll G.K H vs (D.pys l) := Reps.dp p1 ra
      refine ⟨a, vs, _, rfl, SqL.of ha, dp, p2, p3, (plains_lay p1).2, fun p hp => q _ _ (ExN.new hp) ?_⟩
      have el : vs.length = l.length := ra.length
      obtain ⟨z1, z2⟩ := map_snd_zip' el
      have e1 : ((vs.zip (D.pys l)).mergeSort (dataLe false (·.2))) = ((vs.zip l).mergeSort (dataLe false fun p : V × D => p.2.py)).map fun p => (p.1, p.2.py) := by
        rw [List.map_mergeSort (r := dataLe false fun p : V × D => p.2.py) (s := dataLe false (·.2)) (f := fun p : V × D => (p.1, p.2.py)) (fun a _ b _ => rfl)]
        congr 1
        rw [D.pys_map]
        clear z1 z2 dp p1 p2 p3 ho
        have : ∀ (vs : List V) (l : List D), vs.zip (l.map D.py) = (vs.zip l).map fun p => (p.1, p.2.py) := by
          intro vs
          induction vs with
          | nil => intro l; simp
          | cons v vs ih =>
            intro l
            cases l with
            | nil => simp
            | cons d l => simp [ih]
        exact this vs l
      have e2 : l.mergeSort (dataLe false D.py) = ((vs.zip l).mergeSort (dataLe false fun p : V × D => p.2.py)).map (·.2) := by
        rw [List.map_mergeSort (r := dataLe false fun p : V × D => p.2.py) (s := dataLe false D.py) (f := fun p : V × D => p.2) (fun a _ b _ => rfl), z1]
      rw [e1, e2, List.map_map]
      refine Reps.newL hm hp (reps_of fun p hp => reps_zip ra p ((List.mergeSort_perm _ _).subset hp))
    · cases g
  · cases g⟩
end Dn
namespace Dn
open PySem PySem.Spec PyProof.Rows L2
section
variable {G : Cl} {E : XK}
/-- a = b = e -/
def sAsg2 (f : DE) (h1 h2 : D → Ro → Option Ro) : DS := fun ρ m => sBind (f ρ m) fun d m1 => match h1 d ρ with
  | some ρ1 => match h2 d ρ1 with
    | some ρ2 => .nx ρ2 m1
    | none => .bad
  | none => .bad
theorem ds_asg2 {t : TE} {f : DE} {g1 g2 : TG} {h1 h2 : D → Ro → Option Ro} {o1 o2 : List Nat} (ht : De G E t f) (hg1 : Dg G g1 h1 o1) (hg2 : Dg G g2 h2 o2) : Ds G E (tAsg2 t g1 g2) (sAsg2 f h1 h2) := ⟨fun {B M pm ρ m σ H} e Z p => by
  refine ht.run e _ ((PostS.bind0 e p).imp' fun x H1 ⟨d1, m1, g1, r1, p1⟩ => ?_)
  have e1 := e.go g1
  split at p1
  · rename_i ρ1 hρ
    split at p1
    · rename_i ρ2 hρ2
      refine hg1.run e1 r1 hρ _ fun σ1 e2 _ => ?_
      exact hg2.run e2 r1 hρ2 _ fun σ2 e3 _ => p1 _ _ _ _ e3 (e.stp g1)
    · exact p1.elim
  · exact p1.elim⟩
/-- list(range(n)) -/
def dRgL1 (fa : DE) : DE := fun ρ m => (fa ρ m).bind fun x m1 => match x with
  | .int j => if rgOk 0 j = true then .ok (.lst (rgD 0 j)) m1 else .bad
  | _ => .bad
theorem de_rgL1 {ta : TE} {fa : DE} (ha : De G E ta fa) : De G E (tLstRg (tRg1 ta)) (dRgL1 fa) := ⟨fun {B M pm ρ m σ H} e Q p => by
  refine ha.run e _ ((Post.bind p).imp' fun x H1 ⟨d1, m1, g1, r1, p1⟩ => ?_)
  have e1 := e.go g1
  split at p1
  · split at p1
    · rename_i h
      cases r1
      exact ⟨_, rfl, rgOk_ok h, fun q hq => p1 _ _ (e1.same (ExN.new hq)) ((rg_rep _ _).newL e1.hm hq)⟩
    · exact p1.elim
  · exact p1.elim⟩
/-- what is never reached -/
def dNever : DE := fun _ _ => .bad
theorem pe_never {X : Cx} {e : Expr} : PE X e (fun _ _ _ => False) := ⟨fun _ _ _ _ _ _ h => h.elim⟩
theorem de_never : De G E (fun _ _ _ => False) dNever := ⟨fun _ _ p => p⟩
theorem ps_never {X : Cx} {e : Stmt} : PS X e (fun _ _ _ => False) := ⟨fun _ _ _ _ _ _ h => h.elim⟩
def sNever : DS := fun _ _ => .bad
theorem ds_never : Ds G E (fun _ _ _ => False) sNever := ⟨fun _ _ p => p⟩
end
section
variable {m m1 : Mo} {ρ : Ro}
theorem ev_asg2 {f : DE} {h1 h2 : D → Ro → Option Ro} : sAsg2 f h1 h2 ρ m = sBind (f ρ m) fun d m1 => match h1 d ρ with
  | some ρ1 => match h2 d ρ1 with
    | some ρ2 => .nx ρ2 m1
    | none => .bad
  | none => .bad := Eq.trans rfl rfl
theorem ev_rgL1 {fa : DE} : dRgL1 fa ρ m = (fa ρ m).bind fun x m1 => match x with
  | .int j => if rgOk 0 j = true then .ok (.lst (rgD 0 j)) m1 else .bad
  | _ => .bad := Eq.trans rfl rfl
theorem ev_bestL {mx : Bool} {x : D} {l : List D} : bestLD mx [.lst (x :: l)] = if ordOk (x :: l) = true then some (bestD mx x l) else none := Eq.trans rfl rfl
theorem ev_srtL {l : List D} : srtLD [.lst l] = if srtOk l = true then some (.lst (l.mergeSort (PySem.W.dataLe false D.py))) else none := Eq.trans rfl rfl
theorem ev_anyL {l : List D} : anyD [.lst l] = (blsOf l).map fun ns => .bl (ns.any id) := Eq.trans rfl rfl
theorem ev_dcG {κ : Type} [DecidableEq κ] {kf : D → Option κ} {fi : DI} {h : D → Ro → Option Ro} {tt : DT} {fk fv : DE} {vs : List Nat} : dDcG kf fi h tt fk fv vs ρ m = (fi ρ m).bind fun ds m1 => if ds.length ≤ 100000 then dcD kf h tt fk fv ds [] (wipeD ρ vs) m1 else .bad := Eq.trans rfl rfl
theorem ev_keysN {f : DE} : dKeysN f ρ m = (f ρ m).bind fun d m1 => match d with
  | .dcn l => .ok (kDs (l.map (·.1))) m1
  | _ => .bad := Eq.trans rfl rfl
theorem ev_dvnewN : dvNewN ρ m = .ok (.mn []) m := Eq.trans rfl rfl
end
end Dn
namespace Dn
open PySem PySem.Spec PyProof.Rows L2
section
variable {X : Cx}
/-- name = {k: v for ..} on one line, the name a local -/
theorem ps_setDcG {j : Nat} {nm : Str} {pn : Pos} {kx vx tg iter : Expr} {ifs : List Expr} {scope : Scope} {own : List (Str × Nat)} {pos spos : Pos} {wi : TI} {g : TG} {tt : TT} {tk tv : TE} {o0 : Addr → HO} {Sx : V → V → Addr → Hp → (Hp → Prop) → Prop} (hc : X.calm = true) (hN : X.N.Nodup) (hj : X.N[j]? = some nm) (hl : X.env.scope.names.lookup nm = some .local)
    (hsw : swapsWith (.DictComp kx vx [⟨tg, iter, ifs, 0⟩] scope pos) (some (.Name nm pn)) spos.line X.env = pure true)
    (emp : ∀ (H : Hp) (hh : Heap), sysModules < hh.objs.size → ObjOk X.prog X.w H (hh.push dictO) hh.objs.size (o0 hh.objs.size)) (sto : SetG X.prog X.w X.A.units Sx) (hi : PI X tg iter wi) (ok : BlkOk X.N X.env.scope scope own)
    (hg : ∀ (s : Shared) (H : Hp) (C : Addr) (cl : List (Str × Addr)) (fp : List Addr), PG (X.blk s H scope (compEnvC scope cl C X.env) fp) tg g)
    (ht : ∀ (s : Shared) (H : Hp) (C : Addr) (cl : List (Str × Addr)) (fp : List Addr), PTs (X.blk s H scope (compEnvC scope cl C X.env) fp) ifs tt)
    (hk : ∀ (s : Shared) (H : Hp) (C : Addr) (cl : List (Str × Addr)) (fp : List Addr), PE (X.blk s H scope (compEnvC scope cl C X.env) fp) kx tk)
    (he : ∀ (s : Shared) (H : Hp) (C : Addr) (cl : List (Str × Addr)) (fp : List Addr), PE (X.blk s H scope (compEnvC scope cl C X.env) fp) vx tv) (hs : ∀ x, foldedSetIterable iter X.env x = pure x := by intro _; rfl) :
    PS X (.Assign [.Name nm pn] (.DictComp kx vx [⟨tg, iter, ifs, 0⟩] scope pos) spos) (tAsg (tDcG o0 Sx wi g tt tk tv (own.map (·.2))) (gName j)) := by
  refine ⟨fun pi s σ H W I h => ?_⟩
  rw [exec_Assign_Name_used _ _ _ _ hsw]
  refine wpAny_bind (wpAny_standAt (wpAny_bind ?_))
  show wpAny _ X.A (do let _ ← comprehension (.DictComp kx vx [⟨tg, iter, ifs, 0⟩] scope pos) scope X.env (firstIterPos [⟨tg, iter, ifs, 0⟩] pos) newDict false (eval iter X.env) (some (assign (.Name nm pn) X.env))) _ _ s
  have h2 : tDcG o0 Sx wi g tt tk tv (own.map (·.2)) σ H (fun x H1 => gName j x σ H1 W.nx) := h
  refine wpAny_bind (thn (dcG_core (Qf := fun _ u => SP X pi W .next u) hc hN I hi ok hg ht hk he hs emp sto h2 fun L C u m H1 I1 q hn f => ?_) fun _ u hq => wpAny_pure (wpAny_pure hq))
  show wpAny _ _ (assign (.Name nm pn) X.env (.ref L)) _ _ _
  refine wpAny_assign_Name (store_ok2 (v := V.ref L) I1 hN hj (.inl hl) rfl (fun u2 I2 ⟨a, sb, ha⟩ => ?_) (.inr hl))
  obtain ⟨f0, f1, f2, f3, f4, f5⟩ := f
  have hC : C ≠ a := by
    rcases ha with z | z
    · rw [z]; exact f1
    · exact fun e => f4 nm a z e.symm
  refine ⟨m, hn.sameBut sb hC, fun h3 sb3 => ?_⟩
  exact ⟨_, H1, I2.turned (t' := u2.toks) (fun b o hb e => (sb3.2 b hb).trans e) f0 f1 f3 f4 f5, q⟩
end
end Dn
namespace Dn
open PySem PySem.Spec PyProof.Rows L2
theorem pss_nev {X : Cx} {e : List Stmt} : PSs X e (fun _ _ _ => False) := ⟨fun _ _ _ _ _ _ h => h.elim⟩
abbrev rTupOf (K : PySem.W.Frag) : List V → Hp → VK → Prop := fun xs H Q => ∃ p ys, xs = [.ref p] ∧ ((SqL K H p ys ∧ ∀ l, H l = none → Q (.ref l) (upd H l (.tup ys))) ∨ (SqT K H p ys ∧ Q (.ref p) H))
abbrev rLstOf (K : PySem.W.Frag) : List V → Hp → VK → Prop := fun xs H Q => ∃ p ys, xs = [.ref p] ∧ (SqL K H p ys ∨ SqT K H p ys) ∧ ∀ l, H l = none → Q (.ref l) (upd H l (.lst ys))
abbrev tTruK (K : PySem.W.Frag) (ta : TE) : TT := fun σ H Q => ta σ H fun x H' => ∃ k, TruV K x H' k ∧ Q k H'
end Dn
namespace Dn
open PySem PySem.Spec PyProof.Rows L2
section
variable {G : Cl} {E : XK}
/-- xs.pop() -/
def xPop0 (j : Nat) : DX := fun ρ m => match ρ[j]? with
  | some (some (.ml ds)) => match ds[ds.length - 1]? with
    | some d => .ok d (ρ.set j (some (.ml ds.dropLast))) m
    | none => .bad
  | _ => .bad
theorem Reps.dropLast {ad : Ad} {M : AP} {H : Hp} : ∀ {vs : List V} {ds : List D}, Reps G ad M H vs ds → Reps G ad M H vs.dropLast ds.dropLast
  | _, _, .nil => .nil
  | _, _, .cons r .nil => .nil
  | _, _, .cons r (.cons r2 t) => .cons r (Reps.dropLast (.cons r2 t))
theorem dx_pop0 (j : Nat) : Dx G E (tBM0 G.K "list" rPop (tVar j)) (xPop0 j) := ⟨fun {B M pm ρ m σ H} e Q p => by
  unfold xPop0 at p
  split at p
  rotate_left
  · exact p.elim
  rename_i ds hs
  obtain ⟨vs, h1, h2, h3⟩ := e.sl j ds hs
  split at p
  rotate_left
  · exact p.elim
  rename_i d hd
  obtain ⟨v, hv, rv⟩ := h3.getD hd
  refine ⟨_, h1, .inl ⟨rfl, _, SqL.of h2⟩, ?_⟩
  obtain ⟨e2, s2⟩ := e.updm (s' := .ml ds.dropLast) (o := .lst vs.dropLast) hs rfl ⟨_, rfl, h3.dropLast⟩
  exact ⟨_, vs, v, rfl, rfl, h2, by rw [h3.length]; exact hv, p v _ e2 s2 (s2.mono rv)⟩⟩
/-- x = an expression that changes a list of the frame -/
def sSetX (i : Nat) (f : DX) : DS := fun ρ m => match f ρ m with
  | .ok d ρ1 m1 => .nx (ρ1.set i (some (.v d))) m1
  | .bad => .bad
  | .exc c l m1 => .exc c l m1
theorem ds_setX {t : TE} {f : DX} (i : Nat) (h : Dx G E t f) : Ds G E (tAsg t (gName i)) (sSetX i f) := ⟨fun {B M pm ρ m σ H} e Z p => by
  unfold sSetX at p
  refine h.run e _ ?_
  cases hr : f ρ m with
  | bad => rw [hr] at p; exact p
  | exc c l m1 => rw [hr] at p; exact p
  | ok d ρ1 m1 =>
    rw [hr] at p
    intro v H1 e1 s1 rv
    exact p _ _ _ _ (e1.setv rv) s1⟩
/-- xs.index(x), whole numbers -/
def ixOf (x : Int) (ns : List Int) : Option Nat := if x ∈ ns then some (ns.idxOf x) else none
def dIndex (fo fx : DE) : DE := fun ρ m => (fo ρ m).bind fun d m1 => match d with
  | .lst l => (fx ρ m1).bind fun e m2 => match e with
    | .int x => match (intsOf l).bind (ixOf x) with
      | some j => .ok (.int (j : Int)) m2
      | none => .bad
    | _ => .bad
  | _ => .bad
theorem de_index {to tx : TE} {fo fx : DE} (ho : De G E to fo) (hx : De G E tx fx) : De G E (tBM G.K "list" (rIndex G.K) to (tCons tx tNil)) (dIndex fo fx) := ⟨fun {B M pm ρ m σ H} e Q p => by
  refine ho.run e _ ((Post.bind p).imp' fun v H1 ⟨d1, m1, g1, r1, p1⟩ => ?_)
  have e1 := e.go g1
  split at p1
  rotate_left
  · exact p1.elim
  rename_i l
  cases r1 with
  | lst hh n r =>
    rename_i a vs
    refine ⟨.inl ⟨rfl, _, SqL.of hh⟩, ?_⟩
    refine hx.run e1 _ ((Post.bind p1).imp' fun y H2 ⟨d2, m2, g2, r2, p2⟩ => ?_)
    have e2 := e1.go g2
    split at p2
    rotate_left
    · exact p2.elim
    rename_i x
    cases r2
    split at p2
    rotate_left
    · exact p2.elim
    rename_i j hj
    obtain ⟨ns, h1, h2⟩ := Option.bind_eq_some_iff.mp hj
    have rl := (Rep.lst hh n r).ext g2.x e1.aM
    cases rl with
    | lst hh' n' r' =>
      rename_i vs'
      have ev := intsOf_rep r' h1
      subst ev
      unfold ixOf at h2
      split at h2
      rotate_left
      · cases h2
      rename_i hm
      cases h2
      have hlt : ns.idxOf x < ns.length := List.idxOf_lt_length_of_mem hm
      refine ⟨_, _, .int x, ns.idxOf x, .int x, rfl, rfl, SqL.of hh', rfl, ?_, ?_, by show (x == x) = true; exact beq_self_eq_true x, fun k z hk hz => ?_, p2 _ _ e2.here (.int _)⟩
      · rw [List.all_map]
        exact List.all_eq_true.mpr fun _ _ => rfl
      · rw [List.getElem?_map, List.getElem?_eq_getElem hlt, List.getElem_idxOf]
        rfl
      · rw [List.getElem?_map] at hz
        obtain ⟨i, hi, rfl⟩ := Option.map_eq_some_iff.mp hz
        show (i == x) = false
        refine beq_eq_false_iff_ne.mpr fun q => ?_
        subst q
        obtain ⟨hk2, hk3⟩ := List.getElem?_eq_some_iff.mp hi
        have hk' : k < ns.findIdx (· == i) := hk
        have z := List.not_of_lt_findIdx hk'
        rw [hk3] at z
        simp at z⟩
section
variable {m : Mo} {ρ : Ro}
theorem ev_setX {i : Nat} {f : DX} : sSetX i f ρ m = match f ρ m with
  | .ok d ρ1 m1 => .nx (ρ1.set i (some (.v d))) m1
  | .bad => .bad
  | .exc c l m1 => .exc c l m1 := Eq.trans rfl rfl
theorem ev_index {fo fx : DE} : dIndex fo fx ρ m = (fo ρ m).bind fun d m1 => match d with
  | .lst l => (fx ρ m1).bind fun e m2 => match e with
    | .int x => match (intsOf l).bind (ixOf x) with
      | some j => .ok (.int (j : Int)) m2
      | none => .bad
    | _ => .bad
  | _ => .bad := Eq.trans rfl rfl
end
end
end Dn
namespace Dn
open PySem PySem.Spec PyProof.Rows L2
theorem relabel_cf {env : Env} {x : Str} : ∀ {names : List (Str × NameKind)}, names.lookup x = some .cell ∨ names.lookup x = some .free →
    (names.map fun (n, k) => if (k == NameKind.free && env.scope.kind == .function && env.kindOf n == some .cell) then (n, NameKind.cell) else (n, k)).lookup x = some .cell ∨ (names.map fun (n, k) => if (k == NameKind.free && env.scope.kind == .function && env.kindOf n == some .cell) then (n, NameKind.cell) else (n, k)).lookup x = some .free
  | [], h => by simp at h
  | (n, k) :: r, h => by
    have ih := @relabel_cf env x r
    rw [List.map_cons]
    by_cases hx : x = n
    · subst hx
      have hk : k = .cell ∨ k = .free := by simpa [List.lookup_cons] using h
      dsimp only
      split
      · exact .inl (by simp [List.lookup_cons])
      · rcases hk with rfl | rfl
        · exact .inl (by simp [List.lookup_cons])
        · exact .inr (by simp [List.lookup_cons])
    · have hb : (x == n) = false := beq_eq_false_iff_ne.mpr hx
      have h' : r.lookup x = some .cell ∨ r.lookup x = some .free := by simpa [List.lookup_cons, hb] using h
      dsimp only
      split <;> simpa [List.lookup_cons, hb] using ih h'
/-- a block within a block -/
theorem blkOk_in {X : Cx} {s : Shared} {H : Hp} {scope sc2 : Scope} {cl : List (Str × Addr)} {C : Addr} {env : Env} {fp : List Addr} {N : List Str} {own : List (Str × Nat)} (h : BlkOk N scope sc2 own) : BlkOk N (X.blk s H scope (compEnvC scope cl C env) fp).env.scope sc2 own :=
  ⟨h.kind, h.uniq, h.ix, fun y hy e => relabel_cf (h.free y hy e), h.own⟩
end Dn
namespace Dn
open PySem PySem.Spec PyProof.Rows L2
open PySem.W (dataLe)

/-! sorted, as a function that can be run: all keys differ -/
def leD (a b : D) : Bool := dataLe false D.py a b
def insD (a : D) : List D → List D
  | [] => [a]
  | b :: r => if leD a b = true then a :: b :: r else b :: insD a r
def sortD : List D → List D
  | [] => []
  | a :: r => insD a (sortD r)
def ltAll : List D → Bool
  | [] => true
  | a :: r => (r.all fun b => leD a b && !leD b a) && ltAll r
theorem insD_perm (a : D) : ∀ l, (insD a l).Perm (a :: l)
  | [] => .refl _
  | b :: r => by
    unfold insD
    split
    · exact .refl _
    · exact (List.Perm.cons b (insD_perm a r)).trans (List.Perm.swap a b r)
theorem sortD_perm : ∀ l, (sortD l).Perm l
  | [] => .refl _
  | a :: r => (insD_perm a _).trans (List.Perm.cons a (sortD_perm r))
theorem ltAll_pw : ∀ {l : List D}, ltAll l = true → l.Pairwise (fun a b => leD a b = true ∧ leD b a = false)
  | [], _ => .nil
  | a :: r, h => by
    unfold ltAll at h
    rw [Bool.and_eq_true] at h
    refine .cons (fun b hb => ?_) (ltAll_pw h.2)
    have z := List.all_eq_true.mp h.1 b hb
    rw [Bool.and_eq_true] at z
    exact ⟨z.1, by simpa using z.2⟩
theorem pw_anti {l : List D} (h : l.Pairwise (fun a b => leD a b = true ∧ leD b a = false)) : ∀ a b, a ∈ l → b ∈ l → leD a b = true → leD b a = true → a = b := by
  induction h with
  | nil => exact fun a b ha => by cases ha
  | cons h t ih =>
    rename_i x r
    intro a b ha hb h1 h2
    rcases List.mem_cons.mp ha with e1 | ha'
    · rcases List.mem_cons.mp hb with e2 | hb'
      · rw [e1, e2]
      · subst e1
        rw [(h b hb').2] at h2
        cases h2
    · rcases List.mem_cons.mp hb with e2 | hb'
      · subst e2
        rw [(h a ha').2] at h1
        cases h1
      · exact ih a b ha' hb' h1 h2
theorem sortD_eq {l : List D} (h : ltAll (sortD l) = true) : l.mergeSort (dataLe false D.py) = sortD l := by
  have T : PySem.W.TotalLe (dataLe false D.py) := PySem.W.sortLe_total _ _ _
  have p1 := List.pairwise_mergeSort (le := dataLe false D.py) T.trans (fun a b => Bool.or_eq_true_iff.mpr (T.total a b)) l
  have q := ltAll_pw h
  have p2 : (sortD l).Pairwise (fun a b => dataLe false D.py a b = true) := q.imp fun h => h.1
  have pp : (l.mergeSort (dataLe false D.py)).Perm (sortD l) := (List.mergeSort_perm _ _).trans (sortD_perm l).symm
  refine List.Perm.eq_of_pairwise (le := fun a b => dataLe false D.py a b = true) (fun a b ha hb h1 h2 => pw_anti q a b (pp.subset ha) hb h1 h2) p1 p2 pp
def srtLX : List D → Option D
  | [.lst l] => if srtOk l = true ∧ ltAll (sortD l) = true then some (.lst (sortD l)) else none
  | _ => none
theorem n_srtX {G : Cl} : ON G (rSrt G.K) srtLX := ⟨fun {ad A M H xs ds z} hm hA r g Q q => by
  unfold srtLX at g
  split at g
  · rename_i l
    split at g
    · rename_i ho
      cases g
      refine n_srt.run hm hA r (z := .lst (l.mergeSort (dataLe false D.py))) ?_ Q fun v H' x rv => q v H' x ?_
      · unfold srtLD
        dsimp only
        rw [if_pos ho.1]
      · rw [← sortD_eq ho.2]
        exact rv
    · cases g
  · cases g⟩
theorem ev_srtX {l : List D} : srtLX [.lst l] = if srtOk l = true ∧ ltAll (sortD l) = true then some (.lst (sortD l)) else none := Eq.trans rfl rfl
end Dn
namespace Dn
open PySem PySem.Spec PyProof.Rows L2
/-! in, a tuple of deep values -/
def rInT (K : PySem.W.Frag) : R2 := fun x y H Q => ∃ d ds, Dp K H x d ∧ Dp K H y (.tuple ds) ∧ SeqAt.shaped d = true ∧ SeqAt.shaped (.tuple ds) = true ∧ Q (.bl (ds.any fun z => PyData.eqv z d)) H
theorem op_inT {X : Cx} (hu : X.A.units + 65 < cLine) : OpR X (compareOp .In) (rInT X.K) := by
  intro pi s σ H x y v u Q I rx ry h
  obtain ⟨d, ds, hd, he, sd, se, q⟩ := h
  obtain ⟨as, r1⟩ := Dp.reads I d x v hd rx
  obtain ⟨bs, r2⟩ := Dp.reads I (.tuple ds) y u he ry
  exact SeqAt.in_tuple_reads r2 r1 (SeqAt.canLay_of_shaped se) (SeqAt.canLay_of_shaped sd) (room_in_shaped sd hu) ⟨.bl _, H, I, rfl, q⟩
def inTD : D → D → Option D
  | d, .tup l => if d.plain 60 = true ∧ D.plains 60 l = true then some (.bl (l.any fun z => PyData.eqv z.py d.py)) else none
  | _, _ => none
theorem o_inT {G : Cl} : O2 G (rInT G.K) inTD := ⟨fun {ad A M H x y d e z} hm hA rx ry g Q q => by
  unfold inTD at g
  split at g
  · rename_i l
    split at g
    · rename_i h
      cases g
      refine ⟨_, D.pys l, rx.dp h.1, ?_, plain_shaped h.1 (by omega), ?_, ?_⟩
      · have z := ry.dp (n := 61) (d := .tup l) (by simpa [D.plain] using h.2)
        simpa only [D.py] using z
      · have z := plain_shaped (n := 61) (d := .tup l) (by simpa [D.plain] using h.2) (by omega)
        simpa only [D.py] using z
      · rw [any_pys]
        exact q _ _ .refl (.bl _)
    · cases g
  · cases g⟩
def rNotInT (K : PySem.W.Frag) : R2 := fun x y H Q => ∃ d ds, Dp K H x d ∧ Dp K H y (.tuple ds) ∧ SeqAt.shaped d = true ∧ SeqAt.shaped (.tuple ds) = true ∧ Q (.bl (!ds.any fun z => PyData.eqv z d)) H
theorem op_notInT {X : Cx} (hu : X.A.units + 65 < cLine) : OpR X (compareOp .NotIn) (rNotInT X.K) := by
  intro pi s σ H x y v u Q I rx ry h
  obtain ⟨d, ds, hd, he, sd, se, q⟩ := h
  obtain ⟨as, r1⟩ := Dp.reads I d x v hd rx
  obtain ⟨bs, r2⟩ := Dp.reads I (.tuple ds) y u he ry
  exact SeqAt.notIn_tuple_reads r2 r1 (SeqAt.canLay_of_shaped se) (SeqAt.canLay_of_shaped sd) (room_in_shaped sd hu) ⟨.bl _, H, I, rfl, q⟩
def notInTD : D → D → Option D
  | d, .tup l => if d.plain 60 = true ∧ D.plains 60 l = true then some (.bl (!l.any fun z => PyData.eqv z.py d.py)) else none
  | _, _ => none
theorem o_notInT {G : Cl} : O2 G (rNotInT G.K) notInTD := ⟨fun {ad A M H x y d e z} hm hA rx ry g Q q => by
  unfold notInTD at g
  split at g
  · rename_i l
    split at g
    · rename_i h
      cases g
      refine ⟨_, D.pys l, rx.dp h.1, ?_, plain_shaped h.1 (by omega), ?_, ?_⟩
      · have z := ry.dp (n := 61) (d := .tup l) (by simpa [D.plain] using h.2)
        simpa only [D.py] using z
      · have z := plain_shaped (n := 61) (d := .tup l) (by simpa [D.plain] using h.2) (by omega)
        simpa only [D.py] using z
      · rw [any_pys]
        exact q _ _ .refl (.bl _)
    · cases g
  · cases g⟩
end Dn
namespace Law
open PySem PySem.Spec PyProof.Rows L2 Dn
local macro_rules | `(tactic| and_intros) => `(tactic| simp (disch := omega) only [ev_bind, ev_bindx, ev_map, ev_mapx, ev_of, ev_sb, ev_sbx, ev_nx, ev_rt, ev_nexc, ev_var0, ev_varS, ev_peek0, ev_peekM0, ev_peekS, ev_c, ev_op, ev_un, ev_nil, ev_cons, ev_cb, ev_tup, ev_lst, ev_test, ev_not, ev_and, ev_or, ev_if, ev_tru, ev_dv, ev_dvl, ev_fld, ev_call, ev_meth, ev_make, ev_seq, ev_set, ev_ret, ev_expr, ev_sif, ev_sNx, ev_par, ev_frz, ev_frzR, ev_app, ev_put, ev_run, ev_init, ev_rgT2, ev_rng1, ev_rng2, ev_seqU, ev_enumU, ev_sl, ev_nop, ev_part, ev_star, ev_chain, ev_isi, ev_isiT, ev_addI, ev_addS, ev_addT, ev_addL, ev_subI, ev_mulR, ev_mulL, ev_modI, ev_divI, ev_intI, ev_absI, ev_lenT, ev_lenL, ev_cmp, ev_eqI, ev_neI, ev_toTupT, ev_toTupL, ev_hName, ro0, List.map_cons, List.map_nil, List.length_cons, List.length_nil, List.cons_append, List.nil_append, List.getElem?_cons_zero, List.getElem?_cons_succ, List.set_cons_zero, List.set_cons_succ, Nat.reduceAdd, Nat.reduceSub, List.replicate_succ, List.replicate_zero, Nat.reduceLT, Nat.reduceLeDiff, if_true, if_false, reduceIte, Bool.true_eq_false, Bool.false_eq_true, Bool.not_true, Bool.not_false, Nat.zero_add, List.append_nil, Nat.lt_add_one, Nat.succ_eq_add_one, ev_lc, ev_for, ev_wipe0, ev_wipeS, ev_hTup, ev_hCons, ev_hNil, ev_some, rangeD_len, Int.reduceToNat, Int.reduceSub, Int.reduceLE, Int.reduceLT, Int.reduceNeg, and_self, ev_pow18, Int.toNat_natCast, ev_slT, ev_slL, ev_revT, ev_revL, ev_truB, ev_truI, ev_truT, ev_truL, ev_truN, ev_eqS, ev_neS, ev_isA, ev_eqA, ev_heard, ev_heardD, ev_heardX, ev_xf, ev_exc, ev_exc0, ev_mov, ev_lend, ev_raise1, ev_raise0, ev_rgL2, ev_dvRg2, ev_dnew, ev_dI, ev_andV, ev_orV, ev_notV, ev_ofX, ev_ofO, ev_ofI, ev_ofN, ev_ofB, ev_ofS, ev_ofT, ev_ofL, ev_outN, ev_outR, ev_outX, ev_noX, ev_toLstL, ev_toLstT, ev_negI, ev_max2, ev_min2, ev_dvList, ev_lenOwn, ev_asg, ev_ok2O, ev_lc2, ev_par2L, ev_par3L, ev_par2F, ev_par2K, ev_parV, ev_dvsN, ev_dvsC, ev_setsC, ev_setsN, ev_ixVL, ev_ixVT, ev_ixVS, ev_ixVI, ev_ixVX, ev_inVL, ev_inVT, ev_inVI, ev_inVX, ev_getU, ev_isDd, ev_isDn, ev_lookI, ev_lookX, ev_putU, ev_put2, ev_store, ev_hasM, ev_muL, ev_muK, ev_muN, ev_storeD, ev_keyI, ev_keyX, ev_dvnew, ev_peekK0, ev_peekN0, List.mem_cons, List.not_mem_nil, or_false, forall_eq_or_imp, forall_eq, Option.map_some, Bool.false_xor, Bool.true_xor, ev_asg2, ev_rgL1, ev_bestL, ev_srtX, ev_anyL, ev_dcG, ev_keysN, ev_dvnewN, ev_setX, ev_index])
def top (i : Nat) : Stmt := nth PySem.Challenge.pw_faceabout_k20_branches_by_hand.main.body i
abbrev s_is_whole : Stmt := top 8
def N_is_whole : List Str := ["value"]
theorem sc_is_whole : FnScope N_is_whole ["value"] (defScope s_is_whole) := ⟨rfl, rfl, rfl, by decide +kernel, rfl, by decide +kernel, by decide +kernel⟩
def d_is_whole : He.DefD := ⟨("is_whole", none), "is_whole", "is_whole", defArgs s_is_whole, defBody s_is_whole, defScope s_is_whole, [], []⟩
abbrev s_is_among : Stmt := top 9
def N_is_among : List Str := ["value", "least", "most"]
theorem sc_is_among : FnScope N_is_among ["value", "least", "most"] (defScope s_is_among) := ⟨rfl, rfl, rfl, by decide +kernel, rfl, by decide +kernel, by decide +kernel⟩
def d_is_among : He.DefD := ⟨("is_among", none), "is_among", "is_among", defArgs s_is_among, defBody s_is_among, defScope s_is_among, [], []⟩
abbrev s_is_list : Stmt := top 10
def N_is_list : List Str := ["value"]
theorem sc_is_list : FnScope N_is_list ["value"] (defScope s_is_list) := ⟨rfl, rfl, rfl, by decide +kernel, rfl, by decide +kernel, by decide +kernel⟩
def d_is_list : He.DefD := ⟨("is_list", none), "is_list", "is_list", defArgs s_is_list, defBody s_is_list, defScope s_is_list, [], []⟩
abbrev s_need_waggons : Stmt := top 11
def N_need_waggons : List Str := ["waggons", "known", "place", "waggon"]
theorem sc_need_waggons : FnScope N_need_waggons ["waggons"] (defScope s_need_waggons) := ⟨rfl, rfl, rfl, by decide +kernel, rfl, by decide +kernel, by decide +kernel⟩
def d_need_waggons : He.DefD := ⟨("need_waggons", none), "need_waggons", "need_waggons", defArgs s_need_waggons, defBody s_need_waggons, defScope s_need_waggons, [], []⟩
abbrev s_Row___init__ : Stmt := nth (clsB (top 12)) 1
def N_Row___init__ : List Str := ["self", "waggons"]
theorem sc_Row___init__ : FnScope N_Row___init__ ["self", "waggons"] (defScope s_Row___init__) := ⟨rfl, rfl, rfl, by decide +kernel, rfl, by decide +kernel, by decide +kernel⟩
def d_Row___init__ : He.DefD := ⟨("Row", some "__init__"), "__init__", "Row.__init__", defArgs s_Row___init__, defBody s_Row___init__, defScope s_Row___init__, [], []⟩
abbrev s_Row___len__ : Stmt := nth (clsB (top 12)) 2
def N_Row___len__ : List Str := ["self"]
theorem sc_Row___len__ : FnScope N_Row___len__ ["self"] (defScope s_Row___len__) := ⟨rfl, rfl, rfl, by decide +kernel, rfl, by decide +kernel, by decide +kernel⟩
def d_Row___len__ : He.DefD := ⟨("Row", some "__len__"), "__len__", "Row.__len__", defArgs s_Row___len__, defBody s_Row___len__, defScope s_Row___len__, [], []⟩
abbrev s_Row___eq__ : Stmt := nth (clsB (top 12)) 3
def N_Row___eq__ : List Str := ["self", "other"]
theorem sc_Row___eq__ : FnScope N_Row___eq__ ["self", "other"] (defScope s_Row___eq__) := ⟨rfl, rfl, rfl, by decide +kernel, rfl, by decide +kernel, by decide +kernel⟩
def d_Row___eq__ : He.DefD := ⟨("Row", some "__eq__"), "__eq__", "Row.__eq__", defArgs s_Row___eq__, defBody s_Row___eq__, defScope s_Row___eq__, [], []⟩
abbrev s_Row_at : Stmt := nth (clsB (top 12)) 4
def N_Row_at : List Str := ["self", "place"]
theorem sc_Row_at : FnScope N_Row_at ["self", "place"] (defScope s_Row_at) := ⟨rfl, rfl, rfl, by decide +kernel, rfl, by decide +kernel, by decide +kernel⟩
def d_Row_at : He.DefD := ⟨("Row", some "at"), "at", "Row.at", defArgs s_Row_at, defBody s_Row_at, defScope s_Row_at, [], []⟩
abbrev s_Row_framed : Stmt := nth (clsB (top 12)) 7
def N_Row_framed : List Str := ["self"]
theorem sc_Row_framed : FnScope N_Row_framed ["self"] (defScope s_Row_framed) := ⟨rfl, rfl, rfl, by decide +kernel, rfl, by decide +kernel, by decide +kernel⟩
def d_Row_framed : He.DefD := ⟨("Row", some "framed"), "framed", "Row.framed", defArgs s_Row_framed, defBody s_Row_framed, defScope s_Row_framed, [], []⟩
abbrev s_Row_inverse : Stmt := nth (clsB (top 12)) 8
def N_Row_inverse : List Str := ["self", "found", "place", "waggon"]
theorem sc_Row_inverse : FnScope N_Row_inverse ["self"] (defScope s_Row_inverse) := ⟨rfl, rfl, rfl, by decide +kernel, rfl, by decide +kernel, by decide +kernel⟩
def d_Row_inverse : He.DefD := ⟨("Row", some "inverse"), "inverse", "Row.inverse", defArgs s_Row_inverse, defBody s_Row_inverse, defScope s_Row_inverse, [], []⟩
abbrev s_ends_of : Stmt := top 14
def N_ends_of : List Str := ["waggon", "tail", "head"]
theorem sc_ends_of : FnScope N_ends_of ["waggon"] (defScope s_ends_of) := ⟨rfl, rfl, rfl, by decide +kernel, rfl, by decide +kernel, by decide +kernel⟩
def d_ends_of : He.DefD := ⟨("ends_of", none), "ends_of", "ends_of", defArgs s_ends_of, defBody s_ends_of, defScope s_ends_of, [], []⟩
abbrev s_joints : Stmt := top 15
def N_joints : List Str := ["row", "framed", "one", "other"]
theorem sc_joints : FnScope N_joints ["row"] (defScope s_joints) := ⟨rfl, rfl, rfl, by decide +kernel, rfl, by decide +kernel, by decide +kernel⟩
def d_joints : He.DefD := ⟨("joints", none), "joints", "joints", defArgs s_joints, defBody s_joints, defScope s_joints, [], []⟩
abbrev s_wished : Stmt := top 16
def N_wished : List Str := ["end"]
theorem sc_wished : FnScope N_wished ["end"] (defScope s_wished) := ⟨rfl, rfl, rfl, by decide +kernel, rfl, by decide +kernel, by decide +kernel⟩
def d_wished : He.DefD := ⟨("wished", none), "wished", "wished", defArgs s_wished, defBody s_wished, defScope s_wished, [], []⟩
abbrev s_rings : Stmt := top 17
def N_rings : List Str := ["row", "ties", "homes", "number", "left", "right", "found", "known", "ring", "end", "joint", "other"]
theorem sc_rings : FnScope N_rings ["row"] (defScope s_rings) := ⟨rfl, rfl, rfl, by decide +kernel, rfl, by decide +kernel, by decide +kernel⟩
def d_rings : He.DefD := ⟨("rings", none), "rings", "rings", defArgs s_rings, defBody s_rings, defScope s_rings, [], []⟩
abbrev s_many_rings : Stmt := top 18
def N_many_rings : List Str := ["row"]
theorem sc_many_rings : FnScope N_many_rings ["row"] (defScope s_many_rings) := ⟨rfl, rfl, rfl, by decide +kernel, rfl, by decide +kernel, by decide +kernel⟩
def d_many_rings : He.DefD := ⟨("many_rings", none), "many_rings", "many_rings", defArgs s_many_rings, defBody s_many_rings, defScope s_many_rings, [], []⟩
abbrev s_closed_in : Stmt := top 20
def N_closed_in : List Str := ["framed", "found", "first", "least", "most", "last", "one", "other"]
theorem sc_closed_in : FnScope N_closed_in ["framed"] (defScope s_closed_in) := ⟨rfl, rfl, rfl, by decide +kernel, rfl, by decide +kernel, by decide +kernel⟩
def d_closed_in : He.DefD := ⟨("closed_in", none), "closed_in", "closed_in", defArgs s_closed_in, defBody s_closed_in, defScope s_closed_in, [], []⟩
abbrev s_parts_in : Stmt := top 21
def N_parts_in : List Str := ["framed", "found", "ends", "first", "last", "known", "some", "stretch", "middle"]
theorem sc_parts_in : FnScope N_parts_in ["framed"] (defScope s_parts_in) := ⟨rfl, rfl, rfl, by decide +kernel, rfl, by decide +kernel, by decide +kernel⟩
def d_parts_in : He.DefD := ⟨("parts_in", none), "parts_in", "parts_in", defArgs s_parts_in, defBody s_parts_in, defScope s_parts_in, [], []⟩
abbrev s_homes_in : Stmt := top 22
def N_homes_in : List Str := ["some", "many", "found", "joint", "homes", "first", "last"]
theorem sc_homes_in : FnScope N_homes_in ["some", "many"] (defScope s_homes_in) := ⟨rfl, rfl, rfl, by decide +kernel, rfl, by decide +kernel, by decide +kernel⟩
def d_homes_in : He.DefD := ⟨("homes_in", none), "homes_in", "homes_in", defArgs s_homes_in, defBody s_homes_in, defScope s_homes_in, [], []⟩
abbrev s_facing : Stmt := top 23
def N_facing : List Str := ["one", "other"]
theorem sc_facing : FnScope N_facing ["one", "other"] (defScope s_facing) := ⟨rfl, rfl, rfl, by decide +kernel, rfl, by decide +kernel, by decide +kernel⟩
def d_facing : He.DefD := ⟨("facing", none), "facing", "facing", defArgs s_facing, defBody s_facing, defScope s_facing, [], []⟩
abbrev s_unfaced_in : Stmt := top 24
def N_unfaced_in : List Str := ["framed", "some", "kinds", "joint", "home", "one", "other", "part"]
theorem sc_unfaced_in : FnScope N_unfaced_in ["framed", "some"] (defScope s_unfaced_in) := ⟨rfl, rfl, rfl, by decide +kernel, rfl, by decide +kernel, by decide +kernel⟩
def d_unfaced_in : He.DefD := ⟨("unfaced_in", none), "unfaced_in", "unfaced_in", defArgs s_unfaced_in, defBody s_unfaced_in, defScope s_unfaced_in, [], []⟩
abbrev s_chains_in : Stmt := top 25
def N_chains_in : List Str := ["some", "begins", "ends", "found", "part", "chain"]
theorem sc_chains_in : FnScope N_chains_in ["some"] (defScope s_chains_in) := ⟨rfl, rfl, rfl, by decide +kernel, rfl, by decide +kernel, by decide +kernel⟩
def d_chains_in : He.DefD := ⟨("chains_in", none), "chains_in", "chains_in", defArgs s_chains_in, defBody s_chains_in, defScope s_chains_in, [], []⟩
abbrev s_parts : Stmt := top 26
def N_parts : List Str := ["row"]
theorem sc_parts : FnScope N_parts ["row"] (defScope s_parts) := ⟨rfl, rfl, rfl, by decide +kernel, rfl, by decide +kernel, by decide +kernel⟩
def d_parts : He.DefD := ⟨("parts", none), "parts", "parts", defArgs s_parts, defBody s_parts, defScope s_parts, [], []⟩
abbrev s_unfaced : Stmt := top 27
def N_unfaced : List Str := ["row", "framed"]
theorem sc_unfaced : FnScope N_unfaced ["row"] (defScope s_unfaced) := ⟨rfl, rfl, rfl, by decide +kernel, rfl, by decide +kernel, by decide +kernel⟩
def d_unfaced : He.DefD := ⟨("unfaced", none), "unfaced", "unfaced", defArgs s_unfaced, defBody s_unfaced, defScope s_unfaced, [], []⟩
abbrev s_chains : Stmt := top 28
def N_chains : List Str := ["row"]
theorem sc_chains : FnScope N_chains ["row"] (defScope s_chains) := ⟨rfl, rfl, rfl, by decide +kernel, rfl, by decide +kernel, by decide +kernel⟩
def d_chains : He.DefD := ⟨("chains", none), "chains", "chains", defArgs s_chains, defBody s_chains, defScope s_chains, [], []⟩
abbrev s_holder : Stmt := top 30
def N_holder : List Str := ["some", "chain", "first", "last", "found", "part"]
theorem sc_holder : FnScope N_holder ["some", "chain"] (defScope s_holder) := ⟨rfl, rfl, rfl, by decide +kernel, rfl, by decide +kernel, by decide +kernel⟩
def d_holder : He.DefD := ⟨("holder", none), "holder", "holder", defArgs s_holder, defBody s_holder, defScope s_holder, [], []⟩
abbrev s_tree_in : Stmt := top 31
def N_tree_in : List Str := ["some", "found", "chain", "part"]
theorem sc_tree_in : FnScope N_tree_in ["some"] (defScope s_tree_in) := ⟨rfl, rfl, rfl, by decide +kernel, rfl, by decide +kernel, by decide +kernel⟩
def d_tree_in : He.DefD := ⟨("tree_in", none), "tree_in", "tree_in", defArgs s_tree_in, defBody s_tree_in, defScope s_tree_in, [], []⟩
abbrev s_pruned : Stmt := top 32
def N_pruned : List Str := ["found", "wanted", "gone", "node", "other"]
theorem sc_pruned : FnScope N_pruned ["found", "wanted"] (defScope s_pruned) := ⟨rfl, rfl, rfl, by decide +kernel, rfl, by decide +kernel, by decide +kernel⟩
def d_pruned : He.DefD := ⟨("pruned", none), "pruned", "pruned", defArgs s_pruned, defBody s_pruned, defScope s_pruned, [], []⟩
abbrev s_is_short : Stmt := top 33
def N_is_short : List Str := ["leaf", "found", "wanted", "count", "node", "known", "ways", "other"]
theorem sc_is_short : FnScope N_is_short ["leaf", "found", "wanted"] (defScope s_is_short) := ⟨rfl, rfl, rfl, by decide +kernel, rfl, by decide +kernel, by decide +kernel⟩
def d_is_short : He.DefD := ⟨("is_short", none), "is_short", "is_short", defArgs s_is_short, defBody s_is_short, defScope s_is_short, [], []⟩
abbrev s_cost : Stmt := top 34
def N_cost : List Str := ["row", "framed", "some", "wanted", "found", "leaves", "node", "leaf"]
theorem sc_cost : FnScope N_cost ["row"] (defScope s_cost) := ⟨rfl, rfl, rfl, by decide +kernel, rfl, by decide +kernel, by decide +kernel⟩
def d_cost : He.DefD := ⟨("cost", none), "cost", "cost", defArgs s_cost, defBody s_cost, defScope s_cost, [], []⟩
abbrev s_to_go : Stmt := top 35
def N_to_go : List Str := ["row"]
theorem sc_to_go : FnScope N_to_go ["row"] (defScope s_to_go) := ⟨rfl, rfl, rfl, by decide +kernel, rfl, by decide +kernel, by decide +kernel⟩
def d_to_go : He.DefD := ⟨("to_go", none), "to_go", "to_go", defArgs s_to_go, defBody s_to_go, defScope s_to_go, [], []⟩
abbrev s__law_mixed : Stmt := top 37
def N__law_mixed : List Str := ["cell", "n", "blend"]
theorem sc__law_mixed : FnScope N__law_mixed ["cell", "n"] (defScope s__law_mixed) := ⟨rfl, rfl, rfl, by decide +kernel, rfl, by decide +kernel, by decide +kernel⟩
def d__law_mixed : He.DefD := ⟨("_law_mixed", none), "_law_mixed", "_law_mixed", defArgs s__law_mixed, defBody s__law_mixed, defScope s__law_mixed, [], []⟩
abbrev s__law_folded : Stmt := top 38
def N__law_folded : List Str := ["script", "found", "n", "cell"]
theorem sc__law_folded : FnScope N__law_folded ["script"] (defScope s__law_folded) := ⟨rfl, rfl, rfl, by decide +kernel, rfl, by decide +kernel, by decide +kernel⟩
def d__law_folded : He.DefD := ⟨("_law_folded", none), "_law_folded", "_law_folded", defArgs s__law_folded, defBody s__law_folded, defScope s__law_folded, [], []⟩
abbrev s__law_draw : Stmt := top 39
def N__law_draw : List Str := ["m", "limit", "n", "lot", "here", "cell"]
theorem sc__law_draw : FnScope N__law_draw ["m", "limit"] (defScope s__law_draw) := ⟨rfl, rfl, rfl, by decide +kernel, rfl, by decide +kernel, by decide +kernel⟩
def d__law_draw : He.DefD := ⟨("_law_draw", none), "_law_draw", "_law_draw", defArgs s__law_draw, defBody s__law_draw, defScope s__law_draw, [], []⟩
abbrev s__law_begun : Stmt := top 40
def N__law_begun : List Str := ["script", "m", "cell"]
theorem sc__law_begun : FnScope N__law_begun ["script"] (defScope s__law_begun) := ⟨rfl, rfl, rfl, by decide +kernel, rfl, by decide +kernel, by decide +kernel⟩
def d__law_begun : He.DefD := ⟨("_law_begun", none), "_law_begun", "_law_begun", defArgs s__law_begun, defBody s__law_begun, defScope s__law_begun, [], []⟩
abbrev s__law_like : Stmt := top 41
def N__law_like : List Str := ["told", "due"]
theorem sc__law_like : FnScope N__law_like ["told", "due"] (defScope s__law_like) := ⟨rfl, rfl, rfl, by decide +kernel, rfl, by decide +kernel, by decide +kernel⟩
def d__law_like : He.DefD := ⟨("_law_like", none), "_law_like", "_law_like", defArgs s__law_like, defBody s__law_like, defScope s__law_like, [], []⟩
abbrev s__law_right_at : Stmt := top 42
def N__law_right_at : List Str := ["framed", "joint"]
theorem sc__law_right_at : FnScope N__law_right_at ["framed", "joint"] (defScope s__law_right_at) := ⟨rfl, rfl, rfl, by decide +kernel, rfl, by decide +kernel, by decide +kernel⟩
def d__law_right_at : He.DefD := ⟨("_law_right_at", none), "_law_right_at", "_law_right_at", defArgs s__law_right_at, defBody s__law_right_at, defScope s__law_right_at, [], []⟩
abbrev s__law_framed : Stmt := top 43
def N__law_framed : List Str := ["waggons"]
theorem sc__law_framed : FnScope N__law_framed ["waggons"] (defScope s__law_framed) := ⟨rfl, rfl, rfl, by decide +kernel, rfl, by decide +kernel, by decide +kernel⟩
def d__law_framed : He.DefD := ⟨("_law_framed", none), "_law_framed", "_law_framed", defArgs s__law_framed, defBody s__law_framed, defScope s__law_framed, [], []⟩
abbrev s__law_rings : Stmt := top 44
def N__law_rings : List Str := ["waggons", "framed", "colour", "homes", "joint", "number", "found", "mark", "one", "other", "mine", "yours", "ring"]
theorem sc__law_rings : FnScope N__law_rings ["waggons"] (defScope s__law_rings) := ⟨rfl, rfl, rfl, by decide +kernel, rfl, by decide +kernel, by decide +kernel⟩
def d__law_rings : He.DefD := ⟨("_law_rings", none), "_law_rings", "_law_rings", defArgs s__law_rings, defBody s__law_rings, defScope s__law_rings, [], []⟩
abbrev s__law_is_closed : Stmt := top 45
def N__law_is_closed : List Str := ["framed", "first", "last", "numbers", "ends", "one"]
theorem sc__law_is_closed : FnScope N__law_is_closed ["framed", "first", "last"] (defScope s__law_is_closed) := ⟨rfl, rfl, rfl, by decide +kernel, rfl, by decide +kernel, by decide +kernel⟩
def d__law_is_closed : He.DefD := ⟨("_law_is_closed", none), "_law_is_closed", "_law_is_closed", defArgs s__law_is_closed, defBody s__law_is_closed, defScope s__law_is_closed, [], []⟩
abbrev s__law_parts : Stmt := top 46
def N__law_parts : List Str := ["waggons", "framed", "found", "first", "some", "last", "middle"]
theorem sc__law_parts : FnScope N__law_parts ["waggons"] (defScope s__law_parts) := ⟨rfl, rfl, rfl, by decide +kernel, rfl, by decide +kernel, by decide +kernel⟩
def d__law_parts : He.DefD := ⟨("_law_parts", none), "_law_parts", "_law_parts", defArgs s__law_parts, defBody s__law_parts, defScope s__law_parts, [], []⟩
abbrev s__law_home : Stmt := top 47
def N__law_home : List Str := ["some", "joint", "found", "lengths", "part"]
theorem sc__law_home : FnScope N__law_home ["some", "joint"] (defScope s__law_home) := ⟨rfl, rfl, rfl, by decide +kernel, rfl, by decide +kernel, by decide +kernel⟩
def d__law_home : He.DefD := ⟨("_law_home", none), "_law_home", "_law_home", defArgs s__law_home, defBody s__law_home, defScope s__law_home, [], []⟩
abbrev s__law_is_unfaced : Stmt := top 48
def N__law_is_unfaced : List Str := ["waggons", "some", "part", "framed", "kinds", "joint"]
theorem sc__law_is_unfaced : FnScope N__law_is_unfaced ["waggons", "some", "part"] (defScope s__law_is_unfaced) := ⟨rfl, rfl, rfl, by decide +kernel, rfl, by decide +kernel, by decide +kernel⟩
def d__law_is_unfaced : He.DefD := ⟨("_law_is_unfaced", none), "_law_is_unfaced", "_law_is_unfaced", defArgs s__law_is_unfaced, defBody s__law_is_unfaced, defScope s__law_is_unfaced, [], []⟩
abbrev s__law_unfaced : Stmt := top 49
def N__law_unfaced : List Str := ["waggons", "some", "part"]
theorem sc__law_unfaced : FnScope N__law_unfaced ["waggons"] (defScope s__law_unfaced) := ⟨rfl, rfl, rfl, by decide +kernel, rfl, by decide +kernel, by decide +kernel⟩
def d__law_unfaced : He.DefD := ⟨("_law_unfaced", none), "_law_unfaced", "_law_unfaced", defArgs s__law_unfaced, defBody s__law_unfaced, defScope s__law_unfaced, [], []⟩
abbrev s__law_links : Stmt := top 50
def N__law_links : List Str := ["some", "found", "part", "chain", "rest", "around", "node", "other", "one"]
theorem sc__law_links : FnScope N__law_links ["some"] (defScope s__law_links) := ⟨rfl, rfl, rfl, by decide +kernel, rfl, by decide +kernel, by decide +kernel⟩
def d__law_links : He.DefD := ⟨("_law_links", none), "_law_links", "_law_links", defArgs s__law_links, defBody s__law_links, defScope s__law_links, [], []⟩
abbrev s__law_reached : Stmt := top 51
def N__law_reached : List Str := ["links", "start", "gone", "found", "rest", "node", "other"]
theorem sc__law_reached : FnScope N__law_reached ["links", "start", "gone"] (defScope s__law_reached) := ⟨rfl, rfl, rfl, by decide +kernel, rfl, by decide +kernel, by decide +kernel⟩
def d__law_reached : He.DefD := ⟨("_law_reached", none), "_law_reached", "_law_reached", defArgs s__law_reached, defBody s__law_reached, defScope s__law_reached, [], []⟩
abbrev s__law_is_leaf : Stmt := top 52
def N__law_is_leaf : List Str := ["links", "some", "node", "others", "near", "one"]
theorem sc__law_is_leaf : FnScope N__law_is_leaf ["links", "some", "node"] (defScope s__law_is_leaf) := ⟨rfl, rfl, rfl, by decide +kernel, rfl, by decide +kernel, by decide +kernel⟩
def d__law_is_leaf : He.DefD := ⟨("_law_is_leaf", none), "_law_is_leaf", "_law_is_leaf", defArgs s__law_is_leaf, defBody s__law_is_leaf, defScope s__law_is_leaf, [], []⟩
abbrev s__law_is_long : Stmt := top 53
def N__law_is_long : List Str := ["links", "some", "leaf", "node", "others", "near", "one"]
theorem sc__law_is_long : FnScope N__law_is_long ["links", "some", "leaf"] (defScope s__law_is_long) := ⟨rfl, rfl, rfl, by decide +kernel, rfl, by decide +kernel, by decide +kernel⟩
def d__law_is_long : He.DefD := ⟨("_law_is_long", none), "_law_is_long", "_law_is_long", defArgs s__law_is_long, defBody s__law_is_long, defScope s__law_is_long, [], []⟩
abbrev s__law_cost : Stmt := top 54
def N__law_cost : List Str := ["waggons", "some", "links", "leaves", "short", "node"]
theorem sc__law_cost : FnScope N__law_cost ["waggons"] (defScope s__law_cost) := ⟨rfl, rfl, rfl, by decide +kernel, rfl, by decide +kernel, by decide +kernel⟩
def d__law_cost : He.DefD := ⟨("_law_cost", none), "_law_cost", "_law_cost", defArgs s__law_cost, defBody s__law_cost, defScope s__law_cost, [], []⟩
abbrev s__law_higher : Stmt := top 55
def N__law_higher : List Str := ["waggons", "more", "waggon"]
theorem sc__law_higher : FnScope N__law_higher ["waggons", "more"] (defScope s__law_higher) := ⟨rfl, rfl, rfl, by decide +kernel, rfl, by decide +kernel, by decide +kernel⟩
def d__law_higher : He.DefD := ⟨("_law_higher", none), "_law_higher", "_law_higher", defArgs s__law_higher, defBody s__law_higher, defScope s__law_higher, [], []⟩
abbrev s__law_costs_right : Stmt := top 56
def N__law_costs_right : List Str := ["m", "waggons", "due", "row", "high", "more", "other", "waggon"]
theorem sc__law_costs_right : FnScope N__law_costs_right ["m", "waggons", "due"] (defScope s__law_costs_right) := ⟨rfl, rfl, rfl, by decide +kernel, rfl, by decide +kernel, by decide +kernel⟩
def d__law_costs_right : He.DefD := ⟨("_law_costs_right", none), "_law_costs_right", "_law_costs_right", defArgs s__law_costs_right, defBody s__law_costs_right, defScope s__law_costs_right, [], []⟩
abbrev s_law : Stmt := top 57
def N_law : List Str := ["script", "m", "near", "far", "rows", "three", "four", "settled", "waggons", "due", "held"]
theorem sc_law : FnScope N_law ["script"] (defScope s_law) := ⟨rfl, rfl, rfl, by decide +kernel, rfl, by decide +kernel, by decide +kernel⟩
def d_law : He.DefD := ⟨("law", none), "law", "law", defArgs s_law, defBody s_law, defScope s_law, [], []⟩
def fn : List He.DefD := [d_is_whole, d_is_among, d_is_list, d_need_waggons, d_Row___init__, d_Row___len__, d_Row___eq__, d_Row_at, d_Row_framed, d_Row_inverse, d_ends_of, d_joints, d_wished, d_rings, d_many_rings, d_closed_in, d_parts_in, d_homes_in, d_facing, d_unfaced_in, d_chains_in, d_parts, d_unfaced, d_chains, d_holder, d_tree_in, d_pruned, d_is_short, d_cost, d_to_go, d__law_mixed, d__law_folded, d__law_draw, d__law_begun, d__law_like, d__law_right_at, d__law_framed, d__law_rings, d__law_is_closed, d__law_parts, d__law_home, d__law_is_unfaced, d__law_unfaced, d__law_links, d__law_reached, d__law_is_leaf, d__law_is_long, d__law_cost, d__law_higher, d__law_costs_right, d_law]
def fa : List He.Fa := [.glo "is_whole", .glo "is_among", .glo "is_list", .glo "need_waggons", .meth "Row" "__init__", .meth "Row" "__len__", .meth "Row" "__eq__", .meth "Row" "at", .meth "Row" "framed", .meth "Row" "inverse", .glo "ends_of", .glo "joints", .glo "wished", .glo "rings", .glo "many_rings", .glo "closed_in", .glo "parts_in", .glo "homes_in", .glo "facing", .glo "unfaced_in", .glo "chains_in", .glo "parts", .glo "unfaced", .glo "chains", .glo "holder", .glo "tree_in", .glo "pruned", .glo "is_short", .glo "cost", .glo "to_go", .glo "_law_mixed", .glo "_law_folded", .glo "_law_draw", .glo "_law_begun", .glo "_law_like", .glo "_law_right_at", .glo "_law_framed", .glo "_law_rings", .glo "_law_is_closed", .glo "_law_parts", .glo "_law_home", .glo "_law_is_unfaced", .glo "_law_unfaced", .glo "_law_links", .glo "_law_reached", .glo "_law_is_leaf", .glo "_law_is_long", .glo "_law_cost", .glo "_law_higher", .glo "_law_costs_right", .glo "law", .glo "BadRow", .glo "BadPlace", .glo "TooGreat", .glo "FaceError", .glo "Row", .mkr "Row", .free "ValueError", .free "OverflowError", .free "len", .free "abs", .free "range", .free "enumerate", .free "zip", .free "tuple", .free "list", .free "int", .free "str", .free "repr", .free "isinstance", .free "min", .free "max", .free "sum", .free "any", .free "all", .free "sorted", .free "bool", .free "super", .int "MOST_WAGGONS" 24]
def xd (i : Nat) (x : Str) (ov : Bool) (fld : Option Str) : XD := ⟨x, ov, fld, x ++ ".__init__", defArgs (nth (clsB (top i)) 0), defBody (nth (clsB (top i)) 0), defScope (nth (clsB (top i)) 0)⟩
def xs : List XD := [xd 3 "BadRow" false (some "place"), xd 4 "BadPlace" false (some "value"), xd 5 "TooGreat" true (some "most")]
def tf : List He.Defn := []
def GG (w : World) (K : PySem.W.Frag) : Cl := { w := w, K := K, cl := fun n => match n with | 0 => He.ga K "Row" | _ => 0, xc := fun n => match n with | 0 => He.ga K "BadRow" | 1 => He.ga K "BadPlace" | 2 => He.ga K "TooGreat" | _ => 0, xf := fun n => match n with | 0 => (some "place") | 1 => (some "value") | 2 => (some "most") | _ => none, T := [] }
def okR : Nat → Bool := fun c => [0].contains c
def xs_place : List Nat := [0]
def xs_value : List Nat := [1]
def xs_most : List Nat := [2]
def it_Row : IsT := isT [("NoneType", false), ("bool", false), ("int", false), ("str", false), ("tuple", false), ("list", false), ("dict", false)] [true] [false, false, false]
def checks (K : PySem.W.Frag) : List Bool := [clAllB (GG w00 K) 1 3, slotX K (He.ga K "Row") "waggons", eqCB K (He.ga K "Row") (He.ma K (He.ga K "Row") "__eq__"), nfB (GG w00 K) 0 [0], isB (GG w00 K) (.ref (He.ga K "Row")) [("NoneType", false), ("bool", false), ("int", false), ("str", false), ("tuple", false), ("list", false), ("dict", false)] [true] [false, false, false], true, fldB (GG w00 K) "place" xs_place, fldB (GG w00 K) "value" xs_value, fldB (GG w00 K) "most" xs_most, decide ((GG w00 K).T.map (·.1)).Nodup]
def ex (K : PySem.W.Frag) : Bool := (checks K).all id
structure CC (P : Program) (K : PySem.W.Frag) (mg : Str → Option Value) (base : Heap) : Prop where
  d : He.SaysD fa fn K
  e : ex K = true
  h : ∃ h : Heap, K.In h ∧ h.Ns mainGlobals mg
  x : ∀ d ∈ xs, XSay P K d
  t : (P.main.scope.names.lookup ("super" : Str)).isSome = false
  hd : ∀ p ∈ tf, PySem.W.codeHdIn K (He.cT K p).1 (He.cT K p).2 = true
  tb : ∀ p ∈ tf, LamX.TabB base mg (He.cT K p).1 (He.cT K p).2
section
variable {P : Program} {w : World} {K : PySem.W.Frag} {mg : Str → Option Value} {base : Heap}
theorem CC.cls (c : CC P K mg base) : ClsOk (GG w K) 1 3 := clAllB_ok (all_at c.e 0 rfl)
theorem CC.dist (c : CC P K mg base) : ((GG w K).T.map (·.1)).Nodup := of_decide_eq_true (all_at c.e 9 rfl)
theorem is_Row (c : CC P K mg base) : IsOk (GG w K) (.ref (He.ga K "Row")) it_Row := isB_ok (all_at c.e 4 rfl) c.cls (by decide) (by decide)
theorem eqc_Row (c : CC P K mg base) : EqC K (He.ga K "Row") (He.ma K (He.ga K "Row") "__eq__") := eqCB_ok (all_at c.e 2 rfl)
theorem nf_Row (c : CC P K mg base) : NfC (GG w K) 0 okR := nfB_ok (all_at c.e 3 rfl)
theorem xf_place (c : CC P K mg base) : ∀ i, xs_place.contains i = true → (GG w K).xf i = some "place" ∧ L2.XfC K ((GG w K).xc i) ∧ PySem.W.findIn K (.ref ((GG w K).xc i)) "place" = some none := fldB_ok (G := GG w K) (all_at c.e 6 rfl) c.cls (by decide)
theorem xf_value (c : CC P K mg base) : ∀ i, xs_value.contains i = true → (GG w K).xf i = some "value" ∧ L2.XfC K ((GG w K).xc i) ∧ PySem.W.findIn K (.ref ((GG w K).xc i)) "value" = some none := fldB_ok (G := GG w K) (all_at c.e 7 rfl) c.cls (by decide)
theorem xf_most (c : CC P K mg base) : ∀ i, xs_most.contains i = true → (GG w K).xf i = some "most" ∧ L2.XfC K ((GG w K).xc i) ∧ PySem.W.findIn K (.ref ((GG w K).xc i)) "most" = some none := fldB_ok (G := GG w K) (all_at c.e 8 rfl) c.cls (by decide)
theorem sx_Row (c : CC P K mg base) : SlX.SCls K (He.ga K "Row") := ((c.cls (w := w00)).o 0 (by decide)).1
theorem sl_Row_waggons (c : CC P K mg base) : SlX.Slot1 K (He.ga K "Row") "waggons" (slotA K (He.ga K "Row") "waggons") 0 := slotX_ok (all_at c.e 1 rfl)
theorem xa_BadRow (c : CC P K mg base) : XAll P K (He.ga K "BadRow") (He.fAd K ("BadRow", some "__init__")) (some "place") := xall_1 (sn := "self") (x := "place") (c.x (xd 3 "BadRow" false (some "place")) (by simp [xs])) rfl ⟨rfl, rfl, rfl, rfl, rfl, rfl, by decide +kernel, ⟨_, rfl, rfl⟩, c.t, ⟨_, fun env => rfl⟩⟩ rfl rfl (by decide) (by decide) (by decide) (fun env => rfl) (fun fd s v u e e2 => BindsTo.of_eq (by
    obtain ⟨n1, n2, n3, n4, n5, n6, n7, n8, n9, n10, n11, n12, n13, n14, n15⟩ := fd
    obtain rfl : n3 = _ := e
    obtain rfl : n8 = _ := e2
    rfl))
theorem xa_BadPlace (c : CC P K mg base) : XAll P K (He.ga K "BadPlace") (He.fAd K ("BadPlace", some "__init__")) (some "value") := xall_1 (sn := "self") (x := "value") (c.x (xd 4 "BadPlace" false (some "value")) (by simp [xs])) rfl ⟨rfl, rfl, rfl, rfl, rfl, rfl, by decide +kernel, ⟨_, rfl, rfl⟩, c.t, ⟨_, fun env => rfl⟩⟩ rfl rfl (by decide) (by decide) (by decide) (fun env => rfl) (fun fd s v u e e2 => BindsTo.of_eq (by
    obtain ⟨n1, n2, n3, n4, n5, n6, n7, n8, n9, n10, n11, n12, n13, n14, n15⟩ := fd
    obtain rfl : n3 = _ := e
    obtain rfl : n8 = _ := e2
    rfl))
theorem xa_TooGreat (c : CC P K mg base) : XAll P K (He.ga K "TooGreat") (He.fAd K ("TooGreat", some "__init__")) (some "most") := xall_1 (sn := "self") (x := "most") (c.x (xd 5 "TooGreat" true (some "most")) (by simp [xs])) rfl ⟨rfl, rfl, rfl, rfl, rfl, rfl, by decide +kernel, ⟨_, rfl, rfl⟩, c.t, ⟨_, fun env => rfl⟩⟩ rfl rfl (by decide) (by decide) (by decide) (fun env => rfl) (fun fd s v u e e2 => BindsTo.of_eq (by
    obtain ⟨n1, n2, n3, n4, n5, n6, n7, n8, n9, n10, n11, n12, n13, n14, n15⟩ := fd
    obtain rfl : n3 = _ := e
    obtain rfl : n8 = _ := e2
    rfl))
theorem gl_is_whole (c : CC P K mg base) : mg "is_whole" = some (.ref (He.ga K "is_whole")) := by
  obtain ⟨h, X, G⟩ := c.h
  exact He.glo_ok X G (c.d.fact 0 (f := .glo "is_whole") rfl)
theorem gl_is_among (c : CC P K mg base) : mg "is_among" = some (.ref (He.ga K "is_among")) := by
  obtain ⟨h, X, G⟩ := c.h
  exact He.glo_ok X G (c.d.fact 1 (f := .glo "is_among") rfl)
theorem gl_is_list (c : CC P K mg base) : mg "is_list" = some (.ref (He.ga K "is_list")) := by
  obtain ⟨h, X, G⟩ := c.h
  exact He.glo_ok X G (c.d.fact 2 (f := .glo "is_list") rfl)
theorem gl_need_waggons (c : CC P K mg base) : mg "need_waggons" = some (.ref (He.ga K "need_waggons")) := by
  obtain ⟨h, X, G⟩ := c.h
  exact He.glo_ok X G (c.d.fact 3 (f := .glo "need_waggons") rfl)
theorem me_Row___init__ (c : CC P K mg base) : Meth K (He.ga K "Row") "__init__" (He.ma K (He.ga K "Row") "__init__") := He.meth_ok (c.d.fact 4 (f := .meth "Row" "__init__") rfl)
theorem me_Row___len__ (c : CC P K mg base) : Meth K (He.ga K "Row") "__len__" (He.ma K (He.ga K "Row") "__len__") := He.meth_ok (c.d.fact 5 (f := .meth "Row" "__len__") rfl)
theorem me_Row___eq__ (c : CC P K mg base) : Meth K (He.ga K "Row") "__eq__" (He.ma K (He.ga K "Row") "__eq__") := He.meth_ok (c.d.fact 6 (f := .meth "Row" "__eq__") rfl)
theorem me_Row_at (c : CC P K mg base) : Meth K (He.ga K "Row") "at" (He.ma K (He.ga K "Row") "at") := He.meth_ok (c.d.fact 7 (f := .meth "Row" "at") rfl)
theorem me_Row_framed (c : CC P K mg base) : Meth K (He.ga K "Row") "framed" (He.ma K (He.ga K "Row") "framed") := He.meth_ok (c.d.fact 8 (f := .meth "Row" "framed") rfl)
theorem me_Row_inverse (c : CC P K mg base) : Meth K (He.ga K "Row") "inverse" (He.ma K (He.ga K "Row") "inverse") := He.meth_ok (c.d.fact 9 (f := .meth "Row" "inverse") rfl)
theorem gl_ends_of (c : CC P K mg base) : mg "ends_of" = some (.ref (He.ga K "ends_of")) := by
  obtain ⟨h, X, G⟩ := c.h
  exact He.glo_ok X G (c.d.fact 10 (f := .glo "ends_of") rfl)
theorem gl_joints (c : CC P K mg base) : mg "joints" = some (.ref (He.ga K "joints")) := by
  obtain ⟨h, X, G⟩ := c.h
  exact He.glo_ok X G (c.d.fact 11 (f := .glo "joints") rfl)
theorem gl_wished (c : CC P K mg base) : mg "wished" = some (.ref (He.ga K "wished")) := by
  obtain ⟨h, X, G⟩ := c.h
  exact He.glo_ok X G (c.d.fact 12 (f := .glo "wished") rfl)
theorem gl_rings (c : CC P K mg base) : mg "rings" = some (.ref (He.ga K "rings")) := by
  obtain ⟨h, X, G⟩ := c.h
  exact He.glo_ok X G (c.d.fact 13 (f := .glo "rings") rfl)
theorem gl_many_rings (c : CC P K mg base) : mg "many_rings" = some (.ref (He.ga K "many_rings")) := by
  obtain ⟨h, X, G⟩ := c.h
  exact He.glo_ok X G (c.d.fact 14 (f := .glo "many_rings") rfl)
theorem gl_closed_in (c : CC P K mg base) : mg "closed_in" = some (.ref (He.ga K "closed_in")) := by
  obtain ⟨h, X, G⟩ := c.h
  exact He.glo_ok X G (c.d.fact 15 (f := .glo "closed_in") rfl)
theorem gl_parts_in (c : CC P K mg base) : mg "parts_in" = some (.ref (He.ga K "parts_in")) := by
  obtain ⟨h, X, G⟩ := c.h
  exact He.glo_ok X G (c.d.fact 16 (f := .glo "parts_in") rfl)
theorem gl_homes_in (c : CC P K mg base) : mg "homes_in" = some (.ref (He.ga K "homes_in")) := by
  obtain ⟨h, X, G⟩ := c.h
  exact He.glo_ok X G (c.d.fact 17 (f := .glo "homes_in") rfl)
theorem gl_facing (c : CC P K mg base) : mg "facing" = some (.ref (He.ga K "facing")) := by
  obtain ⟨h, X, G⟩ := c.h
  exact He.glo_ok X G (c.d.fact 18 (f := .glo "facing") rfl)
theorem gl_unfaced_in (c : CC P K mg base) : mg "unfaced_in" = some (.ref (He.ga K "unfaced_in")) := by
  obtain ⟨h, X, G⟩ := c.h
  exact He.glo_ok X G (c.d.fact 19 (f := .glo "unfaced_in") rfl)
theorem gl_chains_in (c : CC P K mg base) : mg "chains_in" = some (.ref (He.ga K "chains_in")) := by
  obtain ⟨h, X, G⟩ := c.h
  exact He.glo_ok X G (c.d.fact 20 (f := .glo "chains_in") rfl)
theorem gl_parts (c : CC P K mg base) : mg "parts" = some (.ref (He.ga K "parts")) := by
  obtain ⟨h, X, G⟩ := c.h
  exact He.glo_ok X G (c.d.fact 21 (f := .glo "parts") rfl)
theorem gl_unfaced (c : CC P K mg base) : mg "unfaced" = some (.ref (He.ga K "unfaced")) := by
  obtain ⟨h, X, G⟩ := c.h
  exact He.glo_ok X G (c.d.fact 22 (f := .glo "unfaced") rfl)
theorem gl_chains (c : CC P K mg base) : mg "chains" = some (.ref (He.ga K "chains")) := by
  obtain ⟨h, X, G⟩ := c.h
  exact He.glo_ok X G (c.d.fact 23 (f := .glo "chains") rfl)
theorem gl_holder (c : CC P K mg base) : mg "holder" = some (.ref (He.ga K "holder")) := by
  obtain ⟨h, X, G⟩ := c.h
  exact He.glo_ok X G (c.d.fact 24 (f := .glo "holder") rfl)
theorem gl_tree_in (c : CC P K mg base) : mg "tree_in" = some (.ref (He.ga K "tree_in")) := by
  obtain ⟨h, X, G⟩ := c.h
  exact He.glo_ok X G (c.d.fact 25 (f := .glo "tree_in") rfl)
theorem gl_pruned (c : CC P K mg base) : mg "pruned" = some (.ref (He.ga K "pruned")) := by
  obtain ⟨h, X, G⟩ := c.h
  exact He.glo_ok X G (c.d.fact 26 (f := .glo "pruned") rfl)
theorem gl_is_short (c : CC P K mg base) : mg "is_short" = some (.ref (He.ga K "is_short")) := by
  obtain ⟨h, X, G⟩ := c.h
  exact He.glo_ok X G (c.d.fact 27 (f := .glo "is_short") rfl)
theorem gl_cost (c : CC P K mg base) : mg "cost" = some (.ref (He.ga K "cost")) := by
  obtain ⟨h, X, G⟩ := c.h
  exact He.glo_ok X G (c.d.fact 28 (f := .glo "cost") rfl)
theorem gl_to_go (c : CC P K mg base) : mg "to_go" = some (.ref (He.ga K "to_go")) := by
  obtain ⟨h, X, G⟩ := c.h
  exact He.glo_ok X G (c.d.fact 29 (f := .glo "to_go") rfl)
theorem gl__law_mixed (c : CC P K mg base) : mg "_law_mixed" = some (.ref (He.ga K "_law_mixed")) := by
  obtain ⟨h, X, G⟩ := c.h
  exact He.glo_ok X G (c.d.fact 30 (f := .glo "_law_mixed") rfl)
theorem gl__law_folded (c : CC P K mg base) : mg "_law_folded" = some (.ref (He.ga K "_law_folded")) := by
  obtain ⟨h, X, G⟩ := c.h
  exact He.glo_ok X G (c.d.fact 31 (f := .glo "_law_folded") rfl)
theorem gl__law_draw (c : CC P K mg base) : mg "_law_draw" = some (.ref (He.ga K "_law_draw")) := by
  obtain ⟨h, X, G⟩ := c.h
  exact He.glo_ok X G (c.d.fact 32 (f := .glo "_law_draw") rfl)
theorem gl__law_begun (c : CC P K mg base) : mg "_law_begun" = some (.ref (He.ga K "_law_begun")) := by
  obtain ⟨h, X, G⟩ := c.h
  exact He.glo_ok X G (c.d.fact 33 (f := .glo "_law_begun") rfl)
theorem gl__law_like (c : CC P K mg base) : mg "_law_like" = some (.ref (He.ga K "_law_like")) := by
  obtain ⟨h, X, G⟩ := c.h
  exact He.glo_ok X G (c.d.fact 34 (f := .glo "_law_like") rfl)
theorem gl__law_right_at (c : CC P K mg base) : mg "_law_right_at" = some (.ref (He.ga K "_law_right_at")) := by
  obtain ⟨h, X, G⟩ := c.h
  exact He.glo_ok X G (c.d.fact 35 (f := .glo "_law_right_at") rfl)
theorem gl__law_framed (c : CC P K mg base) : mg "_law_framed" = some (.ref (He.ga K "_law_framed")) := by
  obtain ⟨h, X, G⟩ := c.h
  exact He.glo_ok X G (c.d.fact 36 (f := .glo "_law_framed") rfl)
theorem gl__law_rings (c : CC P K mg base) : mg "_law_rings" = some (.ref (He.ga K "_law_rings")) := by
  obtain ⟨h, X, G⟩ := c.h
  exact He.glo_ok X G (c.d.fact 37 (f := .glo "_law_rings") rfl)
theorem gl__law_is_closed (c : CC P K mg base) : mg "_law_is_closed" = some (.ref (He.ga K "_law_is_closed")) := by
  obtain ⟨h, X, G⟩ := c.h
  exact He.glo_ok X G (c.d.fact 38 (f := .glo "_law_is_closed") rfl)
theorem gl__law_parts (c : CC P K mg base) : mg "_law_parts" = some (.ref (He.ga K "_law_parts")) := by
  obtain ⟨h, X, G⟩ := c.h
  exact He.glo_ok X G (c.d.fact 39 (f := .glo "_law_parts") rfl)
theorem gl__law_home (c : CC P K mg base) : mg "_law_home" = some (.ref (He.ga K "_law_home")) := by
  obtain ⟨h, X, G⟩ := c.h
  exact He.glo_ok X G (c.d.fact 40 (f := .glo "_law_home") rfl)
theorem gl__law_is_unfaced (c : CC P K mg base) : mg "_law_is_unfaced" = some (.ref (He.ga K "_law_is_unfaced")) := by
  obtain ⟨h, X, G⟩ := c.h
  exact He.glo_ok X G (c.d.fact 41 (f := .glo "_law_is_unfaced") rfl)
theorem gl__law_unfaced (c : CC P K mg base) : mg "_law_unfaced" = some (.ref (He.ga K "_law_unfaced")) := by
  obtain ⟨h, X, G⟩ := c.h
  exact He.glo_ok X G (c.d.fact 42 (f := .glo "_law_unfaced") rfl)
theorem gl__law_links (c : CC P K mg base) : mg "_law_links" = some (.ref (He.ga K "_law_links")) := by
  obtain ⟨h, X, G⟩ := c.h
  exact He.glo_ok X G (c.d.fact 43 (f := .glo "_law_links") rfl)
theorem gl__law_reached (c : CC P K mg base) : mg "_law_reached" = some (.ref (He.ga K "_law_reached")) := by
  obtain ⟨h, X, G⟩ := c.h
  exact He.glo_ok X G (c.d.fact 44 (f := .glo "_law_reached") rfl)
theorem gl__law_is_leaf (c : CC P K mg base) : mg "_law_is_leaf" = some (.ref (He.ga K "_law_is_leaf")) := by
  obtain ⟨h, X, G⟩ := c.h
  exact He.glo_ok X G (c.d.fact 45 (f := .glo "_law_is_leaf") rfl)
theorem gl__law_is_long (c : CC P K mg base) : mg "_law_is_long" = some (.ref (He.ga K "_law_is_long")) := by
  obtain ⟨h, X, G⟩ := c.h
  exact He.glo_ok X G (c.d.fact 46 (f := .glo "_law_is_long") rfl)
theorem gl__law_cost (c : CC P K mg base) : mg "_law_cost" = some (.ref (He.ga K "_law_cost")) := by
  obtain ⟨h, X, G⟩ := c.h
  exact He.glo_ok X G (c.d.fact 47 (f := .glo "_law_cost") rfl)
theorem gl__law_higher (c : CC P K mg base) : mg "_law_higher" = some (.ref (He.ga K "_law_higher")) := by
  obtain ⟨h, X, G⟩ := c.h
  exact He.glo_ok X G (c.d.fact 48 (f := .glo "_law_higher") rfl)
theorem gl__law_costs_right (c : CC P K mg base) : mg "_law_costs_right" = some (.ref (He.ga K "_law_costs_right")) := by
  obtain ⟨h, X, G⟩ := c.h
  exact He.glo_ok X G (c.d.fact 49 (f := .glo "_law_costs_right") rfl)
theorem gl_law (c : CC P K mg base) : mg "law" = some (.ref (He.ga K "law")) := by
  obtain ⟨h, X, G⟩ := c.h
  exact He.glo_ok X G (c.d.fact 50 (f := .glo "law") rfl)
theorem gl_BadRow (c : CC P K mg base) : mg "BadRow" = some (.ref (He.ga K "BadRow")) := by
  obtain ⟨h, X, G⟩ := c.h
  exact He.glo_ok X G (c.d.fact 51 (f := .glo "BadRow") rfl)
theorem gl_BadPlace (c : CC P K mg base) : mg "BadPlace" = some (.ref (He.ga K "BadPlace")) := by
  obtain ⟨h, X, G⟩ := c.h
  exact He.glo_ok X G (c.d.fact 52 (f := .glo "BadPlace") rfl)
theorem gl_TooGreat (c : CC P K mg base) : mg "TooGreat" = some (.ref (He.ga K "TooGreat")) := by
  obtain ⟨h, X, G⟩ := c.h
  exact He.glo_ok X G (c.d.fact 53 (f := .glo "TooGreat") rfl)
theorem gl_FaceError (c : CC P K mg base) : mg "FaceError" = some (.ref (He.ga K "FaceError")) := by
  obtain ⟨h, X, G⟩ := c.h
  exact He.glo_ok X G (c.d.fact 54 (f := .glo "FaceError") rfl)
theorem gl_Row (c : CC P K mg base) : mg "Row" = some (.ref (He.ga K "Row")) := by
  obtain ⟨h, X, G⟩ := c.h
  exact He.glo_ok X G (c.d.fact 55 (f := .glo "Row") rfl)
theorem mk_Row (c : CC P K mg base) : Mk K (He.ga K "Row") (He.ma K (He.ga K "Row") "__init__") := He.mkr_ok (c.d.fact 56 (f := .mkr "Row") rfl)
theorem fr_ValueError (c : CC P K mg base) : mg "ValueError" = none := by
  obtain ⟨h, X, G⟩ := c.h
  exact He.free_ok X G (c.d.fact 57 (f := .free "ValueError") rfl)
theorem fr_OverflowError (c : CC P K mg base) : mg "OverflowError" = none := by
  obtain ⟨h, X, G⟩ := c.h
  exact He.free_ok X G (c.d.fact 58 (f := .free "OverflowError") rfl)
theorem fr_len (c : CC P K mg base) : mg "len" = none := by
  obtain ⟨h, X, G⟩ := c.h
  exact He.free_ok X G (c.d.fact 59 (f := .free "len") rfl)
theorem fr_abs (c : CC P K mg base) : mg "abs" = none := by
  obtain ⟨h, X, G⟩ := c.h
  exact He.free_ok X G (c.d.fact 60 (f := .free "abs") rfl)
theorem fr_range (c : CC P K mg base) : mg "range" = none := by
  obtain ⟨h, X, G⟩ := c.h
  exact He.free_ok X G (c.d.fact 61 (f := .free "range") rfl)
theorem fr_enumerate (c : CC P K mg base) : mg "enumerate" = none := by
  obtain ⟨h, X, G⟩ := c.h
  exact He.free_ok X G (c.d.fact 62 (f := .free "enumerate") rfl)
theorem fr_zip (c : CC P K mg base) : mg "zip" = none := by
  obtain ⟨h, X, G⟩ := c.h
  exact He.free_ok X G (c.d.fact 63 (f := .free "zip") rfl)
theorem fr_tuple (c : CC P K mg base) : mg "tuple" = none := by
  obtain ⟨h, X, G⟩ := c.h
  exact He.free_ok X G (c.d.fact 64 (f := .free "tuple") rfl)
theorem fr_list (c : CC P K mg base) : mg "list" = none := by
  obtain ⟨h, X, G⟩ := c.h
  exact He.free_ok X G (c.d.fact 65 (f := .free "list") rfl)
theorem fr_int (c : CC P K mg base) : mg "int" = none := by
  obtain ⟨h, X, G⟩ := c.h
  exact He.free_ok X G (c.d.fact 66 (f := .free "int") rfl)
theorem fr_str (c : CC P K mg base) : mg "str" = none := by
  obtain ⟨h, X, G⟩ := c.h
  exact He.free_ok X G (c.d.fact 67 (f := .free "str") rfl)
theorem fr_repr (c : CC P K mg base) : mg "repr" = none := by
  obtain ⟨h, X, G⟩ := c.h
  exact He.free_ok X G (c.d.fact 68 (f := .free "repr") rfl)
theorem fr_isinstance (c : CC P K mg base) : mg "isinstance" = none := by
  obtain ⟨h, X, G⟩ := c.h
  exact He.free_ok X G (c.d.fact 69 (f := .free "isinstance") rfl)
theorem fr_min (c : CC P K mg base) : mg "min" = none := by
  obtain ⟨h, X, G⟩ := c.h
  exact He.free_ok X G (c.d.fact 70 (f := .free "min") rfl)
theorem fr_max (c : CC P K mg base) : mg "max" = none := by
  obtain ⟨h, X, G⟩ := c.h
  exact He.free_ok X G (c.d.fact 71 (f := .free "max") rfl)
theorem fr_sum (c : CC P K mg base) : mg "sum" = none := by
  obtain ⟨h, X, G⟩ := c.h
  exact He.free_ok X G (c.d.fact 72 (f := .free "sum") rfl)
theorem fr_any (c : CC P K mg base) : mg "any" = none := by
  obtain ⟨h, X, G⟩ := c.h
  exact He.free_ok X G (c.d.fact 73 (f := .free "any") rfl)
theorem fr_all (c : CC P K mg base) : mg "all" = none := by
  obtain ⟨h, X, G⟩ := c.h
  exact He.free_ok X G (c.d.fact 74 (f := .free "all") rfl)
theorem fr_sorted (c : CC P K mg base) : mg "sorted" = none := by
  obtain ⟨h, X, G⟩ := c.h
  exact He.free_ok X G (c.d.fact 75 (f := .free "sorted") rfl)
theorem fr_bool (c : CC P K mg base) : mg "bool" = none := by
  obtain ⟨h, X, G⟩ := c.h
  exact He.free_ok X G (c.d.fact 76 (f := .free "bool") rfl)
theorem fr_super (c : CC P K mg base) : mg "super" = none := by
  obtain ⟨h, X, G⟩ := c.h
  exact He.free_ok X G (c.d.fact 77 (f := .free "super") rfl)
theorem gi_MOST_WAGGONS (c : CC P K mg base) : ∃ t, mg "MOST_WAGGONS" = some (.int 24 t) := by
  obtain ⟨h, X, G⟩ := c.h
  exact He.int_ok X G (c.d.fact 78 (f := .int "MOST_WAGGONS" 24) rfl)
theorem kp_is_whole (c : CC P K mg base) : PySem.W.keepIn K (.ref (He.ga K "is_whole")) = true := by
  obtain ⟨fd, F⟩ := c.d.def_ 0 (d := d_is_whole) rfl
  exact F.kp
theorem kp_is_among (c : CC P K mg base) : PySem.W.keepIn K (.ref (He.ga K "is_among")) = true := by
  obtain ⟨fd, F⟩ := c.d.def_ 1 (d := d_is_among) rfl
  exact F.kp
theorem kp_is_list (c : CC P K mg base) : PySem.W.keepIn K (.ref (He.ga K "is_list")) = true := by
  obtain ⟨fd, F⟩ := c.d.def_ 2 (d := d_is_list) rfl
  exact F.kp
theorem kp_need_waggons (c : CC P K mg base) : PySem.W.keepIn K (.ref (He.ga K "need_waggons")) = true := by
  obtain ⟨fd, F⟩ := c.d.def_ 3 (d := d_need_waggons) rfl
  exact F.kp
theorem kp_Row___init__ (c : CC P K mg base) : PySem.W.keepIn K (.ref (He.ma K (He.ga K "Row") "__init__")) = true := by
  obtain ⟨fd, F⟩ := c.d.def_ 4 (d := d_Row___init__) rfl
  exact F.kp
theorem kp_Row___len__ (c : CC P K mg base) : PySem.W.keepIn K (.ref (He.ma K (He.ga K "Row") "__len__")) = true := by
  obtain ⟨fd, F⟩ := c.d.def_ 5 (d := d_Row___len__) rfl
  exact F.kp
theorem kp_Row___eq__ (c : CC P K mg base) : PySem.W.keepIn K (.ref (He.ma K (He.ga K "Row") "__eq__")) = true := by
  obtain ⟨fd, F⟩ := c.d.def_ 6 (d := d_Row___eq__) rfl
  exact F.kp
theorem kp_Row_at (c : CC P K mg base) : PySem.W.keepIn K (.ref (He.ma K (He.ga K "Row") "at")) = true := by
  obtain ⟨fd, F⟩ := c.d.def_ 7 (d := d_Row_at) rfl
  exact F.kp
theorem kp_Row_framed (c : CC P K mg base) : PySem.W.keepIn K (.ref (He.ma K (He.ga K "Row") "framed")) = true := by
  obtain ⟨fd, F⟩ := c.d.def_ 8 (d := d_Row_framed) rfl
  exact F.kp
theorem kp_Row_inverse (c : CC P K mg base) : PySem.W.keepIn K (.ref (He.ma K (He.ga K "Row") "inverse")) = true := by
  obtain ⟨fd, F⟩ := c.d.def_ 9 (d := d_Row_inverse) rfl
  exact F.kp
theorem kp_ends_of (c : CC P K mg base) : PySem.W.keepIn K (.ref (He.ga K "ends_of")) = true := by
  obtain ⟨fd, F⟩ := c.d.def_ 10 (d := d_ends_of) rfl
  exact F.kp
theorem kp_joints (c : CC P K mg base) : PySem.W.keepIn K (.ref (He.ga K "joints")) = true := by
  obtain ⟨fd, F⟩ := c.d.def_ 11 (d := d_joints) rfl
  exact F.kp
theorem kp_wished (c : CC P K mg base) : PySem.W.keepIn K (.ref (He.ga K "wished")) = true := by
  obtain ⟨fd, F⟩ := c.d.def_ 12 (d := d_wished) rfl
  exact F.kp
theorem kp_rings (c : CC P K mg base) : PySem.W.keepIn K (.ref (He.ga K "rings")) = true := by
  obtain ⟨fd, F⟩ := c.d.def_ 13 (d := d_rings) rfl
  exact F.kp
theorem kp_many_rings (c : CC P K mg base) : PySem.W.keepIn K (.ref (He.ga K "many_rings")) = true := by
  obtain ⟨fd, F⟩ := c.d.def_ 14 (d := d_many_rings) rfl
  exact F.kp
theorem kp_closed_in (c : CC P K mg base) : PySem.W.keepIn K (.ref (He.ga K "closed_in")) = true := by
  obtain ⟨fd, F⟩ := c.d.def_ 15 (d := d_closed_in) rfl
  exact F.kp
theorem kp_parts_in (c : CC P K mg base) : PySem.W.keepIn K (.ref (He.ga K "parts_in")) = true := by
  obtain ⟨fd, F⟩ := c.d.def_ 16 (d := d_parts_in) rfl
  exact F.kp
theorem kp_homes_in (c : CC P K mg base) : PySem.W.keepIn K (.ref (He.ga K "homes_in")) = true := by
  obtain ⟨fd, F⟩ := c.d.def_ 17 (d := d_homes_in) rfl
  exact F.kp
theorem kp_facing (c : CC P K mg base) : PySem.W.keepIn K (.ref (He.ga K "facing")) = true := by
  obtain ⟨fd, F⟩ := c.d.def_ 18 (d := d_facing) rfl
  exact F.kp
theorem kp_unfaced_in (c : CC P K mg base) : PySem.W.keepIn K (.ref (He.ga K "unfaced_in")) = true := by
  obtain ⟨fd, F⟩ := c.d.def_ 19 (d := d_unfaced_in) rfl
  exact F.kp
theorem kp_chains_in (c : CC P K mg base) : PySem.W.keepIn K (.ref (He.ga K "chains_in")) = true := by
  obtain ⟨fd, F⟩ := c.d.def_ 20 (d := d_chains_in) rfl
  exact F.kp
theorem kp_parts (c : CC P K mg base) : PySem.W.keepIn K (.ref (He.ga K "parts")) = true := by
  obtain ⟨fd, F⟩ := c.d.def_ 21 (d := d_parts) rfl
  exact F.kp
theorem kp_unfaced (c : CC P K mg base) : PySem.W.keepIn K (.ref (He.ga K "unfaced")) = true := by
  obtain ⟨fd, F⟩ := c.d.def_ 22 (d := d_unfaced) rfl
  exact F.kp
theorem kp_chains (c : CC P K mg base) : PySem.W.keepIn K (.ref (He.ga K "chains")) = true := by
  obtain ⟨fd, F⟩ := c.d.def_ 23 (d := d_chains) rfl
  exact F.kp
theorem kp_holder (c : CC P K mg base) : PySem.W.keepIn K (.ref (He.ga K "holder")) = true := by
  obtain ⟨fd, F⟩ := c.d.def_ 24 (d := d_holder) rfl
  exact F.kp
theorem kp_tree_in (c : CC P K mg base) : PySem.W.keepIn K (.ref (He.ga K "tree_in")) = true := by
  obtain ⟨fd, F⟩ := c.d.def_ 25 (d := d_tree_in) rfl
  exact F.kp
theorem kp_pruned (c : CC P K mg base) : PySem.W.keepIn K (.ref (He.ga K "pruned")) = true := by
  obtain ⟨fd, F⟩ := c.d.def_ 26 (d := d_pruned) rfl
  exact F.kp
theorem kp_is_short (c : CC P K mg base) : PySem.W.keepIn K (.ref (He.ga K "is_short")) = true := by
  obtain ⟨fd, F⟩ := c.d.def_ 27 (d := d_is_short) rfl
  exact F.kp
theorem kp_cost (c : CC P K mg base) : PySem.W.keepIn K (.ref (He.ga K "cost")) = true := by
  obtain ⟨fd, F⟩ := c.d.def_ 28 (d := d_cost) rfl
  exact F.kp
theorem kp_to_go (c : CC P K mg base) : PySem.W.keepIn K (.ref (He.ga K "to_go")) = true := by
  obtain ⟨fd, F⟩ := c.d.def_ 29 (d := d_to_go) rfl
  exact F.kp
theorem kp__law_mixed (c : CC P K mg base) : PySem.W.keepIn K (.ref (He.ga K "_law_mixed")) = true := by
  obtain ⟨fd, F⟩ := c.d.def_ 30 (d := d__law_mixed) rfl
  exact F.kp
theorem kp__law_folded (c : CC P K mg base) : PySem.W.keepIn K (.ref (He.ga K "_law_folded")) = true := by
  obtain ⟨fd, F⟩ := c.d.def_ 31 (d := d__law_folded) rfl
  exact F.kp
theorem kp__law_draw (c : CC P K mg base) : PySem.W.keepIn K (.ref (He.ga K "_law_draw")) = true := by
  obtain ⟨fd, F⟩ := c.d.def_ 32 (d := d__law_draw) rfl
  exact F.kp
theorem kp__law_begun (c : CC P K mg base) : PySem.W.keepIn K (.ref (He.ga K "_law_begun")) = true := by
  obtain ⟨fd, F⟩ := c.d.def_ 33 (d := d__law_begun) rfl
  exact F.kp
theorem kp__law_like (c : CC P K mg base) : PySem.W.keepIn K (.ref (He.ga K "_law_like")) = true := by
  obtain ⟨fd, F⟩ := c.d.def_ 34 (d := d__law_like) rfl
  exact F.kp
theorem kp__law_right_at (c : CC P K mg base) : PySem.W.keepIn K (.ref (He.ga K "_law_right_at")) = true := by
  obtain ⟨fd, F⟩ := c.d.def_ 35 (d := d__law_right_at) rfl
  exact F.kp
theorem kp__law_framed (c : CC P K mg base) : PySem.W.keepIn K (.ref (He.ga K "_law_framed")) = true := by
  obtain ⟨fd, F⟩ := c.d.def_ 36 (d := d__law_framed) rfl
  exact F.kp
theorem kp__law_rings (c : CC P K mg base) : PySem.W.keepIn K (.ref (He.ga K "_law_rings")) = true := by
  obtain ⟨fd, F⟩ := c.d.def_ 37 (d := d__law_rings) rfl
  exact F.kp
theorem kp__law_is_closed (c : CC P K mg base) : PySem.W.keepIn K (.ref (He.ga K "_law_is_closed")) = true := by
  obtain ⟨fd, F⟩ := c.d.def_ 38 (d := d__law_is_closed) rfl
  exact F.kp
theorem kp__law_parts (c : CC P K mg base) : PySem.W.keepIn K (.ref (He.ga K "_law_parts")) = true := by
  obtain ⟨fd, F⟩ := c.d.def_ 39 (d := d__law_parts) rfl
  exact F.kp
theorem kp__law_home (c : CC P K mg base) : PySem.W.keepIn K (.ref (He.ga K "_law_home")) = true := by
  obtain ⟨fd, F⟩ := c.d.def_ 40 (d := d__law_home) rfl
  exact F.kp
theorem kp__law_is_unfaced (c : CC P K mg base) : PySem.W.keepIn K (.ref (He.ga K "_law_is_unfaced")) = true := by
  obtain ⟨fd, F⟩ := c.d.def_ 41 (d := d__law_is_unfaced) rfl
  exact F.kp
theorem kp__law_unfaced (c : CC P K mg base) : PySem.W.keepIn K (.ref (He.ga K "_law_unfaced")) = true := by
  obtain ⟨fd, F⟩ := c.d.def_ 42 (d := d__law_unfaced) rfl
  exact F.kp
theorem kp__law_links (c : CC P K mg base) : PySem.W.keepIn K (.ref (He.ga K "_law_links")) = true := by
  obtain ⟨fd, F⟩ := c.d.def_ 43 (d := d__law_links) rfl
  exact F.kp
theorem kp__law_reached (c : CC P K mg base) : PySem.W.keepIn K (.ref (He.ga K "_law_reached")) = true := by
  obtain ⟨fd, F⟩ := c.d.def_ 44 (d := d__law_reached) rfl
  exact F.kp
theorem kp__law_is_leaf (c : CC P K mg base) : PySem.W.keepIn K (.ref (He.ga K "_law_is_leaf")) = true := by
  obtain ⟨fd, F⟩ := c.d.def_ 45 (d := d__law_is_leaf) rfl
  exact F.kp
theorem kp__law_is_long (c : CC P K mg base) : PySem.W.keepIn K (.ref (He.ga K "_law_is_long")) = true := by
  obtain ⟨fd, F⟩ := c.d.def_ 46 (d := d__law_is_long) rfl
  exact F.kp
theorem kp__law_cost (c : CC P K mg base) : PySem.W.keepIn K (.ref (He.ga K "_law_cost")) = true := by
  obtain ⟨fd, F⟩ := c.d.def_ 47 (d := d__law_cost) rfl
  exact F.kp
theorem kp__law_higher (c : CC P K mg base) : PySem.W.keepIn K (.ref (He.ga K "_law_higher")) = true := by
  obtain ⟨fd, F⟩ := c.d.def_ 48 (d := d__law_higher) rfl
  exact F.kp
theorem kp__law_costs_right (c : CC P K mg base) : PySem.W.keepIn K (.ref (He.ga K "_law_costs_right")) = true := by
  obtain ⟨fd, F⟩ := c.d.def_ 49 (d := d__law_costs_right) rfl
  exact F.kp
theorem kp_law (c : CC P K mg base) : PySem.W.keepIn K (.ref (He.ga K "law")) = true := by
  obtain ⟨fd, F⟩ := c.d.def_ 50 (d := d_law) rfl
  exact F.kp
end
section
variable {P : Program} {w : World} {K : PySem.W.Frag} {mg : Str → Option Value} {base : Heap}
noncomputable def den_is_whole : DS :=
  (sRet (dAndV (dIsi "int" (dVar 0)) (dNotV (dIsi "bool" (dVar 0)))))
noncomputable def F_is_whole : DF := runD 1 den_is_whole
theorem fn_is_whole (c : CC P K mg base) : FnA P w K mg base 1 (He.ga K "is_whole") (spD (GG w K) 1 F_is_whole) := by
  obtain ⟨fd, F⟩ := c.d.def_ 0 (d := d_is_whole) rfl
  exact fnD (funD_fun (st := s_is_whole) F) sc_is_whole (FunD.bindsN F fun _ _ _ _ _ _ us hl => match us, hl with | [_], _ => rfl) fun cdv A out s H E hr => ⟨_,
    (pss_one (ps_ret (pe_and (pe_callB call_isi (by rfl) (fr_isinstance c) PyProof.Rows.boot_isinstance (pa_cons (pv 0) (pa_cons (pe_bltn (v := .ty "int") (by rfl) (fr_int c) PyProof.Rows.boot_int rfl) pa_nil))) (pe_one (pe_not (pe_callB call_isi (by rfl) (fr_isinstance c) PyProof.Rows.boot_isinstance (pa_cons (pv 0) (pa_cons (pe_bltn (v := .ty "bool") (by rfl) (fr_bool c) PyProof.Rows.boot_bool rfl) pa_nil)))))))),
    (ds_ret (de_and (de_isi ((de_var 0)).q) (de_not (de_isi ((de_var 0)).q))))⟩

noncomputable def den_Row___eq__ : DS :=
  (sRet (dAndV (dIsA it_Row (dVar 1)) (dOp eqD (dFld 0 (dVar 0)) (dFld 0 (dVar 1)))))
noncomputable def F_Row___eq__ : DF := runD 2 den_Row___eq__
theorem fn_Row___eq__ (c : CC P K mg base) : FnA P w K mg base 1 (He.ma K (He.ga K "Row") "__eq__") (spD (GG w K) 2 F_Row___eq__) := by
  obtain ⟨fd, F⟩ := c.d.def_ 6 (d := d_Row___eq__) rfl
  exact fnD (funD_fun (st := s_Row___eq__) F) sc_Row___eq__ (FunD.bindsN F fun _ _ _ _ _ _ us hl => match us, hl with | [_, _], _ => rfl) fun cdv A out s H E hr => ⟨_,
    (pss_one (ps_ret (pe_and (pe_callB (call_isA (.ref (He.ga K "Row"))) (by rfl) (fr_isinstance c) PyProof.Rows.boot_isinstance (pa_cons (pv 1) (pa_cons (pe_glob (v := .ref (He.ga K "Row")) (by rfl) (gl_Row c) rfl) pa_nil))) (pe_one (pe_cmpR (op_eqU hr.u64) (SlX.pe_sl (pv 0)) (SlX.pe_sl (pv 1)) (nomark _)))))),
    (ds_ret (de_and (de_isA (.own _) (is_Row c) ((de_var 1)).q) (de_op o_eq ((de_fld (c := 0) (de_var 0) (sx_Row c) (sl_Row_waggons c))).q ((de_fld (c := 0) (de_var 1) (sx_Row c) (sl_Row_waggons c))).q)))⟩

noncomputable def den_is_among : DS :=
  (sRet (dAndV (dCall 1 F_is_whole (dCons (dVar 0) dNil)) (dChain (cmpD fun i j => decide (i ≤ j)) (cmpD fun i j => decide (i ≤ j)) (dVar 1) (dVar 0) (dVar 2))))
noncomputable def F_is_among : DF := runD 3 den_is_among
theorem fn_is_among (c : CC P K mg base) : FnA P w K mg base 2 (He.ga K "is_among") (spD (GG w K) 3 F_is_among) := by
  obtain ⟨fd, F⟩ := c.d.def_ 1 (d := d_is_among) rfl
  exact fnD (funD_fun (st := s_is_among) F) sc_is_among (FunD.bindsN F fun _ _ _ _ _ _ us hl => match us, hl with | [_, _, _], _ => rfl) fun cdv A out s H E hr => ⟨_,
    (pss_one (ps_ret (pe_and (pe_callA (fn_is_whole (w := w) c) (hr.less (by decide)) (by rfl) (gl_is_whole c) (kp_is_whole c) pss0 (pa_cons (pv 0) pa_nil)) (pe_one (pe_chain op_le op_le (pv 1) (pv 0) (pv 2)))))),
    (ds_ret (de_and (de_call (da_cons (de_var 0) da_nil)) (de_chain (o_cmp fun i j => decide (i ≤ j)) (o_cmp fun i j => decide (i ≤ j)) ((de_var 1)).q ((de_var 0)).q ((de_var 2)).q)))⟩

noncomputable def den_is_list : DS :=
  (sRet (dIsiT ["list", "tuple"] (dVar 0)))
noncomputable def F_is_list : DF := runD 1 den_is_list
theorem fn_is_list (c : CC P K mg base) : FnA P w K mg base 1 (He.ga K "is_list") (spD (GG w K) 1 F_is_list) := by
  obtain ⟨fd, F⟩ := c.d.def_ 2 (d := d_is_list) rfl
  exact fnD (funD_fun (st := s_is_list) F) sc_is_list (FunD.bindsN F fun _ _ _ _ _ _ us hl => match us, hl with | [_], _ => rfl) fun cdv A out s H E hr => ⟨_,
    (pss_one (ps_ret (pe_callB call_isiT (by rfl) (fr_isinstance c) PyProof.Rows.boot_isinstance (pa_cons (pv 0) (pa_cons (pe_tup (pa_cons (pe_bltn (v := .ty "list") (by rfl) (fr_list c) PyProof.Rows.boot_list rfl) (pa_cons (pe_bltn (v := .ty "tuple") (by rfl) (fr_tuple c) PyProof.Rows.boot_tuple rfl) pa_nil))) pa_nil))))),
    (ds_ret (de_isiT (ns := ["list", "tuple"]) ((de_var 0)).q))⟩

noncomputable def den_Row___len__ : DS :=
  (sRet (dCB lenD (dCons (dFld 0 (dVar 0)) dNil)))
noncomputable def F_Row___len__ : DF := runD 1 den_Row___len__
theorem fn_Row___len__ (c : CC P K mg base) : FnA P w K mg base 1 (He.ma K (He.ga K "Row") "__len__") (spD (GG w K) 1 F_Row___len__) := by
  obtain ⟨fd, F⟩ := c.d.def_ 5 (d := d_Row___len__) rfl
  exact fnD (funD_fun (st := s_Row___len__) F) sc_Row___len__ (FunD.bindsN F fun _ _ _ _ _ _ us hl => match us, hl with | [_], _ => rfl) fun cdv A out s H E hr => ⟨_,
    (pss_one (ps_ret (pe_callB call_lenU (by rfl) (fr_len c) PySem.boot_len (pa_cons (SlX.pe_sl (pv 0)) pa_nil)))),
    (ds_ret (de_cb n_len (dp_cons ((de_fld (c := 0) (de_var 0) (sx_Row c) (sl_Row_waggons c))).q dp_nil)))⟩

noncomputable def den_need_waggons_b1 : DS :=
  (sSeq (sIf (dOr (dNot (dTru (dCall 1 F_is_whole (dCons (dVar 3) dNil)))) (dOr (dNot (dTest (dChain (cmpD fun i j => decide (i ≤ j)) (cmpD fun i j => decide (i ≤ j)) (dC (.int 1)) (dCB absD (dCons (dVar 3) dNil)) (dCB lenD (dCons (dVar 0) dNil))))) (dTest (dOp (inV false) (dCB absD (dCons (dVar 3) dNil)) (dPeek 1))))) (sRaise1 0 (dVar 2)) sNx)
    (sApp 1 (dCB absD (dCons (dVar 3) dNil))))
noncomputable def den_need_waggons : DS :=
  (sSeq (sIf (dNot (dTru (dCall 1 F_is_list (dCons (dVar 0) dNil)))) (sRaise1 0 (dC .non)) sNx)
    (sSeq (sIf (dTest (dOp (cmpD fun i j => decide (j < i)) (dCB lenD (dCons (dVar 0) dNil)) (dC (.int 24)))) (sRaise1 2 (dC (.int 24))) sNx)
    (sSeq (sSet 1 (dvLst dNil))
    (sFor (dEnumU (dCons (dVar 0) dNil)) (hTup 2 (hCons (hName 2) (hCons (hName 3) hNil))) den_need_waggons_b1))))
noncomputable def F_need_waggons : DF := runD 4 den_need_waggons
theorem fn_need_waggons (c : CC P K mg base) : FnA P w K mg base 2 (He.ga K "need_waggons") (spD (GG w K) 1 F_need_waggons) := by
  obtain ⟨fd, F⟩ := c.d.def_ 3 (d := d_need_waggons) rfl
  exact fnD (funD_fun (st := s_need_waggons) F) sc_need_waggons (FunD.bindsN F fun _ _ _ _ _ _ us hl => match us, hl with | [_], _ => rfl) fun cdv A out s H E hr => ⟨_,
    (pss_cons (ps_if (pt_not (pt_truth (pe_callA (fn_is_list (w := w) c) (hr.less (by decide)) (by rfl) (gl_is_list c) (kp_is_list c) pss0 (pa_cons (pv 0) pa_nil)) (by intro _; rfl))) (pss_one (ps_raise rfl (takes_of rfl rfl rfl rfl) (pmk_X1 (k := 0) (xa_BadRow c) (hr.less (by decide)) (by rfl) (gl_BadRow c) (fr_super c) pe_non))) pss_nil) (pss_cons (ps_if (pt_cmpR op_gt (pe_callB call_lenU (by rfl) (fr_len c) PySem.boot_len (pa_cons (pv 0) pa_nil)) (pe_glob (v := .int 24) (by rfl) (gi_MOST_WAGGONS c).choose_spec ⟨_, rfl⟩) (nomark _)) (pss_one (ps_raise rfl (takes_of rfl rfl rfl rfl) (pmk_X1 (k := 0) (xa_TooGreat c) (hr.less (by decide)) (by rfl) (gl_TooGreat c) (fr_super c) (pe_glob (v := .int 24) (by rfl) (gi_MOST_WAGGONS c).choose_spec ⟨_, rfl⟩)))) pss_nil) (pss_cons (ps_set (i := 1) sc_need_waggons.nd rfl (by first | exact .inl rfl | exact .inr rfl) (pe_lst pa_nil)) (pss_one (ps_for (passes_of rfl) rfl (pi_enumU (by rfl) (fr_enumerate c) (pa_cons (pv 0) pa_nil)) (pg_tup rfl (pgs_cons (pg_name (i := 2) sc_need_waggons.nd rfl (by first | exact .inl rfl | exact .inr rfl)) (pgs_cons (pg_name (i := 3) sc_need_waggons.nd rfl (by first | exact .inl rfl | exact .inr rfl)) pgs_nil))) (pss_cons (ps_if (PW.pt (pw_or (pt_not (pt_truth (pe_callA (fn_is_whole (w := w) c) (hr.less (by decide)) (by rfl) (gl_is_whole c) (kp_is_whole c) pss0 (pa_cons (pv 3) pa_nil)) (by intro _; rfl))) (pw_or (pt_not (pt_chain op_le op_le pe_int (pe_callB call_abs (by rfl) (fr_abs c) PyProof.Rows.boot_abs (pa_cons (pv 3) pa_nil)) (pe_callB call_lenU (by rfl) (fr_len c) PySem.boot_len (pa_cons (pv 0) pa_nil)))) (pw_or1 (pt_cmpR (op_inV hr.u65) (pe_callB call_abs (by rfl) (fr_abs c) PyProof.Rows.boot_abs (pa_cons (pv 3) pa_nil)) (pv 1) (by with_unfolding_all rfl)))))) (pss_one (ps_raise rfl (takes_of rfl rfl rfl rfl) (pmk_X1 (k := 0) (xa_BadRow c) (hr.less (by decide)) (by rfl) (gl_BadRow c) (fr_super c) (pv 2)))) pss_nil) (pss_one (ps_expr (pe_bm PySem.F.plainAttrs_list PySem.F.slot_list_append PySem.F.type_list_append mt_append (pv 1) (pa_cons (pe_callB call_abs (by rfl) (fr_abs c) PyProof.Rows.boot_abs (pa_cons (pv 3) pa_nil)) pa_nil)))))))))),
    (ds_seq (ds_if (dt_not (dt_tru ((de_call (da_cons (de_var 0) da_nil))).q)) (ds_raise1 (c := 0) rfl de_non) ds_nil) (ds_seq (ds_if (dt_test (de_op (o_cmp fun i j => decide (j < i)) ((de_cb n_len (dp_cons ((de_var 0)).q dp_nil))).q (de_int).q)) (ds_raise1 (c := 2) rfl de_int) ds_nil) (ds_seq (ds_set (i := 1) (dv_lst da_nil)) (ds_for (di_enumU (da_cons (de_var 0) da_nil)) (dg_tup (dgs_cons (dg_name 2) (dgs_cons (dg_name 3) dgs_nil))) (ds_seq (ds_if (dt_or (dt_not (dt_tru ((de_call (da_cons (de_var 3) da_nil))).q)) (dt_or (dt_not (dt_test (de_chain (o_cmp fun i j => decide (i ≤ j)) (o_cmp fun i j => decide (i ≤ j)) (de_int).q ((de_cb n_abs (dp_cons ((de_var 3)).q dp_nil))).q ((de_cb n_len (dp_cons ((de_var 0)).q dp_nil))).q))) (dt_test (de_op o_inV ((de_cb n_abs (dp_cons ((de_var 3)).q dp_nil))).q (dq_var 1))))) (ds_raise1 (c := 0) rfl (de_var 2)) ds_nil) (ds_app 1 (de_cb n_abs (dp_cons ((de_var 3)).q dp_nil))))))))⟩

noncomputable def F_Row___init__ : DF := initD (dCall 1 F_need_waggons (dCons (dVar 1) dNil)) (dCB toTup (dCons (dVar 1) dNil))
theorem fn_Row___init__ (c : CC P K mg base) : FnA P w K mg base 3 (He.ma K (He.ga K "Row") "__init__") (spI (GG w K) 0 F_Row___init__) := by
  obtain ⟨fd, F⟩ := c.d.def_ 4 (d := d_Row___init__) rfl
  exact fnA_of (funD_fun (st := s_Row___init__) F) sc_Row___init__ (FunD.bindsN F fun _ _ _ _ _ _ us hl => match us, hl with | [_, _], _ => rfl) fun cdv A out s H vs Q E hr h =>
    have z := init_keeps (N := N_Row___init__) (te := _) (tv := _) (de_call (da_cons (de_var 1) da_nil)) (de_cb n_tuple (dp_cons ((de_var 1)).q dp_nil)) (sx_Row c) (sl_Row_waggons c) rfl h
    ⟨z.1, _, pss_cons (ps_expr (pe_callA (fn_need_waggons (w := w) c) (hr.less (by decide)) (by rfl) (gl_need_waggons c) (kp_need_waggons c) pss0 (pa_cons (pv 1) pa_nil))) (pss_one (SlX.ps_sl (pv 0) (pe_callTy (call_tuple_of) (by rfl) (fr_tuple c) PyProof.Rows.boot_tuple (pa_cons (pv 1) pa_nil)))), z.2⟩

noncomputable def den_Row_at : DS :=
  (sSeq (sIf (dNot (dTru (dCall 3 F_is_among (dCons (dVar 1) (dCons (dC (.int 0)) (dCons (dOp subD (dCB lenD (dCons (dFld 0 (dVar 0)) dNil)) (dC (.int 1))) dNil)))))) (sRaise1 1 (dVar 1)) sNx)
    (sRet (dOp ixV (dFld 0 (dVar 0)) (dVar 1))))
noncomputable def F_Row_at : DF := runD 2 den_Row_at
theorem fn_Row_at (c : CC P K mg base) : FnA P w K mg base 3 (He.ma K (He.ga K "Row") "at") (spD (GG w K) 2 F_Row_at) := by
  obtain ⟨fd, F⟩ := c.d.def_ 7 (d := d_Row_at) rfl
  exact fnD (funD_fun (st := s_Row_at) F) sc_Row_at (FunD.bindsN F fun _ _ _ _ _ _ us hl => match us, hl with | [_, _], _ => rfl) fun cdv A out s H E hr => ⟨_,
    (pss_cons (ps_if (pt_not (pt_truth (pe_callA (fn_is_among (w := w) c) (hr.less (by decide)) (by rfl) (gl_is_among c) (kp_is_among c) pss0 (pa_cons (pv 1) (pa_cons pe_int (pa_cons (pe_op op_sub (pe_callB call_lenU (by rfl) (fr_len c) PySem.boot_len (pa_cons (SlX.pe_sl (pv 0)) pa_nil)) pe_int) pa_nil)))) (by intro _; rfl))) (pss_one (ps_raise rfl (takes_of rfl rfl rfl rfl) (pmk_X1 (k := 0) (xa_BadPlace c) (hr.less (by decide)) (by rfl) (gl_BadPlace c) (fr_super c) (pv 1)))) pss_nil) (pss_one (ps_ret (pe_ix (ix_V hr.u10) (SlX.pe_sl (pv 0)) (pv 1) (fun _ _ => rfl))))),
    (ds_seq (ds_if (dt_not (dt_tru ((de_call (da_cons (de_var 1) (da_cons de_int (da_cons (de_op o_sub ((de_cb n_len (dp_cons ((de_fld (c := 0) (de_var 0) (sx_Row c) (sl_Row_waggons c))).q dp_nil))).q (de_int).q) da_nil))))).q)) (ds_raise1 (c := 1) rfl (de_var 1)) ds_nil) (ds_ret (de_op o_ixV ((de_fld (c := 0) (de_var 0) (sx_Row c) (sl_Row_waggons c))).q ((de_var 1)).q)))⟩

noncomputable def den_Row_framed : DS :=
  (sRet (dTup (dCons (dC (.int 0)) (dStar (dFld 0 (dVar 0)) (dCons (dOp addD (dCB lenD (dCons (dFld 0 (dVar 0)) dNil)) (dC (.int 1))) dNil)))))
noncomputable def F_Row_framed : DF := runD 1 den_Row_framed
theorem fn_Row_framed (c : CC P K mg base) : FnA P w K mg base 1 (He.ma K (He.ga K "Row") "framed") (spD (GG w K) 1 F_Row_framed) := by
  obtain ⟨fd, F⟩ := c.d.def_ 8 (d := d_Row_framed) rfl
  exact fnD (funD_fun (st := s_Row_framed) F) sc_Row_framed (FunD.bindsN F fun _ _ _ _ _ _ us hl => match us, hl with | [_], _ => rfl) fun cdv A out s H E hr => ⟨_,
    (pss_one (ps_ret (pe_tup (pa_cons pe_int (StX.pa_star (SlX.pe_sl (pv 0)) (pa_cons (pe_op op_addU (pe_callB call_lenU (by rfl) (fr_len c) PySem.boot_len (pa_cons (SlX.pe_sl (pv 0)) pa_nil)) pe_int) pa_nil)))))),
    (ds_ret (de_tup (da_cons de_int (da_star (de_fld (c := 0) (de_var 0) (sx_Row c) (sl_Row_waggons c)) (da_cons (de_op o_add ((de_cb n_len (dp_cons ((de_fld (c := 0) (de_var 0) (sx_Row c) (sl_Row_waggons c))).q dp_nil))).q (de_int).q) da_nil)))))⟩

noncomputable def den_Row_inverse_b1 : DS :=
  (sPutU 1 (dIf (dTest (dOp (cmpD fun i j => decide (j < i)) (dVar 3) (dC (.int 0)))) (dOp addD (dVar 2) (dC (.int 1))) (dOp subD (dOp subD (dC (.int 0)) (dVar 2)) (dC (.int 1)))) (dOp subD (dCB absD (dCons (dVar 3) dNil)) (dC (.int 1))))
noncomputable def den_Row_inverse : DS :=
  (sSeq (sSet 1 (dvRep (dLst (dCons (dC (.int 0)) dNil)) (dCB lenD (dCons (dFld 0 (dVar 0)) dNil))))
    (sSeq (sFor (dEnumU (dCons (dFld 0 (dVar 0)) dNil)) (hTup 2 (hCons (hName 2) (hCons (hName 3) hNil))) den_Row_inverse_b1)
    (sFrz 1 (sRet (dMake 0 F_Row___init__ (dCons (dVar 1) dNil))))))
noncomputable def F_Row_inverse : DF := runD 4 den_Row_inverse
theorem fn_Row_inverse (c : CC P K mg base) : FnA P w K mg base 5 (He.ma K (He.ga K "Row") "inverse") (spD (GG w K) 1 F_Row_inverse) := by
  obtain ⟨fd, F⟩ := c.d.def_ 9 (d := d_Row_inverse) rfl
  exact fnD (funD_fun (st := s_Row_inverse) F) sc_Row_inverse (FunD.bindsN F fun _ _ _ _ _ _ us hl => match us, hl with | [_], _ => rfl) fun cdv A out s H E hr => ⟨_,
    (pss_cons (ps_set (i := 1) sc_Row_inverse.nd rfl (by first | exact .inl rfl | exact .inr rfl) (pe_op op_mulU (pe_lst (pa_cons pe_int pa_nil)) (pe_callB call_lenU (by rfl) (fr_len c) PySem.boot_len (pa_cons (SlX.pe_sl (pv 0)) pa_nil)))) (pss_cons (ps_for (passes_of rfl) rfl (pi_enumU (by rfl) (fr_enumerate c) (pa_cons (SlX.pe_sl (pv 0)) pa_nil)) (pg_tup rfl (pgs_cons (pg_name (i := 2) sc_Row_inverse.nd rfl (by first | exact .inl rfl | exact .inr rfl)) (pgs_cons (pg_name (i := 3) sc_Row_inverse.nd rfl (by first | exact .inl rfl | exact .inr rfl)) pgs_nil))) (pss_one (ps_asg (pe_ifExp (pt_cmpR op_gt (pv 3) pe_int (nomark _)) (pe_op op_addU (pv 2) pe_int) (pe_op op_sub (pe_op op_sub pe_int (pv 2)) pe_int)) (pg_sub (pv 1) (pe_op op_sub (pe_callB call_abs (by rfl) (fr_abs c) PyProof.Rows.boot_abs (pa_cons (pv 3) pa_nil)) pe_int) (set_V hr.u10))))) (pss_one (ps_ret (pe_makeA (mk_Row c) (fn_Row___init__ (w := w) c) (hr.less (by decide)) (by rfl) (gl_Row c) pss0 (pa_cons (pv 1) pa_nil)))))),
    (ds_seq (ds_set (i := 1) (dv_rep ((de_lst (da_cons de_int da_nil))).q ((de_cb n_len (dp_cons ((de_fld (c := 0) (de_var 0) (sx_Row c) (sl_Row_waggons c))).q dp_nil))).q)) (ds_seq (ds_for (di_enumU (da_cons (de_fld (c := 0) (de_var 0) (sx_Row c) (sl_Row_waggons c)) da_nil)) (dg_tup (dgs_cons (dg_name 2) (dgs_cons (dg_name 3) dgs_nil))) (ds_putU 1 (de_if (dt_test (de_op (o_cmp fun i j => decide (j < i)) ((de_var 3)).q (de_int).q)) (de_op o_add ((de_var 2)).q (de_int).q) (de_op o_sub ((de_op o_sub (de_int).q ((de_var 2)).q)).q (de_int).q)) (de_op o_sub ((de_cb n_abs (dp_cons ((de_var 3)).q dp_nil))).q (de_int).q))) (ds_frz 1 (ds_ret (de_make (da_cons (de_var 1) da_nil))))))⟩

noncomputable def den_ends_of : DS :=
  (sSeq (sPar 1 2 (dCons (dOp subD (dOp mulD (dC (.int 2)) (dCB absD (dCons (dVar 0) dNil))) (dC (.int 1))) (dCons (dOp mulD (dC (.int 2)) (dCB absD (dCons (dVar 0) dNil))) dNil)))
    (sRet (dIf (dTest (dOp (cmpD fun i j => decide (j ≤ i)) (dVar 0) (dC (.int 0)))) (dTup (dCons (dVar 1) (dCons (dVar 2) dNil))) (dTup (dCons (dVar 2) (dCons (dVar 1) dNil))))))
noncomputable def F_ends_of : DF := runD 3 den_ends_of
theorem fn_ends_of (c : CC P K mg base) : FnA P w K mg base 1 (He.ga K "ends_of") (spD (GG w K) 1 F_ends_of) := by
  obtain ⟨fd, F⟩ := c.d.def_ 10 (d := d_ends_of) rfl
  exact fnD (funD_fun (st := s_ends_of) F) sc_ends_of (FunD.bindsN F fun _ _ _ _ _ _ us hl => match us, hl with | [_], _ => rfl) fun cdv A out s H E hr => ⟨_,
    (pss_cons (ps_par (i := 1) (j := 2) rfl sc_ends_of.nd rfl rfl (by decide) rfl rfl (pa_cons (pe_op op_sub (pe_op op_mulU pe_int (pe_callB call_abs (by rfl) (fr_abs c) PyProof.Rows.boot_abs (pa_cons (pv 0) pa_nil))) pe_int) (pa_cons (pe_op op_mulU pe_int (pe_callB call_abs (by rfl) (fr_abs c) PyProof.Rows.boot_abs (pa_cons (pv 0) pa_nil))) pa_nil)) rfl) (pss_one (ps_ret (pe_ifExp (pt_cmpR op_ge (pv 0) pe_int (nomark _)) (pe_tup (pa_cons (pv 1) (pa_cons (pv 2) pa_nil))) (pe_tup (pa_cons (pv 2) (pa_cons (pv 1) pa_nil))))))),
    (ds_seq (ds_par (i := 1) (j := 2) (da_cons (de_op o_sub ((de_op o_mul (de_int).q ((de_cb n_abs (dp_cons ((de_var 0)).q dp_nil))).q)).q (de_int).q) (da_cons (de_op o_mul (de_int).q ((de_cb n_abs (dp_cons ((de_var 0)).q dp_nil))).q) da_nil))) (ds_ret (de_if (dt_test (de_op (o_cmp fun i j => decide (j ≤ i)) ((de_var 0)).q (de_int).q)) (de_tup (da_cons (de_var 1) (da_cons (de_var 2) da_nil))) (de_tup (da_cons (de_var 2) (da_cons (de_var 1) da_nil))))))⟩

noncomputable def den_joints : DS :=
  (sSeq (sSet 1 (dvV (dMeth 0 1 F_Row_framed (dVar 0) dNil)))
    (sRet (dCB toTup (dCons (fun ρ m => (dLc (dZip (dCons (dVar 1) (dCons (dSl (dVar 1) (dPart (dC (.int 1))) dNoPart) dNil))) (hTup 2 (hCons (hName 2) (hCons (hName 3) hNil))) (fun _ m => .ok true m) (dTup (dCons (dOp ixV (dCall 1 F_ends_of (dCons (dVar 2) dNil)) (dC (.int 1))) (dCons (dOp ixV (dCall 1 F_ends_of (dCons (dVar 3) dNil)) (dC (.int 0))) dNil))) [2, 3] ρ m).map .lst) dNil))))
noncomputable def F_joints : DF := runD 4 den_joints
theorem fn_joints (c : CC P K mg base) : FnA P w K mg base 2 (He.ga K "joints") (spD (GG w K) 1 F_joints) := by
  obtain ⟨fd, F⟩ := c.d.def_ 11 (d := d_joints) rfl
  exact fnD (funD_fun (st := s_joints) F) sc_joints (FunD.bindsN F fun _ _ _ _ _ _ us hl => match us, hl with | [_], _ => rfl) fun cdv A out s H E hr => ⟨_,
    (pss_cons (ps_set (i := 1) sc_joints.nd rfl (by first | exact .inl rfl | exact .inr rfl) (pe_methA0 (pv 0) (sx_Row c) (me_Row_framed c) (fn_Row_framed (w := w) c) (hr.less (by decide)) pss0)) (pss_one (ps_ret (pe_callTy (call_tuple_of) (by rfl) (fr_tuple c) PyProof.Rows.boot_tuple (pa_cons (pe_lc rfl sc_joints.nd (RZ.pi_zipA (by rfl) (fr_zip c) (pa_cons (pv 1) (pa_cons (pe_slice sl_U (pv 1) (po_some pe_int) po_none) pa_nil))) (blkOk_by (N := N_joints) (sc := defScope s_joints) (own := [("one", 2), ("other", 3)]) (by decide +kernel)) (fun _ _ _ _ _ => (show PG _ _ (gTup K 2 (gCons (gName 2) (gCons (gName 3) gNil))) from (pg_tup rfl (pgs_cons (pg_name (i := 2) sc_joints.nd rfl (by first | exact .inl rfl | exact .inr rfl)) (pgs_cons (pg_name (i := 3) sc_joints.nd rfl (by first | exact .inl rfl | exact .inr rfl)) pgs_nil))))) (fun _ _ _ _ _ => pts_nil) (fun _ _ _ _ _ => (pe_tup (pa_cons (pe_ix (show IxR _ (rIxV K w) from ix_V hr.u10) (pe_callA (fn_ends_of (w := w) c) (hr.less (by decide)) (by rfl) (gl_ends_of c) (kp_ends_of c) passL (pa_cons (pv 2) pa_nil)) pe_int (fun _ _ => rfl)) (pa_cons (pe_ix (show IxR _ (rIxV K w) from ix_V hr.u10) (pe_callA (fn_ends_of (w := w) c) (hr.less (by decide)) (by rfl) (gl_ends_of c) (kp_ends_of c) passL (pa_cons (pv 3) pa_nil)) pe_int (fun _ _ => rfl)) pa_nil))))) pa_nil))))),
    (ds_seq (ds_set (i := 1) (dv (de_meth (c := 0) (de_var 0) da_nil))) (ds_ret (de_cb n_tuple (dp_cons ((de_lc (di_zip (da_cons (de_var 1) (da_cons (de_sl ((de_var 1)).q (do_some de_int) do_none) da_nil))) (dg_tup (dgs_cons (dg_name 2) (dgs_cons (dg_name 3) dgs_nil))) dt_yes (de_tup (da_cons (de_op o_ixV ((de_call (da_cons (de_var 2) da_nil))).q (de_int).q) (da_cons (de_op o_ixV ((de_call (da_cons (de_var 3) da_nil))).q (de_int).q) da_nil))) (by decide))).q dp_nil))))⟩

noncomputable def den_wished : DS :=
  (sRet (dIf (dTest (dOp eqD (dOp modD (dVar 0) (dC (.int 2))) (dC (.int 0)))) (dOp addD (dVar 0) (dC (.int 1))) (dOp subD (dVar 0) (dC (.int 1)))))
noncomputable def F_wished : DF := runD 1 den_wished
theorem fn_wished (c : CC P K mg base) : FnA P w K mg base 1 (He.ga K "wished") (spD (GG w K) 1 F_wished) := by
  obtain ⟨fd, F⟩ := c.d.def_ 12 (d := d_wished) rfl
  exact fnD (funD_fun (st := s_wished) F) sc_wished (FunD.bindsN F fun _ _ _ _ _ _ us hl => match us, hl with | [_], _ => rfl) fun cdv A out s H E hr => ⟨_,
    (pss_one (ps_ret (pe_ifExp (pt_cmpR (op_eqU hr.u64) (pe_op op_mod (pv 0) pe_int) pe_int (nomark _)) (pe_op op_addU (pv 0) pe_int) (pe_op op_sub (pv 0) pe_int)))),
    (ds_ret (de_if (dt_test (de_op o_eq ((de_op o_mod ((de_var 0)).q (de_int).q)).q (de_int).q)) (de_op o_add ((de_var 0)).q (de_int).q) (de_op o_sub ((de_var 0)).q (de_int).q)))⟩

noncomputable def den_rings_b1 : DS :=
  (sPut2 2 2 (dTup (dCons (dVar 3) (dCons (dVar 5) dNil))) (dTup (dCons (dVar 3) (dCons (dVar 4) dNil))) (dVar 4) (dVar 5))
noncomputable def den_rings_b2 : DS :=
  (sSeq (sAsg (dOp ixV (dPeek 2) (dVar 9)) (hTup 2 (hCons (hName 10) (hCons (hName 11) hNil))))
    (sSeq (sApp 8 (dVar 10))
    (sSet 9 (dvV (dCall 1 F_wished (dCons (dVar 11) dNil))))))
noncomputable def den_rings_b3 : DS :=
  (sPutU 7 (dC (.bl true)) (dVar 10))
noncomputable def den_rings_b4 : DS :=
  (sSeq (sParV [8, 9] (dvsCons (dvLst dNil) (dvsCons (dvV (dVar 4)) dvsNil)))
    (sSeq (whileD (dAnd (dTest (dOp (inV true) (dVar 3) (dPeek 7))) (dOr (dTest (dOp eqD (dPeek 8) (dLst dNil))) (dTest (dOp neD (dVar 9) (dVar 4))))) den_rings_b2 200)
    (sFrz 8 (sSeq (sFor (dSeqU (dVar 8)) (hName 10) den_rings_b3)
    (sIf (dTest (dOp neD (dPeek 8) (dLst dNil))) (sApp 6 (dCB toTup (dCons (dCB srtLX (dCons (dPeek 8) dNil)) dNil))) sNx)))))
noncomputable def den_rings : DS :=
  (sSeq (sParV [1, 2] (dvsCons (dvV (dCall 1 F_joints (dCons (dVar 0) dNil))) (dvsCons dvNew dvsNil)))
    (sSeq (sFor (dEnumU (dCons (dVar 1) dNil)) (hTup 2 (hCons (hName 3) (hCons (hTup 2 (hCons (hName 4) (hCons (hName 5) hNil))) hNil))) den_rings_b1)
    (sSeq (sParV [6, 7] (dvsCons (dvLst dNil) (dvsCons dvNew dvsNil)))
    (sSeq (sFor (dEnumU (dCons (dVar 1) dNil)) (hTup 2 (hCons (hName 3) (hCons (hTup 2 (hCons (hName 4) (hCons (hName 5) hNil))) hNil))) den_rings_b4)
    (sRet (dCB toTup (dCons (dPeek 6) dNil)))))))
noncomputable def F_rings : DF := runD 12 den_rings
theorem fn_rings (c : CC P K mg base) : FnA P w K mg base 3 (He.ga K "rings") (spD (GG w K) 1 F_rings) := by
  obtain ⟨fd, F⟩ := c.d.def_ 13 (d := d_rings) rfl
  exact fnD (funD_fun (st := s_rings) F) sc_rings (FunD.bindsN F fun _ _ _ _ _ _ us hl => match us, hl with | [_], _ => rfl) fun cdv A out s H E hr => ⟨_,
    (pss_cons (ps_par (i := 1) (j := 2) rfl sc_rings.nd rfl rfl (by decide) rfl rfl (pa_cons (pe_callA (fn_joints (w := w) c) (hr.less (by decide)) (by rfl) (gl_joints c) (kp_joints c) pss0 (pa_cons (pv 0) pa_nil)) (pa_cons pe_dnewK pa_nil)) rfl) (pss_cons (ps_for (passes_of rfl) rfl (pi_enumU (by rfl) (fr_enumerate c) (pa_cons (pv 1) pa_nil)) (pg_tup rfl (pgs_cons (pg_name (i := 3) sc_rings.nd rfl (by first | exact .inl rfl | exact .inr rfl)) (pgs_cons (pg_tup rfl (pgs_cons (pg_name (i := 4) sc_rings.nd rfl (by first | exact .inl rfl | exact .inr rfl)) (pgs_cons (pg_name (i := 5) sc_rings.nd rfl (by first | exact .inl rfl | exact .inr rfl)) pgs_nil))) pgs_nil))) (pss_one (ps_asg (pe_tup (pa_cons (pe_tup (pa_cons (pv 3) (pa_cons (pv 5) pa_nil))) (pa_cons (pe_tup (pa_cons (pv 3) (pa_cons (pv 4) pa_nil))) pa_nil))) (pg_tup rfl (pgs_cons (pg_sub (pv 2) (pv 4) (set_V hr.u10)) (pgs_cons (pg_sub (pv 2) (pv 5) (set_V hr.u10)) pgs_nil)))))) (pss_cons (ps_par (i := 6) (j := 7) rfl sc_rings.nd rfl rfl (by decide) rfl rfl (pa_cons (pe_lst pa_nil) (pa_cons pe_dnewK pa_nil)) rfl) (pss_cons (ps_for (passes_of rfl) rfl (pi_enumU (by rfl) (fr_enumerate c) (pa_cons (pv 1) pa_nil)) (pg_tup rfl (pgs_cons (pg_name (i := 3) sc_rings.nd rfl (by first | exact .inl rfl | exact .inr rfl)) (pgs_cons (pg_tup rfl (pgs_cons (pg_name (i := 4) sc_rings.nd rfl (by first | exact .inl rfl | exact .inr rfl)) (pgs_cons (pg_name (i := 5) sc_rings.nd rfl (by first | exact .inl rfl | exact .inr rfl)) pgs_nil))) pgs_nil))) (pss_cons (ps_par (i := 8) (j := 9) rfl sc_rings.nd rfl rfl (by decide) rfl rfl (pa_cons (pe_lst pa_nil) (pa_cons (pv 4) pa_nil)) rfl) (pss_cons (ps_while (passes_of rfl) (PW.pt (pw_and (pt_cmpR (op_notInV hr.u65) (pv 3) (pv 7) (by with_unfolding_all rfl)) (pw_and1 (PW.pt (pw_or (pt_cmpR (op_eqU hr.u64) (pv 8) (pe_lst pa_nil) (nomark _)) (pw_or1 (pt_cmpR (op_neU hr.u64) (pv 9) (pv 4) (nomark _)))))))) (pss_cons (ps_asg (pe_ix (ix_V hr.u10) (pv 2) (pv 9) (fun _ _ => rfl)) (pg_tup rfl (pgs_cons (pg_name (i := 10) sc_rings.nd rfl (by first | exact .inl rfl | exact .inr rfl)) (pgs_cons (pg_name (i := 11) sc_rings.nd rfl (by first | exact .inl rfl | exact .inr rfl)) pgs_nil)))) (pss_cons (ps_expr (pe_bm PySem.F.plainAttrs_list PySem.F.slot_list_append PySem.F.type_list_append mt_append (pv 8) (pa_cons (pv 10) pa_nil))) (pss_one (ps_set (i := 9) sc_rings.nd rfl (by first | exact .inl rfl | exact .inr rfl) (pe_callA (fn_wished (w := w) c) (hr.less (by decide)) (by rfl) (gl_wished c) (kp_wished c) pss0 (pa_cons (pv 11) pa_nil))))))) (pss_cons (ps_for (passes_of rfl) rfl (pi_seqU (pv 8)) (pg_name (i := 10) sc_rings.nd rfl (by first | exact .inl rfl | exact .inr rfl)) (pss_one (ps_asg pe_bl (pg_sub (pv 7) (pv 10) (set_V hr.u10))))) (pss_one (ps_if (pt_cmpR (op_neU hr.u64) (pv 8) (pe_lst pa_nil) (nomark _)) (pss_one (ps_expr (pe_bm PySem.F.plainAttrs_list PySem.F.slot_list_append PySem.F.type_list_append mt_append (pv 6) (pa_cons (pe_callTy (call_tuple_of) (by rfl) (fr_tuple c) PyProof.Rows.boot_tuple (pa_cons (pe_callB (call_sortU hr.u200) (by rfl) (fr_sorted c) PyProof.Rows.boot_sorted (pa_cons (pv 8) pa_nil)) pa_nil)) pa_nil)))) pss_nil)))))) (pss_one (ps_ret (pe_callTy (call_tuple_of) (by rfl) (fr_tuple c) PyProof.Rows.boot_tuple (pa_cons (pv 6) pa_nil)))))))),
    (ds_seq (ds_parV2 (i := 1) (j := 2) (dvs_cons (dv (de_call (da_cons (de_var 0) da_nil))) (dvs_cons dv_dnew dvs_nil))) (ds_seq (ds_for (di_enumU (da_cons (de_var 1) da_nil)) (dg_tup (dgs_cons (dg_name 3) (dgs_cons (dg_tup (dgs_cons (dg_name 4) (dgs_cons (dg_name 5) dgs_nil))) dgs_nil))) (ds_put2 2 2 (de_tup (da_cons (de_var 3) (da_cons (de_var 5) da_nil))) (de_tup (da_cons (de_var 3) (da_cons (de_var 4) da_nil))) (de_var 4) (de_var 5))) (ds_seq (ds_parV2 (i := 6) (j := 7) (dvs_cons (dv_lst da_nil) (dvs_cons dv_dnew dvs_nil))) (ds_seq (ds_for (di_enumU (da_cons (de_var 1) da_nil)) (dg_tup (dgs_cons (dg_name 3) (dgs_cons (dg_tup (dgs_cons (dg_name 4) (dgs_cons (dg_name 5) dgs_nil))) dgs_nil))) (ds_seq (ds_parV2 (i := 8) (j := 9) (dvs_cons (dv_lst da_nil) (dvs_cons (dv (de_var 4)) dvs_nil))) (ds_seq (ds_while 200 (dt_and (dt_test (de_op o_notInV ((de_var 3)).q (dq_var 7))) (dt_or (dt_test (de_op o_eq (dq_var 8) ((de_lst da_nil)).q)) (dt_test (de_op o_ne ((de_var 9)).q ((de_var 4)).q)))) (ds_seq (ds_asg (de_op o_ixV (dq_var 2) ((de_var 9)).q) (dg_tup (dgs_cons (dg_name 10) (dgs_cons (dg_name 11) dgs_nil)))) (ds_seq (ds_app 8 (de_var 10)) (ds_set (i := 9) (dv (de_call (da_cons (de_var 11) da_nil))))))) (ds_frz 8 (ds_seq (ds_for (di_seqU (de_var 8)) (dg_name 10) (ds_putU 7 de_bl (de_var 10))) (ds_if (dt_test (de_op o_ne (dq_var 8) ((de_lst da_nil)).q)) (ds_app 6 (de_cb n_tuple (dp_cons ((de_cb n_srtX (dp_cons (dq_var 8) dp_nil))).q dp_nil))) ds_nil)))))) (ds_ret (de_cb n_tuple (dp_cons (dq_var 6) dp_nil)))))))⟩

noncomputable def den_many_rings : DS :=
  (sRet (dCB lenD (dCons (dCall 1 F_rings (dCons (dVar 0) dNil)) dNil)))
noncomputable def F_many_rings : DF := runD 1 den_many_rings
theorem fn_many_rings (c : CC P K mg base) : FnA P w K mg base 4 (He.ga K "many_rings") (spD (GG w K) 1 F_many_rings) := by
  obtain ⟨fd, F⟩ := c.d.def_ 14 (d := d_many_rings) rfl
  exact fnD (funD_fun (st := s_many_rings) F) sc_many_rings (FunD.bindsN F fun _ _ _ _ _ _ us hl => match us, hl with | [_], _ => rfl) fun cdv A out s H E hr => ⟨_,
    (pss_one (ps_ret (pe_callB call_lenU (by rfl) (fr_len c) PySem.boot_len (pa_cons (pe_callA (fn_rings (w := w) c) (hr.less (by decide)) (by rfl) (gl_rings c) (kp_rings c) pss0 (pa_cons (pv 0) pa_nil)) pa_nil)))),
    (ds_ret (de_cb n_len (dp_cons ((de_call (da_cons (de_var 0) da_nil))).q dp_nil)))⟩

noncomputable def den_closed_in_b1 : DS :=
  (sSeq (sPar 6 7 (dCons (dOp ixV (dVar 0) (dVar 2)) (dCons (dOp ixV (dVar 0) (dVar 5)) dNil)))
    (sSeq (sPar 3 4 (dCons (dCB min2D (dCons (dVar 3) (dCons (dCB absD (dCons (dVar 7) dNil)) dNil))) (dCons (dCB max2D (dCons (dVar 4) (dCons (dCB absD (dCons (dVar 7) dNil)) dNil))) dNil)))
    (sIf (dAnd (dTest (dChain eqD eqD (dOp subD (dVar 4) (dVar 3)) (dOp subD (dVar 5) (dVar 2)) (dOp subD (dVar 7) (dVar 6)))) (dTest (dOp eqD (dOp (cmpD fun i j => decide (i < j)) (dVar 6) (dC (.int 0))) (dOp (cmpD fun i j => decide (i < j)) (dVar 7) (dC (.int 0)))))) (sApp 1 (dTup (dCons (dVar 2) (dCons (dVar 5) dNil)))) sNx)))
noncomputable def den_closed_in_b2 : DS :=
  (sSeq (sAsg2 (dCB absD (dCons (dOp ixV (dVar 0) (dVar 2)) dNil)) (hName 3) (hName 4))
    (sFor (dRng2 (dCons (dOp addD (dVar 2) (dC (.int 1))) (dCons (dCB lenD (dCons (dVar 0) dNil)) dNil))) (hName 5) den_closed_in_b1))
noncomputable def den_closed_in : DS :=
  (sSeq (sSet 1 (dvLst dNil))
    (sSeq (sFor (dRng1 (dCons (dCB lenD (dCons (dVar 0) dNil)) dNil)) (hName 2) den_closed_in_b2)
    (sFrz 1 (sRet (dVar 1)))))
noncomputable def F_closed_in : DF := runD 8 den_closed_in
theorem fn_closed_in (c : CC P K mg base) : FnA P w K mg base 1 (He.ga K "closed_in") (spD (GG w K) 1 F_closed_in) := by
  obtain ⟨fd, F⟩ := c.d.def_ 15 (d := d_closed_in) rfl
  exact fnD (funD_fun (st := s_closed_in) F) sc_closed_in (FunD.bindsN F fun _ _ _ _ _ _ us hl => match us, hl with | [_], _ => rfl) fun cdv A out s H E hr => ⟨_,
    (pss_cons (ps_set (i := 1) sc_closed_in.nd rfl (by first | exact .inl rfl | exact .inr rfl) (pe_lst pa_nil)) (pss_cons (ps_for (passes_of rfl) rfl (pi_range1 (by rfl) (fr_range c) (pa_cons (pe_callB call_lenU (by rfl) (fr_len c) PySem.boot_len (pa_cons (pv 0) pa_nil)) pa_nil)) (pg_name (i := 2) sc_closed_in.nd rfl (by first | exact .inl rfl | exact .inr rfl)) (pss_cons (ps_asg2 (pe_callB call_abs (by rfl) (fr_abs c) PyProof.Rows.boot_abs (pa_cons (pe_ix (ix_V hr.u10) (pv 0) (pv 2) (fun _ _ => rfl)) pa_nil)) (pg_name (i := 3) sc_closed_in.nd rfl (by first | exact .inl rfl | exact .inr rfl)) (pg_name (i := 4) sc_closed_in.nd rfl (by first | exact .inl rfl | exact .inr rfl))) (pss_one (ps_for (passes_of rfl) rfl (pi_range2 (by rfl) (fr_range c) (pa_cons (pe_op op_addU (pv 2) pe_int) (pa_cons (pe_callB call_lenU (by rfl) (fr_len c) PySem.boot_len (pa_cons (pv 0) pa_nil)) pa_nil))) (pg_name (i := 5) sc_closed_in.nd rfl (by first | exact .inl rfl | exact .inr rfl)) (pss_cons (ps_par (i := 6) (j := 7) rfl sc_closed_in.nd rfl rfl (by decide) rfl rfl (pa_cons (pe_ix (ix_V hr.u10) (pv 0) (pv 2) (fun _ _ => rfl)) (pa_cons (pe_ix (ix_V hr.u10) (pv 0) (pv 5) (fun _ _ => rfl)) pa_nil)) rfl) (pss_cons (ps_par (i := 3) (j := 4) rfl sc_closed_in.nd rfl rfl (by decide) rfl rfl (pa_cons (pe_callB (call_min2 rfl) (by rfl) (fr_min c) PyProof.Rows.boot_min (pa_cons (pv 3) (pa_cons (pe_callB call_abs (by rfl) (fr_abs c) PyProof.Rows.boot_abs (pa_cons (pv 7) pa_nil)) pa_nil))) (pa_cons (pe_callB (call_max2 rfl) (by rfl) (fr_max c) PyProof.Rows.boot_max (pa_cons (pv 4) (pa_cons (pe_callB call_abs (by rfl) (fr_abs c) PyProof.Rows.boot_abs (pa_cons (pv 7) pa_nil)) pa_nil))) pa_nil)) rfl) (pss_one (ps_if (PW.pt (pw_and (pt_chain (op_eqU hr.u64) (op_eqU hr.u64) (pe_op op_sub (pv 4) (pv 3)) (pe_op op_sub (pv 5) (pv 2)) (pe_op op_sub (pv 7) (pv 6))) (pw_and1 (pt_cmpR (op_eqU hr.u64) (pe_cmpR op_lt (pv 6) pe_int (nomark _)) (pe_cmpR op_lt (pv 7) pe_int (nomark _)) (nomark _))))) (pss_one (ps_expr (pe_bm PySem.F.plainAttrs_list PySem.F.slot_list_append PySem.F.type_list_append mt_append (pv 1) (pa_cons (pe_tup (pa_cons (pv 2) (pa_cons (pv 5) pa_nil))) pa_nil)))) pss_nil)))))))) (pss_one (ps_ret (pv 1))))),
    (ds_seq (ds_set (i := 1) (dv_lst da_nil)) (ds_seq (ds_for (di_rng1 (da_cons (de_cb n_len (dp_cons ((de_var 0)).q dp_nil)) da_nil)) (dg_name 2) (ds_seq (ds_asg2 (de_cb n_abs (dp_cons ((de_op o_ixV ((de_var 0)).q ((de_var 2)).q)).q dp_nil)) (dg_name 3) (dg_name 4)) (ds_for (di_rng2 (da_cons (de_op o_add ((de_var 2)).q (de_int).q) (da_cons (de_cb n_len (dp_cons ((de_var 0)).q dp_nil)) da_nil))) (dg_name 5) (ds_seq (ds_par (i := 6) (j := 7) (da_cons (de_op o_ixV ((de_var 0)).q ((de_var 2)).q) (da_cons (de_op o_ixV ((de_var 0)).q ((de_var 5)).q) da_nil))) (ds_seq (ds_par (i := 3) (j := 4) (da_cons (de_cb n_min2 (dp_cons ((de_var 3)).q (dp_cons ((de_cb n_abs (dp_cons ((de_var 7)).q dp_nil))).q dp_nil))) (da_cons (de_cb n_max2 (dp_cons ((de_var 4)).q (dp_cons ((de_cb n_abs (dp_cons ((de_var 7)).q dp_nil))).q dp_nil))) da_nil))) (ds_if (dt_and (dt_test (de_chain o_eq o_eq ((de_op o_sub ((de_var 4)).q ((de_var 3)).q)).q ((de_op o_sub ((de_var 5)).q ((de_var 2)).q)).q ((de_op o_sub ((de_var 7)).q ((de_var 6)).q)).q)) (dt_test (de_op o_eq ((de_op (o_cmp fun i j => decide (i < j)) ((de_var 6)).q (de_int).q)).q ((de_op (o_cmp fun i j => decide (i < j)) ((de_var 7)).q (de_int).q)).q))) (ds_app 1 (de_tup (da_cons (de_var 2) (da_cons (de_var 5) da_nil)))) ds_nil)))))) (ds_frz 1 (ds_ret (de_var 1)))))⟩

noncomputable def den_parts_in_b1 : DS :=
  (sPutU 2 (dOp addD (dGetU (dPeek 2) (dVar 3) (dLst dNil)) (dLst (dCons (dVar 4) dNil))) (dVar 3))
noncomputable def den_parts_in_b2 : DS :=
  (sIf (dNot (dTru (dCB anyD (dCons (fun ρ m => (dLc (dSeqU (dOp ixV (dPeek 2) (dVar 3))) (hName 8) ((dTest (dOp (cmpD fun i j => decide (i < j)) (dVar 8) (dVar 4)))) (dOp (inV false) (dTup (dCons (dVar 8) (dCons (dVar 4) dNil))) (dVar 5)) [8] ρ m).map .lst) dNil)))) (sApp 6 (dTup (dCons (dVar 3) (dCons (dVar 4) dNil)))) sNx)
noncomputable def den_parts_in : DS :=
  (sSeq (sParV [1, 2] (dvsCons (dvV (dCall 1 F_closed_in (dCons (dVar 0) dNil))) (dvsCons dvNew dvsNil)))
    (sSeq (sFor (dSeqU (dVar 1)) (hTup 2 (hCons (hName 3) (hCons (hName 4) hNil))) den_parts_in_b1)
    (sSeq (sSet 5 (dvV (fun ρ m => (dDcG D.nkey (dSeqU (dVar 1)) (hName 7) (fun _ m => .ok true m) (dVar 7) (dC (.bl true)) [7] ρ m).map .dcn)))
    (sSeq (sSet 6 (dvLst dNil))
    (sSeq (sFor (dSeqU (dVar 1)) (hTup 2 (hCons (hName 3) (hCons (hName 4) hNil))) den_parts_in_b2)
    (sFrz 6 (sRet (dVar 6))))))))
noncomputable def F_parts_in : DF := runD 9 den_parts_in
theorem fn_parts_in (c : CC P K mg base) : FnA P w K mg base 2 (He.ga K "parts_in") (spD (GG w K) 1 F_parts_in) := by
  obtain ⟨fd, F⟩ := c.d.def_ 16 (d := d_parts_in) rfl
  exact fnD (funD_fun (st := s_parts_in) F) sc_parts_in (FunD.bindsN F fun _ _ _ _ _ _ us hl => match us, hl with | [_], _ => rfl) fun cdv A out s H E hr => ⟨_,
    (pss_cons (ps_par (i := 1) (j := 2) rfl sc_parts_in.nd rfl rfl (by decide) rfl rfl (pa_cons (pe_callA (fn_closed_in (w := w) c) (hr.less (by decide)) (by rfl) (gl_closed_in c) (kp_closed_in c) pss0 (pa_cons (pv 0) pa_nil)) (pa_cons pe_dnewK pa_nil)) rfl) (pss_cons (ps_for (passes_of rfl) rfl (pi_seqU (pv 1)) (pg_tup rfl (pgs_cons (pg_name (i := 3) sc_parts_in.nd rfl (by first | exact .inl rfl | exact .inr rfl)) (pgs_cons (pg_name (i := 4) sc_parts_in.nd rfl (by first | exact .inl rfl | exact .inr rfl)) pgs_nil))) (pss_one (ps_asg (pe_op op_addU (pe_dgetU2 hr.u10 (pv 2) (pv 3) (pe_lst pa_nil) ⟨rfl, rfl, rfl, rfl⟩) (pe_lst (pa_cons (pv 4) pa_nil))) (pg_sub (pv 2) (pv 3) (set_V hr.u10))))) (pss_cons (ps_set (i := 5) sc_parts_in.nd rfl (by first | exact .inl rfl | exact .inr rfl) (pe_dcG rfl sc_parts_in.nd empN (setN hr.u10) (pi_seqU (pv 1)) (blkOk_by (N := N_parts_in) (sc := defScope s_parts_in) (own := [("stretch", 7)]) (by decide +kernel)) (fun _ _ _ _ _ => (pg_name (i := 7) sc_parts_in.nd rfl (by first | exact .inl rfl | exact .inr rfl))) (fun _ _ _ _ _ => pts_nil) (fun _ _ _ _ _ => (pv 7)) (fun _ _ _ _ _ => pe_bl))) (pss_cons (ps_set (i := 6) sc_parts_in.nd rfl (by first | exact .inl rfl | exact .inr rfl) (pe_lst pa_nil)) (pss_cons (ps_for (passes_of rfl) rfl (pi_seqU (pv 1)) (pg_tup rfl (pgs_cons (pg_name (i := 3) sc_parts_in.nd rfl (by first | exact .inl rfl | exact .inr rfl)) (pgs_cons (pg_name (i := 4) sc_parts_in.nd rfl (by first | exact .inl rfl | exact .inr rfl)) pgs_nil))) (pss_one (ps_if (pt_not (pt_truth (pe_callB (cr_any rfl) (by rfl) (fr_any c) PyProof.Rows.boot_any (pa_cons (pe_lc rfl sc_parts_in.nd (pi_seqU (pe_ix (ix_V hr.u10) (pv 2) (pv 3) (fun _ _ => rfl))) (blkOk_by (N := N_parts_in) (sc := defScope s_parts_in) (own := [("middle", 8)]) (by decide +kernel)) (fun _ _ _ _ _ => (pg_name (i := 8) sc_parts_in.nd rfl (by first | exact .inl rfl | exact .inr rfl))) (fun _ _ _ _ _ => (pts_one (pt_cmpR op_lt (pv 8) (pv 4) (nomark _)))) (fun _ _ _ _ _ => (pe_cmpR (show OpR _ _ (rInV K w) from (op_inV hr.u65)) (pe_tup (pa_cons (pv 8) (pa_cons (pv 4) pa_nil))) (pv 5) (by with_unfolding_all rfl)))) pa_nil)) (by intro _; rfl))) (pss_one (ps_expr (pe_bm PySem.F.plainAttrs_list PySem.F.slot_list_append PySem.F.type_list_append mt_append (pv 6) (pa_cons (pe_tup (pa_cons (pv 3) (pa_cons (pv 4) pa_nil))) pa_nil)))) pss_nil))) (pss_one (ps_ret (pv 6)))))))),
    (ds_seq (ds_parV2 (i := 1) (j := 2) (dvs_cons (dv (de_call (da_cons (de_var 0) da_nil))) (dvs_cons dv_dnew dvs_nil))) (ds_seq (ds_for (di_seqU (de_var 1)) (dg_tup (dgs_cons (dg_name 3) (dgs_cons (dg_name 4) dgs_nil))) (ds_putU 2 (de_op o_add ((de_getU (dq_var 2) ((de_var 3)).q (de_lst da_nil))).q ((de_lst (da_cons (de_var 4) da_nil))).q) (de_var 3))) (ds_seq (ds_set (i := 5) (dv (de_dcN (di_seqU (de_var 1)) (dg_name 7) dt_yes (de_var 7) de_bl (by decide)))) (ds_seq (ds_set (i := 6) (dv_lst da_nil)) (ds_seq (ds_for (di_seqU (de_var 1)) (dg_tup (dgs_cons (dg_name 3) (dgs_cons (dg_name 4) dgs_nil))) (ds_if (dt_not (dt_tru ((de_cb n_any (dp_cons ((de_lc (di_seqU (de_op o_ixV (dq_var 2) ((de_var 3)).q)) (dg_name 8) (dt_test (de_op (o_cmp fun i j => decide (i < j)) ((de_var 8)).q ((de_var 4)).q)) (de_op o_inV ((de_tup (da_cons (de_var 8) (da_cons (de_var 4) da_nil)))).q ((de_var 5)).q) (by decide))).q dp_nil))).q)) (ds_app 6 (de_tup (da_cons (de_var 3) (da_cons (de_var 4) da_nil)))) ds_nil)) (ds_frz 6 (ds_ret (de_var 6))))))))⟩

noncomputable def den_homes_in_b1 : DS :=
  (sSeq (sSet 4 (dvV (fun ρ m => (dLc (dSeqU (dVar 0)) (hTup 2 (hCons (hName 5) (hCons (hName 6) hNil))) ((dTest (dChain (cmpD fun i j => decide (i ≤ j)) (cmpD fun i j => decide (i < j)) (dVar 5) (dVar 3) (dVar 6)))) (dTup (dCons (dOp subD (dVar 6) (dVar 5)) (dCons (dVar 5) (dCons (dVar 6) dNil)))) [5, 6] ρ m).map .lst)))
    (sApp 2 (dSl (dCB (bestLD false) (dCons (dVar 4) dNil)) (dPart (dC (.int 1))) dNoPart)))
noncomputable def den_homes_in : DS :=
  (sSeq (sSet 2 (dvLst dNil))
    (sSeq (sFor (dRng1 (dCons (dVar 1) dNil)) (hName 3) den_homes_in_b1)
    (sFrz 2 (sRet (dVar 2)))))
noncomputable def F_homes_in : DF := runD 7 den_homes_in
theorem fn_homes_in (c : CC P K mg base) : FnA P w K mg base 1 (He.ga K "homes_in") (spD (GG w K) 2 F_homes_in) := by
  obtain ⟨fd, F⟩ := c.d.def_ 17 (d := d_homes_in) rfl
  exact fnD (funD_fun (st := s_homes_in) F) sc_homes_in (FunD.bindsN F fun _ _ _ _ _ _ us hl => match us, hl with | [_, _], _ => rfl) fun cdv A out s H E hr => ⟨_,
    (pss_cons (ps_set (i := 2) sc_homes_in.nd rfl (by first | exact .inl rfl | exact .inr rfl) (pe_lst pa_nil)) (pss_cons (ps_for (passes_of rfl) rfl (pi_range1 (by rfl) (fr_range c) (pa_cons (pv 1) pa_nil)) (pg_name (i := 3) sc_homes_in.nd rfl (by first | exact .inl rfl | exact .inr rfl)) (pss_cons (ps_setLc (i := 4) rfl sc_homes_in.nd rfl rfl rfl (pi_seqU (pv 0)) (blkOk_by (N := N_homes_in) (sc := defScope s_homes_in) (own := [("first", 5), ("last", 6)]) (by decide +kernel)) (fun _ _ _ _ _ => (show PG _ _ (gTup K 2 (gCons (gName 5) (gCons (gName 6) gNil))) from (pg_tup rfl (pgs_cons (pg_name (i := 5) sc_homes_in.nd rfl (by first | exact .inl rfl | exact .inr rfl)) (pgs_cons (pg_name (i := 6) sc_homes_in.nd rfl (by first | exact .inl rfl | exact .inr rfl)) pgs_nil))))) (fun _ _ _ _ _ => (pts_one (pt_chain op_le op_lt (pv 5) (pv 3) (pv 6)))) (fun _ _ _ _ _ => (pe_tup (pa_cons (pe_op op_sub (pv 6) (pv 5)) (pa_cons (pv 5) (pa_cons (pv 6) pa_nil)))))) (pss_one (ps_expr (pe_bm PySem.F.plainAttrs_list PySem.F.slot_list_append PySem.F.type_list_append mt_append (pv 2) (pa_cons (pe_slice sl_U (pe_callB (call_minU rfl hr.u200) (by rfl) (fr_min c) PyProof.Rows.boot_min (pa_cons (pv 4) pa_nil)) (po_some pe_int) po_none) pa_nil)))))) (pss_one (ps_ret (pv 2))))),
    (ds_seq (ds_set (i := 2) (dv_lst da_nil)) (ds_seq (ds_for (di_rng1 (da_cons (de_var 1) da_nil)) (dg_name 3) (ds_seq (ds_set (i := 4) (dv (de_lc (di_seqU (de_var 0)) (dg_tup (dgs_cons (dg_name 5) (dgs_cons (dg_name 6) dgs_nil))) (dt_test (de_chain (o_cmp fun i j => decide (i ≤ j)) (o_cmp fun i j => decide (i < j)) ((de_var 5)).q ((de_var 3)).q ((de_var 6)).q)) (de_tup (da_cons (de_op o_sub ((de_var 6)).q ((de_var 5)).q) (da_cons (de_var 5) (da_cons (de_var 6) da_nil)))) (by decide)))) (ds_app 2 (de_sl ((de_cb n_best (dp_cons ((de_var 4)).q dp_nil))).q (do_some de_int) do_none)))) (ds_frz 2 (ds_ret (de_var 2)))))⟩

noncomputable def den_facing : DS :=
  (sSeq (sIf (dAnd (dTest (dOp (cmpD fun i j => decide (i < j)) (dVar 0) (dC (.int 0)))) (dTest (dOp (cmpD fun i j => decide (i < j)) (dVar 1) (dC (.int 0))))) (sRet (dUn negD (dC (.int 1)))) sNx)
    (sRet (dIf (dAnd (dTest (dOp (cmpD fun i j => decide (j ≤ i)) (dVar 0) (dC (.int 0)))) (dTest (dOp (cmpD fun i j => decide (j ≤ i)) (dVar 1) (dC (.int 0))))) (dC (.int 1)) (dC (.int 0)))))
noncomputable def F_facing : DF := runD 2 den_facing
theorem fn_facing (c : CC P K mg base) : FnA P w K mg base 1 (He.ga K "facing") (spD (GG w K) 2 F_facing) := by
  obtain ⟨fd, F⟩ := c.d.def_ 18 (d := d_facing) rfl
  exact fnD (funD_fun (st := s_facing) F) sc_facing (FunD.bindsN F fun _ _ _ _ _ _ us hl => match us, hl with | [_, _], _ => rfl) fun cdv A out s H E hr => ⟨_,
    (pss_cons (ps_if (PW.pt (pw_and (pt_cmpR op_lt (pv 0) pe_int (nomark _)) (pw_and1 (pt_cmpR op_lt (pv 1) pe_int (nomark _))))) (pss_one (ps_ret (pe_un un_neg pe_int))) pss_nil) (pss_one (ps_ret (pe_ifExp (PW.pt (pw_and (pt_cmpR op_ge (pv 0) pe_int (nomark _)) (pw_and1 (pt_cmpR op_ge (pv 1) pe_int (nomark _))))) pe_int pe_int)))),
    (ds_seq (ds_if (dt_and (dt_test (de_op (o_cmp fun i j => decide (i < j)) ((de_var 0)).q (de_int).q)) (dt_test (de_op (o_cmp fun i j => decide (i < j)) ((de_var 1)).q (de_int).q))) (ds_ret (de_un o_neg de_int.q)) ds_nil) (ds_ret (de_if (dt_and (dt_test (de_op (o_cmp fun i j => decide (j ≤ i)) ((de_var 0)).q (de_int).q)) (dt_test (de_op (o_cmp fun i j => decide (j ≤ i)) ((de_var 1)).q (de_int).q))) de_int de_int)))⟩

noncomputable def den_unfaced_in_b1 : DS :=
  (sSeq (sPar 5 6 (dCons (dOp ixV (dVar 0) (dVar 3)) (dCons (dOp ixV (dVar 0) (dOp addD (dVar 3) (dC (.int 1)))) dNil)))
    (sIf (dTest (dOp neD (dOp subD (dVar 6) (dVar 5)) (dC (.int 1)))) (sPutU 2 (dOp addD (dGetU (dPeek 2) (dVar 4) (dLst dNil)) (dLst (dCons (dCall 2 F_facing (dCons (dVar 5) (dCons (dVar 6) dNil))) dNil))) (dVar 4)) sNx))
noncomputable def den_unfaced_in : DS :=
  (sSeq (sSet 2 dvNewN)
    (sSeq (sFor (dEnumU (dCons (dCall 2 F_homes_in (dCons (dVar 1) (dCons (dOp subD (dCB lenD (dCons (dVar 0) dNil)) (dC (.int 1))) dNil))) dNil)) (hTup 2 (hCons (hName 3) (hCons (hName 4) hNil))) den_unfaced_in_b1)
    (sRet (fun ρ m => (dLc (dSeqU (dVar 1)) (hName 7) ((dAnd (dTest (dOp (inV false) (dVar 7) (dPeek 2))) (dAnd (dTest (dOp (inV true) (dC (.int 0)) (dOp ixV (dPeek 2) (dVar 7)))) (dTest (dOp eqD (dCB (bestLD false) (dCons (dOp ixV (dPeek 2) (dVar 7)) dNil)) (dCB (bestLD true) (dCons (dOp ixV (dPeek 2) (dVar 7)) dNil))))))) (dVar 7) [7] ρ m).map .lst))))
noncomputable def F_unfaced_in : DF := runD 8 den_unfaced_in
theorem fn_unfaced_in (c : CC P K mg base) : FnA P w K mg base 2 (He.ga K "unfaced_in") (spD (GG w K) 2 F_unfaced_in) := by
  obtain ⟨fd, F⟩ := c.d.def_ 19 (d := d_unfaced_in) rfl
  exact fnD (funD_fun (st := s_unfaced_in) F) sc_unfaced_in (FunD.bindsN F fun _ _ _ _ _ _ us hl => match us, hl with | [_, _], _ => rfl) fun cdv A out s H E hr => ⟨_,
    (pss_cons (ps_set (i := 2) sc_unfaced_in.nd rfl (by first | exact .inl rfl | exact .inr rfl) pe_dnewN) (pss_cons (ps_for (passes_of rfl) rfl (pi_enumU (by rfl) (fr_enumerate c) (pa_cons (pe_callA (fn_homes_in (w := w) c) (hr.less (by decide)) (by rfl) (gl_homes_in c) (kp_homes_in c) pss0 (pa_cons (pv 1) (pa_cons (pe_op op_sub (pe_callB call_lenU (by rfl) (fr_len c) PySem.boot_len (pa_cons (pv 0) pa_nil)) pe_int) pa_nil))) pa_nil)) (pg_tup rfl (pgs_cons (pg_name (i := 3) sc_unfaced_in.nd rfl (by first | exact .inl rfl | exact .inr rfl)) (pgs_cons (pg_name (i := 4) sc_unfaced_in.nd rfl (by first | exact .inl rfl | exact .inr rfl)) pgs_nil))) (pss_cons (ps_par (i := 5) (j := 6) rfl sc_unfaced_in.nd rfl rfl (by decide) rfl rfl (pa_cons (pe_ix (ix_V hr.u10) (pv 0) (pv 3) (fun _ _ => rfl)) (pa_cons (pe_ix (ix_V hr.u10) (pv 0) (pe_op op_addU (pv 3) pe_int) (fun _ _ => rfl)) pa_nil)) rfl) (pss_one (ps_if (pt_cmpR (op_neU hr.u64) (pe_op op_sub (pv 6) (pv 5)) pe_int (nomark _)) (pss_one (ps_asg (pe_op op_addU (pe_dgetU2 hr.u10 (pv 2) (pv 4) (pe_lst pa_nil) ⟨rfl, rfl, rfl, rfl⟩) (pe_lst (pa_cons (pe_callA (fn_facing (w := w) c) (hr.less (by decide)) (by rfl) (gl_facing c) (kp_facing c) pss0 (pa_cons (pv 5) (pa_cons (pv 6) pa_nil))) pa_nil))) (pg_sub (pv 2) (pv 4) (set_V hr.u10)))) pss_nil)))) (pss_one (ps_ret (pe_lc rfl sc_unfaced_in.nd (pi_seqU (pv 1)) (blkOk_by (N := N_unfaced_in) (sc := defScope s_unfaced_in) (own := [("part", 7)]) (by decide +kernel)) (fun _ _ _ _ _ => (pg_name (i := 7) sc_unfaced_in.nd rfl (by first | exact .inl rfl | exact .inr rfl))) (fun _ _ _ _ _ => (pts_one (PW.pt (pw_and (pt_cmpR (show OpR _ _ (rInV K w) from (op_inV hr.u65)) (pv 7) (pv 2) (by with_unfolding_all rfl)) (pw_and (pt_cmpR (show OpR _ _ (rNotInV K w) from (op_notInV hr.u65)) pe_int (pe_ix (show IxR _ (rIxV K w) from ix_V hr.u10) (pv 2) (pv 7) (fun _ _ => rfl)) (by with_unfolding_all rfl)) (pw_and1 (pt_cmpR (show OpR _ _ (rEqU K) from (op_eqU hr.u64)) (pe_callB (show CallR _ _ (rBest K false) from call_minU rfl hr.u200) (by rfl) (fr_min c) PyProof.Rows.boot_min (pa_cons (pe_ix (show IxR _ (rIxV K w) from ix_V hr.u10) (pv 2) (pv 7) (fun _ _ => rfl)) pa_nil)) (pe_callB (show CallR _ _ (rBest K true) from call_maxU rfl hr.u200) (by rfl) (fr_max c) PyProof.Rows.boot_max (pa_cons (pe_ix (show IxR _ (rIxV K w) from ix_V hr.u10) (pv 2) (pv 7) (fun _ _ => rfl)) pa_nil)) (nomark _)))))))) (fun _ _ _ _ _ => (pv 7))))))),
    (ds_seq (ds_set (i := 2) dv_dnewN) (ds_seq (ds_for (di_enumU (da_cons (de_call (da_cons (de_var 1) (da_cons (de_op o_sub ((de_cb n_len (dp_cons ((de_var 0)).q dp_nil))).q (de_int).q) da_nil))) da_nil)) (dg_tup (dgs_cons (dg_name 3) (dgs_cons (dg_name 4) dgs_nil))) (ds_seq (ds_par (i := 5) (j := 6) (da_cons (de_op o_ixV ((de_var 0)).q ((de_var 3)).q) (da_cons (de_op o_ixV ((de_var 0)).q ((de_op o_add ((de_var 3)).q (de_int).q)).q) da_nil))) (ds_if (dt_test (de_op o_ne ((de_op o_sub ((de_var 6)).q ((de_var 5)).q)).q (de_int).q)) (ds_putU 2 (de_op o_add ((de_getU (dq_var 2) ((de_var 4)).q (de_lst da_nil))).q ((de_lst (da_cons (de_call (da_cons (de_var 5) (da_cons (de_var 6) da_nil))) da_nil))).q) (de_var 4)) ds_nil))) (ds_ret (de_lc (di_seqU (de_var 1)) (dg_name 7) (dt_and (dt_test (de_op o_inV ((de_var 7)).q (dq_var 2))) (dt_and (dt_test (de_op o_notInV (de_int).q ((de_op o_ixV (dq_var 2) ((de_var 7)).q)).q)) (dt_test (de_op o_eq ((de_cb n_best (dp_cons ((de_op o_ixV (dq_var 2) ((de_var 7)).q)).q dp_nil))).q ((de_cb n_best (dp_cons ((de_op o_ixV (dq_var 2) ((de_var 7)).q)).q dp_nil))).q)))) (de_var 7) (by decide)))))⟩

noncomputable def den_chains_in_b1 : DS :=
  (sApp 5 (dOp ixV (dVar 1) (dOp ixV (dOp ixV (dPeek 5) (dUn negD (dC (.int 1)))) (dC (.int 1)))))
noncomputable def den_chains_in_b2 : DS :=
  (sIf (dTest (dOp (inV true) (dOp ixV (dVar 4) (dC (.int 0))) (dVar 2))) (sSeq (sSet 5 (dvLst (dCons (dVar 4) dNil)))
    (sSeq (whileD (dTest (dOp (inV false) (dOp ixV (dOp ixV (dPeek 5) (dUn negD (dC (.int 1)))) (dC (.int 1))) (dVar 1))) den_chains_in_b1 200)
    (sApp 3 (dCB toTup (dCons (dPeek 5) dNil))))) sNx)
noncomputable def den_chains_in : DS :=
  (sSeq (sSet 1 (dvV (fun ρ m => (dDcG D.key (dSeqU (dVar 0)) (hName 4) (fun _ m => .ok true m) (dOp ixV (dVar 4) (dC (.int 0))) (dVar 4) [4] ρ m).map .dct)))
    (sSeq (sParV [2, 3] (dvsCons (dvV (fun ρ m => (dDcG D.key (dSeqU (dVar 0)) (hName 4) (fun _ m => .ok true m) (dOp ixV (dVar 4) (dC (.int 1))) (dC (.bl true)) [4] ρ m).map .dct)) (dvsCons (dvLst dNil) dvsNil)))
    (sSeq (sFor (dSeqU (dVar 0)) (hName 4) den_chains_in_b2)
    (sFrz 3 (sRet (dVar 3))))))
noncomputable def F_chains_in : DF := runD 6 den_chains_in
theorem fn_chains_in (c : CC P K mg base) : FnA P w K mg base 1 (He.ga K "chains_in") (spD (GG w K) 1 F_chains_in) := by
  obtain ⟨fd, F⟩ := c.d.def_ 20 (d := d_chains_in) rfl
  exact fnD (funD_fun (st := s_chains_in) F) sc_chains_in (FunD.bindsN F fun _ _ _ _ _ _ us hl => match us, hl with | [_], _ => rfl) fun cdv A out s H E hr => ⟨_,
    (pss_cons (ps_setDcG (j := 1) rfl sc_chains_in.nd rfl rfl rfl empK setK (pi_seqU (pv 0)) (blkOk_by (N := N_chains_in) (sc := defScope s_chains_in) (own := [("part", 4)]) (by decide +kernel)) (fun _ _ _ _ _ => (pg_name (i := 4) sc_chains_in.nd rfl (by first | exact .inl rfl | exact .inr rfl))) (fun _ _ _ _ _ => pts_nil) (fun _ _ _ _ _ => (pe_ix (show IxR _ (rIxV K w) from ix_V hr.u10) (pv 4) pe_int (fun _ _ => rfl))) (fun _ _ _ _ _ => (pv 4))) (pss_cons (ps_par (i := 2) (j := 3) rfl sc_chains_in.nd rfl rfl (by decide) rfl rfl (pa_cons (pe_dcG rfl sc_chains_in.nd empK setK (pi_seqU (pv 0)) (blkOk_by (N := N_chains_in) (sc := defScope s_chains_in) (own := [("part", 4)]) (by decide +kernel)) (fun _ _ _ _ _ => (pg_name (i := 4) sc_chains_in.nd rfl (by first | exact .inl rfl | exact .inr rfl))) (fun _ _ _ _ _ => pts_nil) (fun _ _ _ _ _ => (pe_ix (show IxR _ (rIxV K w) from ix_V hr.u10) (pv 4) pe_int (fun _ _ => rfl))) (fun _ _ _ _ _ => pe_bl)) (pa_cons (pe_lst pa_nil) pa_nil)) rfl) (pss_cons (ps_for (passes_of rfl) rfl (pi_seqU (pv 0)) (pg_name (i := 4) sc_chains_in.nd rfl (by first | exact .inl rfl | exact .inr rfl)) (pss_one (ps_if (pt_cmpR (op_notInV hr.u65) (pe_ix (ix_V hr.u10) (pv 4) pe_int (fun _ _ => rfl)) (pv 2) (by with_unfolding_all rfl)) (pss_cons (ps_set (i := 5) sc_chains_in.nd rfl (by first | exact .inl rfl | exact .inr rfl) (pe_lst (pa_cons (pv 4) pa_nil))) (pss_cons (ps_while (passes_of rfl) (pt_cmpR (op_inV hr.u65) (pe_ix (ix_V hr.u10) (pe_ix (ix_V hr.u10) (pv 5) (pe_un un_neg pe_int) (fun _ _ => rfl)) pe_int (fun _ _ => rfl)) (pv 1) (by with_unfolding_all rfl)) (pss_one (ps_expr (pe_bm PySem.F.plainAttrs_list PySem.F.slot_list_append PySem.F.type_list_append mt_append (pv 5) (pa_cons (pe_ix (ix_V hr.u10) (pv 1) (pe_ix (ix_V hr.u10) (pe_ix (ix_V hr.u10) (pv 5) (pe_un un_neg pe_int) (fun _ _ => rfl)) pe_int (fun _ _ => rfl)) (fun _ _ => rfl)) pa_nil))))) (pss_one (ps_expr (pe_bm PySem.F.plainAttrs_list PySem.F.slot_list_append PySem.F.type_list_append mt_append (pv 3) (pa_cons (pe_callTy (call_tuple_of) (by rfl) (fr_tuple c) PyProof.Rows.boot_tuple (pa_cons (pv 5) pa_nil)) pa_nil)))))) pss_nil))) (pss_one (ps_ret (pv 3)))))),
    (ds_seq (ds_set (i := 1) (dv (de_dcK (di_seqU (de_var 0)) (dg_name 4) dt_yes (de_op o_ixV ((de_var 4)).q (de_int).q) (de_var 4) (by decide)))) (ds_seq (ds_parV2 (i := 2) (j := 3) (dvs_cons (dv (de_dcK (di_seqU (de_var 0)) (dg_name 4) dt_yes (de_op o_ixV ((de_var 4)).q (de_int).q) de_bl (by decide))) (dvs_cons (dv_lst da_nil) dvs_nil))) (ds_seq (ds_for (di_seqU (de_var 0)) (dg_name 4) (ds_if (dt_test (de_op o_notInV ((de_op o_ixV ((de_var 4)).q (de_int).q)).q ((de_var 2)).q)) (ds_seq (ds_set (i := 5) (dv_lst (da_cons (de_var 4) da_nil))) (ds_seq (ds_while 200 (dt_test (de_op o_inV ((de_op o_ixV ((de_op o_ixV (dq_var 5) ((de_un o_neg de_int.q)).q)).q (de_int).q)).q ((de_var 1)).q)) (ds_app 5 (de_op o_ixV ((de_var 1)).q ((de_op o_ixV ((de_op o_ixV (dq_var 5) ((de_un o_neg de_int.q)).q)).q (de_int).q)).q))) (ds_app 3 (de_cb n_tuple (dp_cons (dq_var 5) dp_nil))))) ds_nil)) (ds_frz 3 (ds_ret (de_var 3))))))⟩

noncomputable def den_parts : DS :=
  (sRet (dCB toTup (dCons (dCall 1 F_parts_in (dCons (dMeth 0 1 F_Row_framed (dVar 0) dNil) dNil)) dNil)))
noncomputable def F_parts : DF := runD 1 den_parts
theorem fn_parts (c : CC P K mg base) : FnA P w K mg base 3 (He.ga K "parts") (spD (GG w K) 1 F_parts) := by
  obtain ⟨fd, F⟩ := c.d.def_ 21 (d := d_parts) rfl
  exact fnD (funD_fun (st := s_parts) F) sc_parts (FunD.bindsN F fun _ _ _ _ _ _ us hl => match us, hl with | [_], _ => rfl) fun cdv A out s H E hr => ⟨_,
    (pss_one (ps_ret (pe_callTy (call_tuple_of) (by rfl) (fr_tuple c) PyProof.Rows.boot_tuple (pa_cons (pe_callA (fn_parts_in (w := w) c) (hr.less (by decide)) (by rfl) (gl_parts_in c) (kp_parts_in c) pss0 (pa_cons (pe_methA0 (pv 0) (sx_Row c) (me_Row_framed c) (fn_Row_framed (w := w) c) (hr.less (by decide)) pss0) pa_nil)) pa_nil)))),
    (ds_ret (de_cb n_tuple (dp_cons ((de_call (da_cons (de_meth (c := 0) (de_var 0) da_nil) da_nil))).q dp_nil)))⟩

noncomputable def den_unfaced : DS :=
  (sSeq (sSet 1 (dvV (dMeth 0 1 F_Row_framed (dVar 0) dNil)))
    (sRet (dCB toTup (dCons (dCall 2 F_unfaced_in (dCons (dVar 1) (dCons (dCall 1 F_parts_in (dCons (dVar 1) dNil)) dNil))) dNil))))
noncomputable def F_unfaced : DF := runD 2 den_unfaced
theorem fn_unfaced (c : CC P K mg base) : FnA P w K mg base 3 (He.ga K "unfaced") (spD (GG w K) 1 F_unfaced) := by
  obtain ⟨fd, F⟩ := c.d.def_ 22 (d := d_unfaced) rfl
  exact fnD (funD_fun (st := s_unfaced) F) sc_unfaced (FunD.bindsN F fun _ _ _ _ _ _ us hl => match us, hl with | [_], _ => rfl) fun cdv A out s H E hr => ⟨_,
    (pss_cons (ps_set (i := 1) sc_unfaced.nd rfl (by first | exact .inl rfl | exact .inr rfl) (pe_methA0 (pv 0) (sx_Row c) (me_Row_framed c) (fn_Row_framed (w := w) c) (hr.less (by decide)) pss0)) (pss_one (ps_ret (pe_callTy (call_tuple_of) (by rfl) (fr_tuple c) PyProof.Rows.boot_tuple (pa_cons (pe_callA (fn_unfaced_in (w := w) c) (hr.less (by decide)) (by rfl) (gl_unfaced_in c) (kp_unfaced_in c) pss0 (pa_cons (pv 1) (pa_cons (pe_callA (fn_parts_in (w := w) c) (hr.less (by decide)) (by rfl) (gl_parts_in c) (kp_parts_in c) pss0 (pa_cons (pv 1) pa_nil)) pa_nil))) pa_nil))))),
    (ds_seq (ds_set (i := 1) (dv (de_meth (c := 0) (de_var 0) da_nil))) (ds_ret (de_cb n_tuple (dp_cons ((de_call (da_cons (de_var 1) (da_cons (de_call (da_cons (de_var 1) da_nil)) da_nil)))).q dp_nil))))⟩

noncomputable def den_chains : DS :=
  (sRet (dCB toTup (dCons (dCall 1 F_chains_in (dCons (dCall 1 F_parts_in (dCons (dMeth 0 1 F_Row_framed (dVar 0) dNil) dNil)) dNil)) dNil)))
noncomputable def F_chains : DF := runD 1 den_chains
theorem fn_chains (c : CC P K mg base) : FnA P w K mg base 3 (He.ga K "chains") (spD (GG w K) 1 F_chains) := by
  obtain ⟨fd, F⟩ := c.d.def_ 23 (d := d_chains) rfl
  exact fnD (funD_fun (st := s_chains) F) sc_chains (FunD.bindsN F fun _ _ _ _ _ _ us hl => match us, hl with | [_], _ => rfl) fun cdv A out s H E hr => ⟨_,
    (pss_one (ps_ret (pe_callTy (call_tuple_of) (by rfl) (fr_tuple c) PyProof.Rows.boot_tuple (pa_cons (pe_callA (fn_chains_in (w := w) c) (hr.less (by decide)) (by rfl) (gl_chains_in c) (kp_chains_in c) pss0 (pa_cons (pe_callA (fn_parts_in (w := w) c) (hr.less (by decide)) (by rfl) (gl_parts_in c) (kp_parts_in c) pss0 (pa_cons (pe_methA0 (pv 0) (sx_Row c) (me_Row_framed c) (fn_Row_framed (w := w) c) (hr.less (by decide)) pss0) pa_nil)) pa_nil)) pa_nil)))),
    (ds_ret (de_cb n_tuple (dp_cons ((de_call (da_cons (de_call (da_cons (de_meth (c := 0) (de_var 0) da_nil) da_nil)) da_nil))).q dp_nil)))⟩

noncomputable def den_holder : DS :=
  (sSeq (sAsg (dTup (dCons (dOp ixV (dOp ixV (dVar 1) (dC (.int 0))) (dC (.int 0))) (dCons (dOp ixV (dOp ixV (dVar 1) (dUn negD (dC (.int 1)))) (dC (.int 1))) dNil))) (hTup 2 (hCons (hName 2) (hCons (hName 3) hNil))))
    (sSeq (sSet 4 (dvV (fun ρ m => (dLc (dSeqU (dVar 0)) (hName 5) ((dAnd (dTest (dOp (cmpD fun i j => decide (i < j)) (dOp ixV (dVar 5) (dC (.int 0))) (dVar 2))) (dTest (dOp (cmpD fun i j => decide (i < j)) (dVar 3) (dOp ixV (dVar 5) (dC (.int 1))))))) (dTup (dCons (dOp subD (dOp ixV (dVar 5) (dC (.int 1))) (dOp ixV (dVar 5) (dC (.int 0)))) (dCons (dVar 5) dNil))) [5] ρ m).map .lst)))
    (sRet (dIf (dTest (dOp neD (dVar 4) (dLst dNil))) (dLst (dCons (dOp ixV (dCB (bestLD false) (dCons (dVar 4) dNil)) (dC (.int 1))) dNil)) (dLst dNil)))))
noncomputable def F_holder : DF := runD 6 den_holder
theorem fn_holder (c : CC P K mg base) : FnA P w K mg base 1 (He.ga K "holder") (spD (GG w K) 2 F_holder) := by
  obtain ⟨fd, F⟩ := c.d.def_ 24 (d := d_holder) rfl
  exact fnD (funD_fun (st := s_holder) F) sc_holder (FunD.bindsN F fun _ _ _ _ _ _ us hl => match us, hl with | [_, _], _ => rfl) fun cdv A out s H E hr => ⟨_,
    (pss_cons (ps_asg (pe_tup (pa_cons (pe_ix (ix_V hr.u10) (pe_ix (ix_V hr.u10) (pv 1) pe_int (fun _ _ => rfl)) pe_int (fun _ _ => rfl)) (pa_cons (pe_ix (ix_V hr.u10) (pe_ix (ix_V hr.u10) (pv 1) (pe_un un_neg pe_int) (fun _ _ => rfl)) pe_int (fun _ _ => rfl)) pa_nil))) (pg_tup rfl (pgs_cons (pg_name (i := 2) sc_holder.nd rfl (by first | exact .inl rfl | exact .inr rfl)) (pgs_cons (pg_name (i := 3) sc_holder.nd rfl (by first | exact .inl rfl | exact .inr rfl)) pgs_nil)))) (pss_cons (ps_setLc (i := 4) rfl sc_holder.nd rfl rfl rfl (pi_seqU (pv 0)) (blkOk_by (N := N_holder) (sc := defScope s_holder) (own := [("part", 5)]) (by decide +kernel)) (fun _ _ _ _ _ => (pg_name (i := 5) sc_holder.nd rfl (by first | exact .inl rfl | exact .inr rfl))) (fun _ _ _ _ _ => (pts_one (PW.pt (pw_and (pt_cmpR op_lt (pe_ix (show IxR _ (rIxV K w) from ix_V hr.u10) (pv 5) pe_int (fun _ _ => rfl)) (pv 2) (nomark _)) (pw_and1 (pt_cmpR op_lt (pv 3) (pe_ix (show IxR _ (rIxV K w) from ix_V hr.u10) (pv 5) pe_int (fun _ _ => rfl)) (nomark _))))))) (fun _ _ _ _ _ => (pe_tup (pa_cons (pe_op op_sub (pe_ix (show IxR _ (rIxV K w) from ix_V hr.u10) (pv 5) pe_int (fun _ _ => rfl)) (pe_ix (show IxR _ (rIxV K w) from ix_V hr.u10) (pv 5) pe_int (fun _ _ => rfl))) (pa_cons (pv 5) pa_nil))))) (pss_one (ps_ret (pe_ifExp (pt_cmpR (op_neU hr.u64) (pv 4) (pe_lst pa_nil) (nomark _)) (pe_lst (pa_cons (pe_ix (ix_V hr.u10) (pe_callB (call_minU rfl hr.u200) (by rfl) (fr_min c) PyProof.Rows.boot_min (pa_cons (pv 4) pa_nil)) pe_int (fun _ _ => rfl)) pa_nil)) (pe_lst pa_nil)))))),
    (ds_seq (ds_asg (de_tup (da_cons (de_op o_ixV ((de_op o_ixV ((de_var 1)).q (de_int).q)).q (de_int).q) (da_cons (de_op o_ixV ((de_op o_ixV ((de_var 1)).q ((de_un o_neg de_int.q)).q)).q (de_int).q) da_nil))) (dg_tup (dgs_cons (dg_name 2) (dgs_cons (dg_name 3) dgs_nil)))) (ds_seq (ds_set (i := 4) (dv (de_lc (di_seqU (de_var 0)) (dg_name 5) (dt_and (dt_test (de_op (o_cmp fun i j => decide (i < j)) ((de_op o_ixV ((de_var 5)).q (de_int).q)).q ((de_var 2)).q)) (dt_test (de_op (o_cmp fun i j => decide (i < j)) ((de_var 3)).q ((de_op o_ixV ((de_var 5)).q (de_int).q)).q))) (de_tup (da_cons (de_op o_sub ((de_op o_ixV ((de_var 5)).q (de_int).q)).q ((de_op o_ixV ((de_var 5)).q (de_int).q)).q) (da_cons (de_var 5) da_nil))) (by decide)))) (ds_ret (de_if (dt_test (de_op o_ne ((de_var 4)).q ((de_lst da_nil)).q)) (de_lst (da_cons (de_op o_ixV ((de_cb n_best (dp_cons ((de_var 4)).q dp_nil))).q (de_int).q) da_nil)) (de_lst da_nil)))))⟩

noncomputable def den_tree_in_b1 : DS :=
  (sPutU 1 (dOp addD (dGetU (dPeek 1) (dVar 3) (dLst dNil)) (dLst (dCons (dVar 2) dNil))) (dVar 3))
noncomputable def den_tree_in_b2 : DS :=
  (sSeq (sPutU 1 (dOp addD (dCB toLst (dCons (dVar 2) dNil)) (dCall 2 F_holder (dCons (dVar 0) (dCons (dVar 2) dNil)))) (dVar 2))
    (sFor (dSeqU (dOp ixV (dPeek 1) (dVar 2))) (hName 3) den_tree_in_b1))
noncomputable def den_tree_in : DS :=
  (sSeq (sSet 1 dvNewN)
    (sSeq (sFor (dSeqU (dCall 1 F_chains_in (dCons (dVar 0) dNil))) (hName 2) den_tree_in_b2)
    (sFrz 1 (sRet (dVar 1)))))
noncomputable def F_tree_in : DF := runD 4 den_tree_in
theorem fn_tree_in (c : CC P K mg base) : FnA P w K mg base 2 (He.ga K "tree_in") (spD (GG w K) 1 F_tree_in) := by
  obtain ⟨fd, F⟩ := c.d.def_ 25 (d := d_tree_in) rfl
  exact fnD (funD_fun (st := s_tree_in) F) sc_tree_in (FunD.bindsN F fun _ _ _ _ _ _ us hl => match us, hl with | [_], _ => rfl) fun cdv A out s H E hr => ⟨_,
    (pss_cons (ps_set (i := 1) sc_tree_in.nd rfl (by first | exact .inl rfl | exact .inr rfl) pe_dnewN) (pss_cons (ps_for (passes_of rfl) rfl (pi_seqU (pe_callA (fn_chains_in (w := w) c) (hr.less (by decide)) (by rfl) (gl_chains_in c) (kp_chains_in c) pss0 (pa_cons (pv 0) pa_nil))) (pg_name (i := 2) sc_tree_in.nd rfl (by first | exact .inl rfl | exact .inr rfl)) (pss_cons (ps_asg (pe_op op_addU (pe_callTy (call_list_of) (by rfl) (fr_list c) PyProof.Rows.boot_list (pa_cons (pv 2) pa_nil)) (pe_callA (fn_holder (w := w) c) (hr.less (by decide)) (by rfl) (gl_holder c) (kp_holder c) pss0 (pa_cons (pv 0) (pa_cons (pv 2) pa_nil)))) (pg_sub (pv 1) (pv 2) (set_V hr.u10))) (pss_one (ps_for (passes_of rfl) rfl (pi_seqU (pe_ix (ix_V hr.u10) (pv 1) (pv 2) (fun _ _ => rfl))) (pg_name (i := 3) sc_tree_in.nd rfl (by first | exact .inl rfl | exact .inr rfl)) (pss_one (ps_asg (pe_op op_addU (pe_dgetU2 hr.u10 (pv 1) (pv 3) (pe_lst pa_nil) ⟨rfl, rfl, rfl, rfl⟩) (pe_lst (pa_cons (pv 2) pa_nil))) (pg_sub (pv 1) (pv 3) (set_V hr.u10)))))))) (pss_one (ps_ret (pv 1))))),
    (ds_seq (ds_set (i := 1) dv_dnewN) (ds_seq (ds_for (di_seqU (de_call (da_cons (de_var 0) da_nil))) (dg_name 2) (ds_seq (ds_putU 1 (de_op o_add ((de_cb n_list (dp_cons ((de_var 2)).q dp_nil))).q ((de_call (da_cons (de_var 0) (da_cons (de_var 2) da_nil)))).q) (de_var 2)) (ds_for (di_seqU (de_op o_ixV (dq_var 1) ((de_var 2)).q)) (dg_name 3) (ds_putU 1 (de_op o_add ((de_getU (dq_var 1) ((de_var 3)).q (de_lst da_nil))).q ((de_lst (da_cons (de_var 2) da_nil))).q) (de_var 3))))) (ds_frz 1 (ds_ret (de_var 1)))))⟩

noncomputable def den_pruned_b1 : DS :=
  (sSeq (sSet 0 (dvV (fun ρ m => (dDcG D.nkey (dKeysN (dVar 0)) (hName 3) ((dTest (dOp (inV true) (dVar 3) (dVar 2)))) (dVar 3) (fun ρ m => (dLc (dSeqU (dOp ixV (dVar 0) (dVar 3))) (hName 4) ((dTest (dOp (inV true) (dVar 4) (dVar 2)))) (dVar 4) [4] ρ m).map .lst) [3] ρ m).map .dcn)))
    (sSet 2 (dvV (fun ρ m => (dLc (dKeysN (dVar 0)) (hName 3) ((dAnd (dTest (dOp (inV true) (dVar 3) (dVar 1))) (dTest (dOp (cmpD fun i j => decide (i < j)) (dCB lenD (dCons (dOp ixV (dVar 0) (dVar 3)) dNil)) (dC (.int 2)))))) (dVar 3) [3] ρ m).map .lst))))
noncomputable def den_pruned : DS :=
  (sSeq (sSet 2 (dvV (fun ρ m => (dLc (dKeysN (dVar 0)) (hName 3) ((dAnd (dTest (dOp (inV true) (dVar 3) (dVar 1))) (dTest (dOp (cmpD fun i j => decide (i < j)) (dCB lenD (dCons (dOp ixV (dVar 0) (dVar 3)) dNil)) (dC (.int 2)))))) (dVar 3) [3] ρ m).map .lst)))
    (sSeq (whileD (dTest (dOp neD (dVar 2) (dLst dNil))) den_pruned_b1 200)
    (sRet (dVar 0))))
noncomputable def F_pruned : DF := runD 5 den_pruned
theorem fn_pruned (c : CC P K mg base) : FnA P w K mg base 1 (He.ga K "pruned") (spD (GG w K) 2 F_pruned) := by
  obtain ⟨fd, F⟩ := c.d.def_ 26 (d := d_pruned) rfl
  exact fnD (funD_fun (st := s_pruned) F) sc_pruned (FunD.bindsN F fun _ _ _ _ _ _ us hl => match us, hl with | [_, _], _ => rfl) fun cdv A out s H E hr => ⟨_,
    (pss_cons (ps_set (i := 2) sc_pruned.nd rfl (by first | exact .inl rfl | exact .inr rfl) (pe_lc rfl sc_pruned.nd (pi_keysN (pv 0)) (blkOk_by (N := N_pruned) (sc := defScope s_pruned) (own := [("node", 3)]) (by decide +kernel)) (fun _ _ _ _ _ => (pg_name (i := 3) sc_pruned.nd rfl (by first | exact .inl rfl | exact .inr rfl))) (fun _ _ _ _ _ => (pts_one (PW.pt (pw_and (pt_cmpR (show OpR _ _ (rNotInV K w) from (op_notInV hr.u65)) (pv 3) (pv 1) (by with_unfolding_all rfl)) (pw_and1 (pt_cmpR op_lt (pe_callB call_lenU (by rfl) (fr_len c) PySem.boot_len (pa_cons (pe_ix (show IxR _ (rIxV K w) from ix_V hr.u10) (pv 0) (pv 3) (fun _ _ => rfl)) pa_nil)) pe_int (nomark _))))))) (fun _ _ _ _ _ => (pv 3)))) (pss_cons (ps_while (passes_of rfl) (pt_cmpR (op_neU hr.u64) (pv 2) (pe_lst pa_nil) (nomark _)) (pss_cons (ps_set (i := 0) sc_pruned.nd rfl (by first | exact .inl rfl | exact .inr rfl) (pe_dcG rfl sc_pruned.nd empN (setN hr.u10) (pi_keysN (pv 0)) (blkOk_by (N := N_pruned) (sc := defScope s_pruned) (own := [("node", 3)]) (by decide +kernel)) (fun _ _ _ _ _ => (pg_name (i := 3) sc_pruned.nd rfl (by first | exact .inl rfl | exact .inr rfl))) (fun _ _ _ _ _ => (pts_one (pt_cmpR (show OpR _ _ (rNotInV K w) from (op_notInV hr.u65)) (pv 3) (pv 2) (by with_unfolding_all rfl)))) (fun _ _ _ _ _ => (pv 3)) (fun _ _ _ _ _ => (pe_lc rfl sc_pruned.nd (pi_seqU (pe_ix (show IxR _ (rIxV K w) from ix_V hr.u10) (pv 0) (pv 3) (fun _ _ => rfl))) (blkOk_in (blkOk_by (N := N_pruned) (own := [("other", 4)]) (by decide +kernel))) (fun _ _ _ _ _ => (pg_name (i := 4) sc_pruned.nd rfl (by first | exact .inl rfl | exact .inr rfl))) (fun _ _ _ _ _ => (pts_one (pt_cmpR (show OpR _ _ (rNotInV K w) from (op_notInV hr.u65)) (pv 4) (pv 2) (by with_unfolding_all rfl)))) (fun _ _ _ _ _ => (pv 4)))))) (pss_one (ps_set (i := 2) sc_pruned.nd rfl (by first | exact .inl rfl | exact .inr rfl) (pe_lc rfl sc_pruned.nd (pi_keysN (pv 0)) (blkOk_by (N := N_pruned) (sc := defScope s_pruned) (own := [("node", 3)]) (by decide +kernel)) (fun _ _ _ _ _ => (pg_name (i := 3) sc_pruned.nd rfl (by first | exact .inl rfl | exact .inr rfl))) (fun _ _ _ _ _ => (pts_one (PW.pt (pw_and (pt_cmpR (show OpR _ _ (rNotInV K w) from (op_notInV hr.u65)) (pv 3) (pv 1) (by with_unfolding_all rfl)) (pw_and1 (pt_cmpR op_lt (pe_callB call_lenU (by rfl) (fr_len c) PySem.boot_len (pa_cons (pe_ix (show IxR _ (rIxV K w) from ix_V hr.u10) (pv 0) (pv 3) (fun _ _ => rfl)) pa_nil)) pe_int (nomark _))))))) (fun _ _ _ _ _ => (pv 3))))))) (pss_one (ps_ret (pv 0))))),
    (ds_seq (ds_set (i := 2) (dv (de_lc (di_keysN (de_var 0)) (dg_name 3) (dt_and (dt_test (de_op o_notInV ((de_var 3)).q ((de_var 1)).q)) (dt_test (de_op (o_cmp fun i j => decide (i < j)) ((de_cb n_len (dp_cons ((de_op o_ixV ((de_var 0)).q ((de_var 3)).q)).q dp_nil))).q (de_int).q))) (de_var 3) (by decide)))) (ds_seq (ds_while 200 (dt_test (de_op o_ne ((de_var 2)).q ((de_lst da_nil)).q)) (ds_seq (ds_set (i := 0) (dv (de_dcN (di_keysN (de_var 0)) (dg_name 3) (dt_test (de_op o_notInV ((de_var 3)).q ((de_var 2)).q)) (de_var 3) (de_lc (di_seqU (de_op o_ixV ((de_var 0)).q ((de_var 3)).q)) (dg_name 4) (dt_test (de_op o_notInV ((de_var 4)).q ((de_var 2)).q)) (de_var 4) (by decide)) (by decide)))) (ds_set (i := 2) (dv (de_lc (di_keysN (de_var 0)) (dg_name 3) (dt_and (dt_test (de_op o_notInV ((de_var 3)).q ((de_var 1)).q)) (dt_test (de_op (o_cmp fun i j => decide (i < j)) ((de_cb n_len (dp_cons ((de_op o_ixV ((de_var 0)).q ((de_var 3)).q)).q dp_nil))).q (de_int).q))) (de_var 3) (by decide)))))) (ds_ret (de_var 0))))⟩

noncomputable def den_is_short_b1 : DS :=
  (sSeq (sAug 3 addI (dIf (dTest (dOp (inV false) (dVar 4) (dVar 2))) (dC (.int 1)) (dC (.int 0))))
    (sSeq (sApp 5 (dVar 4))
    (sSeq (sSet 6 (dvV (fun ρ m => (dLc (dSeqU (dOp ixV (dVar 1) (dVar 4))) (hName 7) ((dAnd (dTest (dOp (inV true) (dVar 7) (dPeek 5))) (dTest (dOp (cmpD fun i j => decide (i < j)) (dCB lenD (dCons (dOp ixV (dVar 1) (dVar 7)) dNil)) (dC (.int 3)))))) (dVar 7) [7] ρ m).map .lst)))
    (sSet 4 (dvV (dIf (dTest (dOp neD (dVar 6) (dLst dNil))) (dOp ixV (dVar 6) (dC (.int 0))) (dC .non)))))))
noncomputable def den_is_short : DS :=
  (sSeq (sParV [3, 4, 5] (dvsCons (dvV (dC (.int 0))) (dvsCons (dvV (dVar 0)) (dvsCons (dvLst dNil) dvsNil))))
    (sSeq (whileD (dTest (dOp (isD true) (dVar 4) (dC .non))) den_is_short_b1 200)
    (sRet (dOp eqD (dVar 3) (dC (.int 1))))))
noncomputable def F_is_short : DF := runD 8 den_is_short
theorem fn_is_short (c : CC P K mg base) : FnA P w K mg base 1 (He.ga K "is_short") (spD (GG w K) 3 F_is_short) := by
  obtain ⟨fd, F⟩ := c.d.def_ 27 (d := d_is_short) rfl
  exact fnD (funD_fun (st := s_is_short) F) sc_is_short (FunD.bindsN F fun _ _ _ _ _ _ us hl => match us, hl with | [_, _, _], _ => rfl) fun cdv A out s H E hr => ⟨_,
    (pss_cons (ps_asg (pe_tup (pa_cons pe_int (pa_cons (pv 0) (pa_cons (pe_lst pa_nil) pa_nil)))) (pg_tup rfl (pgs_cons (pg_name (i := 3) sc_is_short.nd rfl (by first | exact .inl rfl | exact .inr rfl)) (pgs_cons (pg_name (i := 4) sc_is_short.nd rfl (by first | exact .inl rfl | exact .inr rfl)) (pgs_cons (pg_name (i := 5) sc_is_short.nd rfl (by first | exact .inl rfl | exact .inr rfl)) pgs_nil))))) (pss_cons (ps_while (passes_of rfl) (pt_cmpR op_isNotU (pv 4) pe_non (nomark _)) (pss_cons (ps_aug (i := 3) sc_is_short.nd rfl (by first | exact .inl rfl | exact .inr rfl) (pe_ifExp (pt_cmpR (op_inV hr.u65) (pv 4) (pv 2) (by with_unfolding_all rfl)) pe_int pe_int) ip_add) (pss_cons (ps_expr (pe_bm PySem.F.plainAttrs_list PySem.F.slot_list_append PySem.F.type_list_append mt_append (pv 5) (pa_cons (pv 4) pa_nil))) (pss_cons (ps_setLc (i := 6) rfl sc_is_short.nd rfl rfl rfl (pi_seqU (pe_ix (ix_V hr.u10) (pv 1) (pv 4) (fun _ _ => rfl))) (blkOk_by (N := N_is_short) (sc := defScope s_is_short) (own := [("other", 7)]) (by decide +kernel)) (fun _ _ _ _ _ => (pg_name (i := 7) sc_is_short.nd rfl (by first | exact .inl rfl | exact .inr rfl))) (fun _ _ _ _ _ => (pts_one (PW.pt (pw_and (pt_cmpR (show OpR _ _ (rNotInV K w) from (op_notInV hr.u65)) (pv 7) (pv 5) (by with_unfolding_all rfl)) (pw_and1 (pt_cmpR op_lt (pe_callB call_lenU (by rfl) (fr_len c) PySem.boot_len (pa_cons (pe_ix (show IxR _ (rIxV K w) from ix_V hr.u10) (pv 1) (pv 7) (fun _ _ => rfl)) pa_nil)) pe_int (nomark _))))))) (fun _ _ _ _ _ => (pv 7))) (pss_one (ps_set (i := 4) sc_is_short.nd rfl (by first | exact .inl rfl | exact .inr rfl) (pe_ifExp (pt_cmpR (op_neU hr.u64) (pv 6) (pe_lst pa_nil) (nomark _)) (pe_ix (ix_V hr.u10) (pv 6) pe_int (fun _ _ => rfl)) pe_non))))))) (pss_one (ps_ret (pe_cmpR (op_eqU hr.u64) (pv 3) pe_int (nomark _)))))),
    (ds_seq (ds_tupV3 (i := 3) (j := 4) (l := 5) (dvs_cons (dv de_int) (dvs_cons (dv (de_var 0)) (dvs_cons (dv_lst da_nil) dvs_nil)))) (ds_seq (ds_while 200 (dt_test (de_op o_isNot ((de_var 4)).q (de_non).q)) (ds_seq (ds_aug 3 oi_add (de_if (dt_test (de_op o_inV ((de_var 4)).q ((de_var 2)).q)) de_int de_int)) (ds_seq (ds_app 5 (de_var 4)) (ds_seq (ds_set (i := 6) (dv (de_lc (di_seqU (de_op o_ixV ((de_var 1)).q ((de_var 4)).q)) (dg_name 7) (dt_and (dt_test (de_op o_notInV ((de_var 7)).q (dq_var 5))) (dt_test (de_op (o_cmp fun i j => decide (i < j)) ((de_cb n_len (dp_cons ((de_op o_ixV ((de_var 1)).q ((de_var 7)).q)).q dp_nil))).q (de_int).q))) (de_var 7) (by decide)))) (ds_set (i := 4) (dv (de_if (dt_test (de_op o_ne ((de_var 6)).q ((de_lst da_nil)).q)) (de_op o_ixV ((de_var 6)).q (de_int).q) de_non))))))) (ds_ret (de_op o_eq ((de_var 3)).q (de_int).q))))⟩

noncomputable def den_cost : DS :=
  (sSeq (sSet 1 (dvV (dMeth 0 1 F_Row_framed (dVar 0) dNil)))
    (sSeq (sSet 2 (dvV (dCall 1 F_parts_in (dCons (dVar 1) dNil))))
    (sSeq (sSet 3 (dvV (dCall 2 F_unfaced_in (dCons (dVar 1) (dCons (dVar 2) dNil)))))
    (sSeq (sIf (dTest (dOp eqD (dVar 3) (dLst dNil))) (sRet (dC (.int 0))) sNx)
    (sSeq (sSet 4 (dvV (dCall 2 F_pruned (dCons (dCall 1 F_tree_in (dCons (dVar 2) dNil)) (dCons (dVar 3) dNil)))))
    (sSeq (sSet 5 (dvV (fun ρ m => (dLc (dKeysN (dVar 4)) (hName 6) ((dTest (dOp (cmpD fun i j => decide (i < j)) (dCB lenD (dCons (dOp ixV (dVar 4) (dVar 6)) dNil)) (dC (.int 2))))) (dVar 6) [6] ρ m).map .lst)))
    (sSeq (sIf (dOr (dTest (dOp eqD (dOp modD (dCB lenD (dCons (dVar 5) dNil)) (dC (.int 2))) (dC (.int 0)))) (dTru (dCB anyD (dCons (fun ρ m => (dLc (dSeqU (dVar 5)) (hName 7) (fun _ m => .ok true m) (dCall 3 F_is_short (dCons (dVar 7) (dCons (dVar 4) (dCons (dVar 3) dNil)))) [7] ρ m).map .lst) dNil)))) (sRet (dCB lenD (dCons (dVar 5) dNil))) sNx)
    (sRet (dOp addD (dCB lenD (dCons (dVar 5) dNil)) (dC (.int 1)))))))))))
noncomputable def F_cost : DF := runD 8 den_cost
theorem fn_cost (c : CC P K mg base) : FnA P w K mg base 3 (He.ga K "cost") (spD (GG w K) 1 F_cost) := by
  obtain ⟨fd, F⟩ := c.d.def_ 28 (d := d_cost) rfl
  exact fnD (funD_fun (st := s_cost) F) sc_cost (FunD.bindsN F fun _ _ _ _ _ _ us hl => match us, hl with | [_], _ => rfl) fun cdv A out s H E hr => ⟨_,
    (pss_cons (ps_set (i := 1) sc_cost.nd rfl (by first | exact .inl rfl | exact .inr rfl) (pe_methA0 (pv 0) (sx_Row c) (me_Row_framed c) (fn_Row_framed (w := w) c) (hr.less (by decide)) pss0)) (pss_cons (ps_set (i := 2) sc_cost.nd rfl (by first | exact .inl rfl | exact .inr rfl) (pe_callA (fn_parts_in (w := w) c) (hr.less (by decide)) (by rfl) (gl_parts_in c) (kp_parts_in c) pss0 (pa_cons (pv 1) pa_nil))) (pss_cons (ps_set (i := 3) sc_cost.nd rfl (by first | exact .inl rfl | exact .inr rfl) (pe_callA (fn_unfaced_in (w := w) c) (hr.less (by decide)) (by rfl) (gl_unfaced_in c) (kp_unfaced_in c) pss0 (pa_cons (pv 1) (pa_cons (pv 2) pa_nil)))) (pss_cons (ps_if (pt_cmpR (op_eqU hr.u64) (pv 3) (pe_lst pa_nil) (nomark _)) (pss_one (ps_ret pe_int)) pss_nil) (pss_cons (ps_set (i := 4) sc_cost.nd rfl (by first | exact .inl rfl | exact .inr rfl) (pe_callA (fn_pruned (w := w) c) (hr.less (by decide)) (by rfl) (gl_pruned c) (kp_pruned c) pss0 (pa_cons (pe_callA (fn_tree_in (w := w) c) (hr.less (by decide)) (by rfl) (gl_tree_in c) (kp_tree_in c) pss0 (pa_cons (pv 2) pa_nil)) (pa_cons (pv 3) pa_nil)))) (pss_cons (ps_setLc (i := 5) rfl sc_cost.nd rfl rfl rfl (pi_keysN (pv 4)) (blkOk_by (N := N_cost) (sc := defScope s_cost) (own := [("node", 6)]) (by decide +kernel)) (fun _ _ _ _ _ => (pg_name (i := 6) sc_cost.nd rfl (by first | exact .inl rfl | exact .inr rfl))) (fun _ _ _ _ _ => (pts_one (pt_cmpR op_lt (pe_callB call_lenU (by rfl) (fr_len c) PySem.boot_len (pa_cons (pe_ix (show IxR _ (rIxV K w) from ix_V hr.u10) (pv 4) (pv 6) (fun _ _ => rfl)) pa_nil)) pe_int (nomark _)))) (fun _ _ _ _ _ => (pv 6))) (pss_cons (ps_if (PW.pt (pw_or (pt_cmpR (op_eqU hr.u64) (pe_op op_mod (pe_callB call_lenU (by rfl) (fr_len c) PySem.boot_len (pa_cons (pv 5) pa_nil)) pe_int) pe_int (nomark _)) (pw_or1 (pt_truth (pe_callB (cr_any rfl) (by rfl) (fr_any c) PyProof.Rows.boot_any (pa_cons (pe_lc rfl sc_cost.nd (pi_seqU (pv 5)) (blkOk_by (N := N_cost) (sc := defScope s_cost) (own := [("leaf", 7)]) (by decide +kernel)) (fun _ _ _ _ _ => (pg_name (i := 7) sc_cost.nd rfl (by first | exact .inl rfl | exact .inr rfl))) (fun _ _ _ _ _ => pts_nil) (fun _ _ _ _ _ => (pe_callA (fn_is_short (w := w) c) (hr.less (by decide)) (by rfl) (gl_is_short c) (kp_is_short c) passL (pa_cons (pv 7) (pa_cons (pv 4) (pa_cons (pv 3) pa_nil)))))) pa_nil)) (by intro _; rfl))))) (pss_one (ps_ret (pe_callB call_lenU (by rfl) (fr_len c) PySem.boot_len (pa_cons (pv 5) pa_nil)))) pss_nil) (pss_one (ps_ret (pe_op op_addU (pe_callB call_lenU (by rfl) (fr_len c) PySem.boot_len (pa_cons (pv 5) pa_nil)) pe_int)))))))))),
    (ds_seq (ds_set (i := 1) (dv (de_meth (c := 0) (de_var 0) da_nil))) (ds_seq (ds_set (i := 2) (dv (de_call (da_cons (de_var 1) da_nil)))) (ds_seq (ds_set (i := 3) (dv (de_call (da_cons (de_var 1) (da_cons (de_var 2) da_nil))))) (ds_seq (ds_if (dt_test (de_op o_eq ((de_var 3)).q ((de_lst da_nil)).q)) (ds_ret de_int) ds_nil) (ds_seq (ds_set (i := 4) (dv (de_call (da_cons (de_call (da_cons (de_var 2) da_nil)) (da_cons (de_var 3) da_nil))))) (ds_seq (ds_set (i := 5) (dv (de_lc (di_keysN (de_var 4)) (dg_name 6) (dt_test (de_op (o_cmp fun i j => decide (i < j)) ((de_cb n_len (dp_cons ((de_op o_ixV ((de_var 4)).q ((de_var 6)).q)).q dp_nil))).q (de_int).q)) (de_var 6) (by decide)))) (ds_seq (ds_if (dt_or (dt_test (de_op o_eq ((de_op o_mod ((de_cb n_len (dp_cons ((de_var 5)).q dp_nil))).q (de_int).q)).q (de_int).q)) (dt_tru ((de_cb n_any (dp_cons ((de_lc (di_seqU (de_var 5)) (dg_name 7) dt_yes (de_call (da_cons (de_var 7) (da_cons (de_var 4) (da_cons (de_var 3) da_nil)))) (by decide))).q dp_nil))).q)) (ds_ret (de_cb n_len (dp_cons ((de_var 5)).q dp_nil))) ds_nil) (ds_ret (de_op o_add ((de_cb n_len (dp_cons ((de_var 5)).q dp_nil))).q (de_int).q)))))))))⟩

noncomputable def den_to_go : DS :=
  (sRet (dOp addD (dOp subD (dOp addD (dLenOwn 0 F_Row___len__ (dCons (dVar 0) dNil)) (dC (.int 1))) (dCall 1 F_many_rings (dCons (dVar 0) dNil))) (dCall 1 F_cost (dCons (dVar 0) dNil))))
noncomputable def F_to_go : DF := runD 1 den_to_go
theorem fn_to_go (c : CC P K mg base) : FnA P w K mg base 5 (He.ga K "to_go") (spD (GG w K) 1 F_to_go) := by
  obtain ⟨fd, F⟩ := c.d.def_ 29 (d := d_to_go) rfl
  exact fnD (funD_fun (st := s_to_go) F) sc_to_go (FunD.bindsN F fun _ _ _ _ _ _ us hl => match us, hl with | [_], _ => rfl) fun cdv A out s H E hr => ⟨_,
    (pss_one (ps_ret (pe_op op_addU (pe_op op_sub (pe_op op_addU (pe_callB (call_lenOwn (me_Row___len__ c).at_ (me_Row___len__ c).fn (fn_Row___len__ (w := w) c) (hr.less (by decide)) pss0) (by rfl) (fr_len c) PySem.boot_len (pa_cons (pv 0) pa_nil)) pe_int) (pe_callA (fn_many_rings (w := w) c) (hr.less (by decide)) (by rfl) (gl_many_rings c) (kp_many_rings c) pss0 (pa_cons (pv 0) pa_nil))) (pe_callA (fn_cost (w := w) c) (hr.less (by decide)) (by rfl) (gl_cost c) (kp_cost c) pss0 (pa_cons (pv 0) pa_nil))))),
    (ds_ret (de_op o_add ((de_op o_sub ((de_op o_add ((de_lenOwn (c := 0) (da_cons (de_var 0) da_nil))).q (de_int).q)).q ((de_call (da_cons (de_var 0) da_nil))).q)).q ((de_call (da_cons (de_var 0) da_nil))).q))⟩

noncomputable def den__law_mixed : DS :=
  (sSeq (sSet 2 (dvV (dOp addD (dOp addD (dOp modD (dCB intD (dCons (dOp mulD (dOp mulD (dVar 0) (dOp addD (dC (.int 1)) (dOp mulD (dC (.int 2)) (dVar 1)))) (dC (.int 48271))) dNil)) (dC (.int 2147483647))) (dOp mulD (dOp mulD (dC (.int 7919)) (dVar 1)) (dVar 1))) (dOp mulD (dC (.int 104729)) (dVar 1)))))
    (sRet (dOp divD (dOp modD (dCB intD (dCons (dOp mulD (dVar 2) (dC (.int 69621))) dNil)) (dC (.int 2147483629))) (dC (.int 7)))))
noncomputable def F__law_mixed : DF := runD 3 den__law_mixed
theorem fn__law_mixed (c : CC P K mg base) : FnA P w K mg base 1 (He.ga K "_law_mixed") (spD (GG w K) 2 F__law_mixed) := by
  obtain ⟨fd, F⟩ := c.d.def_ 30 (d := d__law_mixed) rfl
  exact fnD (funD_fun (st := s__law_mixed) F) sc__law_mixed (FunD.bindsN F fun _ _ _ _ _ _ us hl => match us, hl with | [_, _], _ => rfl) fun cdv A out s H E hr => ⟨_,
    (pss_cons (ps_set (i := 2) sc__law_mixed.nd rfl (by first | exact .inl rfl | exact .inr rfl) (pe_op op_addU (pe_op op_addU (pe_op op_mod (pe_callTy call_int1 (by rfl) (fr_int c) PyProof.Rows.boot_int (pa_cons (pe_op op_mulU (pe_op op_mulU (pv 0) (pe_op op_addU pe_int (pe_op op_mulU pe_int (pv 1)))) pe_int) pa_nil)) pe_int) (pe_op op_mulU (pe_op op_mulU pe_int (pv 1)) (pv 1))) (pe_op op_mulU pe_int (pv 1)))) (pss_one (ps_ret (pe_op op_fdiv (pe_op op_mod (pe_callTy call_int1 (by rfl) (fr_int c) PyProof.Rows.boot_int (pa_cons (pe_op op_mulU (pv 2) pe_int) pa_nil)) pe_int) pe_int)))),
    (ds_seq (ds_set (i := 2) (dv (de_op o_add ((de_op o_add ((de_op o_mod ((de_cb n_int (dp_cons ((de_op o_mul ((de_op o_mul ((de_var 0)).q ((de_op o_add (de_int).q ((de_op o_mul (de_int).q ((de_var 1)).q)).q)).q)).q (de_int).q)).q dp_nil))).q (de_int).q)).q ((de_op o_mul ((de_op o_mul (de_int).q ((de_var 1)).q)).q ((de_var 1)).q)).q)).q ((de_op o_mul (de_int).q ((de_var 1)).q)).q))) (ds_ret (de_op o_div ((de_op o_mod ((de_cb n_int (dp_cons ((de_op o_mul ((de_var 2)).q (de_int).q)).q dp_nil))).q (de_int).q)).q (de_int).q)))⟩

noncomputable def den__law_folded_b1 : DS :=
  (sPutU 1 (dOp modD (dCB intD (dCons (dOp addD (dOp mulD (dOp ixV (dPeek 1) (dOp modD (dCB intD (dCons (dVar 2) dNil)) (dC (.int 64)))) (dC (.int 48271))) (dVar 3)) dNil)) (dC (.int 2147483647))) (dOp modD (dCB intD (dCons (dVar 2) dNil)) (dC (.int 64))))
noncomputable def den__law_folded_b2 : DS :=
  (sPutU 1 (dOp modD (dCB intD (dCons (dOp addD (dOp ixV (dPeek 1) (dVar 2)) (dOp mulD (dOp ixV (dPeek 1) (dOp subD (dVar 2) (dC (.int 1)))) (dC (.int 16807)))) dNil)) (dC (.int 2147483647))) (dVar 2))
noncomputable def den__law_folded : DS :=
  (sSeq (sSet 1 (fun ρ m => (dLc (dRng1 (dCons (dC (.int 64)) dNil)) (hName 2) (fun _ m => .ok true m) (dOp addD (dC (.int 17)) (dVar 2)) [2] ρ m).map .ml))
    (sSeq (sFor (dEnumU (dCons (dVar 0) dNil)) (hTup 2 (hCons (hName 2) (hCons (hName 3) hNil))) den__law_folded_b1)
    (sSeq (sFor (dRng2 (dCons (dC (.int 1)) (dCons (dC (.int 64)) dNil))) (hName 2) den__law_folded_b2)
    (sFrz 1 (sRet (dVar 1))))))
noncomputable def F__law_folded : DF := runD 4 den__law_folded
theorem fn__law_folded (c : CC P K mg base) : FnA P w K mg base 1 (He.ga K "_law_folded") (spD (GG w K) 1 F__law_folded) := by
  obtain ⟨fd, F⟩ := c.d.def_ 31 (d := d__law_folded) rfl
  exact fnD (funD_fun (st := s__law_folded) F) sc__law_folded (FunD.bindsN F fun _ _ _ _ _ _ us hl => match us, hl with | [_], _ => rfl) fun cdv A out s H E hr => ⟨_,
    (pss_cons (ps_setLc (i := 1) rfl sc__law_folded.nd rfl rfl rfl (pi_range1 (by rfl) (fr_range c) (pa_cons pe_int pa_nil)) (blkOk_by (N := N__law_folded) (sc := defScope s__law_folded) (own := [("n", 2)]) (by decide +kernel)) (fun _ _ _ _ _ => (pg_name (i := 2) sc__law_folded.nd rfl (by first | exact .inl rfl | exact .inr rfl))) (fun _ _ _ _ _ => pts_nil) (fun _ _ _ _ _ => (pe_op (show OpR _ _ (rAddU K) from op_addU) pe_int (pv 2)))) (pss_cons (ps_for (passes_of rfl) rfl (pi_enumU (by rfl) (fr_enumerate c) (pa_cons (pv 0) pa_nil)) (pg_tup rfl (pgs_cons (pg_name (i := 2) sc__law_folded.nd rfl (by first | exact .inl rfl | exact .inr rfl)) (pgs_cons (pg_name (i := 3) sc__law_folded.nd rfl (by first | exact .inl rfl | exact .inr rfl)) pgs_nil))) (pss_one (ps_asg (pe_op op_mod (pe_callTy call_int1 (by rfl) (fr_int c) PyProof.Rows.boot_int (pa_cons (pe_op op_addU (pe_op op_mulU (pe_ix (ix_V hr.u10) (pv 1) (pe_op op_mod (pe_callTy call_int1 (by rfl) (fr_int c) PyProof.Rows.boot_int (pa_cons (pv 2) pa_nil)) pe_int) (fun _ _ => rfl)) pe_int) (pv 3)) pa_nil)) pe_int) (pg_sub (pv 1) (pe_op op_mod (pe_callTy call_int1 (by rfl) (fr_int c) PyProof.Rows.boot_int (pa_cons (pv 2) pa_nil)) pe_int) (set_V hr.u10))))) (pss_cons (ps_for (passes_of rfl) rfl (pi_range2 (by rfl) (fr_range c) (pa_cons pe_int (pa_cons pe_int pa_nil))) (pg_name (i := 2) sc__law_folded.nd rfl (by first | exact .inl rfl | exact .inr rfl)) (pss_one (ps_asg (pe_op op_mod (pe_callTy call_int1 (by rfl) (fr_int c) PyProof.Rows.boot_int (pa_cons (pe_op op_addU (pe_ix (ix_V hr.u10) (pv 1) (pv 2) (fun _ _ => rfl)) (pe_op op_mulU (pe_ix (ix_V hr.u10) (pv 1) (pe_op op_sub (pv 2) pe_int) (fun _ _ => rfl)) pe_int)) pa_nil)) pe_int) (pg_sub (pv 1) (pv 2) (set_V hr.u10))))) (pss_one (ps_ret (pv 1)))))),
    (ds_seq (ds_set (i := 1) (dv_lc (di_rng1 (da_cons de_int da_nil)) (dg_name 2) dt_yes (de_op o_add (de_int).q ((de_var 2)).q) (by decide))) (ds_seq (ds_for (di_enumU (da_cons (de_var 0) da_nil)) (dg_tup (dgs_cons (dg_name 2) (dgs_cons (dg_name 3) dgs_nil))) (ds_putU 1 (de_op o_mod ((de_cb n_int (dp_cons ((de_op o_add ((de_op o_mul ((de_op o_ixV (dq_var 1) ((de_op o_mod ((de_cb n_int (dp_cons ((de_var 2)).q dp_nil))).q (de_int).q)).q)).q (de_int).q)).q ((de_var 3)).q)).q dp_nil))).q (de_int).q) (de_op o_mod ((de_cb n_int (dp_cons ((de_var 2)).q dp_nil))).q (de_int).q))) (ds_seq (ds_for (di_rng2 (da_cons de_int (da_cons de_int da_nil))) (dg_name 2) (ds_putU 1 (de_op o_mod ((de_cb n_int (dp_cons ((de_op o_add ((de_op o_ixV (dq_var 1) ((de_var 2)).q)).q ((de_op o_mul ((de_op o_ixV (dq_var 1) ((de_op o_sub ((de_var 2)).q (de_int).q)).q)).q (de_int).q)).q)).q dp_nil))).q (de_int).q) (de_var 2))) (ds_frz 1 (ds_ret (de_var 1))))))⟩

theorem mixed_ok (m : Mo) (c n : Int) (h0 : 0 ≤ c) (h1 : c < 1000000000000) (h2 : 0 ≤ n) (h3 : n < 1000000000000) : F__law_mixed [.int c, .int n] m = .ok (.int (mixV c n)) m := by
  unfold F__law_mixed den__law_mixed
  and_intros
  rfl
open Classical in
noncomputable def F__law_draw : DF := fun ds m => match ds, m with
  | [.drw, .int L], some r => if (0 < L ∧ L < 1000000) ∧ r.spot < 1000000000 then .ok (.int (drawV r L)) (some (drawM r L)) else .bad
  | _, _ => .bad
/-- the row behind the great numbers -/
abbrev tDrawEnd (G : Cl) (E : XK) : TS := tSeq (tAsg (tDGet (tVar 0) (tC (.str "cells"))) (gName 3)) (tRet (tOp (rI (fun _ j => 0 < j) fun i j => .int (i % j)) (tCB (fun xs H Q => (∃ i, xs = [.int i] ∧ Q (.int i) H) ∨ ∃ k, xs = [.bl k] ∧ Q (.int (if k then 1 else 0)) H)
  (tCons (tCallA (spD G 2 F__law_mixed) E (tCons (tCallA (spD G 2 F__law_mixed) E (tCons (tOp (rAddU G.K) (tOp (rIx G.K) (tVar 3) (tOp (rI (fun _ j => 0 < j) fun i j => .int (i % j)) (tCB (fun xs H Q => (∃ i, xs = [.int i] ∧ Q (.int i) H) ∨ ∃ k, xs = [.bl k] ∧ Q (.int (if k then 1 else 0)) H) (tCons (tVar 2) tNil)) (tC (.int 64))))
    (tOp (rMulU G.K) (tC (.int 31)) (tOp (rI CDiv fun i j => .int (i / j)) (tVar 2) (tC (.int 64))))) (tCons (tVar 2) tNil))) (tCons (tOp (rAddU G.K) (tVar 2) (tC (.int 7))) tNil))) tNil)) (tVar 1)))
theorem draw_at {ns : List Int} {n k : Nat} (hl : ns.length = k) (hk : 0 < k) : atI (ns.map V.int) ((n : Int) % (k : Int)) = some (V.int (ns.getD (n % k) 0)) ∧ ixN (ns.map V.int).length ((n : Int) % (k : Int)) = some (n % k) := by
  have hm : n % k < ns.length := by rw [hl]; exact Nat.mod_lt _ hk
  have e : (n : Int) % (k : Int) = ((n % k : Nat) : Int) := by omega
  have e2 : ixN (ns.map V.int).length ((n : Int) % (k : Int)) = some (n % k) := by
    unfold ixN
    rw [if_pos (by omega), if_pos (by rw [List.length_map]; omega), e]
    rfl
  refine ⟨?_, e2⟩
  unfold atI
  rw [e2]
  show (ns.map V.int)[n % k]? = _
  rw [List.getElem?_map, List.getElem?_eq_getElem hm, List.getD_eq_getElem?_getD, List.getElem?_eq_getElem hm]
  rfl
theorem draw_live {G : Cl} {H : Hp} (tb : LamX.Tabs G.T H) : Start G Non none H := ⟨True.intro, fun _ h => h, fun b hb => hb.elim, tb⟩
theorem mrec_ext {H H' : Hp} {r : MS} (h : MRec H r) (e : Ext Non H H') : MRec H' r := by
  obtain ⟨h1, h2, h3, h4⟩ := h
  exact ⟨e _ _ (fun z => z) (fun ps z => by cases z) h1, e _ _ (fun z => z) (fun ps z => by cases z) h2, e _ _ (fun z => z) (fun ps z => by cases z) h3, h4⟩
theorem draw_end {G : Cl} {E : XK} {Q : VK} {L : Int} {r : MS} {x3 x4 x5 : Option V} {H2 : Hp} (hL : 0 < L) (hs : r.spot < 1000000000) (h : MRec H2 { r with spot := r.spot + 1 }) (tb : LamX.Tabs G.T H2)
    (q : ∀ H3, Ext (drO r) H2 H3 → MRec H3 { r with spot := r.spot + 1 } → LamX.Tabs G.T H3 → Q (.int (mixV (mixV (r.cells.getD (r.spot % 64) 0 + 31 * ((r.spot / 64 : Nat) : Int)) r.spot) (r.spot + 7) % L)) H3) :
    tDrawEnd G E { nx := fun _ H' => Q .non H', rt := Q } [some (.ref r.am), some (.int L), some (.int r.spot), x3, x4, x5] H2 := by
  obtain ⟨h1, h2, h3, hne, hl, hc, hg⟩ := id h
  have hcell : 0 ≤ r.cells.getD (r.spot % 64) 0 ∧ r.cells.getD (r.spot % 64) 0 < 2147483647 := by
    have hm : r.spot % 64 < r.cells.length := by rw [hl]; omega
    rw [List.getD_eq_getElem?_getD, List.getElem?_eq_getElem hm]
    exact hc _ (List.getElem_mem hm)
  obtain ⟨ea, _⟩ := draw_at (n := r.spot) hl (by decide : 0 < 64)
  have hdiv : ((r.spot : Int) / 64) = ((r.spot / 64 : Nat) : Int) := by omega
  refine ⟨.ref r.am, rfl, r.am, .ref r.ac, rfl, dgC (r := { r with spot := r.spot + 1 }) h1, ?_⟩
  refine ⟨.ref r.ac, rfl, .int r.spot, rfl, .inl ⟨_, rfl, _, _, rfl, rfl, (show (0 : Int) < 64 by decide), ?_⟩⟩
  refine .inl ⟨r.ac, _, _, _, rfl, rfl, SqL.of h2, ea, ?_⟩
  refine ⟨.int r.spot, rfl, _, _, rfl, rfl, ⟨by decide, by decide⟩, ?_⟩
  refine .inl ⟨31, ((r.spot / 64 : Nat) : Int), rfl, congrArg V.int hdiv, .inl ⟨by omega, by omega⟩, ?_⟩
  refine .inl ⟨_, _, rfl, rfl, ?_⟩
  refine ⟨.int r.spot, rfl, ?_⟩
  refine ⟨_, [.int (r.cells.getD (r.spot % 64) 0 + 31 * ((r.spot / 64 : Nat) : Int)), .int r.spot], none, rfl, .cons (.int _) (.cons (.int _) .nil), draw_live tb, ?_⟩
  rw [mixed_ok _ _ _ (by omega) (by omega) (by omega) (by omega)]
  intro v H3 g3 rv
  cases rv
  have k3 : MRec H3 { r with spot := r.spot + 1 } := mrec_ext h g3.x
  refine ⟨.int r.spot, rfl, .inl ⟨_, _, rfl, rfl, ?_⟩⟩
  have b1 := mixV_le (c := r.cells.getD (r.spot % 64) 0 + 31 * ((r.spot / 64 : Nat) : Int)) (n := r.spot) (by omega)
  refine ⟨_, [.int (mixV (r.cells.getD (r.spot % 64) 0 + 31 * ((r.spot / 64 : Nat) : Int)) r.spot), .int ((r.spot : Int) + 7)], none, rfl, .cons (.int _) (.cons (.int _) .nil), draw_live g3.tb, ?_⟩
  rw [mixed_ok _ _ _ (by omega) (by omega) (by omega) (by omega)]
  intro v H4 g4 rv
  cases rv
  have k4 : MRec H4 { r with spot := r.spot + 1 } := mrec_ext k3 g4.x
  refine .inl ⟨_, rfl, .int L, rfl, _, _, rfl, rfl, hL, ?_⟩
  exact q H4 ((g3.x.trans g4.x).imp fun _ z => z.elim) k4 g4.tb
theorem fn__law_draw (c : CC P K mg base) : FnA P w K mg base 4 (He.ga K "_law_draw") (spD (GG w K) 2 F__law_draw) := by
  obtain ⟨fd, F⟩ := c.d.def_ 32 (d := d__law_draw) rfl
  refine fnA_of (funD_fun (st := s__law_draw) F) sc__law_draw (FunD.bindsN F fun _ _ _ _ _ _ us hl => match us, hl with | [_, _], _ => rfl) fun cdv A out s H vs Q E hr h => ?_
  have hu : (A.deeper (envOfC "_law_draw" (defScope s__law_draw) s.heap.objs.size (He.ga K "_law_draw") cdv)).units + 1 < cLine := by
    have z := hr.u64
    exact Nat.lt_of_le_of_lt (Nat.add_le_add_left (by decide) _) z
  obtain ⟨M, ds, m, hn, rs, st, p⟩ := h
  refine ⟨rs.length.trans hn, _,
    (pss_cons (ps_set (i := 2) sc__law_draw.nd rfl (.inl rfl) (pe_dget hu (pv 0) pe_str (fun _ _ => rfl)))
    (pss_cons (ps_dput hu (pv 0) pe_str (pe_op op_addU (pv 2) pe_int) rfl)
    (pss_cons (ps_if (pt_cmpR (op_neD hr.u64) (pe_dget hu (pv 0) pe_str (fun _ _ => rfl)) (pe_lst pa_nil) (nomark _))
      (pss_cons (ps_set (i := 3) sc__law_draw.nd rfl (.inl rfl) (pe_dget hu (pv 0) pe_str (fun _ _ => rfl)))
      (pss_cons (ps_set (i := 4) sc__law_draw.nd rfl (.inl rfl) (pe_op op_mod (pe_callTy call_int1 (by rfl) (fr_int c) PyProof.Rows.boot_int (pa_cons (pv 2) pa_nil)) (pe_callB call_lenU (by rfl) (fr_len c) PySem.boot_len (pa_cons (pv 3) pa_nil))))
      (pss_cons (ps_set (i := 5) sc__law_draw.nd rfl (.inl rfl) (pe_ix ix_seq (pv 3) (pv 4) (fun _ _ => rfl)))
      (pss_one (ps_if (pt_cmpR op_gt (pv 5) pe_int (nomark _))
        (pss_cons (ps_asg (pe_op op_fdiv (pv 5) (pv 1)) (pg_sub (pv 3) (pv 4) set_list)) (pss_one (ps_ret (pe_op op_mod (pe_callTy call_int1 (by rfl) (fr_int c) PyProof.Rows.boot_int (pa_cons (pv 5) pa_nil)) (pv 1))))) pss_nil))))) pss_nil)
    (pss_cons (ps_set (i := 3) sc__law_draw.nd rfl (.inl rfl) (pe_dget hu (pv 0) pe_str (fun _ _ => rfl)))
    (pss_one (ps_ret (pe_op op_mod (pe_callTy call_int1 (by rfl) (fr_int c) PyProof.Rows.boot_int (pa_cons (pe_callA (fn__law_mixed c) (hr.less (by decide)) (by rfl) (gl__law_mixed c) (kp__law_mixed c) pss0
      (pa_cons (pe_callA (fn__law_mixed c) (hr.less (by decide)) (by rfl) (gl__law_mixed c) (kp__law_mixed c) pss0 (pa_cons (pe_op op_addU (pe_ix ix_seq (pv 3) (pe_op op_mod (pe_callTy call_int1 (by rfl) (fr_int c) PyProof.Rows.boot_int (pa_cons (pv 2) pa_nil)) pe_int) (fun _ _ => rfl)) (pe_op op_mulU pe_int (pe_op op_fdiv (pv 2) pe_int))) (pa_cons (pv 2) pa_nil)))
        (pa_cons (pe_op op_addU (pv 2) pe_int) pa_nil))) pa_nil)) (pv 1)))))))), ?_⟩
  unfold F__law_draw at p
  split at p
  rotate_left
  · exact p.elim
  rename_i L r
  split at p
  rotate_left
  · exact p.elim
  rename_i hc
  obtain ⟨⟨hL0, hL1⟩, hsp⟩ := hc
  cases rs with
  | cons r0 rs1 =>
  cases rs1 with
  | cons r1 rs2 =>
  cases rs2
  cases r1
  cases r0 with
  | drw h0 =>
  cases h0
  obtain ⟨⟨h1, h2, h3, hne, hl, hcs, hg⟩, hcel⟩ := st.mr
  have n1 : r.ac ≠ r.am := ne_of h2 h1 (fun z => by cases z)
  have n2 : r.ag ≠ r.am := ne_of h3 h1 (fun z => by cases z)
  have fin : ∀ {H2 : Hp} {r2 : MS} {v : Int}, v = drawV r L → r2 = drawM r L → Ext (drO r) H H2 → MRec H2 r2 → LamX.Tabs (GG w K).T H2 → Q (.int v) H2 := fun {H2 r2 v} e1 e2 x k tb => by
    subst e1 e2
    obtain ⟨a1, a2, a3, _, a5⟩ := drawM_ad (r := r) (L := L)
    have xh : ∀ b, drO r b → Mo.has (some r) b := fun b z => z.elim .inl fun z => .inr (z.elim .inl fun z => .inr (.inl z))
    refine p _ _ ⟨x.imp xh, ?_, ?_, ⟨k, (hcel.mono x (fun b z => st.aM b (xh b z)) (fun _ z => z) fun b hb z => ?_).of a5 a1 a2 a3⟩, tb⟩ (.int _)
    · show Mo.ad (some (drawM r L)) = Mo.ad (some r)
      unfold Mo.ad
      dsimp only
      rw [a1, a5]
    rotate_left
    · obtain ⟨b1, b2, b3⟩ := hcel.ap b hb
      exact z.elim b1 fun z => z.elim b2 b3
    show Mo.has (some (drawM r L)) = Mo.has (some r)
    unfold Mo.has MS.ads
    dsimp only
    rw [a1, a2, a3, a5]
  refine ⟨.ref r.am, rfl, r.am, .int r.spot, rfl, dgS h1, ?_⟩
  refine ⟨.int r.spot, rfl, .inl ⟨_, _, rfl, rfl, .ref r.am, rfl, r.am, _, rfl, dpS h1, ?_⟩⟩
  have x1 : Ext (drO r) H (upd H r.am (dKm { r with spot := r.spot + 1 })) := Ext.refl.chg (.inr (.inl rfl))
  have k1 : MRec (upd H r.am (dKm { r with spot := r.spot + 1 })) { r with spot := r.spot + 1 } := ⟨upd_same, by rw [upd_ne n1]; exact h2, by rw [upd_ne n2]; exact h3, hne, hl, hcs, hg⟩
  have tb1 : LamX.Tabs (GG w K).T (upd H r.am (dKm { r with spot := r.spot + 1 })) := tabs_upd st.tb (.dK h1)
  generalize upd H r.am (dKm { r with spot := r.spot + 1 }) = H1 at x1 k1 tb1
  obtain ⟨j1, j2, j3, _⟩ := id k1
  refine ⟨.ref r.am, rfl, r.am, .ref r.ag, rfl, dgG (r := { r with spot := r.spot + 1 }) j1, Nat.zero_le _, fun o ho => ?_⟩
  have xo : Ext Non H1 (upd H1 o (.lst [])) := Ext.new ho
  have k2 : MRec (upd H1 o (.lst [])) { r with spot := r.spot + 1 } := mrec_ext k1 xo
  have x2 : Ext (drO r) H (upd H1 o (.lst [])) := x1.trans (xo.imp fun _ z => z.elim)
  have ro : Rep (GG w K) none Non (upd H1 o (.lst [])) (.ref o) (.lst ([].map D.int)) := .lst upd_same (fun z => z) .nil
  obtain ⟨i1, i2, i3, _⟩ := id k2
  have rg : Rep (GG w K) none Non (upd H1 o (.lst [])) (.ref r.ag) (.lst (r.great.map D.int)) := .lst i3 (fun z => z) (reps_ints _)
  have tb2 : LamX.Tabs (GG w K).T (upd H1 o (.lst [])) := tabs_upd tb1 (.none ho)
  generalize upd H1 o (.lst []) = H2 at xo k2 x2 ro i1 i2 i3 rg tb2
  refine ⟨_, _, rg.dp (plain_lints (n := 5)), ro.dp (plain_lints (n := 5)), plain_shaped (plain_lints (n := 5)) (by omega), plain_shaped (plain_lints (n := 5)) (by omega), _, rfl, ?_⟩
  have eg : PyData.eqv (D.lst (r.great.map D.int)).py (D.lst (([] : List Int).map D.int)).py = decide (r.great = []) := by
    cases r.great with
    | nil => simp [D.py, D.pys, PyData.eqv, PyData.eqvAll]
    | cons a b => simp [D.py, D.pys, PyData.eqv, PyData.eqvAll]
  rw [eg]
  by_cases hgr : r.great = []
  · rw [decide_eq_true hgr]
    refine iteF ?_
    refine draw_end hL0 hsp k2 tb2 fun H3 x3 k3 t3 => fin ?_ ?_ (x2.trans x3) k3 t3
    · unfold drawV
      rw [if_neg fun z => z.1 hgr]
    · unfold drawM
      rw [if_neg fun z => z.1 hgr]
  · rw [decide_eq_false hgr]
    refine iteT ?_
    have hk : 0 < r.great.length := List.length_pos_iff.mpr hgr
    obtain ⟨ea, ei⟩ := draw_at (ns := r.great) (n := r.spot) rfl hk
    refine ⟨.ref r.am, rfl, r.am, .ref r.ag, rfl, dgG (r := { r with spot := r.spot + 1 }) i1, ?_⟩
    refine ⟨.int r.spot, rfl, .inl ⟨_, rfl, .ref r.ag, rfl, .ref r.ag, (r.great.map V.int).length, rfl, .inl ⟨_, SqL.of i3, rfl⟩, _, _, rfl, rfl, by rw [List.length_map]; omega, ?_⟩⟩
    rw [List.length_map]
    refine ⟨.ref r.ag, rfl, .int ((r.spot : Int) % (r.great.length : Int)), rfl, .inl ⟨r.ag, _, _, _, rfl, rfl, SqL.of i3, ea, ?_⟩⟩
    refine ⟨_, rfl, _, _, rfl, rfl, _, rfl, ?_⟩
    by_cases hpos : 0 < r.great.getD (r.spot % r.great.length) 0
    · rw [decide_eq_true hpos]
      refine iteT ?_
      refine ⟨_, rfl, .int L, rfl, _, _, rfl, rfl, ⟨hL0, by omega⟩, .ref r.ag, rfl, .int ((r.spot : Int) % (r.great.length : Int)), rfl, r.ag, r.great.map V.int, _, _, rfl, rfl, i3, ei, ?_⟩
      have n3 : r.ac ≠ r.ag := hne
      have n4 : r.am ≠ r.ag := Ne.symm n2
      refine ⟨_, rfl, .inl ⟨_, rfl, .int L, rfl, _, _, rfl, rfl, hL0, ?_⟩⟩
      refine fin (r2 := { r with spot := r.spot + 1, great := r.great.set (r.spot % r.great.length) (r.great.getD (r.spot % r.great.length) 0 / L) }) ?_ ?_ (x2.chg (.inr (.inr (.inr rfl)))) ⟨?_, ?_, ?_, hne, hl, hcs, ?_⟩ (tabs_upd tb2 (.lst i3))
      · unfold drawV
        rw [if_pos ⟨hgr, hpos⟩]
      · unfold drawM
        rw [if_pos ⟨hgr, hpos⟩]
      · rw [upd_ne n4]
        exact i1
      · rw [upd_ne n3]
        exact i2
      · rw [upd_same, List.map_set]
      · rw [List.length_set]
        exact hg
    · rw [decide_eq_false hpos]
      refine iteF ?_
      refine draw_end hL0 hsp k2 tb2 fun H3 x3 k3 t3 => fin ?_ ?_ (x2.trans x3) k3 t3
      · unfold drawV
        rw [if_neg fun z => hpos z.2]
      · unfold drawM
        rw [if_neg fun z => hpos z.2]

theorem folded_ok (ns : List Int) (m : Mo) : ∃ cells : List Int, F__law_folded [.scr ns] m = .ok (.lst (cells.map D.int)) m ∧ cells.length = 64 ∧ ∀ c ∈ cells, 0 ≤ c ∧ c < 2147483647 := by
  unfold F__law_folded den__law_folded den__law_folded_b1 den__law_folded_b2
  and_intros
  have e1 : lcD (hName 2) (fun x m => R.ok true m) (dOp addD (dC (D.int 17)) (dVar 2)) (rangeD 0 64) [some (Sv.v (D.scr ns)), none, none, none] m = .ok (((List.range 64).map fun (i : Nat) => (17 + (0 + (i : Int)))).map D.int) m := by
    rw [rangeD_map, lcD_all (fun (i : Nat) => D.int (0 + i)) (fun (i : Nat) => D.int (17 + (0 + (i : Int)))), List.map_map]
    · rfl
    · intro i _
      exact ⟨_, rfl, rfl, by and_intros⟩
  rw [e1]
  and_intros
  generalize hc0 : (List.range 64).map (fun (i : Nat) => (17 + (0 + (i : Int)))) = c0
  have l0 : c0.length = 64 := by rw [← hc0]; simp
  have b0 : ∀ c ∈ c0, 0 ≤ c ∧ c < 2147483647 := by
    intro c hc
    rw [← hc0] at hc
    obtain ⟨i, hi, rfl⟩ := List.mem_map.mp hc
    have hi' := List.mem_range.mp hi
    omega
  clear e1 hc0
  let I : Nat → Ro → Mo → Prop := fun _ ρ m' => m' = m ∧ ∃ (x2 x3 : Option Sv) (cs : List Int), ρ = [some (Sv.v (D.scr ns)), some (.ml (cs.map D.int)), x2, x3] ∧ cs.length = 64 ∧ ∀ c ∈ cs, 0 ≤ c ∧ c < 2147483647
  have put : ∀ (cs : List Int) (j : Nat) (x : Int), cs.length = 64 → (∀ c ∈ cs, 0 ≤ c ∧ c < 2147483647) → 0 ≤ x → x < 2147483647 → (cs.set j x).length = 64 ∧ ∀ c ∈ cs.set j x, 0 ≤ c ∧ c < 2147483647 := fun cs j x h1 h2 h3 h4 =>
    ⟨by rw [List.length_set]; exact h1, fun c hc => (List.mem_or_eq_of_mem_set hc).elim (h2 c) fun e => by rw [e]; exact ⟨h3, h4⟩⟩
  have md : ∀ z : Int, 0 ≤ z % 2147483647 ∧ z % 2147483647 < 2147483647 := fun z => ⟨Int.emod_nonneg _ (by decide), Int.emod_lt_of_pos _ (by decide)⟩
  have st : ∀ i d ρ m', (enumD 0 (ns.map D.int))[i]? = some d → I i ρ m' → ∃ ρ1 ρ2 m2, hTup 2 (hCons (hName 2) (hCons (hName 3) hNil)) d ρ = some ρ1 ∧ (sPutU 1 (dOp modD (dCB Dn.intD (dCons (dOp addD (dOp mulD (dOp ixV (dPeek 1) (dOp modD (dCB Dn.intD (dCons (dVar 2) dNil)) (dC (.int 64)))) (dC (.int 48271))) (dVar 3)) dNil)) (dC (.int 2147483647))) (dOp modD (dCB Dn.intD (dCons (dVar 2) dNil)) (dC (.int 64))) ρ1 m' = .nx ρ2 m2 ∨ sPutU 1 (dOp modD (dCB Dn.intD (dCons (dOp addD (dOp mulD (dOp ixV (dPeek 1) (dOp modD (dCB Dn.intD (dCons (dVar 2) dNil)) (dC (.int 64)))) (dC (.int 48271))) (dVar 3)) dNil)) (dC (.int 2147483647))) (dOp modD (dCB Dn.intD (dCons (dVar 2) dNil)) (dC (.int 64))) ρ1 m' = .ct ρ2 m2) ∧ I (i + 1) ρ2 m2 := by
    rintro i d ρ m' hd ⟨rfl, x2, x3, cs, rfl, h1, h2⟩
    obtain ⟨x, hx, rfl⟩ := enumD_get hd
    rw [List.getElem?_map] at hx
    obtain ⟨y, _, rfl⟩ := Option.map_eq_some_iff.mp hx
    rw [Nat.zero_add]
    have hj : i % 64 < cs.length := by omega
    have ej : ((i : Int) % 64) = ((i % 64 : Nat) : Int) := by omega
    obtain ⟨q1, q2⟩ := put cs (i % 64) ((cs[i % 64] * 48271 + y) % 2147483647) h1 h2 (md _).1 (md _).2
    refine ⟨_, _, m', by and_intros; rfl, .inl ?_, rfl, some (.v (.int i)), some (.v (.int y)), cs.set (i % 64) ((cs[i % 64] * 48271 + y) % 2147483647), rfl, q1, q2⟩
    and_intros
    rw [ej, ixD_int (List.getElem?_eq_getElem hj)]
    and_intros
    rw [ixN_at (by rw [List.length_map]; exact hj), List.map_set]
    rfl
  obtain ⟨ρ1, m1, e2, hI⟩ := forD_inv0 I (enumD 0 (ns.map D.int)) [some (Sv.v (D.scr ns)), some (Sv.ml (c0.map D.int)), none, none] m st ⟨rfl, _, _, c0, rfl, l0, b0⟩
  and_intros
  rw [e2]
  obtain ⟨rfl, x2, x3, cs, rfl, l1, b1⟩ := hI
  and_intros
  let I2 : Nat → Ro → Mo → Prop := fun _ ρ m' => m' = m1 ∧ ∃ (x2 x3 : Option Sv) (cs : List Int), ρ = [some (Sv.v (D.scr ns)), some (.ml (cs.map D.int)), x2, x3] ∧ cs.length = 64 ∧ ∀ c ∈ cs, 0 ≤ c ∧ c < 2147483647
  have st2 : ∀ i d ρ m', (rangeD 1 63)[i]? = some d → I2 i ρ m' → ∃ ρ1 ρ2 m2, hName 2 d ρ = some ρ1 ∧ (sPutU 1 (dOp modD (dCB Dn.intD (dCons (dOp addD (dOp ixV (dPeek 1) (dVar 2)) (dOp mulD (dOp ixV (dPeek 1) (dOp subD (dVar 2) (dC (.int 1)))) (dC (.int 16807)))) dNil)) (dC (.int 2147483647))) (dVar 2) ρ1 m' = .nx ρ2 m2 ∨ sPutU 1 (dOp modD (dCB Dn.intD (dCons (dOp addD (dOp ixV (dPeek 1) (dVar 2)) (dOp mulD (dOp ixV (dPeek 1) (dOp subD (dVar 2) (dC (.int 1)))) (dC (.int 16807)))) dNil)) (dC (.int 2147483647))) (dVar 2) ρ1 m' = .ct ρ2 m2) ∧ I2 (i + 1) ρ2 m2 := by
    rintro i d ρ m' hd ⟨rfl, x2, x3, cs, rfl, h1, h2⟩
    have hi : i < 63 := by
      have z := (List.getElem?_eq_some_iff.mp hd).1
      rw [rangeD_len] at z
      exact z
    rw [rangeD_get hd]
    have e1 : (1 + (i : Int)) = ((i + 1 : Nat) : Int) := by omega
    have e2 : (1 + (i : Int)) - 1 = ((i : Nat) : Int) := by omega
    obtain ⟨q1, q2⟩ := put cs (i + 1) ((cs[i + 1] + cs[i] * 16807) % 2147483647) h1 h2 (md _).1 (md _).2
    refine ⟨_, _, m', rfl, .inl ?_, rfl, some (.v (.int (1 + i))), x3, cs.set (i + 1) ((cs[i + 1] + cs[i] * 16807) % 2147483647), rfl, q1, q2⟩
    and_intros
    rw [e2, e1, ixD_int (List.getElem?_eq_getElem (show i + 1 < cs.length by omega)), ixD_int (List.getElem?_eq_getElem (show i < cs.length by omega))]
    and_intros
    rw [ixN_at (by rw [List.length_map]; omega), List.map_set]
    rfl
  obtain ⟨ρ2, m2, e3, hI2⟩ := forD_inv0 I2 (rangeD 1 63) [some (Sv.v (D.scr ns)), some (.ml (cs.map D.int)), x2, x3] m1 st2 ⟨rfl, _, _, cs, rfl, l1, b1⟩
  rw [e3]
  obtain ⟨rfl, y2, y3, cs2, rfl, l2, b2⟩ := hI2
  and_intros
  exact ⟨cs2, rfl, l2, b2⟩

/-- the great numbers -/
theorem great_ok (ns : List Int) (x1 : Option Sv) (m : Mo) (hl : ns.length ≤ 63) : (dLc (dSeqU (dVar 0)) (hName 2) (fun _ m => .ok true m) (dIf (dTest (dOp (cmpD fun i j => decide (j ≤ i)) (dVar 2) (dOp powD (dC (.int 10)) (dC (.int 18))))) (dVar 2) (dC (.int 0))) [2]) [some (.v (.scr ns)), x1, none] m = .ok ((ns.map fun c => if decide (1000000000000000000 ≤ c) = true then c else 0).map D.int) m := by
  and_intros
  split
  · rw [lcD_all D.int (fun c => D.int (if decide (1000000000000000000 ≤ c) = true then c else 0)), List.map_map]
    · rfl
    · intro c _
      refine ⟨_, rfl, rfl, ?_⟩
      and_intros
      split <;> rfl
  · rename_i h
    exact (h (by rw [List.length_map]; omega)).elim
/-- what _law_begun promises -/
def spBegun (G : Cl) : Sp := fun vs H Q E => ∃ (M : AP) (ns : List Int) (v : V), vs = [v] ∧ Rep G none M H v (.scr ns) ∧ ns.length ≤ 63 ∧ LamX.Tabs G.T H ∧ ∀ (r : MS) (H' : Hp), Ext Non H H' → LamX.Tabs G.T H' → MRec H' r → (∀ b, Mo.has (some r) b → ¬ Liv H b) → r.spot = 0 → r.cs = [] → Q (.ref r.am) H'
theorem fn__law_begun (c : CC P K mg base) : FnA P w K mg base 4 (He.ga K "_law_begun") (spBegun (GG w K)) := by
  obtain ⟨fd, F⟩ := c.d.def_ 33 (d := d__law_begun) rfl
  refine fnA_of (funD_fun (st := s__law_begun) F) sc__law_begun (FunD.bindsN F fun _ _ _ _ _ _ us hl => match us, hl with | [_], _ => rfl) fun cdv A out s H vs Q E hr h => ?_
  have hu : (A.deeper (envOfC "_law_begun" (defScope s__law_begun) s.heap.objs.size (He.ga K "_law_begun") cdv)).units + 1 < cLine := by
    have z := hr.u64
    exact Nat.lt_of_le_of_lt (Nat.add_le_add_left (by decide) _) z
  obtain ⟨M, ns, v, rfl, rv, hns, tb, p⟩ := h
  refine ⟨rfl, _,
    (pss_cons (ps_set (i := 1) sc__law_begun.nd rfl (by first | exact .inl rfl | exact .inr rfl) (pe_disp (pps_cons pe_str (pe_callA (fn__law_folded c) (hr.less (by decide)) (by rfl) (gl__law_folded c) (kp__law_folded c) pss0 (pa_cons (pv 0) pa_nil)) (pps_cons pe_str (pe_lst pa_nil) (pps_cons pe_str pe_int pps_nil))) rfl rfl (by decide) (by decide)))
    (pss_cons (ps_dput hu (pv 1) pe_str (pe_lc rfl sc__law_begun.nd (pi_seqU (pv 0)) (blkOk_by (N := N__law_begun) (sc := defScope s__law_begun) (own := [("cell", 2)]) (by decide +kernel)) (fun _ _ _ _ _ => (pg_name (i := 2) sc__law_begun.nd rfl (by first | exact .inl rfl | exact .inr rfl))) (fun _ _ _ _ _ => pts_nil) (fun _ _ _ _ _ => (pe_ifExp (pt_cmpR op_ge (pv 2) (pe_op op_pow pe_int pe_int) (nomark _)) (pv 2) pe_int))) rfl) (pss_one (ps_ret (pv 1))))), ?_⟩
  intro am ham
  have x1 : Ext Non H (upd H am (.dK [])) := Ext.new ham
  have tb1 : LamX.Tabs (GG w K).T (upd H am (.dK [])) := tabs_upd tb (.none ham)
  have d1 : upd H am (.dK []) am = some (.dK []) := upd_same
  have lam := Liv.none ham
  obtain ⟨M1, rv1, ml1, fr1⟩ : ∃ M1 : AP, Rep (GG w K) none M1 (upd H am (.dK [])) v (.scr ns) ∧ (∀ b, M1 b → Liv (upd H am (.dK [])) b) ∧ ∀ (b : Addr) (H2 : Hp) (xs : List V), Ext Non (upd H am (.dK [])) H2 → H2 b = some (.lst xs) → ¬ M1 b → ¬ Liv (upd H am (.dK [])) b := by
    cases rv with
    | scrF h n =>
      rename_i a o
      have h' : upd H am (.dK []) a = some (.frz o (.lst (ns.map V.int))) := x1 _ _ (fun z => z) (fun ps z => by cases z) h
      refine ⟨fun b => Liv (upd H am (.dK [])) b ∧ b ≠ a, .scrF h' (fun z => z.2 rfl), fun b z => z.1, fun b H2 xs x e n l => n ⟨l, fun z => ?_⟩⟩
      subst z
      rw [x _ _ (fun z => z) (fun ps z => by cases z) h'] at e
      cases e
    | scrK h => exact ⟨fun b => Liv (upd H am (.dK [])) b, .scrK h, fun b z => z, fun b H2 xs x e n => n⟩
  generalize upd H am (.dK []) = H1 at x1 d1 rv1 ml1 fr1 tb1
  obtain ⟨cells, ef, lc, bc⟩ := folded_ok ns none
  refine ⟨v, rfl, M1, [.scr ns], none, rfl, .cons rv1 .nil, ⟨True.intro, fun b z => z.elim, ml1, tb1⟩, ?_⟩
  rw [ef]
  intro lv H2 g2 rl
  have x2 : Ext Non H1 H2 := g2.x
  cases rl with
  | lst hl nl rl =>
  rename_i ac vs
  have ev := intsOf_rep rl (intsOf_map cells)
  subst ev
  have lac := fr1 ac H2 _ x2 hl nl
  refine ⟨Nat.zero_le _, fun gl hgl => ?_⟩
  have x3 : Ext Non H2 (upd H2 gl (.lst [])) := Ext.new hgl
  have d3 : upd H2 gl (.lst []) am = some (.dK []) := x3 _ _ (fun z => z) (fun ps z => by cases z) (x2 _ _ (fun z => z) (fun ps z => by cases z) d1)
  have c3 : upd H2 gl (.lst []) ac = some (.lst (cells.map V.int)) := x3 _ _ (fun z => z) (fun ps z => by cases z) hl
  have tb3 : LamX.Tabs (GG w K).T (upd H2 gl (.lst [])) := tabs_upd g2.tb (.none hgl)
  generalize upd H2 gl (.lst []) = H3 at x3 d3 c3 tb3
  refine ⟨d3, [(Sum.inr "cells", .ref ac), (Sum.inr "great", .ref gl), (Sum.inr "spot", .int 0)], rfl, (show 3 ≤ 15 by decide), ?_⟩
  have n1 : ac ≠ am := ne_of c3 d3 (fun z => by cases z)
  have e4 : mergeK [] [((Sum.inr "cells" : Key), V.ref ac), (Sum.inr "great", .ref gl), (Sum.inr "spot", .int 0)] = [((Sum.inr "cells" : Key), V.ref ac), ((Sum.inr "great" : Key), V.ref gl), ((Sum.inr "spot" : Key), V.int 0)] := rfl
  rw [e4]
  have x4 : Ext Non H (upd H3 am (.dK [(Sum.inr "cells", .ref ac), (Sum.inr "great", .ref gl), (Sum.inr "spot", .int 0)])) := ((x1.trans x2).trans x3).chg (.inl lam)
  have d4 : upd H3 am (.dK [((Sum.inr "cells" : Key), V.ref ac), (Sum.inr "great", .ref gl), (Sum.inr "spot", .int 0)]) am = some (.dK [(Sum.inr "cells", .ref ac), (Sum.inr "great", .ref gl), (Sum.inr "spot", .int 0)]) := upd_same
  have c4 : upd H3 am (.dK [((Sum.inr "cells" : Key), V.ref ac), (Sum.inr "great", .ref gl), (Sum.inr "spot", .int 0)]) ac = some (.lst (cells.map V.int)) := by rw [upd_ne n1]; exact c3
  have tb4 : LamX.Tabs (GG w K).T (upd H3 am (.dK [((Sum.inr "cells" : Key), V.ref ac), (Sum.inr "great", .ref gl), (Sum.inr "spot", .int 0)])) := tabs_upd tb3 (.dK d3)
  generalize upd H3 am (.dK [((Sum.inr "cells" : Key), V.ref ac), (Sum.inr "great", .ref gl), (Sum.inr "spot", .int 0)]) = H4 at x4 d4 c4 tb4
  have rv4 : Rep (GG w K) none Non H4 v (.scr ns) := (rv.less (M' := Non) fun b z => z.elim).ext x4 fun b z => z
  have en : EnvR (GG w K) (bxOf (GG w K) H4 Non none) Non (fun _ => 0) [some (.v (.scr ns)), none, none] none [some v, some (.ref am), none] H4 :=
    (env_start (N := N__law_begun) (vs := [v]) (ds := [.scr ns]) (m := none) (M := Non) ⟨True.intro, fun b z => z, fun b z => z.elim, tb4⟩ (.cons rv4 .nil) (fun _ => 0)).keepσ rfl fun i s hi => by
      match i, hi with
      | 0, _ => rfl
      | 1, hi => cases hi
      | 2, hi => cases hi
  show sDPut (tVar 1) (tC (.str "great")) (tLc (iSeqU (GG w K).K (tVar 0)) (gName 2) tYes (tIf (tTest (tOp (rI0 fun i j => .bl (decide (j ≤ i))) (tVar 2) (tOp (rI CPow fun i j => .int (i ^ j.toNat)) (tC (.int 10)) (tC (.int 18))))) (tVar 2) (tC (.int 0))) [2]) _ _ H4
  show tLc _ _ _ _ _ _ _ _
  refine Dn.lc_core (E := E) (vs := [2]) (di_seqU (de_var 0)) (dg_name 2) dt_yes (de_if (dt_test (de_op (o_cmp fun i j => decide (j ≤ i)) ((de_var 2)).q ((de_op o_pow (de_int).q (de_int).q)).q)) (de_var 2) de_int) (by decide) en _ ?_
  rw [great_ok ns none none hns]
  intro gv H5 g5 rg
  obtain ⟨ag, ws, rfl, hag, hl5, rg, _⟩ := rg
  have x5 : Ext Non H4 H5 := g5.x
  have eg := intsOf_rep rg (intsOf_map _)
  have d5 : H5 am = some (.dK [(Sum.inr "cells", .ref ac), (Sum.inr "great", .ref gl), (Sum.inr "spot", .int 0)]) := x5 _ _ (fun z => z) (fun ps z => by cases z) d4
  have c5 : H5 ac = some (.lst (cells.map V.int)) := x5 _ _ (fun z => z) (fun ps z => by cases z) c4
  have n2 : ag ≠ am := ne_of hl5 d5 (fun z => by cases z)
  have n3 : ac ≠ ag := fun z => hag (z ▸ ⟨_, c4, fun ps z => by cases z⟩)
  refine ⟨.ref am, rfl, am, _, rfl, .inl ⟨_, Sum.inr "great", d5, rfl, by show 3 < sizeLine; decide, rfl⟩, ?_⟩
  refine ⟨.ref am, rfl, ?_⟩
  refine p ⟨am, ac, ag, cells, ns.map fun c => if decide (1000000000000000000 ≤ c) = true then c else 0, 0, []⟩ _ ((x4.trans x5).chg (.inl lam)) (tabs_upd g5.tb (.dK d5)) ⟨upd_same, ?_, ?_, n3, lc, bc, by rw [List.length_map]; exact hns⟩ ?_ rfl rfl
  · rw [upd_ne n1]
    exact c5
  · rw [upd_ne n2, hl5, eg]
  · intro b hb
    rcases hb with hb | hb | hb | hb
    rotate_left 3
    · cases hb
    · rw [hb]
      exact lam
    · rw [hb]
      exact fun z => lac (z.ext x1 fun z => z)
    · rw [hb]
      exact fun z => hag (z.ext x4 fun z => z)

noncomputable def den__law_like : DS :=
  (sRet (dOp eqD (dCB reprE (dCons (dVar 0) dNil)) (dCB reprE (dCons (dVar 1) dNil))))
noncomputable def F__law_like : DF := runD 2 den__law_like
theorem fn__law_like (c : CC P K mg base) : FnA P w K mg base 1 (He.ga K "_law_like") (spD (GG w K) 2 F__law_like) := by
  obtain ⟨fd, F⟩ := c.d.def_ 34 (d := d__law_like) rfl
  exact fnD (funD_fun (st := s__law_like) F) sc__law_like (FunD.bindsN F fun _ _ _ _ _ _ us hl => match us, hl with | [_, _], _ => rfl) fun cdv A out s H E hr => ⟨_,
    (pss_one (ps_ret (pe_cmpR (op_eqU hr.u64) (pe_callB (call_reprE hr.gd hr.u200) (by rfl) (fr_repr c) PyProof.Rows.boot_repr (pa_cons (pv 0) pa_nil)) (pe_callB (call_reprE hr.gd hr.u200) (by rfl) (fr_repr c) PyProof.Rows.boot_repr (pa_cons (pv 1) pa_nil)) (nomark _)))),
    (ds_ret (de_op o_eq ((de_cb n_reprE (dp_cons ((de_var 0)).q dp_nil))).q ((de_cb n_reprE (dp_cons ((de_var 1)).q dp_nil))).q))⟩

noncomputable def den__law_right_at : DS :=
  (sRet (dOp eqD (dOp subD (dOp ixV (dVar 0) (dOp addD (dVar 1) (dC (.int 1)))) (dOp ixV (dVar 0) (dVar 1))) (dC (.int 1))))
noncomputable def F__law_right_at : DF := runD 2 den__law_right_at
theorem fn__law_right_at (c : CC P K mg base) : FnA P w K mg base 1 (He.ga K "_law_right_at") (spD (GG w K) 2 F__law_right_at) := by
  obtain ⟨fd, F⟩ := c.d.def_ 35 (d := d__law_right_at) rfl
  exact fnD (funD_fun (st := s__law_right_at) F) sc__law_right_at (FunD.bindsN F fun _ _ _ _ _ _ us hl => match us, hl with | [_, _], _ => rfl) fun cdv A out s H E hr => ⟨_,
    (pss_one (ps_ret (pe_cmpR (op_eqU hr.u64) (pe_op op_sub (pe_ix (ix_V hr.u10) (pv 0) (pe_op op_addU (pv 1) pe_int) (fun _ _ => rfl)) (pe_ix (ix_V hr.u10) (pv 0) (pv 1) (fun _ _ => rfl))) pe_int (nomark _)))),
    (ds_ret (de_op o_eq ((de_op o_sub ((de_op o_ixV ((de_var 0)).q ((de_op o_add ((de_var 1)).q (de_int).q)).q)).q ((de_op o_ixV ((de_var 0)).q ((de_var 1)).q)).q)).q (de_int).q))⟩

noncomputable def den__law_framed : DS :=
  (sRet (dOp addD (dOp addD (dLst (dCons (dC (.int 0)) dNil)) (dCB toLst (dCons (dVar 0) dNil))) (dLst (dCons (dOp addD (dCB lenD (dCons (dVar 0) dNil)) (dC (.int 1))) dNil))))
noncomputable def F__law_framed : DF := runD 1 den__law_framed
theorem fn__law_framed (c : CC P K mg base) : FnA P w K mg base 1 (He.ga K "_law_framed") (spD (GG w K) 1 F__law_framed) := by
  obtain ⟨fd, F⟩ := c.d.def_ 36 (d := d__law_framed) rfl
  exact fnD (funD_fun (st := s__law_framed) F) sc__law_framed (FunD.bindsN F fun _ _ _ _ _ _ us hl => match us, hl with | [_], _ => rfl) fun cdv A out s H E hr => ⟨_,
    (pss_one (ps_ret (pe_op op_addU (pe_op op_addU (pe_lst (pa_cons pe_int pa_nil)) (pe_callTy (call_list_of) (by rfl) (fr_list c) PyProof.Rows.boot_list (pa_cons (pv 0) pa_nil))) (pe_lst (pa_cons (pe_op op_addU (pe_callB call_lenU (by rfl) (fr_len c) PySem.boot_len (pa_cons (pv 0) pa_nil)) pe_int) pa_nil))))),
    (ds_ret (de_op o_add ((de_op o_add ((de_lst (da_cons de_int da_nil))).q ((de_cb n_list (dp_cons ((de_var 0)).q dp_nil))).q)).q ((de_lst (da_cons (de_op o_add ((de_cb n_len (dp_cons ((de_var 0)).q dp_nil))).q (de_int).q) da_nil))).q))⟩

noncomputable def den__law_rings_b1 : DS :=
  (sSeq (sPar 8 9 (dCons (dOp ixV (dVar 1) (dVar 4)) (dCons (dOp ixV (dVar 1) (dOp addD (dVar 4) (dC (.int 1)))) dNil)))
    (sSeq (sPutU 3 (dVar 4) (dIf (dTest (dOp (cmpD fun i j => decide (j ≤ i)) (dVar 8) (dC (.int 0)))) (dTup (dCons (dC (.str "head")) (dCons (dVar 8) dNil))) (dTup (dCons (dC (.str "tail")) (dCons (dOp subD (dC (.int 0)) (dVar 8)) dNil)))))
    (sPutU 3 (dVar 4) (dIf (dTest (dOp (cmpD fun i j => decide (j ≤ i)) (dVar 9) (dC (.int 0)))) (dTup (dCons (dC (.str "tail")) (dCons (dVar 9) dNil))) (dTup (dCons (dC (.str "head")) (dCons (dOp subD (dC (.int 0)) (dVar 9)) dNil)))))))
noncomputable def den__law_rings_b2 : DS :=
  (sSeq (sAsg (dTup (dCons (dOp ixV (dVar 2) (dOp ixV (dPeek 3) (dTup (dCons (dC (.str "head")) (dCons (dVar 5) dNil))))) (dCons (dOp ixV (dVar 2) (dOp ixV (dPeek 3) (dTup (dCons (dC (.str "tail")) (dCons (dOp addD (dVar 5) (dC (.int 1))) dNil))))) dNil))) (hTup 2 (hCons (hName 10) (hCons (hName 11) hNil))))
    (sSet 2 (dvV (fun ρ m => (dLc (dSeqU (dVar 2)) (hName 8) (fun _ m => .ok true m) (dIf (dTest (dOp eqD (dVar 8) (dVar 11))) (dVar 10) (dVar 8)) [8] ρ m).map .lst))))
noncomputable def den__law_rings_b3 : DS :=
  (sSeq (sSet 12 (dvV (fun ρ m => (dLc (dRng1 (dCons (dCB lenD (dCons (dVar 2) dNil)) dNil)) (hName 4) ((dTest (dOp eqD (dOp ixV (dVar 2) (dVar 4)) (dVar 7)))) (dVar 4) [4] ρ m).map .lst)))
    (sSet 6 (dvV (dIf (dTest (dOp (inV true) (dVar 12) (dVar 6))) (dOp addD (dVar 6) (dLst (dCons (dVar 12) dNil))) (dVar 6)))))
noncomputable def den__law_rings : DS :=
  (sSeq (sSet 1 (dvV (dCall 1 F__law_framed (dCons (dVar 0) dNil))))
    (sSeq (sSet 2 (dvV (dRgL1 (dOp subD (dCB lenD (dCons (dVar 1) dNil)) (dC (.int 1))))))
    (sSeq (sSet 3 dvNewN)
    (sSeq (sFor (dSeqU (dVar 2)) (hName 4) den__law_rings_b1)
    (sSeq (sFor (dRng1 (dCons (dOp addD (dCB lenD (dCons (dVar 0) dNil)) (dC (.int 1))) dNil)) (hName 5) den__law_rings_b2)
    (sSeq (sSet 6 (dvV (dLst dNil)))
    (sSeq (sFor (dSeqU (dVar 2)) (hName 7) den__law_rings_b3)
    (sRet (dCB srtLX (dCons (dVar 6) dNil))))))))))
noncomputable def F__law_rings : DF := runD 13 den__law_rings
theorem fn__law_rings (c : CC P K mg base) : FnA P w K mg base 2 (He.ga K "_law_rings") (spD (GG w K) 1 F__law_rings) := by
  obtain ⟨fd, F⟩ := c.d.def_ 37 (d := d__law_rings) rfl
  exact fnD (funD_fun (st := s__law_rings) F) sc__law_rings (FunD.bindsN F fun _ _ _ _ _ _ us hl => match us, hl with | [_], _ => rfl) fun cdv A out s H E hr => ⟨_,
    (pss_cons (ps_set (i := 1) sc__law_rings.nd rfl (by first | exact .inl rfl | exact .inr rfl) (pe_callA (fn__law_framed (w := w) c) (hr.less (by decide)) (by rfl) (gl__law_framed c) (kp__law_framed c) pss0 (pa_cons (pv 0) pa_nil))) (pss_cons (ps_set (i := 2) sc__law_rings.nd rfl (by first | exact .inl rfl | exact .inr rfl) (pe_listRg rfl (by rfl) (fr_list c) (prg_1 (by rfl) (fr_range c) (pe_op op_sub (pe_callB call_lenU (by rfl) (fr_len c) PySem.boot_len (pa_cons (pv 1) pa_nil)) pe_int)))) (pss_cons (ps_set (i := 3) sc__law_rings.nd rfl (by first | exact .inl rfl | exact .inr rfl) pe_dnewN) (pss_cons (ps_for (passes_of rfl) rfl (pi_seqU (pv 2)) (pg_name (i := 4) sc__law_rings.nd rfl (by first | exact .inl rfl | exact .inr rfl)) (pss_cons (ps_par (i := 8) (j := 9) rfl sc__law_rings.nd rfl rfl (by decide) rfl rfl (pa_cons (pe_ix (ix_V hr.u10) (pv 1) (pv 4) (fun _ _ => rfl)) (pa_cons (pe_ix (ix_V hr.u10) (pv 1) (pe_op op_addU (pv 4) pe_int) (fun _ _ => rfl)) pa_nil)) rfl) (pss_cons (ps_asg (pv 4) (pg_sub (pv 3) (pe_ifExp (pt_cmpR op_ge (pv 8) pe_int (nomark _)) (pe_tup (pa_cons pe_str (pa_cons (pv 8) pa_nil))) (pe_tup (pa_cons pe_str (pa_cons (pe_op op_sub pe_int (pv 8)) pa_nil)))) (set_V hr.u10))) (pss_one (ps_asg (pv 4) (pg_sub (pv 3) (pe_ifExp (pt_cmpR op_ge (pv 9) pe_int (nomark _)) (pe_tup (pa_cons pe_str (pa_cons (pv 9) pa_nil))) (pe_tup (pa_cons pe_str (pa_cons (pe_op op_sub pe_int (pv 9)) pa_nil)))) (set_V hr.u10))))))) (pss_cons (ps_for (passes_of rfl) rfl (pi_range1 (by rfl) (fr_range c) (pa_cons (pe_op op_addU (pe_callB call_lenU (by rfl) (fr_len c) PySem.boot_len (pa_cons (pv 0) pa_nil)) pe_int) pa_nil)) (pg_name (i := 5) sc__law_rings.nd rfl (by first | exact .inl rfl | exact .inr rfl)) (pss_cons (ps_asg (pe_tup (pa_cons (pe_ix (ix_V hr.u10) (pv 2) (pe_ix (ix_V hr.u10) (pv 3) (pe_tup (pa_cons pe_str (pa_cons (pv 5) pa_nil))) (fun _ _ => rfl)) (fun _ _ => rfl)) (pa_cons (pe_ix (ix_V hr.u10) (pv 2) (pe_ix (ix_V hr.u10) (pv 3) (pe_tup (pa_cons pe_str (pa_cons (pe_op op_addU (pv 5) pe_int) pa_nil))) (fun _ _ => rfl)) (fun _ _ => rfl)) pa_nil))) (pg_tup rfl (pgs_cons (pg_name (i := 10) sc__law_rings.nd rfl (by first | exact .inl rfl | exact .inr rfl)) (pgs_cons (pg_name (i := 11) sc__law_rings.nd rfl (by first | exact .inl rfl | exact .inr rfl)) pgs_nil)))) (pss_one (ps_set (i := 2) sc__law_rings.nd rfl (by first | exact .inl rfl | exact .inr rfl) (pe_lc rfl sc__law_rings.nd (pi_seqU (pv 2)) (blkOk_by (N := N__law_rings) (sc := defScope s__law_rings) (own := [("one", 8)]) (by decide +kernel)) (fun _ _ _ _ _ => (pg_name (i := 8) sc__law_rings.nd rfl (by first | exact .inl rfl | exact .inr rfl))) (fun _ _ _ _ _ => pts_nil) (fun _ _ _ _ _ => (pe_ifExp (pt_cmpR (show OpR _ _ (rEqU K) from (op_eqU hr.u64)) (pv 8) (pv 11) (nomark _)) (pv 10) (pv 8)))))))) (pss_cons (ps_set (i := 6) sc__law_rings.nd rfl (by first | exact .inl rfl | exact .inr rfl) (pe_lst pa_nil)) (pss_cons (ps_for (passes_of rfl) rfl (pi_seqU (pv 2)) (pg_name (i := 7) sc__law_rings.nd rfl (by first | exact .inl rfl | exact .inr rfl)) (pss_cons (ps_setLc (i := 12) rfl sc__law_rings.nd rfl rfl rfl (pi_range1 (by rfl) (fr_range c) (pa_cons (pe_callB call_lenU (by rfl) (fr_len c) PySem.boot_len (pa_cons (pv 2) pa_nil)) pa_nil)) (blkOk_by (N := N__law_rings) (sc := defScope s__law_rings) (own := [("joint", 4)]) (by decide +kernel)) (fun _ _ _ _ _ => (pg_name (i := 4) sc__law_rings.nd rfl (by first | exact .inl rfl | exact .inr rfl))) (fun _ _ _ _ _ => (pts_one (pt_cmpR (show OpR _ _ (rEqU K) from (op_eqU hr.u64)) (pe_ix (show IxR _ (rIxV K w) from ix_V hr.u10) (pv 2) (pv 4) (fun _ _ => rfl)) (pv 7) (nomark _)))) (fun _ _ _ _ _ => (pv 4))) (pss_one (ps_set (i := 6) sc__law_rings.nd rfl (by first | exact .inl rfl | exact .inr rfl) (pe_ifExp (pt_cmpR (op_notInV hr.u65) (pv 12) (pv 6) (by with_unfolding_all rfl)) (pe_op op_addU (pv 6) (pe_lst (pa_cons (pv 12) pa_nil))) (pv 6)))))) (pss_one (ps_ret (pe_callB (call_sortU hr.u200) (by rfl) (fr_sorted c) PyProof.Rows.boot_sorted (pa_cons (pv 6) pa_nil))))))))))),
    (ds_seq (ds_set (i := 1) (dv (de_call (da_cons (de_var 0) da_nil)))) (ds_seq (ds_set (i := 2) (dv (de_rgL1 (de_op o_sub ((de_cb n_len (dp_cons ((de_var 1)).q dp_nil))).q (de_int).q)))) (ds_seq (ds_set (i := 3) dv_dnewN) (ds_seq (ds_for (di_seqU (de_var 2)) (dg_name 4) (ds_seq (ds_par (i := 8) (j := 9) (da_cons (de_op o_ixV ((de_var 1)).q ((de_var 4)).q) (da_cons (de_op o_ixV ((de_var 1)).q ((de_op o_add ((de_var 4)).q (de_int).q)).q) da_nil))) (ds_seq (ds_putU 3 (de_var 4) (de_if (dt_test (de_op (o_cmp fun i j => decide (j ≤ i)) ((de_var 8)).q (de_int).q)) (de_tup (da_cons de_str (da_cons (de_var 8) da_nil))) (de_tup (da_cons de_str (da_cons (de_op o_sub (de_int).q ((de_var 8)).q) da_nil))))) (ds_putU 3 (de_var 4) (de_if (dt_test (de_op (o_cmp fun i j => decide (j ≤ i)) ((de_var 9)).q (de_int).q)) (de_tup (da_cons de_str (da_cons (de_var 9) da_nil))) (de_tup (da_cons de_str (da_cons (de_op o_sub (de_int).q ((de_var 9)).q) da_nil)))))))) (ds_seq (ds_for (di_rng1 (da_cons (de_op o_add ((de_cb n_len (dp_cons ((de_var 0)).q dp_nil))).q (de_int).q) da_nil)) (dg_name 5) (ds_seq (ds_asg (de_tup (da_cons (de_op o_ixV ((de_var 2)).q ((de_op o_ixV (dq_var 3) ((de_tup (da_cons de_str (da_cons (de_var 5) da_nil)))).q)).q) (da_cons (de_op o_ixV ((de_var 2)).q ((de_op o_ixV (dq_var 3) ((de_tup (da_cons de_str (da_cons (de_op o_add ((de_var 5)).q (de_int).q) da_nil)))).q)).q) da_nil))) (dg_tup (dgs_cons (dg_name 10) (dgs_cons (dg_name 11) dgs_nil)))) (ds_set (i := 2) (dv (de_lc (di_seqU (de_var 2)) (dg_name 8) dt_yes (de_if (dt_test (de_op o_eq ((de_var 8)).q ((de_var 11)).q)) (de_var 10) (de_var 8)) (by decide)))))) (ds_seq (ds_set (i := 6) (dv (de_lst da_nil))) (ds_seq (ds_for (di_seqU (de_var 2)) (dg_name 7) (ds_seq (ds_set (i := 12) (dv (de_lc (di_rng1 (da_cons (de_cb n_len (dp_cons ((de_var 2)).q dp_nil)) da_nil)) (dg_name 4) (dt_test (de_op o_eq ((de_op o_ixV ((de_var 2)).q ((de_var 4)).q)).q ((de_var 7)).q)) (de_var 4) (by decide)))) (ds_set (i := 6) (dv (de_if (dt_test (de_op o_notInV ((de_var 12)).q ((de_var 6)).q)) (de_op o_add ((de_var 6)).q ((de_lst (da_cons (de_var 12) da_nil))).q) (de_var 6)))))) (ds_ret (de_cb n_srtX (dp_cons ((de_var 6)).q dp_nil))))))))))⟩

noncomputable def den__law_is_closed : DS :=
  (sSeq (sSet 3 (dvV (dCB srtLX (dCons (fun ρ m => (dLc (dSeqU (dSl (dVar 0) (dPart (dVar 1)) (dPart (dOp addD (dVar 2) (dC (.int 1)))))) (hName 5) (fun _ m => .ok true m) (dCB absD (dCons (dVar 5) dNil)) [5] ρ m).map .lst) dNil))))
    (sSeq (sIf (dTest (dOp neD (dVar 3) (dRgL2 (dOp ixV (dVar 3) (dC (.int 0))) (dOp addD (dOp ixV (dVar 3) (dC (.int 0))) (dCB lenD (dCons (dVar 3) dNil)))))) (sRet (dC (.bl false))) sNx)
    (sSeq (sSet 4 (dvV (dLst (dCons (dOp ixV (dVar 0) (dVar 1)) (dCons (dOp ixV (dVar 0) (dVar 2)) dNil)))))
    (sRet (dOrV (dOp eqD (dVar 4) (dLst (dCons (dOp ixV (dVar 3) (dC (.int 0))) (dCons (dOp ixV (dVar 3) (dUn negD (dC (.int 1)))) dNil)))) (dAndV (dOp (cmpD fun i j => decide (j < i)) (dOp ixV (dVar 3) (dC (.int 0))) (dC (.int 0))) (dOp eqD (dVar 4) (dLst (dCons (dOp subD (dC (.int 0)) (dOp ixV (dVar 3) (dUn negD (dC (.int 1))))) (dCons (dOp subD (dC (.int 0)) (dOp ixV (dVar 3) (dC (.int 0)))) dNil))))))))))
noncomputable def F__law_is_closed : DF := runD 6 den__law_is_closed
theorem fn__law_is_closed (c : CC P K mg base) : FnA P w K mg base 1 (He.ga K "_law_is_closed") (spD (GG w K) 3 F__law_is_closed) := by
  obtain ⟨fd, F⟩ := c.d.def_ 38 (d := d__law_is_closed) rfl
  exact fnD (funD_fun (st := s__law_is_closed) F) sc__law_is_closed (FunD.bindsN F fun _ _ _ _ _ _ us hl => match us, hl with | [_, _, _], _ => rfl) fun cdv A out s H E hr => ⟨_,
    (pss_cons (ps_set (i := 3) sc__law_is_closed.nd rfl (by first | exact .inl rfl | exact .inr rfl) (pe_callB (call_sortU hr.u200) (by rfl) (fr_sorted c) PyProof.Rows.boot_sorted (pa_cons (pe_lc rfl sc__law_is_closed.nd (pi_seqU (pe_slice sl_U (pv 0) (po_some (pv 1)) (po_some (pe_op op_addU (pv 2) pe_int)))) (blkOk_by (N := N__law_is_closed) (sc := defScope s__law_is_closed) (own := [("one", 5)]) (by decide +kernel)) (fun _ _ _ _ _ => (pg_name (i := 5) sc__law_is_closed.nd rfl (by first | exact .inl rfl | exact .inr rfl))) (fun _ _ _ _ _ => pts_nil) (fun _ _ _ _ _ => (pe_callB call_abs (by rfl) (fr_abs c) PyProof.Rows.boot_abs (pa_cons (pv 5) pa_nil)))) pa_nil))) (pss_cons (ps_if (pt_cmpR (op_neU hr.u64) (pv 3) (pe_listRg rfl (by rfl) (fr_list c) (prg_2 (by rfl) (fr_range c) (pe_ix (ix_V hr.u10) (pv 3) pe_int (fun _ _ => rfl)) (pe_op op_addU (pe_ix (ix_V hr.u10) (pv 3) pe_int (fun _ _ => rfl)) (pe_callB call_lenU (by rfl) (fr_len c) PySem.boot_len (pa_cons (pv 3) pa_nil))))) (nomark _)) (pss_one (ps_ret pe_bl)) pss_nil) (pss_cons (ps_set (i := 4) sc__law_is_closed.nd rfl (by first | exact .inl rfl | exact .inr rfl) (pe_lst (pa_cons (pe_ix (ix_V hr.u10) (pv 0) (pv 1) (fun _ _ => rfl)) (pa_cons (pe_ix (ix_V hr.u10) (pv 0) (pv 2) (fun _ _ => rfl)) pa_nil)))) (pss_one (ps_ret (pe_or (pe_cmpR (op_eqU hr.u64) (pv 4) (pe_lst (pa_cons (pe_ix (ix_V hr.u10) (pv 3) pe_int (fun _ _ => rfl)) (pa_cons (pe_ix (ix_V hr.u10) (pv 3) (pe_un un_neg pe_int) (fun _ _ => rfl)) pa_nil))) (nomark _)) (pe_one (pe_and (pe_cmpR op_gt (pe_ix (ix_V hr.u10) (pv 3) pe_int (fun _ _ => rfl)) pe_int (nomark _)) (pe_one (pe_cmpR (op_eqU hr.u64) (pv 4) (pe_lst (pa_cons (pe_op op_sub pe_int (pe_ix (ix_V hr.u10) (pv 3) (pe_un un_neg pe_int) (fun _ _ => rfl))) (pa_cons (pe_op op_sub pe_int (pe_ix (ix_V hr.u10) (pv 3) pe_int (fun _ _ => rfl))) pa_nil))) (nomark _))))))))))),
    (ds_seq (ds_set (i := 3) (dv (de_cb n_srtX (dp_cons ((de_lc (di_seqU (de_sl ((de_var 0)).q (do_some (de_var 1)) (do_some (de_op o_add ((de_var 2)).q (de_int).q)))) (dg_name 5) dt_yes (de_cb n_abs (dp_cons ((de_var 5)).q dp_nil)) (by decide))).q dp_nil)))) (ds_seq (ds_if (dt_test (de_op o_ne ((de_var 3)).q ((de_rgL2 (de_op o_ixV ((de_var 3)).q (de_int).q) (de_op o_add ((de_op o_ixV ((de_var 3)).q (de_int).q)).q ((de_cb n_len (dp_cons ((de_var 3)).q dp_nil))).q))).q)) (ds_ret de_bl) ds_nil) (ds_seq (ds_set (i := 4) (dv (de_lst (da_cons (de_op o_ixV ((de_var 0)).q ((de_var 1)).q) (da_cons (de_op o_ixV ((de_var 0)).q ((de_var 2)).q) da_nil))))) (ds_ret (de_or (de_op o_eq ((de_var 4)).q ((de_lst (da_cons (de_op o_ixV ((de_var 3)).q (de_int).q) (da_cons (de_op o_ixV ((de_var 3)).q ((de_un o_neg de_int.q)).q) da_nil)))).q) (de_and (de_op (o_cmp fun i j => decide (j < i)) ((de_op o_ixV ((de_var 3)).q (de_int).q)).q (de_int).q) (de_op o_eq ((de_var 4)).q ((de_lst (da_cons (de_op o_sub (de_int).q ((de_op o_ixV ((de_var 3)).q ((de_un o_neg de_int.q)).q)).q) (da_cons (de_op o_sub (de_int).q ((de_op o_ixV ((de_var 3)).q (de_int).q)).q) da_nil)))).q)))))))⟩

noncomputable def den__law_parts_b1 : DS :=
  (sIf (dTru (dCall 3 F__law_is_closed (dCons (dVar 1) (dCons (dVar 3) (dCons (dVar 5) dNil))))) (sApp 2 (dTup (dCons (dVar 3) (dCons (dVar 5) dNil)))) sNx)
noncomputable def den__law_parts_b2 : DS :=
  (sFor (dRng2 (dCons (dOp addD (dVar 3) (dC (.int 1))) (dCons (dCB lenD (dCons (dVar 1) dNil)) dNil))) (hName 5) den__law_parts_b1)
noncomputable def den__law_parts_b3 : DS :=
  (sIf (dTest (dOp eqD (fun ρ m => (dLc (dRng2 (dCons (dOp addD (dVar 3) (dC (.int 1))) (dCons (dVar 5) dNil))) (hName 6) ((dAnd (dTest (dOp (inV false) (dTup (dCons (dVar 3) (dCons (dVar 6) dNil))) (dPeek 2))) (dTest (dOp (inV false) (dTup (dCons (dVar 6) (dCons (dVar 5) dNil))) (dPeek 2))))) (dVar 6) [6] ρ m).map .lst) (dLst dNil))) (sApp 4 (dTup (dCons (dVar 3) (dCons (dVar 5) dNil)))) sNx)
noncomputable def den__law_parts : DS :=
  (sSeq (sParV [1, 2] (dvsCons (dvV (dCall 1 F__law_framed (dCons (dVar 0) dNil))) (dvsCons (dvLst dNil) dvsNil)))
    (sSeq (sFor (dRng1 (dCons (dCB lenD (dCons (dVar 1) dNil)) dNil)) (hName 3) den__law_parts_b2)
    (sSeq (sSet 4 (dvLst dNil))
    (sFrz 2 (sSeq (sFor (dSeqU (dVar 2)) (hTup 2 (hCons (hName 3) (hCons (hName 5) hNil))) den__law_parts_b3)
    (sFrz 4 (sRet (dVar 4))))))))
noncomputable def F__law_parts : DF := runD 7 den__law_parts
theorem fn__law_parts (c : CC P K mg base) : FnA P w K mg base 2 (He.ga K "_law_parts") (spD (GG w K) 1 F__law_parts) := by
  obtain ⟨fd, F⟩ := c.d.def_ 39 (d := d__law_parts) rfl
  exact fnD (funD_fun (st := s__law_parts) F) sc__law_parts (FunD.bindsN F fun _ _ _ _ _ _ us hl => match us, hl with | [_], _ => rfl) fun cdv A out s H E hr => ⟨_,
    (pss_cons (ps_asg (pe_tup (pa_cons (pe_callA (fn__law_framed (w := w) c) (hr.less (by decide)) (by rfl) (gl__law_framed c) (kp__law_framed c) pss0 (pa_cons (pv 0) pa_nil)) (pa_cons (pe_lst pa_nil) pa_nil))) (pg_tup rfl (pgs_cons (pg_name (i := 1) sc__law_parts.nd rfl (by first | exact .inl rfl | exact .inr rfl)) (pgs_cons (pg_name (i := 2) sc__law_parts.nd rfl (by first | exact .inl rfl | exact .inr rfl)) pgs_nil)))) (pss_cons (ps_for (passes_of rfl) rfl (pi_range1 (by rfl) (fr_range c) (pa_cons (pe_callB call_lenU (by rfl) (fr_len c) PySem.boot_len (pa_cons (pv 1) pa_nil)) pa_nil)) (pg_name (i := 3) sc__law_parts.nd rfl (by first | exact .inl rfl | exact .inr rfl)) (pss_one (ps_for (passes_of rfl) rfl (pi_range2 (by rfl) (fr_range c) (pa_cons (pe_op op_addU (pv 3) pe_int) (pa_cons (pe_callB call_lenU (by rfl) (fr_len c) PySem.boot_len (pa_cons (pv 1) pa_nil)) pa_nil))) (pg_name (i := 5) sc__law_parts.nd rfl (by first | exact .inl rfl | exact .inr rfl)) (pss_one (ps_if (pt_truth (pe_callA (fn__law_is_closed (w := w) c) (hr.less (by decide)) (by rfl) (gl__law_is_closed c) (kp__law_is_closed c) pss0 (pa_cons (pv 1) (pa_cons (pv 3) (pa_cons (pv 5) pa_nil)))) (by intro _; rfl)) (pss_one (ps_expr (pe_bm PySem.F.plainAttrs_list PySem.F.slot_list_append PySem.F.type_list_append mt_append (pv 2) (pa_cons (pe_tup (pa_cons (pv 3) (pa_cons (pv 5) pa_nil))) pa_nil)))) pss_nil))))) (pss_cons (ps_set (i := 4) sc__law_parts.nd rfl (by first | exact .inl rfl | exact .inr rfl) (pe_lst pa_nil)) (pss_cons (ps_for (passes_of rfl) rfl (pi_seqU (pv 2)) (pg_tup rfl (pgs_cons (pg_name (i := 3) sc__law_parts.nd rfl (by first | exact .inl rfl | exact .inr rfl)) (pgs_cons (pg_name (i := 5) sc__law_parts.nd rfl (by first | exact .inl rfl | exact .inr rfl)) pgs_nil))) (pss_one (ps_if (pt_cmpR (op_eqU hr.u64) (pe_lc rfl sc__law_parts.nd (pi_range2 (by rfl) (fr_range c) (pa_cons (pe_op op_addU (pv 3) pe_int) (pa_cons (pv 5) pa_nil))) (blkOk_by (N := N__law_parts) (sc := defScope s__law_parts) (own := [("middle", 6)]) (by decide +kernel)) (fun _ _ _ _ _ => (pg_name (i := 6) sc__law_parts.nd rfl (by first | exact .inl rfl | exact .inr rfl))) (fun _ _ _ _ _ => (pts_one (PW.pt (pw_and (pt_cmpR (show OpR _ _ (rInV K w) from (op_inV hr.u65)) (pe_tup (pa_cons (pv 3) (pa_cons (pv 6) pa_nil))) (pv 2) (by with_unfolding_all rfl)) (pw_and1 (pt_cmpR (show OpR _ _ (rInV K w) from (op_inV hr.u65)) (pe_tup (pa_cons (pv 6) (pa_cons (pv 5) pa_nil))) (pv 2) (by with_unfolding_all rfl))))))) (fun _ _ _ _ _ => (pv 6))) (pe_lst pa_nil) (nomark _)) (pss_one (ps_expr (pe_bm PySem.F.plainAttrs_list PySem.F.slot_list_append PySem.F.type_list_append mt_append (pv 4) (pa_cons (pe_tup (pa_cons (pv 3) (pa_cons (pv 5) pa_nil))) pa_nil)))) pss_nil))) (pss_one (ps_ret (pv 4))))))),
    (ds_seq (ds_tupV2 (i := 1) (j := 2) (dvs_cons (dv (de_call (da_cons (de_var 0) da_nil))) (dvs_cons (dv_lst da_nil) dvs_nil))) (ds_seq (ds_for (di_rng1 (da_cons (de_cb n_len (dp_cons ((de_var 1)).q dp_nil)) da_nil)) (dg_name 3) (ds_for (di_rng2 (da_cons (de_op o_add ((de_var 3)).q (de_int).q) (da_cons (de_cb n_len (dp_cons ((de_var 1)).q dp_nil)) da_nil))) (dg_name 5) (ds_if (dt_tru ((de_call (da_cons (de_var 1) (da_cons (de_var 3) (da_cons (de_var 5) da_nil))))).q) (ds_app 2 (de_tup (da_cons (de_var 3) (da_cons (de_var 5) da_nil)))) ds_nil))) (ds_seq (ds_set (i := 4) (dv_lst da_nil)) (ds_frz 2 (ds_seq (ds_for (di_seqU (de_var 2)) (dg_tup (dgs_cons (dg_name 3) (dgs_cons (dg_name 5) dgs_nil))) (ds_if (dt_test (de_op o_eq ((de_lc (di_rng2 (da_cons (de_op o_add ((de_var 3)).q (de_int).q) (da_cons (de_var 5) da_nil))) (dg_name 6) (dt_and (dt_test (de_op o_inV ((de_tup (da_cons (de_var 3) (da_cons (de_var 6) da_nil)))).q (dq_var 2))) (dt_test (de_op o_inV ((de_tup (da_cons (de_var 6) (da_cons (de_var 5) da_nil)))).q (dq_var 2)))) (de_var 6) (by decide))).q ((de_lst da_nil)).q)) (ds_app 4 (de_tup (da_cons (de_var 3) (da_cons (de_var 5) da_nil)))) ds_nil)) (ds_frz 4 (ds_ret (de_var 4))))))))⟩

noncomputable def den__law_home : DS :=
  (sSeq (sSet 2 (dvV (fun ρ m => (dLc (dSeqU (dVar 0)) (hName 4) ((dTest (dChain (cmpD fun i j => decide (i ≤ j)) (cmpD fun i j => decide (i < j)) (dOp ixV (dVar 4) (dC (.int 0))) (dVar 1) (dOp ixV (dVar 4) (dC (.int 1)))))) (dVar 4) [4] ρ m).map .lst)))
    (sSeq (sSet 3 (dvV (fun ρ m => (dLc (dSeqU (dVar 2)) (hName 4) (fun _ m => .ok true m) (dOp subD (dOp ixV (dVar 4) (dC (.int 1))) (dOp ixV (dVar 4) (dC (.int 0)))) [4] ρ m).map .lst)))
    (sRet (dOp ixV (dVar 2) (dIndex (dVar 3) (dCB (bestLD false) (dCons (dVar 3) dNil)))))))
noncomputable def F__law_home : DF := runD 5 den__law_home
theorem fn__law_home (c : CC P K mg base) : FnA P w K mg base 1 (He.ga K "_law_home") (spD (GG w K) 2 F__law_home) := by
  obtain ⟨fd, F⟩ := c.d.def_ 40 (d := d__law_home) rfl
  exact fnD (funD_fun (st := s__law_home) F) sc__law_home (FunD.bindsN F fun _ _ _ _ _ _ us hl => match us, hl with | [_, _], _ => rfl) fun cdv A out s H E hr => ⟨_,
    (pss_cons (ps_setLc (i := 2) rfl sc__law_home.nd rfl rfl rfl (pi_seqU (pv 0)) (blkOk_by (N := N__law_home) (sc := defScope s__law_home) (own := [("part", 4)]) (by decide +kernel)) (fun _ _ _ _ _ => (pg_name (i := 4) sc__law_home.nd rfl (by first | exact .inl rfl | exact .inr rfl))) (fun _ _ _ _ _ => (pts_one (pt_chain op_le op_lt (pe_ix (show IxR _ (rIxV K w) from ix_V hr.u10) (pv 4) pe_int (fun _ _ => rfl)) (pv 1) (pe_ix (show IxR _ (rIxV K w) from ix_V hr.u10) (pv 4) pe_int (fun _ _ => rfl))))) (fun _ _ _ _ _ => (pv 4))) (pss_cons (ps_setLc (i := 3) rfl sc__law_home.nd rfl rfl rfl (pi_seqU (pv 2)) (blkOk_by (N := N__law_home) (sc := defScope s__law_home) (own := [("part", 4)]) (by decide +kernel)) (fun _ _ _ _ _ => (pg_name (i := 4) sc__law_home.nd rfl (by first | exact .inl rfl | exact .inr rfl))) (fun _ _ _ _ _ => pts_nil) (fun _ _ _ _ _ => (pe_op op_sub (pe_ix (show IxR _ (rIxV K w) from ix_V hr.u10) (pv 4) pe_int (fun _ _ => rfl)) (pe_ix (show IxR _ (rIxV K w) from ix_V hr.u10) (pv 4) pe_int (fun _ _ => rfl))))) (pss_one (ps_ret (pe_ix (ix_V hr.u10) (pv 2) (pe_bm PySem.F.plainAttrs_list PySem.F.slot_list_index PySem.F.type_list_index mt_index (pv 3) (pa_cons (pe_callB (call_minU rfl hr.u200) (by rfl) (fr_min c) PyProof.Rows.boot_min (pa_cons (pv 3) pa_nil)) pa_nil)) (fun _ _ => rfl)))))),
    (ds_seq (ds_set (i := 2) (dv (de_lc (di_seqU (de_var 0)) (dg_name 4) (dt_test (de_chain (o_cmp fun i j => decide (i ≤ j)) (o_cmp fun i j => decide (i < j)) ((de_op o_ixV ((de_var 4)).q (de_int).q)).q ((de_var 1)).q ((de_op o_ixV ((de_var 4)).q (de_int).q)).q)) (de_var 4) (by decide)))) (ds_seq (ds_set (i := 3) (dv (de_lc (di_seqU (de_var 2)) (dg_name 4) dt_yes (de_op o_sub ((de_op o_ixV ((de_var 4)).q (de_int).q)).q ((de_op o_ixV ((de_var 4)).q (de_int).q)).q) (by decide)))) (ds_ret (de_op o_ixV ((de_var 2)).q ((de_index (de_var 3) (de_cb n_best (dp_cons ((de_var 3)).q dp_nil)))).q))))⟩

noncomputable def den__law_is_unfaced_b1 : DS :=
  (sIf (dAnd (dTest (dOp eqD (dCall 2 F__law_home (dCons (dVar 1) (dCons (dVar 5) dNil))) (dVar 2))) (dNot (dTru (dCall 2 F__law_right_at (dCons (dVar 3) (dCons (dVar 5) dNil)))))) (sApp 4 (dLst (dCons (dOp (cmpD fun i j => decide (i < j)) (dOp ixV (dVar 3) (dVar 5)) (dC (.int 0))) (dCons (dOp (cmpD fun i j => decide (i < j)) (dOp ixV (dVar 3) (dOp addD (dVar 5) (dC (.int 1)))) (dC (.int 0))) dNil)))) sNx)
noncomputable def den__law_is_unfaced : DS :=
  (sSeq (sParV [3, 4] (dvsCons (dvV (dCall 1 F__law_framed (dCons (dVar 0) dNil))) (dvsCons (dvLst dNil) dvsNil)))
    (sSeq (sFor (dRng2 (dCons (dOp ixV (dVar 2) (dC (.int 0))) (dCons (dOp ixV (dVar 2) (dC (.int 1))) dNil))) (hName 5) den__law_is_unfaced_b1)
    (sRet (dAndV (dOp neD (dPeek 4) (dLst dNil)) (dOp inTD (dPeek 4) (dTup (dCons (dOp mulD (dLst (dCons (dLst (dCons (dC (.bl true)) (dCons (dC (.bl true)) dNil))) dNil)) (dCB lenD (dCons (dPeek 4) dNil))) (dCons (dOp mulD (dLst (dCons (dLst (dCons (dC (.bl false)) (dCons (dC (.bl false)) dNil))) dNil)) (dCB lenD (dCons (dPeek 4) dNil))) dNil))))))))
noncomputable def F__law_is_unfaced : DF := runD 6 den__law_is_unfaced
theorem fn__law_is_unfaced (c : CC P K mg base) : FnA P w K mg base 2 (He.ga K "_law_is_unfaced") (spD (GG w K) 3 F__law_is_unfaced) := by
  obtain ⟨fd, F⟩ := c.d.def_ 41 (d := d__law_is_unfaced) rfl
  exact fnD (funD_fun (st := s__law_is_unfaced) F) sc__law_is_unfaced (FunD.bindsN F fun _ _ _ _ _ _ us hl => match us, hl with | [_, _, _], _ => rfl) fun cdv A out s H E hr => ⟨_,
    (pss_cons (ps_par (i := 3) (j := 4) rfl sc__law_is_unfaced.nd rfl rfl (by decide) rfl rfl (pa_cons (pe_callA (fn__law_framed (w := w) c) (hr.less (by decide)) (by rfl) (gl__law_framed c) (kp__law_framed c) pss0 (pa_cons (pv 0) pa_nil)) (pa_cons (pe_lst pa_nil) pa_nil)) rfl) (pss_cons (ps_for (passes_of rfl) rfl (pi_range2 (by rfl) (fr_range c) (pa_cons (pe_ix (ix_V hr.u10) (pv 2) pe_int (fun _ _ => rfl)) (pa_cons (pe_ix (ix_V hr.u10) (pv 2) pe_int (fun _ _ => rfl)) pa_nil))) (pg_name (i := 5) sc__law_is_unfaced.nd rfl (by first | exact .inl rfl | exact .inr rfl)) (pss_one (ps_if (PW.pt (pw_and (pt_cmpR (op_eqU hr.u64) (pe_callA (fn__law_home (w := w) c) (hr.less (by decide)) (by rfl) (gl__law_home c) (kp__law_home c) pss0 (pa_cons (pv 1) (pa_cons (pv 5) pa_nil))) (pv 2) (nomark _)) (pw_and1 (pt_not (pt_truth (pe_callA (fn__law_right_at (w := w) c) (hr.less (by decide)) (by rfl) (gl__law_right_at c) (kp__law_right_at c) pss0 (pa_cons (pv 3) (pa_cons (pv 5) pa_nil))) (by intro _; rfl)))))) (pss_one (ps_expr (pe_bm PySem.F.plainAttrs_list PySem.F.slot_list_append PySem.F.type_list_append mt_append (pv 4) (pa_cons (pe_lst (pa_cons (pe_cmpR op_lt (pe_ix (ix_V hr.u10) (pv 3) (pv 5) (fun _ _ => rfl)) pe_int (nomark _)) (pa_cons (pe_cmpR op_lt (pe_ix (ix_V hr.u10) (pv 3) (pe_op op_addU (pv 5) pe_int) (fun _ _ => rfl)) pe_int (nomark _)) pa_nil))) pa_nil)))) pss_nil))) (pss_one (ps_ret (pe_and (pe_cmpR (op_neU hr.u64) (pv 4) (pe_lst pa_nil) (nomark _)) (pe_one (pe_cmpR (op_inT hr.u65) (pv 4) (pe_tup (pa_cons (pe_op op_mulU (pe_lst (pa_cons (pe_lst (pa_cons pe_bl (pa_cons pe_bl pa_nil))) pa_nil)) (pe_callB call_lenU (by rfl) (fr_len c) PySem.boot_len (pa_cons (pv 4) pa_nil))) (pa_cons (pe_op op_mulU (pe_lst (pa_cons (pe_lst (pa_cons pe_bl (pa_cons pe_bl pa_nil))) pa_nil)) (pe_callB call_lenU (by rfl) (fr_len c) PySem.boot_len (pa_cons (pv 4) pa_nil))) pa_nil))) (by with_unfolding_all rfl)))))))),
    (ds_seq (ds_parV2 (i := 3) (j := 4) (dvs_cons (dv (de_call (da_cons (de_var 0) da_nil))) (dvs_cons (dv_lst da_nil) dvs_nil))) (ds_seq (ds_for (di_rng2 (da_cons (de_op o_ixV ((de_var 2)).q (de_int).q) (da_cons (de_op o_ixV ((de_var 2)).q (de_int).q) da_nil))) (dg_name 5) (ds_if (dt_and (dt_test (de_op o_eq ((de_call (da_cons (de_var 1) (da_cons (de_var 5) da_nil)))).q ((de_var 2)).q)) (dt_not (dt_tru ((de_call (da_cons (de_var 3) (da_cons (de_var 5) da_nil)))).q))) (ds_app 4 (de_lst (da_cons (de_op (o_cmp fun i j => decide (i < j)) ((de_op o_ixV ((de_var 3)).q ((de_var 5)).q)).q (de_int).q) (da_cons (de_op (o_cmp fun i j => decide (i < j)) ((de_op o_ixV ((de_var 3)).q ((de_op o_add ((de_var 5)).q (de_int).q)).q)).q (de_int).q) da_nil)))) ds_nil)) (ds_ret (de_and (de_op o_ne (dq_var 4) ((de_lst da_nil)).q) (de_op o_inT (dq_var 4) ((de_tup (da_cons (de_op o_mul ((de_lst (da_cons (de_lst (da_cons de_bl (da_cons de_bl da_nil))) da_nil))).q ((de_cb n_len (dp_cons (dq_var 4) dp_nil))).q) (da_cons (de_op o_mul ((de_lst (da_cons (de_lst (da_cons de_bl (da_cons de_bl da_nil))) da_nil))).q ((de_cb n_len (dp_cons (dq_var 4) dp_nil))).q) da_nil)))).q)))))⟩

noncomputable def den__law_unfaced : DS :=
  (sSeq (sSet 1 (dvV (dCall 1 F__law_parts (dCons (dVar 0) dNil))))
    (sRet (fun ρ m => (dLc (dSeqU (dVar 1)) (hName 2) ((dTru (dCall 3 F__law_is_unfaced (dCons (dVar 0) (dCons (dVar 1) (dCons (dVar 2) dNil)))))) (dVar 2) [2] ρ m).map .lst)))
noncomputable def F__law_unfaced : DF := runD 3 den__law_unfaced
theorem fn__law_unfaced (c : CC P K mg base) : FnA P w K mg base 3 (He.ga K "_law_unfaced") (spD (GG w K) 1 F__law_unfaced) := by
  obtain ⟨fd, F⟩ := c.d.def_ 42 (d := d__law_unfaced) rfl
  exact fnD (funD_fun (st := s__law_unfaced) F) sc__law_unfaced (FunD.bindsN F fun _ _ _ _ _ _ us hl => match us, hl with | [_], _ => rfl) fun cdv A out s H E hr => ⟨_,
    (pss_cons (ps_set (i := 1) sc__law_unfaced.nd rfl (by first | exact .inl rfl | exact .inr rfl) (pe_callA (fn__law_parts (w := w) c) (hr.less (by decide)) (by rfl) (gl__law_parts c) (kp__law_parts c) pss0 (pa_cons (pv 0) pa_nil))) (pss_one (ps_ret (pe_lc rfl sc__law_unfaced.nd (pi_seqU (pv 1)) (blkOk_by (N := N__law_unfaced) (sc := defScope s__law_unfaced) (own := [("part", 2)]) (by decide +kernel)) (fun _ _ _ _ _ => (pg_name (i := 2) sc__law_unfaced.nd rfl (by first | exact .inl rfl | exact .inr rfl))) (fun _ _ _ _ _ => (pts_one (show PT _ _ (tTruK K _) from (pt_truth (pe_callA (fn__law_is_unfaced (w := w) c) (hr.less (by decide)) (by rfl) (gl__law_is_unfaced c) (kp__law_is_unfaced c) passL (pa_cons (pv 0) (pa_cons (pv 1) (pa_cons (pv 2) pa_nil)))) (by intro _; rfl))))) (fun _ _ _ _ _ => (pv 2)))))),
    (ds_seq (ds_set (i := 1) (dv (de_call (da_cons (de_var 0) da_nil)))) (ds_ret (de_lc (di_seqU (de_var 1)) (dg_name 2) (dt_tru ((de_call (da_cons (de_var 0) (da_cons (de_var 1) (da_cons (de_var 2) da_nil))))).q) (de_var 2) (by decide))))⟩

noncomputable def den__law_links_b1 : DS :=
  (sSeq (sSet 4 (dvV (fun ρ m => (dLc (dSeqU (dVar 0)) (hName 7) ((dTest (dOp eqD (dOp ixV (dVar 7) (dC (.int 0))) (dOp ixV (dOp ixV (dVar 3) (dUn negD (dC (.int 1)))) (dC (.int 1)))))) (dVar 7) [7] ρ m).map .lst)))
    (sSet 3 (dvV (dOp addD (dVar 3) (dVar 4)))))
noncomputable def den__law_links_b2 : DS :=
  (sPutU 1 (dOp addD (dGetU (dPeek 1) (dVar 6) (dLst dNil)) (dLst (dCons (dCB toTup (dCons (dVar 3) dNil)) dNil))) (dVar 6))
noncomputable def den__law_links_b3 : DS :=
  (sIf (dTest (dOp eqD (fun ρ m => (dLc (dSeqU (dVar 0)) (hName 7) ((dTest (dOp eqD (dOp ixV (dVar 7) (dC (.int 1))) (dOp ixV (dVar 2) (dC (.int 0)))))) (dVar 7) [7] ρ m).map .lst) (dLst dNil))) (sSeq (sAsg (dTup (dCons (dLst (dCons (dVar 2) dNil)) (dCons (dLst (dCons (dVar 2) dNil)) dNil))) (hTup 2 (hCons (hName 3) (hCons (hName 4) hNil))))
    (sSeq (whileD (dTest (dOp neD (dVar 4) (dLst dNil))) den__law_links_b1 200)
    (sSeq (sSet 5 (dvV (fun ρ m => (dLc (dSeqU (dVar 0)) (hName 7) ((dAnd (dTest (dOp (cmpD fun i j => decide (i < j)) (dOp ixV (dVar 7) (dC (.int 0))) (dOp ixV (dVar 2) (dC (.int 0))))) (dTest (dOp (cmpD fun i j => decide (i < j)) (dOp ixV (dOp ixV (dVar 3) (dUn negD (dC (.int 1)))) (dC (.int 1))) (dOp ixV (dVar 7) (dC (.int 1))))))) (dVar 7) [7] ρ m).map .lst)))
    (sSeq (sSet 5 (dvV (fun ρ m => (dLc (dSeqU (dVar 5)) (hName 7) ((dTest (dOp eqD (dOp subD (dOp ixV (dVar 7) (dC (.int 1))) (dOp ixV (dVar 7) (dC (.int 0)))) (dCB (bestLD false) (dCons (fun ρ m => (dLc (dSeqU (dVar 5)) (hName 8) (fun _ m => .ok true m) (dOp subD (dOp ixV (dVar 8) (dC (.int 1))) (dOp ixV (dVar 8) (dC (.int 0)))) [8] ρ m).map .lst) dNil))))) (dVar 7) [7] ρ m).map .lst)))
    (sSeq (sPutU 1 (dOp addD (dVar 3) (dVar 5)) (dCB toTup (dCons (dVar 3) dNil)))
    (sFor (dSeqU (dOp addD (dVar 3) (dVar 5))) (hName 6) den__law_links_b2)))))) sNx)
noncomputable def den__law_links : DS :=
  (sSeq (sSet 1 dvNewN)
    (sSeq (sFor (dSeqU (dVar 0)) (hName 2) den__law_links_b3)
    (sFrz 1 (sRet (dVar 1)))))
noncomputable def F__law_links : DF := runD 9 den__law_links
theorem fn__law_links (c : CC P K mg base) : FnA P w K mg base 1 (He.ga K "_law_links") (spD (GG w K) 1 F__law_links) := by
  obtain ⟨fd, F⟩ := c.d.def_ 43 (d := d__law_links) rfl
  exact fnD (funD_fun (st := s__law_links) F) sc__law_links (FunD.bindsN F fun _ _ _ _ _ _ us hl => match us, hl with | [_], _ => rfl) fun cdv A out s H E hr => ⟨_,
    (pss_cons (ps_set (i := 1) sc__law_links.nd rfl (by first | exact .inl rfl | exact .inr rfl) pe_dnewN) (pss_cons (ps_for (passes_of rfl) rfl (pi_seqU (pv 0)) (pg_name (i := 2) sc__law_links.nd rfl (by first | exact .inl rfl | exact .inr rfl)) (pss_one (ps_if (pt_cmpR (op_eqU hr.u64) (pe_lc rfl sc__law_links.nd (pi_seqU (pv 0)) (blkOk_by (N := N__law_links) (sc := defScope s__law_links) (own := [("other", 7)]) (by decide +kernel)) (fun _ _ _ _ _ => (pg_name (i := 7) sc__law_links.nd rfl (by first | exact .inl rfl | exact .inr rfl))) (fun _ _ _ _ _ => (pts_one (pt_cmpR (show OpR _ _ (rEqU K) from (op_eqU hr.u64)) (pe_ix (show IxR _ (rIxV K w) from ix_V hr.u10) (pv 7) pe_int (fun _ _ => rfl)) (pe_ix (show IxR _ (rIxV K w) from ix_V hr.u10) (pv 2) pe_int (fun _ _ => rfl)) (nomark _)))) (fun _ _ _ _ _ => (pv 7))) (pe_lst pa_nil) (nomark _)) (pss_cons (ps_asg (pe_tup (pa_cons (pe_lst (pa_cons (pv 2) pa_nil)) (pa_cons (pe_lst (pa_cons (pv 2) pa_nil)) pa_nil))) (pg_tup rfl (pgs_cons (pg_name (i := 3) sc__law_links.nd rfl (by first | exact .inl rfl | exact .inr rfl)) (pgs_cons (pg_name (i := 4) sc__law_links.nd rfl (by first | exact .inl rfl | exact .inr rfl)) pgs_nil)))) (pss_cons (ps_while (passes_of rfl) (pt_cmpR (op_neU hr.u64) (pv 4) (pe_lst pa_nil) (nomark _)) (pss_cons (ps_setLc (i := 4) rfl sc__law_links.nd rfl rfl rfl (pi_seqU (pv 0)) (blkOk_by (N := N__law_links) (sc := defScope s__law_links) (own := [("other", 7)]) (by decide +kernel)) (fun _ _ _ _ _ => (pg_name (i := 7) sc__law_links.nd rfl (by first | exact .inl rfl | exact .inr rfl))) (fun _ _ _ _ _ => (pts_one (pt_cmpR (show OpR _ _ (rEqU K) from (op_eqU hr.u64)) (pe_ix (show IxR _ (rIxV K w) from ix_V hr.u10) (pv 7) pe_int (fun _ _ => rfl)) (pe_ix (show IxR _ (rIxV K w) from ix_V hr.u10) (pe_ix (show IxR _ (rIxV K w) from ix_V hr.u10) (pv 3) (pe_un un_neg pe_int) (fun _ _ => rfl)) pe_int (fun _ _ => rfl)) (nomark _)))) (fun _ _ _ _ _ => (pv 7))) (pss_one (ps_set (i := 3) sc__law_links.nd rfl (by first | exact .inl rfl | exact .inr rfl) (pe_op op_addU (pv 3) (pv 4)))))) (pss_cons (ps_set (i := 5) sc__law_links.nd rfl (by first | exact .inl rfl | exact .inr rfl) (pe_lc rfl sc__law_links.nd (pi_seqU (pv 0)) (blkOk_by (N := N__law_links) (sc := defScope s__law_links) (own := [("other", 7)]) (by decide +kernel)) (fun _ _ _ _ _ => (pg_name (i := 7) sc__law_links.nd rfl (by first | exact .inl rfl | exact .inr rfl))) (fun _ _ _ _ _ => (pts_one (PW.pt (pw_and (pt_cmpR op_lt (pe_ix (show IxR _ (rIxV K w) from ix_V hr.u10) (pv 7) pe_int (fun _ _ => rfl)) (pe_ix (show IxR _ (rIxV K w) from ix_V hr.u10) (pv 2) pe_int (fun _ _ => rfl)) (nomark _)) (pw_and1 (pt_cmpR op_lt (pe_ix (show IxR _ (rIxV K w) from ix_V hr.u10) (pe_ix (show IxR _ (rIxV K w) from ix_V hr.u10) (pv 3) (pe_un un_neg pe_int) (fun _ _ => rfl)) pe_int (fun _ _ => rfl)) (pe_ix (show IxR _ (rIxV K w) from ix_V hr.u10) (pv 7) pe_int (fun _ _ => rfl)) (nomark _))))))) (fun _ _ _ _ _ => (pv 7)))) (pss_cons (ps_set (i := 5) sc__law_links.nd rfl (by first | exact .inl rfl | exact .inr rfl) (pe_lc rfl sc__law_links.nd (pi_seqU (pv 5)) (blkOk_by (N := N__law_links) (sc := defScope s__law_links) (own := [("other", 7)]) (by decide +kernel)) (fun _ _ _ _ _ => (pg_name (i := 7) sc__law_links.nd rfl (by first | exact .inl rfl | exact .inr rfl))) (fun _ _ _ _ _ => (pts_one (pt_cmpR (show OpR _ _ (rEqU K) from (op_eqU hr.u64)) (pe_op op_sub (pe_ix (show IxR _ (rIxV K w) from ix_V hr.u10) (pv 7) pe_int (fun _ _ => rfl)) (pe_ix (show IxR _ (rIxV K w) from ix_V hr.u10) (pv 7) pe_int (fun _ _ => rfl))) (pe_callB (show CallR _ _ (rBest K false) from call_minU rfl hr.u200) (by rfl) (fr_min c) PyProof.Rows.boot_min (pa_cons (pe_lc rfl sc__law_links.nd (pi_seqU (pv 5)) (blkOk_in (blkOk_by (N := N__law_links) (own := [("one", 8)]) (by decide +kernel))) (fun _ _ _ _ _ => (pg_name (i := 8) sc__law_links.nd rfl (by first | exact .inl rfl | exact .inr rfl))) (fun _ _ _ _ _ => pts_nil) (fun _ _ _ _ _ => (pe_op op_sub (pe_ix (show IxR _ (rIxV K w) from ix_V hr.u10) (pv 8) pe_int (fun _ _ => rfl)) (pe_ix (show IxR _ (rIxV K w) from ix_V hr.u10) (pv 8) pe_int (fun _ _ => rfl))))) pa_nil)) (nomark _)))) (fun _ _ _ _ _ => (pv 7)))) (pss_cons (ps_asg (pe_op op_addU (pv 3) (pv 5)) (pg_sub (pv 1) (pe_callTy (call_tuple_of) (by rfl) (fr_tuple c) PyProof.Rows.boot_tuple (pa_cons (pv 3) pa_nil)) (set_V hr.u10))) (pss_one (ps_for (passes_of rfl) rfl (pi_seqU (pe_op op_addU (pv 3) (pv 5))) (pg_name (i := 6) sc__law_links.nd rfl (by first | exact .inl rfl | exact .inr rfl)) (pss_one (ps_asg (pe_op op_addU (pe_dgetU2 hr.u10 (pv 1) (pv 6) (pe_lst pa_nil) ⟨rfl, rfl, rfl, rfl⟩) (pe_lst (pa_cons (pe_callTy (call_tuple_of) (by rfl) (fr_tuple c) PyProof.Rows.boot_tuple (pa_cons (pv 3) pa_nil)) pa_nil))) (pg_sub (pv 1) (pv 6) (set_V hr.u10))))))))))) pss_nil))) (pss_one (ps_ret (pv 1))))),
    (ds_seq (ds_set (i := 1) dv_dnewN) (ds_seq (ds_for (di_seqU (de_var 0)) (dg_name 2) (ds_if (dt_test (de_op o_eq ((de_lc (di_seqU (de_var 0)) (dg_name 7) (dt_test (de_op o_eq ((de_op o_ixV ((de_var 7)).q (de_int).q)).q ((de_op o_ixV ((de_var 2)).q (de_int).q)).q)) (de_var 7) (by decide))).q ((de_lst da_nil)).q)) (ds_seq (ds_asg (de_tup (da_cons (de_lst (da_cons (de_var 2) da_nil)) (da_cons (de_lst (da_cons (de_var 2) da_nil)) da_nil))) (dg_tup (dgs_cons (dg_name 3) (dgs_cons (dg_name 4) dgs_nil)))) (ds_seq (ds_while 200 (dt_test (de_op o_ne ((de_var 4)).q ((de_lst da_nil)).q)) (ds_seq (ds_set (i := 4) (dv (de_lc (di_seqU (de_var 0)) (dg_name 7) (dt_test (de_op o_eq ((de_op o_ixV ((de_var 7)).q (de_int).q)).q ((de_op o_ixV ((de_op o_ixV ((de_var 3)).q ((de_un o_neg de_int.q)).q)).q (de_int).q)).q)) (de_var 7) (by decide)))) (ds_set (i := 3) (dv (de_op o_add ((de_var 3)).q ((de_var 4)).q))))) (ds_seq (ds_set (i := 5) (dv (de_lc (di_seqU (de_var 0)) (dg_name 7) (dt_and (dt_test (de_op (o_cmp fun i j => decide (i < j)) ((de_op o_ixV ((de_var 7)).q (de_int).q)).q ((de_op o_ixV ((de_var 2)).q (de_int).q)).q)) (dt_test (de_op (o_cmp fun i j => decide (i < j)) ((de_op o_ixV ((de_op o_ixV ((de_var 3)).q ((de_un o_neg de_int.q)).q)).q (de_int).q)).q ((de_op o_ixV ((de_var 7)).q (de_int).q)).q))) (de_var 7) (by decide)))) (ds_seq (ds_set (i := 5) (dv (de_lc (di_seqU (de_var 5)) (dg_name 7) (dt_test (de_op o_eq ((de_op o_sub ((de_op o_ixV ((de_var 7)).q (de_int).q)).q ((de_op o_ixV ((de_var 7)).q (de_int).q)).q)).q ((de_cb n_best (dp_cons ((de_lc (di_seqU (de_var 5)) (dg_name 8) dt_yes (de_op o_sub ((de_op o_ixV ((de_var 8)).q (de_int).q)).q ((de_op o_ixV ((de_var 8)).q (de_int).q)).q) (by decide))).q dp_nil))).q)) (de_var 7) (by decide)))) (ds_seq (ds_putU 1 (de_op o_add ((de_var 3)).q ((de_var 5)).q) (de_cb n_tuple (dp_cons ((de_var 3)).q dp_nil))) (ds_for (di_seqU (de_op o_add ((de_var 3)).q ((de_var 5)).q)) (dg_name 6) (ds_putU 1 (de_op o_add ((de_getU (dq_var 1) ((de_var 6)).q (de_lst da_nil))).q ((de_lst (da_cons (de_cb n_tuple (dp_cons ((de_var 3)).q dp_nil)) da_nil))).q) (de_var 6)))))))) ds_nil)) (ds_frz 1 (ds_ret (de_var 1)))))⟩

noncomputable def den__law_reached_b1 : DS :=
  (sIf (dAnd (dTest (dOp neD (dVar 6) (dVar 2))) (dTest (dOp (inV true) (dVar 6) (dPeek 3)))) (sSeq (sApp 3 (dVar 6))
    (sApp 4 (dVar 6))) sNx)
noncomputable def den__law_reached_b2 : DS :=
  (sSeq (sSetX 5 (xPop0 4))
    (sFor (dSeqU (dOp ixV (dVar 0) (dVar 5))) (hName 6) den__law_reached_b1))
noncomputable def den__law_reached : DS :=
  (sSeq (sParV [3, 4] (dvsCons (dvLst (dCons (dVar 1) dNil)) (dvsCons (dvLst (dCons (dVar 1) dNil)) dvsNil)))
    (sSeq (whileD (dTest (dOp neD (dPeek 4) (dLst dNil))) den__law_reached_b2 200)
    (sFrz 3 (sRet (dVar 3)))))
noncomputable def F__law_reached : DF := runD 7 den__law_reached
theorem fn__law_reached (c : CC P K mg base) : FnA P w K mg base 1 (He.ga K "_law_reached") (spD (GG w K) 3 F__law_reached) := by
  obtain ⟨fd, F⟩ := c.d.def_ 44 (d := d__law_reached) rfl
  exact fnD (funD_fun (st := s__law_reached) F) sc__law_reached (FunD.bindsN F fun _ _ _ _ _ _ us hl => match us, hl with | [_, _, _], _ => rfl) fun cdv A out s H E hr => ⟨_,
    (pss_cons (ps_par (i := 3) (j := 4) rfl sc__law_reached.nd rfl rfl (by decide) rfl rfl (pa_cons (pe_lst (pa_cons (pv 1) pa_nil)) (pa_cons (pe_lst (pa_cons (pv 1) pa_nil)) pa_nil)) rfl) (pss_cons (ps_while (passes_of rfl) (pt_cmpR (op_neU hr.u64) (pv 4) (pe_lst pa_nil) (nomark _)) (pss_cons (ps_set (i := 5) sc__law_reached.nd rfl (by first | exact .inl rfl | exact .inr rfl) (pe_bm0 PySem.F.plainAttrs_list PySem.F.slot_list_pop PySem.F.type_list_pop mt_pop (pv 4))) (pss_one (ps_for (passes_of rfl) rfl (pi_seqU (pe_ix (ix_V hr.u10) (pv 0) (pv 5) (fun _ _ => rfl))) (pg_name (i := 6) sc__law_reached.nd rfl (by first | exact .inl rfl | exact .inr rfl)) (pss_one (ps_if (PW.pt (pw_and (pt_cmpR (op_neU hr.u64) (pv 6) (pv 2) (nomark _)) (pw_and1 (pt_cmpR (op_notInV hr.u65) (pv 6) (pv 3) (by with_unfolding_all rfl))))) (pss_cons (ps_expr (pe_bm PySem.F.plainAttrs_list PySem.F.slot_list_append PySem.F.type_list_append mt_append (pv 3) (pa_cons (pv 6) pa_nil))) (pss_one (ps_expr (pe_bm PySem.F.plainAttrs_list PySem.F.slot_list_append PySem.F.type_list_append mt_append (pv 4) (pa_cons (pv 6) pa_nil))))) pss_nil)))))) (pss_one (ps_ret (pv 3))))),
    (ds_seq (ds_parV2 (i := 3) (j := 4) (dvs_cons (dv_lst (da_cons (de_var 1) da_nil)) (dvs_cons (dv_lst (da_cons (de_var 1) da_nil)) dvs_nil))) (ds_seq (ds_while 200 (dt_test (de_op o_ne (dq_var 4) ((de_lst da_nil)).q)) (ds_seq (ds_setX 5 (dx_pop0 4)) (ds_for (di_seqU (de_op o_ixV ((de_var 0)).q ((de_var 5)).q)) (dg_name 6) (ds_if (dt_and (dt_test (de_op o_ne ((de_var 6)).q ((de_var 2)).q)) (dt_test (de_op o_notInV ((de_var 6)).q (dq_var 3)))) (ds_seq (ds_app 3 (de_var 6)) (ds_app 4 (de_var 6))) ds_nil)))) (ds_frz 3 (ds_ret (de_var 3)))))⟩

noncomputable def den__law_is_leaf : DS :=
  (sSeq (sSet 3 (dvV (fun ρ m => (dLc (dSeqU (dVar 1)) (hName 5) ((dTest (dOp neD (dVar 5) (dVar 2)))) (dVar 5) [5] ρ m).map .lst)))
    (sSeq (sIf (dTest (dOp eqD (dVar 3) (dLst dNil))) (sRet (dC (.bl true))) sNx)
    (sSeq (sSet 4 (dvV (dCall 3 F__law_reached (dCons (dVar 0) (dCons (dOp ixV (dVar 3) (dC (.int 0))) (dCons (dVar 2) dNil))))))
    (sRet (dOp eqD (fun ρ m => (dLc (dSeqU (dVar 3)) (hName 5) ((dTest (dOp (inV true) (dVar 5) (dVar 4)))) (dVar 5) [5] ρ m).map .lst) (dLst dNil))))))
noncomputable def F__law_is_leaf : DF := runD 6 den__law_is_leaf
theorem fn__law_is_leaf (c : CC P K mg base) : FnA P w K mg base 2 (He.ga K "_law_is_leaf") (spD (GG w K) 3 F__law_is_leaf) := by
  obtain ⟨fd, F⟩ := c.d.def_ 45 (d := d__law_is_leaf) rfl
  exact fnD (funD_fun (st := s__law_is_leaf) F) sc__law_is_leaf (FunD.bindsN F fun _ _ _ _ _ _ us hl => match us, hl with | [_, _, _], _ => rfl) fun cdv A out s H E hr => ⟨_,
    (pss_cons (ps_setLc (i := 3) rfl sc__law_is_leaf.nd rfl rfl rfl (pi_seqU (pv 1)) (blkOk_by (N := N__law_is_leaf) (sc := defScope s__law_is_leaf) (own := [("one", 5)]) (by decide +kernel)) (fun _ _ _ _ _ => (pg_name (i := 5) sc__law_is_leaf.nd rfl (by first | exact .inl rfl | exact .inr rfl))) (fun _ _ _ _ _ => (pts_one (pt_cmpR (show OpR _ _ (rNeU K) from (op_neU hr.u64)) (pv 5) (pv 2) (nomark _)))) (fun _ _ _ _ _ => (pv 5))) (pss_cons (ps_if (pt_cmpR (op_eqU hr.u64) (pv 3) (pe_lst pa_nil) (nomark _)) (pss_one (ps_ret pe_bl)) pss_nil) (pss_cons (ps_set (i := 4) sc__law_is_leaf.nd rfl (by first | exact .inl rfl | exact .inr rfl) (pe_callA (fn__law_reached (w := w) c) (hr.less (by decide)) (by rfl) (gl__law_reached c) (kp__law_reached c) pss0 (pa_cons (pv 0) (pa_cons (pe_ix (ix_V hr.u10) (pv 3) pe_int (fun _ _ => rfl)) (pa_cons (pv 2) pa_nil))))) (pss_one (ps_ret (pe_cmpR (op_eqU hr.u64) (pe_lc rfl sc__law_is_leaf.nd (pi_seqU (pv 3)) (blkOk_by (N := N__law_is_leaf) (sc := defScope s__law_is_leaf) (own := [("one", 5)]) (by decide +kernel)) (fun _ _ _ _ _ => (pg_name (i := 5) sc__law_is_leaf.nd rfl (by first | exact .inl rfl | exact .inr rfl))) (fun _ _ _ _ _ => (pts_one (pt_cmpR (show OpR _ _ (rNotInV K w) from (op_notInV hr.u65)) (pv 5) (pv 4) (by with_unfolding_all rfl)))) (fun _ _ _ _ _ => (pv 5))) (pe_lst pa_nil) (nomark _))))))),
    (ds_seq (ds_set (i := 3) (dv (de_lc (di_seqU (de_var 1)) (dg_name 5) (dt_test (de_op o_ne ((de_var 5)).q ((de_var 2)).q)) (de_var 5) (by decide)))) (ds_seq (ds_if (dt_test (de_op o_eq ((de_var 3)).q ((de_lst da_nil)).q)) (ds_ret de_bl) ds_nil) (ds_seq (ds_set (i := 4) (dv (de_call (da_cons (de_var 0) (da_cons (de_op o_ixV ((de_var 3)).q (de_int).q) (da_cons (de_var 2) da_nil)))))) (ds_ret (de_op o_eq ((de_lc (di_seqU (de_var 3)) (dg_name 5) (dt_test (de_op o_notInV ((de_var 5)).q ((de_var 4)).q)) (de_var 5) (by decide))).q ((de_lst da_nil)).q)))))⟩

noncomputable def den__law_is_long_b1 : DS :=
  (sSeq (sSet 4 (dvV (fun ρ m => (dLc (dSeqU (dVar 1)) (hName 6) ((dTest (dOp notInTD (dVar 6) (dTup (dCons (dVar 3) (dCons (dVar 2) dNil)))))) (dVar 6) [6] ρ m).map .lst)))
    (sSeq (sSet 5 (dvV (dIf (dTest (dOp neD (dVar 3) (dVar 2))) (dCall 3 F__law_reached (dCons (dVar 0) (dCons (dVar 2) (dCons (dVar 3) dNil)))) (dVar 4))))
    (sIf (dAnd (dTest (dOp neD (dVar 3) (dVar 2))) (dTest (dOp eqD (fun ρ m => (dLc (dSeqU (dVar 4)) (hName 6) ((dTest (dOp (inV false) (dVar 6) (dVar 5)))) (dVar 6) [6] ρ m).map .lst) (dLst dNil)))) (sIf (dOr (dTest (dOp eqD (dVar 4) (dLst dNil))) (dTru (dCall 3 F__law_is_leaf (dCons (dVar 0) (dCons (dOp addD (dVar 4) (dLst (dCons (dVar 3) dNil))) (dCons (dVar 3) dNil)))))) (sRet (dC (.bl true))) sNx) sNx)))
noncomputable def den__law_is_long : DS :=
  (sSeq (sFor (dSeqU (dVar 1)) (hName 3) den__law_is_long_b1)
    (sRet (dC (.bl false))))
noncomputable def F__law_is_long : DF := runD 7 den__law_is_long
theorem fn__law_is_long (c : CC P K mg base) : FnA P w K mg base 3 (He.ga K "_law_is_long") (spD (GG w K) 3 F__law_is_long) := by
  obtain ⟨fd, F⟩ := c.d.def_ 46 (d := d__law_is_long) rfl
  exact fnD (funD_fun (st := s__law_is_long) F) sc__law_is_long (FunD.bindsN F fun _ _ _ _ _ _ us hl => match us, hl with | [_, _, _], _ => rfl) fun cdv A out s H E hr => ⟨_,
    (pss_cons (ps_for (passes_of rfl) rfl (pi_seqU (pv 1)) (pg_name (i := 3) sc__law_is_long.nd rfl (by first | exact .inl rfl | exact .inr rfl)) (pss_cons (ps_setLc (i := 4) rfl sc__law_is_long.nd rfl rfl rfl (pi_seqU (pv 1)) (blkOk_by (N := N__law_is_long) (sc := defScope s__law_is_long) (own := [("one", 6)]) (by decide +kernel)) (fun _ _ _ _ _ => (pg_name (i := 6) sc__law_is_long.nd rfl (by first | exact .inl rfl | exact .inr rfl))) (fun _ _ _ _ _ => (pts_one (pt_cmpR (show OpR _ _ (rNotInT K) from (op_notInT hr.u65)) (pv 6) (pe_tup (pa_cons (pv 3) (pa_cons (pv 2) pa_nil))) (by with_unfolding_all rfl)))) (fun _ _ _ _ _ => (pv 6))) (pss_cons (ps_set (i := 5) sc__law_is_long.nd rfl (by first | exact .inl rfl | exact .inr rfl) (pe_ifExp (pt_cmpR (op_neU hr.u64) (pv 3) (pv 2) (nomark _)) (pe_callA (fn__law_reached (w := w) c) (hr.less (by decide)) (by rfl) (gl__law_reached c) (kp__law_reached c) pss0 (pa_cons (pv 0) (pa_cons (pv 2) (pa_cons (pv 3) pa_nil)))) (pv 4))) (pss_one (ps_if (PW.pt (pw_and (pt_cmpR (op_neU hr.u64) (pv 3) (pv 2) (nomark _)) (pw_and1 (pt_cmpR (op_eqU hr.u64) (pe_lc rfl sc__law_is_long.nd (pi_seqU (pv 4)) (blkOk_by (N := N__law_is_long) (sc := defScope s__law_is_long) (own := [("one", 6)]) (by decide +kernel)) (fun _ _ _ _ _ => (pg_name (i := 6) sc__law_is_long.nd rfl (by first | exact .inl rfl | exact .inr rfl))) (fun _ _ _ _ _ => (pts_one (pt_cmpR (show OpR _ _ (rInV K w) from (op_inV hr.u65)) (pv 6) (pv 5) (by with_unfolding_all rfl)))) (fun _ _ _ _ _ => (pv 6))) (pe_lst pa_nil) (nomark _))))) (pss_one (ps_if (PW.pt (pw_or (pt_cmpR (op_eqU hr.u64) (pv 4) (pe_lst pa_nil) (nomark _)) (pw_or1 (pt_truth (pe_callA (fn__law_is_leaf (w := w) c) (hr.less (by decide)) (by rfl) (gl__law_is_leaf c) (kp__law_is_leaf c) pss0 (pa_cons (pv 0) (pa_cons (pe_op op_addU (pv 4) (pe_lst (pa_cons (pv 3) pa_nil))) (pa_cons (pv 3) pa_nil)))) (by intro _; rfl))))) (pss_one (ps_ret pe_bl)) pss_nil)) pss_nil))))) (pss_one (ps_ret pe_bl))),
    (ds_seq (ds_for (di_seqU (de_var 1)) (dg_name 3) (ds_seq (ds_set (i := 4) (dv (de_lc (di_seqU (de_var 1)) (dg_name 6) (dt_test (de_op o_notInT ((de_var 6)).q ((de_tup (da_cons (de_var 3) (da_cons (de_var 2) da_nil)))).q)) (de_var 6) (by decide)))) (ds_seq (ds_set (i := 5) (dv (de_if (dt_test (de_op o_ne ((de_var 3)).q ((de_var 2)).q)) (de_call (da_cons (de_var 0) (da_cons (de_var 2) (da_cons (de_var 3) da_nil)))) (de_var 4)))) (ds_if (dt_and (dt_test (de_op o_ne ((de_var 3)).q ((de_var 2)).q)) (dt_test (de_op o_eq ((de_lc (di_seqU (de_var 4)) (dg_name 6) (dt_test (de_op o_inV ((de_var 6)).q ((de_var 5)).q)) (de_var 6) (by decide))).q ((de_lst da_nil)).q))) (ds_if (dt_or (dt_test (de_op o_eq ((de_var 4)).q ((de_lst da_nil)).q)) (dt_tru ((de_call (da_cons (de_var 0) (da_cons (de_op o_add ((de_var 4)).q ((de_lst (da_cons (de_var 3) da_nil))).q) (da_cons (de_var 3) da_nil))))).q)) (ds_ret de_bl) ds_nil) ds_nil)))) (ds_ret de_bl))⟩

noncomputable def den__law_cost : DS :=
  (sSeq (sAsg (dTup (dCons (dCall 1 F__law_unfaced (dCons (dVar 0) dNil)) (dCons (dCall 1 F__law_links (dCons (dCall 1 F__law_parts (dCons (dVar 0) dNil)) dNil)) dNil))) (hTup 2 (hCons (hName 1) (hCons (hName 2) hNil))))
    (sSeq (sSet 3 (dvV (fun ρ m => (dLc (dSeqU (dVar 1)) (hName 5) ((dTru (dCall 3 F__law_is_leaf (dCons (dVar 2) (dCons (dVar 1) (dCons (dVar 5) dNil)))))) (dVar 5) [5] ρ m).map .lst)))
    (sSeq (sSet 4 (dvV (fun ρ m => (dLc (dSeqU (dVar 3)) (hName 5) ((dNot (dTru (dCall 3 F__law_is_long (dCons (dVar 2) (dCons (dVar 1) (dCons (dVar 5) dNil))))))) (dVar 5) [5] ρ m).map .lst)))
    (sSeq (sIf (dOr (dTest (dOp eqD (dOp modD (dCB intD (dCons (dCB lenD (dCons (dVar 3) dNil)) dNil)) (dC (.int 2))) (dC (.int 0)))) (dTest (dOp neD (dVar 4) (dLst dNil)))) (sRet (dCB lenD (dCons (dVar 3) dNil))) sNx)
    (sRet (dOp addD (dCB lenD (dCons (dVar 3) dNil)) (dC (.int 1))))))))
noncomputable def F__law_cost : DF := runD 6 den__law_cost
theorem fn__law_cost (c : CC P K mg base) : FnA P w K mg base 4 (He.ga K "_law_cost") (spD (GG w K) 1 F__law_cost) := by
  obtain ⟨fd, F⟩ := c.d.def_ 47 (d := d__law_cost) rfl
  exact fnD (funD_fun (st := s__law_cost) F) sc__law_cost (FunD.bindsN F fun _ _ _ _ _ _ us hl => match us, hl with | [_], _ => rfl) fun cdv A out s H E hr => ⟨_,
    (pss_cons (ps_asg (pe_tup (pa_cons (pe_callA (fn__law_unfaced (w := w) c) (hr.less (by decide)) (by rfl) (gl__law_unfaced c) (kp__law_unfaced c) pss0 (pa_cons (pv 0) pa_nil)) (pa_cons (pe_callA (fn__law_links (w := w) c) (hr.less (by decide)) (by rfl) (gl__law_links c) (kp__law_links c) pss0 (pa_cons (pe_callA (fn__law_parts (w := w) c) (hr.less (by decide)) (by rfl) (gl__law_parts c) (kp__law_parts c) pss0 (pa_cons (pv 0) pa_nil)) pa_nil)) pa_nil))) (pg_tup rfl (pgs_cons (pg_name (i := 1) sc__law_cost.nd rfl (by first | exact .inl rfl | exact .inr rfl)) (pgs_cons (pg_name (i := 2) sc__law_cost.nd rfl (by first | exact .inl rfl | exact .inr rfl)) pgs_nil)))) (pss_cons (ps_setLc (i := 3) rfl sc__law_cost.nd rfl rfl rfl (pi_seqU (pv 1)) (blkOk_by (N := N__law_cost) (sc := defScope s__law_cost) (own := [("node", 5)]) (by decide +kernel)) (fun _ _ _ _ _ => (pg_name (i := 5) sc__law_cost.nd rfl (by first | exact .inl rfl | exact .inr rfl))) (fun _ _ _ _ _ => (pts_one (show PT _ _ (tTruK K _) from (pt_truth (pe_callA (fn__law_is_leaf (w := w) c) (hr.less (by decide)) (by rfl) (gl__law_is_leaf c) (kp__law_is_leaf c) passL (pa_cons (pv 2) (pa_cons (pv 1) (pa_cons (pv 5) pa_nil)))) (by intro _; rfl))))) (fun _ _ _ _ _ => (pv 5))) (pss_cons (ps_setLc (i := 4) rfl sc__law_cost.nd rfl rfl rfl (pi_seqU (pv 3)) (blkOk_by (N := N__law_cost) (sc := defScope s__law_cost) (own := [("node", 5)]) (by decide +kernel)) (fun _ _ _ _ _ => (pg_name (i := 5) sc__law_cost.nd rfl (by first | exact .inl rfl | exact .inr rfl))) (fun _ _ _ _ _ => (pts_one (pt_not (show PT _ _ (tTruK K _) from (pt_truth (pe_callA (fn__law_is_long (w := w) c) (hr.less (by decide)) (by rfl) (gl__law_is_long c) (kp__law_is_long c) passL (pa_cons (pv 2) (pa_cons (pv 1) (pa_cons (pv 5) pa_nil)))) (by intro _; rfl)))))) (fun _ _ _ _ _ => (pv 5))) (pss_cons (ps_if (PW.pt (pw_or (pt_cmpR (op_eqU hr.u64) (pe_op op_mod (pe_callTy call_int1 (by rfl) (fr_int c) PyProof.Rows.boot_int (pa_cons (pe_callB call_lenU (by rfl) (fr_len c) PySem.boot_len (pa_cons (pv 3) pa_nil)) pa_nil)) pe_int) pe_int (nomark _)) (pw_or1 (pt_cmpR (op_neU hr.u64) (pv 4) (pe_lst pa_nil) (nomark _))))) (pss_one (ps_ret (pe_callB call_lenU (by rfl) (fr_len c) PySem.boot_len (pa_cons (pv 3) pa_nil)))) pss_nil) (pss_one (ps_ret (pe_op op_addU (pe_callB call_lenU (by rfl) (fr_len c) PySem.boot_len (pa_cons (pv 3) pa_nil)) pe_int))))))),
    (ds_seq (ds_asg (de_tup (da_cons (de_call (da_cons (de_var 0) da_nil)) (da_cons (de_call (da_cons (de_call (da_cons (de_var 0) da_nil)) da_nil)) da_nil))) (dg_tup (dgs_cons (dg_name 1) (dgs_cons (dg_name 2) dgs_nil)))) (ds_seq (ds_set (i := 3) (dv (de_lc (di_seqU (de_var 1)) (dg_name 5) (dt_tru ((de_call (da_cons (de_var 2) (da_cons (de_var 1) (da_cons (de_var 5) da_nil))))).q) (de_var 5) (by decide)))) (ds_seq (ds_set (i := 4) (dv (de_lc (di_seqU (de_var 3)) (dg_name 5) (dt_not (dt_tru ((de_call (da_cons (de_var 2) (da_cons (de_var 1) (da_cons (de_var 5) da_nil))))).q)) (de_var 5) (by decide)))) (ds_seq (ds_if (dt_or (dt_test (de_op o_eq ((de_op o_mod ((de_cb n_int (dp_cons ((de_cb n_len (dp_cons ((de_var 3)).q dp_nil))).q dp_nil))).q (de_int).q)).q (de_int).q)) (dt_test (de_op o_ne ((de_var 4)).q ((de_lst da_nil)).q))) (ds_ret (de_cb n_len (dp_cons ((de_var 3)).q dp_nil))) ds_nil) (ds_ret (de_op o_add ((de_cb n_len (dp_cons ((de_var 3)).q dp_nil))).q (de_int).q))))))⟩

noncomputable def den__law_higher : DS :=
  (sRet (fun ρ m => (dLc (dSeqU (dVar 0)) (hName 2) (fun _ m => .ok true m) (dIf (dTest (dOp (cmpD fun i j => decide (j < i)) (dVar 2) (dC (.int 0)))) (dOp addD (dVar 2) (dVar 1)) (dOp subD (dVar 2) (dVar 1))) [2] ρ m).map .lst))
noncomputable def F__law_higher : DF := runD 3 den__law_higher
theorem fn__law_higher (c : CC P K mg base) : FnA P w K mg base 1 (He.ga K "_law_higher") (spD (GG w K) 2 F__law_higher) := by
  obtain ⟨fd, F⟩ := c.d.def_ 48 (d := d__law_higher) rfl
  exact fnD (funD_fun (st := s__law_higher) F) sc__law_higher (FunD.bindsN F fun _ _ _ _ _ _ us hl => match us, hl with | [_, _], _ => rfl) fun cdv A out s H E hr => ⟨_,
    (pss_one (ps_ret (pe_lc rfl sc__law_higher.nd (pi_seqU (pv 0)) (blkOk_by (N := N__law_higher) (sc := defScope s__law_higher) (own := [("waggon", 2)]) (by decide +kernel)) (fun _ _ _ _ _ => (pg_name (i := 2) sc__law_higher.nd rfl (by first | exact .inl rfl | exact .inr rfl))) (fun _ _ _ _ _ => pts_nil) (fun _ _ _ _ _ => (pe_ifExp (pt_cmpR op_gt (pv 2) pe_int (nomark _)) (pe_op (show OpR _ _ (rAddU K) from op_addU) (pv 2) (pv 1)) (pe_op op_sub (pv 2) (pv 1))))))),
    (ds_ret (de_lc (di_seqU (de_var 0)) (dg_name 2) dt_yes (de_if (dt_test (de_op (o_cmp fun i j => decide (j < i)) ((de_var 2)).q (de_int).q)) (de_op o_add ((de_var 2)).q ((de_var 1)).q) (de_op o_sub ((de_var 2)).q ((de_var 1)).q)) (by decide)))⟩

noncomputable def den__law_costs_right : DS :=
  (sSeq (sAsg (dTup (dCons (dMake 0 F_Row___init__ (dCons (dVar 1) dNil)) (dCons (dCB lenD (dCons (dVar 1) dNil)) dNil))) (hTup 2 (hCons (hName 3) (hCons (hName 4) hNil))))
    (sSeq (sSet 5 (dvV (dOp ixV (dLst (dCons (dOp addD (dVar 1) (dLst (dCons (dOp addD (dVar 4) (dC (.int 1))) dNil))) (dCons (dOp addD (dLst (dCons (dC (.int 1)) dNil)) (dCall 2 F__law_higher (dCons (dVar 1) (dCons (dC (.int 1)) dNil)))) (dCons (dCB toLst (dCons (dFld 0 (dMeth 0 1 F_Row_inverse (dVar 3) dNil)) dNil)) dNil)))) (dCall 2 F__law_draw (dCons (dVar 0) (dCons (dC (.int 3)) dNil))))))
    (sSeq (sIf (dNot (dTru (dCall 2 F__law_like (dCons (dLst (dCons (dCall 1 F_cost (dCons (dVar 3) dNil)) (dCons (dCall 1 F_cost (dCons (dMake 0 F_Row___init__ (dCons (dVar 5) dNil)) dNil)) dNil))) (dCons (dLst (dCons (dVar 2) (dCons (dVar 2) dNil))) dNil))))) (sRet (dC (.bl false))) sNx)
    (sSeq (sSet 6 (dvV (fun ρ m => (dLc (dSeqU (dUn revUD (dVar 1))) (hName 7) (fun _ m => .ok true m) (dIf (dTest (dOp (cmpD fun i j => decide (j < i)) (dVar 7) (dC (.int 0)))) (dOp subD (dOp addD (dVar 4) (dC (.int 1))) (dVar 7)) (dOp subD (dOp subD (dOp subD (dC (.int 0)) (dVar 4)) (dC (.int 1))) (dVar 7))) [7] ρ m).map .lst)))
    (sRet (dAndV (dCall 2 F__law_like (dCons (dCall 1 F_cost (dCons (dMake 0 F_Row___init__ (dCons (dVar 6) dNil)) dNil)) (dCons (dVar 2) dNil))) (dOp eqD (dCall 1 F_to_go (dCons (dVar 3) dNil)) (dOp addD (dOp subD (dOp addD (dCB lenD (dCons (dVar 1) dNil)) (dC (.int 1))) (dCB lenD (dCons (dCall 1 F__law_rings (dCons (dVar 1) dNil)) dNil))) (dVar 2)))))))))
noncomputable def F__law_costs_right : DF := runD 8 den__law_costs_right
theorem fn__law_costs_right (c : CC P K mg base) : FnA P w K mg base 6 (He.ga K "_law_costs_right") (spD (GG w K) 3 F__law_costs_right) := by
  obtain ⟨fd, F⟩ := c.d.def_ 49 (d := d__law_costs_right) rfl
  exact fnD (funD_fun (st := s__law_costs_right) F) sc__law_costs_right (FunD.bindsN F fun _ _ _ _ _ _ us hl => match us, hl with | [_, _, _], _ => rfl) fun cdv A out s H E hr => ⟨_,
    (pss_cons (ps_asg (pe_tup (pa_cons (pe_makeA (mk_Row c) (fn_Row___init__ (w := w) c) (hr.less (by decide)) (by rfl) (gl_Row c) pss0 (pa_cons (pv 1) pa_nil)) (pa_cons (pe_callB call_lenU (by rfl) (fr_len c) PySem.boot_len (pa_cons (pv 1) pa_nil)) pa_nil))) (pg_tup rfl (pgs_cons (pg_name (i := 3) sc__law_costs_right.nd rfl (by first | exact .inl rfl | exact .inr rfl)) (pgs_cons (pg_name (i := 4) sc__law_costs_right.nd rfl (by first | exact .inl rfl | exact .inr rfl)) pgs_nil)))) (pss_cons (ps_set (i := 5) sc__law_costs_right.nd rfl (by first | exact .inl rfl | exact .inr rfl) (pe_ix (ix_V hr.u10) (pe_lst (pa_cons (pe_op op_addU (pv 1) (pe_lst (pa_cons (pe_op op_addU (pv 4) pe_int) pa_nil))) (pa_cons (pe_op op_addU (pe_lst (pa_cons pe_int pa_nil)) (pe_callA (fn__law_higher (w := w) c) (hr.less (by decide)) (by rfl) (gl__law_higher c) (kp__law_higher c) pss0 (pa_cons (pv 1) (pa_cons pe_int pa_nil)))) (pa_cons (pe_callTy (call_list_of) (by rfl) (fr_list c) PyProof.Rows.boot_list (pa_cons (SlX.pe_sl (pe_methA0 (pv 3) (sx_Row c) (me_Row_inverse c) (fn_Row_inverse (w := w) c) (hr.less (by decide)) pss0)) pa_nil)) pa_nil)))) (pe_callA (fn__law_draw (w := w) c) (hr.less (by decide)) (by rfl) (gl__law_draw c) (kp__law_draw c) pss0 (pa_cons (pv 0) (pa_cons pe_int pa_nil))) (fun _ _ => rfl))) (pss_cons (ps_if (pt_not (pt_truth (pe_callA (fn__law_like (w := w) c) (hr.less (by decide)) (by rfl) (gl__law_like c) (kp__law_like c) pss0 (pa_cons (pe_lst (pa_cons (pe_callA (fn_cost (w := w) c) (hr.less (by decide)) (by rfl) (gl_cost c) (kp_cost c) pss0 (pa_cons (pv 3) pa_nil)) (pa_cons (pe_callA (fn_cost (w := w) c) (hr.less (by decide)) (by rfl) (gl_cost c) (kp_cost c) pss0 (pa_cons (pe_makeA (mk_Row c) (fn_Row___init__ (w := w) c) (hr.less (by decide)) (by rfl) (gl_Row c) pss0 (pa_cons (pv 5) pa_nil)) pa_nil)) pa_nil))) (pa_cons (pe_lst (pa_cons (pv 2) (pa_cons (pv 2) pa_nil))) pa_nil))) (by intro _; rfl))) (pss_one (ps_ret pe_bl)) pss_nil) (pss_cons (ps_setLc (i := 6) rfl sc__law_costs_right.nd rfl rfl rfl (pi_seqU (pe_revU (pv 1))) (blkOk_by (N := N__law_costs_right) (sc := defScope s__law_costs_right) (own := [("waggon", 7)]) (by decide +kernel)) (fun _ _ _ _ _ => (pg_name (i := 7) sc__law_costs_right.nd rfl (by first | exact .inl rfl | exact .inr rfl))) (fun _ _ _ _ _ => pts_nil) (fun _ _ _ _ _ => (pe_ifExp (pt_cmpR op_gt (pv 7) pe_int (nomark _)) (pe_op op_sub (pe_op (show OpR _ _ (rAddU K) from op_addU) (pv 4) pe_int) (pv 7)) (pe_op op_sub (pe_op op_sub (pe_op op_sub pe_int (pv 4)) pe_int) (pv 7))))) (pss_one (ps_ret (pe_and (pe_callA (fn__law_like (w := w) c) (hr.less (by decide)) (by rfl) (gl__law_like c) (kp__law_like c) pss0 (pa_cons (pe_callA (fn_cost (w := w) c) (hr.less (by decide)) (by rfl) (gl_cost c) (kp_cost c) pss0 (pa_cons (pe_makeA (mk_Row c) (fn_Row___init__ (w := w) c) (hr.less (by decide)) (by rfl) (gl_Row c) pss0 (pa_cons (pv 6) pa_nil)) pa_nil)) (pa_cons (pv 2) pa_nil))) (pe_one (pe_cmpR (op_eqU hr.u64) (pe_callA (fn_to_go (w := w) c) (hr.less (by decide)) (by rfl) (gl_to_go c) (kp_to_go c) pss0 (pa_cons (pv 3) pa_nil)) (pe_op op_addU (pe_op op_sub (pe_op op_addU (pe_callB call_lenU (by rfl) (fr_len c) PySem.boot_len (pa_cons (pv 1) pa_nil)) pe_int) (pe_callB call_lenU (by rfl) (fr_len c) PySem.boot_len (pa_cons (pe_callA (fn__law_rings (w := w) c) (hr.less (by decide)) (by rfl) (gl__law_rings c) (kp__law_rings c) pss0 (pa_cons (pv 1) pa_nil)) pa_nil))) (pv 2)) (nomark _)))))))))),
    (ds_seq (ds_asg (de_tup (da_cons (de_make (da_cons (de_var 1) da_nil)) (da_cons (de_cb n_len (dp_cons ((de_var 1)).q dp_nil)) da_nil))) (dg_tup (dgs_cons (dg_name 3) (dgs_cons (dg_name 4) dgs_nil)))) (ds_seq (ds_set (i := 5) (dv (de_op o_ixV ((de_lst (da_cons (de_op o_add ((de_var 1)).q ((de_lst (da_cons (de_op o_add ((de_var 4)).q (de_int).q) da_nil))).q) (da_cons (de_op o_add ((de_lst (da_cons de_int da_nil))).q ((de_call (da_cons (de_var 1) (da_cons de_int da_nil)))).q) (da_cons (de_cb n_list (dp_cons ((de_fld (c := 0) (de_meth (c := 0) (de_var 3) da_nil) (sx_Row c) (sl_Row_waggons c))).q dp_nil)) da_nil))))).q ((de_call (da_cons (de_var 0) (da_cons de_int da_nil)))).q))) (ds_seq (ds_if (dt_not (dt_tru ((de_call (da_cons (de_lst (da_cons (de_call (da_cons (de_var 3) da_nil)) (da_cons (de_call (da_cons (de_make (da_cons (de_var 5) da_nil)) da_nil)) da_nil))) (da_cons (de_lst (da_cons (de_var 2) (da_cons (de_var 2) da_nil))) da_nil)))).q)) (ds_ret de_bl) ds_nil) (ds_seq (ds_set (i := 6) (dv (de_lc (di_seqU (de_revU ((de_var 1)).q)) (dg_name 7) dt_yes (de_if (dt_test (de_op (o_cmp fun i j => decide (j < i)) ((de_var 7)).q (de_int).q)) (de_op o_sub ((de_op o_add ((de_var 4)).q (de_int).q)).q ((de_var 7)).q) (de_op o_sub ((de_op o_sub ((de_op o_sub (de_int).q ((de_var 4)).q)).q (de_int).q)).q ((de_var 7)).q)) (by decide)))) (ds_ret (de_and (de_call (da_cons (de_call (da_cons (de_make (da_cons (de_var 6) da_nil)) da_nil)) (da_cons (de_var 2) da_nil))) (de_op o_eq ((de_call (da_cons (de_var 3) da_nil))).q ((de_op o_add ((de_op o_sub ((de_op o_add ((de_cb n_len (dp_cons ((de_var 1)).q dp_nil))).q (de_int).q)).q ((de_cb n_len (dp_cons ((de_call (da_cons (de_var 1) da_nil))).q dp_nil))).q)).q ((de_var 2)).q)).q)))))))⟩

end
section
variable {P : Program} {w : World} {K : PySem.W.Frag} {mg : Str → Option Value} {base : Heap}
noncomputable def den_law_b1 : DS :=
  (sIf (dNot (dTru (dCall 3 F__law_costs_right (dCons (dVar 1) (dCons (dVar 8) (dCons (dVar 9) dNil)))))) (sRet (dC (.bl false))) sNx)
noncomputable def den_law : DS :=
  (sSeq (sPar 2 3 (dCons (dLst (dCons (dC (.int 2)) (dCons (dC (.int 1)) dNil))) (dCons (dLst (dCons (dC (.int 5)) (dCons (dC (.int 1)) (dCons (dC (.int 3)) (dCons (dC (.int 2)) (dCons (dC (.int 4)) dNil)))))) dNil)))
    (sSeq (sSet 4 (dvLst (dCons (dTup (dCons (dVar 2) (dCons (dC (.int 1)) dNil))) (dCons (dTup (dCons (dVar 3) (dCons (dC (.int 2)) dNil))) (dCons (dTup (dCons (dOp addD (dVar 2) (dLst (dCons (dC (.int 3)) (dCons (dC (.int 5)) (dCons (dC (.int 4)) dNil))))) (dCons (dC (.int 2)) dNil))) (dCons (dTup (dCons (dOp addD (dVar 3) (dLst (dCons (dC (.int 6)) (dCons (dC (.int 8)) (dCons (dC (.int 7)) dNil))))) (dCons (dC (.int 2)) dNil))) dNil))))))
    (sSeq (sSet 5 (dvV (dOp addD (dOp addD (dOp addD (dOp addD (dVar 3) (dLst (dCons (dC (.int 6)) dNil))) (dCall 2 F__law_higher (dCons (dVar 3) (dCons (dC (.int 6)) dNil)))) (dLst (dCons (dC (.int 12)) dNil))) (dCall 2 F__law_higher (dCons (dVar 3) (dCons (dC (.int 12)) dNil))))))
    (sSeq (sSet 4 (dvCat (dPeek 4) (dLst (dCons (dTup (dCons (dVar 5) (dCons (dC (.int 4)) dNil))) (dCons (dTup (dCons (dOp addD (dOp addD (dOp addD (dVar 3) (dLst (dCons (dC (.int 6)) dNil))) (dCall 2 F__law_higher (dCons (dVar 3) (dCons (dC (.int 6)) dNil)))) (dLst (dCons (dC (.int 12)) (dCons (dC (.int 14)) (dCons (dC (.int 13)) dNil))))) (dCons (dC (.int 3)) dNil))) (dCons (dTup (dCons (dOp addD (dVar 2) (dLst (dCons (dC (.int 3)) (dCons (dC (.int 5)) (dCons (dC (.int 4)) (dCons (dC (.int 6)) (dCons (dC (.int 8)) (dCons (dC (.int 7)) dNil)))))))) (dCons (dC (.int 3)) dNil))) dNil))))))
    (sSeq (sSet 6 (dvV (dOp addD (dVar 2) (dLst (dCons (dC (.int 3)) (dCons (dC (.int 5)) (dCons (dC (.int 4)) (dCons (dC (.int 6)) (dCons (dC (.int 8)) (dCons (dC (.int 7)) (dCons (dC (.int 9)) (dCons (dC (.int 11)) (dCons (dC (.int 10)) dNil)))))))))))))
    (sSeq (sSet 4 (dvCat (dPeek 4) (dLst (dCons (dTup (dCons (dVar 6) (dCons (dC (.int 4)) dNil))) (dCons (dTup (dCons (dOp addD (dVar 3) (dLst (dCons (dC (.int 6)) (dCons (dC (.int 8)) (dCons (dC (.int 7)) (dCons (dC (.int 9)) (dCons (dC (.int 11)) (dCons (dC (.int 10)) dNil)))))))) (dCons (dC (.int 3)) dNil))) (dCons (dTup (dCons (dLst (dCons (dC (.int 3)) (dCons (dUn negD (dC (.int 2))) (dCons (dC (.int 1)) dNil)))) (dCons (dC (.int 0)) dNil))) (dCons (dTup (dCons (dLst dNil) (dCons (dC (.int 0)) dNil))) (dCons (dTup (dCons (dLst (dCons (dC (.int 4)) (dCons (dC (.int 1)) (dCons (dC (.int 2)) (dCons (dC (.int 3)) dNil))))) (dCons (dC (.int 1)) dNil))) dNil))))))))
    (sSeq (sSet 4 (dvCat (dPeek 4) (dLst (dCons (dTup (dCons (dLst (dCons (dC (.int 8)) (dCons (dC (.int 1)) (dCons (dC (.int 3)) (dCons (dC (.int 2)) (dCons (dC (.int 4)) (dCons (dC (.int 6)) (dCons (dC (.int 5)) (dCons (dC (.int 7)) dNil))))))))) (dCons (dC (.int 3)) dNil))) (dCons (dTup (dCons (dLst (dCons (dC (.int 8)) (dCons (dC (.int 1)) (dCons (dC (.int 3)) (dCons (dC (.int 2)) (dCons (dC (.int 4)) (dCons (dC (.int 6)) (dCons (dC (.int 5)) (dCons (dC (.int 7)) (dCons (dC (.int 9)) (dCons (dC (.int 14)) (dCons (dC (.int 10)) (dCons (dC (.int 12)) (dCons (dC (.int 11)) (dCons (dC (.int 13)) dNil))))))))))))))) (dCons (dC (.int 3)) dNil))) dNil)))))
    (sSeq (sSet 7 (dvV (dLst (dCons (dC (.int 6)) (dCons (dC (.int 1)) (dCons (dC (.int 3)) (dCons (dC (.int 2)) (dCons (dC (.int 4)) (dCons (dC (.int 5)) dNil)))))))))
    (sSeq (sSet 5 (dvV (dOp addD (dOp addD (dOp addD (dOp addD (dVar 7) (dLst (dCons (dC (.int 7)) dNil))) (dCall 2 F__law_higher (dCons (dVar 7) (dCons (dC (.int 7)) dNil)))) (dLst (dCons (dC (.int 14)) dNil))) (dCall 2 F__law_higher (dCons (dVar 7) (dCons (dC (.int 14)) dNil))))))
    (sSeq (sApp 4 (dTup (dCons (dVar 5) (dCons (dC (.int 4)) dNil))))
    (sFrz 4 (sSeq (sFor (dSeqU (dVar 4)) (hTup 2 (hCons (hName 8) (hCons (hName 9) hNil))) den_law_b1)
    (sSeq (sIf (dOr (dTest (dOp neD (dCall 1 F_parts (dCons (dMake 0 F_Row___init__ (dCons (dVar 3) dNil)) dNil)) (dTup (dCons (dTup (dCons (dC (.int 0)) (dCons (dC (.int 6)) dNil))) (dCons (dTup (dCons (dC (.int 2)) (dCons (dC (.int 5)) dNil))) dNil))))) (dTest (dOp neD (dCall 1 F_unfaced (dCons (dMake 0 F_Row___init__ (dCons (dVar 3) dNil)) dNil)) (dTup (dCons (dTup (dCons (dC (.int 0)) (dCons (dC (.int 6)) dNil))) (dCons (dTup (dCons (dC (.int 2)) (dCons (dC (.int 5)) dNil))) dNil)))))) (sRet (dC (.bl false))) sNx)
    (sSeq (sIf (dTest (dOp neD (dCall 1 F_chains (dCons (dMake 0 F_Row___init__ (dCons (dVar 3) dNil)) dNil)) (dTup (dCons (dTup (dCons (dTup (dCons (dC (.int 0)) (dCons (dC (.int 6)) dNil))) dNil)) (dCons (dTup (dCons (dTup (dCons (dC (.int 2)) (dCons (dC (.int 5)) dNil))) dNil)) dNil))))) (sRet (dC (.bl false))) sNx)
    (sSeq (sSet 10 (dvV (dLst (dCons (dC (.int 1)) (dCons (dC (.int 5)) (dCons (dUn negD (dC (.int 3))) (dCons (dUn negD (dC (.int 2))) (dCons (dUn negD (dC (.int 4))) (dCons (dC (.int 6)) dNil)))))))))
    (sSeq (sIf (dNot (dTru (dCall 2 F__law_like (dCons (dCall 1 F_unfaced (dCons (dMake 0 F_Row___init__ (dCons (dVar 10) dNil)) dNil)) (dCons (dCB toTup (dCons (dCall 1 F__law_unfaced (dCons (dVar 10) dNil)) dNil)) dNil))))) (sRet (dC (.bl false))) sNx)
    (sRet (dOp eqD (dCall 1 F_cost (dCons (dMake 0 F_Row___init__ (dCons (dLst (dCons (dC (.int 6)) (dCons (dUn negD (dC (.int 5))) (dCons (dUn negD (dC (.int 3))) (dCons (dUn negD (dC (.int 4))) (dCons (dUn negD (dC (.int 2))) (dCons (dC (.int 1)) dNil))))))) dNil)) dNil)) (dCall 1 F__law_cost (dCons (dLst (dCons (dC (.int 6)) (dCons (dUn negD (dC (.int 5))) (dCons (dUn negD (dC (.int 3))) (dCons (dUn negD (dC (.int 4))) (dCons (dUn negD (dC (.int 2))) (dCons (dC (.int 1)) dNil))))))) dNil))))))))))))))))))))
theorem fn_law (c : CC P K mg base) (ht : ∀ r : MS, r.spot = 0 → r.cs = [] → ∃ m', den_law (none :: some (.v .drw) :: List.replicate 9 none) (some r) = .rt (.bl true) m') : FnA P w K mg base 7 (He.ga K "law") (spLaw (GG w K)) := by
  obtain ⟨fd, F⟩ := c.d.def_ 50 (d := d_law) rfl
  refine fnA_ofC (funD_fun (st := s_law) F) sc_law (FunD.bindsN F fun _ _ _ _ _ _ us hl => match us, hl with | [_], _ => rfl) fun cdv A out s H vs Q E hc hr h => ?_
  obtain ⟨ns, v, rfl, rv, hns, htb, p⟩ := h
  refine ⟨rfl, _, (pss_cons (ps_set (i := 1) sc_law.nd rfl (by first | exact .inl rfl | exact .inr rfl) (pe_callA (fn__law_begun c) (hr.less (by decide)) (by rfl) (gl__law_begun c) (kp__law_begun c) pss0 (pa_cons (pv 0) pa_nil)))
    (pss_cons (ps_par (i := 2) (j := 3) rfl sc_law.nd rfl rfl (by decide) rfl rfl (pa_cons (pe_lst (pa_cons pe_int (pa_cons pe_int pa_nil))) (pa_cons (pe_lst (pa_cons pe_int (pa_cons pe_int (pa_cons pe_int (pa_cons pe_int (pa_cons pe_int pa_nil)))))) pa_nil)) rfl) (pss_cons (ps_set (i := 4) sc_law.nd rfl (by first | exact .inl rfl | exact .inr rfl) (pe_lst (pa_cons (pe_tup (pa_cons (pv 2) (pa_cons pe_int pa_nil))) (pa_cons (pe_tup (pa_cons (pv 3) (pa_cons pe_int pa_nil))) (pa_cons (pe_tup (pa_cons (pe_op op_addU (pv 2) (pe_lst (pa_cons pe_int (pa_cons pe_int (pa_cons pe_int pa_nil))))) (pa_cons pe_int pa_nil))) (pa_cons (pe_tup (pa_cons (pe_op op_addU (pv 3) (pe_lst (pa_cons pe_int (pa_cons pe_int (pa_cons pe_int pa_nil))))) (pa_cons pe_int pa_nil))) pa_nil)))))) (pss_cons (ps_set (i := 5) sc_law.nd rfl (by first | exact .inl rfl | exact .inr rfl) (pe_op op_addU (pe_op op_addU (pe_op op_addU (pe_op op_addU (pv 3) (pe_lst (pa_cons pe_int pa_nil))) (pe_callA (fn__law_higher (w := w) c) (hr.less (by decide)) (by rfl) (gl__law_higher c) (kp__law_higher c) pss0 (pa_cons (pv 3) (pa_cons pe_int pa_nil)))) (pe_lst (pa_cons pe_int pa_nil))) (pe_callA (fn__law_higher (w := w) c) (hr.less (by decide)) (by rfl) (gl__law_higher c) (kp__law_higher c) pss0 (pa_cons (pv 3) (pa_cons pe_int pa_nil))))) (pss_cons (ps_set (i := 4) sc_law.nd rfl (by first | exact .inl rfl | exact .inr rfl) (pe_op op_addU (pv 4) (pe_lst (pa_cons (pe_tup (pa_cons (pv 5) (pa_cons pe_int pa_nil))) (pa_cons (pe_tup (pa_cons (pe_op op_addU (pe_op op_addU (pe_op op_addU (pv 3) (pe_lst (pa_cons pe_int pa_nil))) (pe_callA (fn__law_higher (w := w) c) (hr.less (by decide)) (by rfl) (gl__law_higher c) (kp__law_higher c) pss0 (pa_cons (pv 3) (pa_cons pe_int pa_nil)))) (pe_lst (pa_cons pe_int (pa_cons pe_int (pa_cons pe_int pa_nil))))) (pa_cons pe_int pa_nil))) (pa_cons (pe_tup (pa_cons (pe_op op_addU (pv 2) (pe_lst (pa_cons pe_int (pa_cons pe_int (pa_cons pe_int (pa_cons pe_int (pa_cons pe_int (pa_cons pe_int pa_nil)))))))) (pa_cons pe_int pa_nil))) pa_nil)))))) (pss_cons (ps_set (i := 6) sc_law.nd rfl (by first | exact .inl rfl | exact .inr rfl) (pe_op op_addU (pv 2) (pe_lst (pa_cons pe_int (pa_cons pe_int (pa_cons pe_int (pa_cons pe_int (pa_cons pe_int (pa_cons pe_int (pa_cons pe_int (pa_cons pe_int (pa_cons pe_int pa_nil)))))))))))) (pss_cons (ps_set (i := 4) sc_law.nd rfl (by first | exact .inl rfl | exact .inr rfl) (pe_op op_addU (pv 4) (pe_lst (pa_cons (pe_tup (pa_cons (pv 6) (pa_cons pe_int pa_nil))) (pa_cons (pe_tup (pa_cons (pe_op op_addU (pv 3) (pe_lst (pa_cons pe_int (pa_cons pe_int (pa_cons pe_int (pa_cons pe_int (pa_cons pe_int (pa_cons pe_int pa_nil)))))))) (pa_cons pe_int pa_nil))) (pa_cons (pe_tup (pa_cons (pe_lst (pa_cons pe_int (pa_cons (pe_un un_neg pe_int) (pa_cons pe_int pa_nil)))) (pa_cons pe_int pa_nil))) (pa_cons (pe_tup (pa_cons (pe_lst pa_nil) (pa_cons pe_int pa_nil))) (pa_cons (pe_tup (pa_cons (pe_lst (pa_cons pe_int (pa_cons pe_int (pa_cons pe_int (pa_cons pe_int pa_nil))))) (pa_cons pe_int pa_nil))) pa_nil)))))))) (pss_cons (ps_set (i := 4) sc_law.nd rfl (by first | exact .inl rfl | exact .inr rfl) (pe_op op_addU (pv 4) (pe_lst (pa_cons (pe_tup (pa_cons (pe_lst (pa_cons pe_int (pa_cons pe_int (pa_cons pe_int (pa_cons pe_int (pa_cons pe_int (pa_cons pe_int (pa_cons pe_int (pa_cons pe_int pa_nil))))))))) (pa_cons pe_int pa_nil))) (pa_cons (pe_tup (pa_cons (pe_lst (pa_cons pe_int (pa_cons pe_int (pa_cons pe_int (pa_cons pe_int (pa_cons pe_int (pa_cons pe_int (pa_cons pe_int (pa_cons pe_int (pa_cons pe_int (pa_cons pe_int (pa_cons pe_int (pa_cons pe_int (pa_cons pe_int (pa_cons pe_int pa_nil))))))))))))))) (pa_cons pe_int pa_nil))) pa_nil))))) (pss_cons (ps_set (i := 7) sc_law.nd rfl (by first | exact .inl rfl | exact .inr rfl) (pe_lst (pa_cons pe_int (pa_cons pe_int (pa_cons pe_int (pa_cons pe_int (pa_cons pe_int (pa_cons pe_int pa_nil)))))))) (pss_cons (ps_set (i := 5) sc_law.nd rfl (by first | exact .inl rfl | exact .inr rfl) (pe_op op_addU (pe_op op_addU (pe_op op_addU (pe_op op_addU (pv 7) (pe_lst (pa_cons pe_int pa_nil))) (pe_callA (fn__law_higher (w := w) c) (hr.less (by decide)) (by rfl) (gl__law_higher c) (kp__law_higher c) pss0 (pa_cons (pv 7) (pa_cons pe_int pa_nil)))) (pe_lst (pa_cons pe_int pa_nil))) (pe_callA (fn__law_higher (w := w) c) (hr.less (by decide)) (by rfl) (gl__law_higher c) (kp__law_higher c) pss0 (pa_cons (pv 7) (pa_cons pe_int pa_nil))))) (pss_cons (ps_expr (pe_bm PySem.F.plainAttrs_list PySem.F.slot_list_append PySem.F.type_list_append mt_append (pv 4) (pa_cons (pe_tup (pa_cons (pv 5) (pa_cons pe_int pa_nil))) pa_nil))) (pss_cons (ps_for (passes_of rfl) rfl (pi_seqU (pv 4)) (pg_tup rfl (pgs_cons (pg_name (i := 8) sc_law.nd rfl (by first | exact .inl rfl | exact .inr rfl)) (pgs_cons (pg_name (i := 9) sc_law.nd rfl (by first | exact .inl rfl | exact .inr rfl)) pgs_nil))) (pss_one (ps_if (pt_not (pt_truth (pe_callA (fn__law_costs_right (w := w) c) (hr.less (by decide)) (by rfl) (gl__law_costs_right c) (kp__law_costs_right c) pss0 (pa_cons (pv 1) (pa_cons (pv 8) (pa_cons (pv 9) pa_nil)))) (by intro _; rfl))) (pss_one (ps_ret pe_bl)) pss_nil))) (pss_cons (ps_if (PW.pt (pw_or (pt_cmpR (op_neU hr.u64) (pe_callA (fn_parts (w := w) c) (hr.less (by decide)) (by rfl) (gl_parts c) (kp_parts c) pss0 (pa_cons (pe_makeA (mk_Row c) (fn_Row___init__ (w := w) c) (hr.less (by decide)) (by rfl) (gl_Row c) pss0 (pa_cons (pv 3) pa_nil)) pa_nil)) (pe_tup (pa_cons (pe_tup (pa_cons pe_int (pa_cons pe_int pa_nil))) (pa_cons (pe_tup (pa_cons pe_int (pa_cons pe_int pa_nil))) pa_nil))) (nomark _)) (pw_or1 (pt_cmpR (op_neU hr.u64) (pe_callA (fn_unfaced (w := w) c) (hr.less (by decide)) (by rfl) (gl_unfaced c) (kp_unfaced c) pss0 (pa_cons (pe_makeA (mk_Row c) (fn_Row___init__ (w := w) c) (hr.less (by decide)) (by rfl) (gl_Row c) pss0 (pa_cons (pv 3) pa_nil)) pa_nil)) (pe_tup (pa_cons (pe_tup (pa_cons pe_int (pa_cons pe_int pa_nil))) (pa_cons (pe_tup (pa_cons pe_int (pa_cons pe_int pa_nil))) pa_nil))) (nomark _))))) (pss_one (ps_ret pe_bl)) pss_nil) (pss_cons (ps_if (pt_cmpR (op_neU hr.u64) (pe_callA (fn_chains (w := w) c) (hr.less (by decide)) (by rfl) (gl_chains c) (kp_chains c) pss0 (pa_cons (pe_makeA (mk_Row c) (fn_Row___init__ (w := w) c) (hr.less (by decide)) (by rfl) (gl_Row c) pss0 (pa_cons (pv 3) pa_nil)) pa_nil)) (pe_tup (pa_cons (pe_tup (pa_cons (pe_tup (pa_cons pe_int (pa_cons pe_int pa_nil))) pa_nil)) (pa_cons (pe_tup (pa_cons (pe_tup (pa_cons pe_int (pa_cons pe_int pa_nil))) pa_nil)) pa_nil))) (nomark _)) (pss_one (ps_ret pe_bl)) pss_nil) (pss_cons (ps_set (i := 10) sc_law.nd rfl (by first | exact .inl rfl | exact .inr rfl) (pe_lst (pa_cons pe_int (pa_cons pe_int (pa_cons (pe_un un_neg pe_int) (pa_cons (pe_un un_neg pe_int) (pa_cons (pe_un un_neg pe_int) (pa_cons pe_int pa_nil)))))))) (pss_cons (ps_if (pt_not (pt_truth (pe_callA (fn__law_like (w := w) c) (hr.less (by decide)) (by rfl) (gl__law_like c) (kp__law_like c) pss0 (pa_cons (pe_callA (fn_unfaced (w := w) c) (hr.less (by decide)) (by rfl) (gl_unfaced c) (kp_unfaced c) pss0 (pa_cons (pe_makeA (mk_Row c) (fn_Row___init__ (w := w) c) (hr.less (by decide)) (by rfl) (gl_Row c) pss0 (pa_cons (pv 10) pa_nil)) pa_nil)) (pa_cons (pe_callTy (call_tuple_of) (by rfl) (fr_tuple c) PyProof.Rows.boot_tuple (pa_cons (pe_callA (fn__law_unfaced (w := w) c) (hr.less (by decide)) (by rfl) (gl__law_unfaced c) (kp__law_unfaced c) pss0 (pa_cons (pv 10) pa_nil)) pa_nil)) pa_nil))) (by intro _; rfl))) (pss_one (ps_ret pe_bl)) pss_nil) (pss_one (ps_ret (pe_cmpR (op_eqU hr.u64) (pe_callA (fn_cost (w := w) c) (hr.less (by decide)) (by rfl) (gl_cost c) (kp_cost c) pss0 (pa_cons (pe_makeA (mk_Row c) (fn_Row___init__ (w := w) c) (hr.less (by decide)) (by rfl) (gl_Row c) pss0 (pa_cons (pe_lst (pa_cons pe_int (pa_cons (pe_un un_neg pe_int) (pa_cons (pe_un un_neg pe_int) (pa_cons (pe_un un_neg pe_int) (pa_cons (pe_un un_neg pe_int) (pa_cons pe_int pa_nil))))))) pa_nil)) pa_nil)) (pe_callA (fn__law_cost (w := w) c) (hr.less (by decide)) (by rfl) (gl__law_cost c) (kp__law_cost c) pss0 (pa_cons (pe_lst (pa_cons pe_int (pa_cons (pe_un un_neg pe_int) (pa_cons (pe_un un_neg pe_int) (pa_cons (pe_un un_neg pe_int) (pa_cons (pe_un un_neg pe_int) (pa_cons pe_int pa_nil))))))) pa_nil)) (nomark _)))))))))))))))))))), ?_⟩
  exact ⟨v, rfl, Non, ns, v, rfl, rv, hns, htb, fun r H' x tb mr fr hs hcs => law_rest (G := GG w K) (E := E) (v := v) (H := H') (Q := Q) (k := 9)
    (ds_seq (ds_par (i := 2) (j := 3) (da_cons (de_lst (da_cons de_int (da_cons de_int da_nil))) (da_cons (de_lst (da_cons de_int (da_cons de_int (da_cons de_int (da_cons de_int (da_cons de_int da_nil)))))) da_nil))) (ds_seq (ds_set (i := 4) (dv_lst (da_cons (de_tup (da_cons (de_var 2) (da_cons de_int da_nil))) (da_cons (de_tup (da_cons (de_var 3) (da_cons de_int da_nil))) (da_cons (de_tup (da_cons (de_op o_add ((de_var 2)).q ((de_lst (da_cons de_int (da_cons de_int (da_cons de_int da_nil))))).q) (da_cons de_int da_nil))) (da_cons (de_tup (da_cons (de_op o_add ((de_var 3)).q ((de_lst (da_cons de_int (da_cons de_int (da_cons de_int da_nil))))).q) (da_cons de_int da_nil))) da_nil)))))) (ds_seq (ds_set (i := 5) (dv (de_op o_add ((de_op o_add ((de_op o_add ((de_op o_add ((de_var 3)).q ((de_lst (da_cons de_int da_nil))).q)).q ((de_call (da_cons (de_var 3) (da_cons de_int da_nil)))).q)).q ((de_lst (da_cons de_int da_nil))).q)).q ((de_call (da_cons (de_var 3) (da_cons de_int da_nil)))).q))) (ds_seq (ds_set (i := 4) (dv_cat (dq_var 4) ((de_lst (da_cons (de_tup (da_cons (de_var 5) (da_cons de_int da_nil))) (da_cons (de_tup (da_cons (de_op o_add ((de_op o_add ((de_op o_add ((de_var 3)).q ((de_lst (da_cons de_int da_nil))).q)).q ((de_call (da_cons (de_var 3) (da_cons de_int da_nil)))).q)).q ((de_lst (da_cons de_int (da_cons de_int (da_cons de_int da_nil))))).q) (da_cons de_int da_nil))) (da_cons (de_tup (da_cons (de_op o_add ((de_var 2)).q ((de_lst (da_cons de_int (da_cons de_int (da_cons de_int (da_cons de_int (da_cons de_int (da_cons de_int da_nil)))))))).q) (da_cons de_int da_nil))) da_nil))))).q)) (ds_seq (ds_set (i := 6) (dv (de_op o_add ((de_var 2)).q ((de_lst (da_cons de_int (da_cons de_int (da_cons de_int (da_cons de_int (da_cons de_int (da_cons de_int (da_cons de_int (da_cons de_int (da_cons de_int da_nil))))))))))).q))) (ds_seq (ds_set (i := 4) (dv_cat (dq_var 4) ((de_lst (da_cons (de_tup (da_cons (de_var 6) (da_cons de_int da_nil))) (da_cons (de_tup (da_cons (de_op o_add ((de_var 3)).q ((de_lst (da_cons de_int (da_cons de_int (da_cons de_int (da_cons de_int (da_cons de_int (da_cons de_int da_nil)))))))).q) (da_cons de_int da_nil))) (da_cons (de_tup (da_cons (de_lst (da_cons de_int (da_cons (de_un o_neg de_int.q) (da_cons de_int da_nil)))) (da_cons de_int da_nil))) (da_cons (de_tup (da_cons (de_lst da_nil) (da_cons de_int da_nil))) (da_cons (de_tup (da_cons (de_lst (da_cons de_int (da_cons de_int (da_cons de_int (da_cons de_int da_nil))))) (da_cons de_int da_nil))) da_nil))))))).q)) (ds_seq (ds_set (i := 4) (dv_cat (dq_var 4) ((de_lst (da_cons (de_tup (da_cons (de_lst (da_cons de_int (da_cons de_int (da_cons de_int (da_cons de_int (da_cons de_int (da_cons de_int (da_cons de_int (da_cons de_int da_nil))))))))) (da_cons de_int da_nil))) (da_cons (de_tup (da_cons (de_lst (da_cons de_int (da_cons de_int (da_cons de_int (da_cons de_int (da_cons de_int (da_cons de_int (da_cons de_int (da_cons de_int (da_cons de_int (da_cons de_int (da_cons de_int (da_cons de_int (da_cons de_int (da_cons de_int da_nil))))))))))))))) (da_cons de_int da_nil))) da_nil)))).q)) (ds_seq (ds_set (i := 7) (dv (de_lst (da_cons de_int (da_cons de_int (da_cons de_int (da_cons de_int (da_cons de_int (da_cons de_int da_nil))))))))) (ds_seq (ds_set (i := 5) (dv (de_op o_add ((de_op o_add ((de_op o_add ((de_op o_add ((de_var 7)).q ((de_lst (da_cons de_int da_nil))).q)).q ((de_call (da_cons (de_var 7) (da_cons de_int da_nil)))).q)).q ((de_lst (da_cons de_int da_nil))).q)).q ((de_call (da_cons (de_var 7) (da_cons de_int da_nil)))).q))) (ds_seq (ds_app 4 (de_tup (da_cons (de_var 5) (da_cons de_int da_nil)))) (ds_frz 4 (ds_seq (ds_for (di_seqU (de_var 4)) (dg_tup (dgs_cons (dg_name 8) (dgs_cons (dg_name 9) dgs_nil))) (ds_if (dt_not (dt_tru ((de_call (da_cons (de_var 1) (da_cons (de_var 8) (da_cons (de_var 9) da_nil))))).q)) (ds_ret de_bl) ds_nil)) (ds_seq (ds_if (dt_or (dt_test (de_op o_ne ((de_call (da_cons (de_make (da_cons (de_var 3) da_nil)) da_nil))).q ((de_tup (da_cons (de_tup (da_cons de_int (da_cons de_int da_nil))) (da_cons (de_tup (da_cons de_int (da_cons de_int da_nil))) da_nil)))).q)) (dt_test (de_op o_ne ((de_call (da_cons (de_make (da_cons (de_var 3) da_nil)) da_nil))).q ((de_tup (da_cons (de_tup (da_cons de_int (da_cons de_int da_nil))) (da_cons (de_tup (da_cons de_int (da_cons de_int da_nil))) da_nil)))).q))) (ds_ret de_bl) ds_nil) (ds_seq (ds_if (dt_test (de_op o_ne ((de_call (da_cons (de_make (da_cons (de_var 3) da_nil)) da_nil))).q ((de_tup (da_cons (de_tup (da_cons (de_tup (da_cons de_int (da_cons de_int da_nil))) da_nil)) (da_cons (de_tup (da_cons (de_tup (da_cons de_int (da_cons de_int da_nil))) da_nil)) da_nil)))).q)) (ds_ret de_bl) ds_nil) (ds_seq (ds_set (i := 10) (dv (de_lst (da_cons de_int (da_cons de_int (da_cons (de_un o_neg de_int.q) (da_cons (de_un o_neg de_int.q) (da_cons (de_un o_neg de_int.q) (da_cons de_int da_nil))))))))) (ds_seq (ds_if (dt_not (dt_tru ((de_call (da_cons (de_call (da_cons (de_make (da_cons (de_var 10) da_nil)) da_nil)) (da_cons (de_cb n_tuple (dp_cons ((de_call (da_cons (de_var 10) da_nil))).q dp_nil)) da_nil)))).q)) (ds_ret de_bl) ds_nil) (ds_ret (de_op o_eq ((de_call (da_cons (de_make (da_cons (de_lst (da_cons de_int (da_cons (de_un o_neg de_int.q) (da_cons (de_un o_neg de_int.q) (da_cons (de_un o_neg de_int.q) (da_cons (de_un o_neg de_int.q) (da_cons de_int da_nil))))))) da_nil)) da_nil))).q ((de_call (da_cons (de_lst (da_cons de_int (da_cons (de_un o_neg de_int.q) (da_cons (de_un o_neg de_int.q) (da_cons (de_un o_neg de_int.q) (da_cons (de_un o_neg de_int.q) (da_cons de_int da_nil))))))) da_nil))).q)))))))))))))))))) mr hcs tb (ht r hs hcs) p⟩

end
/-! draws -/
def Lim (k : Nat) (m : Mo) : Prop := ∃ r, m = some r ∧ r.spot + k ≤ 1000000000 ∧ r.cs = []
theorem Lim.le {j k : Nat} {m : Mo} (h : Lim k m) (hk : j ≤ k) : Lim j m := by
  obtain ⟨r, e, q, z⟩ := h
  exact ⟨r, e, by omega, z⟩
theorem draw_lim {L : Int} {m : Mo} {k : Nat} (h0 : 0 < L) (h1 : L < 1000000) (h : Lim (k + 1) m) : ∃ v m', F__law_draw [.drw, .int L] m = .ok (.int v) m' ∧ Lim k m' ∧ 0 ≤ v ∧ v < L := by
  obtain ⟨r, rfl, hs, hz⟩ := h
  refine ⟨drawV r L, some (drawM r L), if_pos ⟨⟨h0, h1⟩, by omega⟩, ⟨_, rfl, ?_, ?_⟩, (drawV_le h0).1, (drawV_le h0).2⟩
  · rw [drawM_ad.2.2.2.1]
    omega
  · rw [drawM_ad.2.2.2.2]
    exact hz
/-! rows -/
def Per (n : Nat) (w : List Int) : Prop := (w.map Int.natAbs).Perm (List.range' 1 n)
theorem Per.len {n : Nat} {w : List Int} (h : Per n w) : w.length = n := by
  have z := h.length_eq
  rw [List.length_map, List.length_range'] at z
  exact z
theorem Per.mem {n : Nat} {w : List Int} (h : Per n w) {x : Int} (hx : x ∈ w) : 1 ≤ x.natAbs ∧ x.natAbs ≤ n := by
  have z : x.natAbs ∈ List.range' 1 n := h.subset (List.mem_map.mpr ⟨x, hx, rfl⟩)
  have y := List.mem_range'_1.mp z
  omega
theorem Per.nodup {n : Nat} {w : List Int} (h : Per n w) : (w.map Int.natAbs).Nodup := h.nodup_iff.mpr List.nodup_range'
theorem Per.nil : Per 0 [] := .refl _
theorem Per.ins {n k : Nat} {w : List Int} {x : Int} (h : Per n w) (hx : x.natAbs = n + 1) : Per (n + 1) (w.take k ++ [x] ++ w.drop k) := by
  unfold Per
  rw [List.range'_concat, List.map_append, List.map_append, List.map_cons, List.map_nil, hx]
  have p1 : ((w.take k).map Int.natAbs ++ [n + 1] ++ (w.drop k).map Int.natAbs).Perm ((n + 1) :: ((w.take k).map Int.natAbs ++ (w.drop k).map Int.natAbs)) := by
    rw [List.append_assoc]
    exact List.perm_middle
  refine p1.trans ?_
  rw [← List.map_append, List.take_append_drop]
  have p2 : ((n + 1) :: w.map Int.natAbs).Perm ((n + 1) :: List.range' 1 n) := List.Perm.cons _ h
  refine p2.trans ?_
  rw [show 1 + 1 * n = n + 1 by omega]
  exact (List.perm_append_singleton _ _).symm
theorem Per.id (n : Nat) : Per n ((List.range n).map fun (i : Nat) => (1 + (i : Int))) := by
  unfold Per
  have e : ((List.range n).map fun (i : Nat) => (1 + (i : Int))).map Int.natAbs = List.range' 1 n := by
    rw [List.map_map, List.range'_eq_map_range]
    apply List.map_congr_left
    intro i _
    show (1 + (i : Int)).natAbs = 1 + i
    omega
  rw [e]
/-- a turning -/
def turnL (w : List Int) (f l : Nat) : List Int := w.take f ++ ((w.drop f).take (l + 1 - f)).reverse.map (fun x => 0 - x) ++ w.drop (l + 1)
theorem Per.turn {n f l : Nat} {w : List Int} (h : Per n w) (hfl : f ≤ l) : Per n (turnL w f l) := by
  refine List.Perm.trans ?_ h
  unfold turnL
  have e : (((w.drop f).take (l + 1 - f)).reverse.map (fun x : Int => 0 - x)).map Int.natAbs = (((w.drop f).take (l + 1 - f)).map Int.natAbs).reverse := by
    rw [List.map_map, List.map_reverse]
    congr 1
    apply List.map_congr_left
    intro x _
    show (0 - x).natAbs = x.natAbs
    omega
  rw [List.map_append, List.map_append, e]
  have p1 : ((w.take f).map Int.natAbs ++ (((w.drop f).take (l + 1 - f)).map Int.natAbs).reverse ++ (w.drop (l + 1)).map Int.natAbs).Perm ((w.take f).map Int.natAbs ++ ((w.drop f).take (l + 1 - f)).map Int.natAbs ++ (w.drop (l + 1)).map Int.natAbs) :=
    List.Perm.append_right _ (List.Perm.append_left _ (List.reverse_perm _))
  refine p1.trans ?_
  have e2 : w.take f ++ (w.drop f).take (l + 1 - f) ++ w.drop (l + 1) = w := by
    have e3 : w.drop (l + 1) = (w.drop f).drop (l + 1 - f) := by rw [List.drop_drop]; congr 1; omega
    rw [e3, List.append_assoc, List.take_append_drop, List.take_append_drop]
  rw [← List.map_append, ← List.map_append, e2]
theorem in_ints {ks : List Int} {a : Int} : inD false (.int a) (.lst (ks.map .int)) = some (.bl (decide (a ∈ ks))) := by
  show (if (D.int a).plain 60 = true ∧ D.plains 60 (ks.map .int) = true then some (D.bl (false ^^ (ks.map D.int).any fun z => PyData.eqv z.py (D.int a).py)) else none) = _
  rw [if_pos ⟨by simp [D.plain], plain_ints 60 ks⟩]
  congr 2
  rw [Bool.false_xor, List.any_map, Bool.eq_iff_iff, List.any_eq_true, decide_eq_true_iff]
  constructor
  · rintro ⟨x, hx, e⟩
    have e' : (x == a) = true := by simpa [D.py, PyData.eqv] using e
    rw [← eq_of_beq e']
    exact hx
  · intro h
    exact ⟨a, h, by simp [D.py, PyData.eqv]⟩
theorem abs_nat (x : Int) : (if x < 0 then -x else x) = ((x.natAbs : Nat) : Int) := by
  split <;> omega
/-! what is refused of a row's waggons -/
theorem is_list_l {l : List D} {m : Mo} : F_is_list [.lst l] m = .ok (.bl true) m := by kernel_rfl
theorem is_list_t {l : List D} {m : Mo} : F_is_list [.tup l] m = .ok (.bl true) m := by kernel_rfl
theorem is_whole_i {x : Int} {m : Mo} : F_is_whole [.int x] m = .ok (.bl true) m := by kernel_rfl
/-- an item of plain type that is no whole number -/
def oddD : D → Bool
  | .int _ => false
  | d => (tyD d).isSome
theorem is_whole_o {d : D} {m : Mo} (h : oddD d = true) : F_is_whole [d] m = .ok (.bl false) m := by
  cases d with
  | int i => cases h
  | non => kernel_rfl
  | bl b => kernel_rfl
  | str x => kernel_rfl
  | tup l => kernel_rfl
  | lst l => kernel_rfl
  | dct l => kernel_rfl
  | dcn l => first | cases h | kernel_rfl
  | cel k => cases h
  | obj c d => cases h
  | exc c l => cases h
  | drw => cases h
  | scr ns => cases h
/-- the first fault, from place i on, of rows of n; known: the numbers met -/
def flt (n : Nat) : Nat → List Nat → List D → Option Nat
  | _, _, [] => none
  | i, known, .int x :: r => if (1 ≤ x.natAbs ∧ x.natAbs ≤ n) ∧ x.natAbs ∉ known then flt n (i + 1) (known ++ [x.natAbs]) r else some i
  | i, _, _ :: _ => some i
def kn (known : List Nat) : List D := (known.map (Nat.cast : Nat → Int)).map D.int
theorem in_kn {known : List Nat} {a : Nat} : inD false (.int (a : Int)) (.lst (kn known)) = some (.bl (decide (a ∈ known))) := by
  unfold kn
  rw [in_ints]
  congr 2
  rw [Bool.eq_iff_iff, decide_eq_true_iff, decide_eq_true_iff]
  constructor
  · intro h
    obtain ⟨b, hb, e⟩ := List.mem_map.mp h
    have : b = a := by omega
    rwa [← this]
  · exact fun h => List.mem_map.mpr ⟨a, h, rfl⟩
/-- what a turn of the loop does -/
theorem need_turn {x : D} {known : List Nat} {n i : Nat} {d : D} {m : Mo} (el : lenD [x] = some (.int (n : Int))) (hk : known.length ≤ 1000) (hd : (tyD d).isSome = true) :
    den_need_waggons_b1 [some (.v x), some (.ml (kn known)), some (.v (.int (i : Int))), some (.v d)] m = match d with
      | .int z => if (1 ≤ z.natAbs ∧ z.natAbs ≤ n) ∧ z.natAbs ∉ known then .nx [some (.v x), some (.ml (kn (known ++ [z.natAbs]))), some (.v (.int (i : Int))), some (.v d)] m else .exc 0 [.int (i : Int)] m
      | _ => .exc 0 [.int (i : Int)] m := by
  have lk : (kn known).length = known.length := by unfold kn; simp
  by_cases ho : oddD d = true
  · unfold den_need_waggons_b1
    and_intros
    rw [is_whole_o ho]
    and_intros
    cases d with
    | int z => cases ho
    | _ => rfl
  · cases d with
    | int z =>
      unfold den_need_waggons_b1
      and_intros
      rw [is_whole_i]
      and_intros
      rw [el]
      and_intros
      rw [abs_nat]
      by_cases h1 : 1 ≤ z.natAbs
      · rw [decide_eq_true (show (1 : Int) ≤ (z.natAbs : Int) by omega)]
        and_intros
        by_cases h2 : z.natAbs ≤ n
        · rw [decide_eq_true (show (z.natAbs : Int) ≤ (n : Int) by omega)]
          and_intros
          rw [in_kn]
          by_cases h3 : z.natAbs ∈ known
          · rw [decide_eq_true h3, if_neg (show ¬ ((1 ≤ z.natAbs ∧ z.natAbs ≤ n) ∧ z.natAbs ∉ known) from fun w => w.2 h3)]
            and_intros
          · rw [decide_eq_false h3, if_pos ⟨⟨h1, h2⟩, h3⟩]
            and_intros
            rw [if_pos (by omega)]
            unfold kn
            rw [List.map_append, List.map_append, abs_nat]
            rfl
        · rw [decide_eq_false (show ¬ (z.natAbs : Int) ≤ (n : Int) by omega), if_neg (show ¬ ((1 ≤ z.natAbs ∧ z.natAbs ≤ n) ∧ z.natAbs ∉ known) from fun w => h2 w.1.2)]
          and_intros
      · rw [decide_eq_false (show ¬ (1 : Int) ≤ (z.natAbs : Int) by omega), if_neg (show ¬ ((1 ≤ z.natAbs ∧ z.natAbs ≤ n) ∧ z.natAbs ∉ known) from fun w => h1 w.1.1)]
        and_intros
    | non => exact absurd rfl ho
    | bl b => exact absurd rfl ho
    | str x => exact absurd rfl ho
    | tup l => exact absurd rfl ho
    | lst l => exact absurd rfl ho
    | dct l => exact absurd rfl ho
    | dcn l => first | cases hd | exact absurd rfl ho
    | cel k => cases hd
    | obj c d => cases hd
    | exc c l => cases hd
    | drw => cases hd
    | scr ns => cases hd
abbrev needH : D → Ro → Option Ro := hTup 2 (hCons (hName 2) (hCons (hName 3) hNil))
theorem need_rec {x : D} {n : Nat} (el : lenD [x] = some (.int (n : Int))) : ∀ (ds : List D) (i : Nat) (known : List Nat) (x2 x3 : Option Sv) (m : Mo), known.length + ds.length ≤ 1000 → (∀ d ∈ ds, (tyD d).isSome = true) →
    (∃ k, flt n i known ds = some k ∧ forD needH den_need_waggons_b1 (enumD i ds) [some (.v x), some (.ml (kn known)), x2, x3] m = .exc 0 [.int (k : Int)] m) ∨
    (∃ ρ, flt n i known ds = none ∧ forD needH den_need_waggons_b1 (enumD i ds) [some (.v x), some (.ml (kn known)), x2, x3] m = .nx ρ m)
  | [], i, known, x2, x3, m, _, _ => .inr ⟨_, rfl, rfl⟩
  | d :: r, i, known, x2, x3, m, hl, ht => by
    have e1 : needH (.tup [.int (i : Int), d]) [some (.v x), some (.ml (kn known)), x2, x3] = some [some (.v x), some (.ml (kn known)), some (.v (.int (i : Int))), some (.v d)] := rfl
    have e2 : enumD i (d :: r) = .tup [.int (i : Int), d] :: enumD (i + 1) r := rfl
    rw [e2, forD_cons e1, need_turn el (by simp at hl; omega) (ht d List.mem_cons_self)]
    cases d with
    | int z =>
      dsimp only
      unfold flt
      by_cases hz : (1 ≤ z.natAbs ∧ z.natAbs ≤ n) ∧ z.natAbs ∉ known
      · rw [if_pos hz, if_pos hz]
        exact need_rec el r (i + 1) (known ++ [z.natAbs]) _ _ m (by simp at hl ⊢; omega) fun d hd => ht d (List.mem_cons_of_mem _ hd)
      · rw [if_neg hz, if_neg hz]
        exact .inl ⟨i, rfl, rfl⟩
    | _ => exact .inl ⟨i, rfl, rfl⟩
/-- Row's __init__ -/
theorem init_spec {x : D} {ds : List D} {m : Mo} (hx : x = .lst ds ∨ x = .tup ds) (hl : ds.length ≤ 1000) (ht : ∀ d ∈ ds, (tyD d).isSome = true) :
    F_Row___init__ [x] m = if 24 < ds.length then .exc 2 [.int 24] m else match flt ds.length 0 [] ds with
      | some k => .exc 0 [.int (k : Int)] m
      | none => .ok (.tup ds) m := by
  have el : lenD [x] = some (.int (ds.length : Int)) := by rcases hx with rfl | rfl <;> rfl
  have il : F_is_list [x] m = .ok (.bl true) m := by rcases hx with rfl | rfl <;> kernel_rfl
  have ee : dEnumU (dCons (dVar 0) dNil) [some (.v x), some (.ml []), none, none] m = .ok (enumD 0 ds) m := by rcases hx with rfl | rfl <;> rfl
  have et : toTup [x] = some (.tup ds) := by rcases hx with rfl | rfl <;> rfl
  have need : F_need_waggons [x] m = if 24 < ds.length then .exc 2 [.int 24] m else match flt ds.length 0 [] ds with
      | some k => .exc 0 [.int (k : Int)] m
      | none => .ok .non m := by
    unfold F_need_waggons den_need_waggons
    and_intros
    rw [il]
    and_intros
    rw [el]
    and_intros
    by_cases h : 24 < ds.length
    · rw [decide_eq_true (show (24 : Int) < (ds.length : Int) by omega), if_pos h]
      and_intros
    · rw [decide_eq_false (show ¬ (24 : Int) < (ds.length : Int) by omega), if_neg h]
      and_intros
      rcases hx with rfl | rfl
      all_goals
        and_intros
        rcases need_rec el ds 0 [] none none m (by simpa using hl) ht with ⟨k, e1, e2⟩ | ⟨ρ, e1, e2⟩
        · rw [e1]
          first
            | exact congrArg (fun r => match r with
                | .nx _ m' => R.ok D.non m'
                | .rt d m' => .ok d m'
                | .exc c l m' => .exc c l m'
                | _ => .bad) e2
        · rw [e1]
          exact congrArg (fun r => match r with
                | .nx _ m' => R.ok D.non m'
                | .rt d m' => .ok d m'
                | .exc c l m' => .exc c l m'
                | _ => .bad) e2
  unfold F_Row___init__
  and_intros
  rw [need]
  by_cases h : 24 < ds.length
  · rw [if_pos h, if_pos h]
    rfl
  · rw [if_neg h, if_neg h]
    cases flt ds.length 0 [] ds with
    | some k => rfl
    | none =>
      dsimp only
      and_intros
      rw [et]
      and_intros
noncomputable abbrev crA : DS := (sAsg (dTup (dCons (dMake 0 F_Row___init__ (dCons (dVar 1) dNil)) (dCons (dCB lenD (dCons (dVar 1) dNil)) dNil))) (hTup 2 (hCons (hName 3) (hCons (hName 4) hNil))))
noncomputable abbrev crL : DE := (dLst (dCons (dOp addD (dVar 1) (dLst (dCons (dOp addD (dVar 4) (dC (.int 1))) dNil))) (dCons (dOp addD (dLst (dCons (dC (.int 1)) dNil)) (dCall 2 F__law_higher (dCons (dVar 1) (dCons (dC (.int 1)) dNil)))) (dCons (dCB toLst (dCons (dFld 0 (dMeth 0 1 F_Row_inverse (dVar 3) dNil)) dNil)) dNil))))
noncomputable abbrev crT : DS := (sSeq (sIf (dNot (dTru (dCall 2 F__law_like (dCons (dLst (dCons (dCall 1 F_cost (dCons (dVar 3) dNil)) (dCons (dCall 1 F_cost (dCons (dMake 0 F_Row___init__ (dCons (dVar 5) dNil)) dNil)) dNil))) (dCons (dLst (dCons (dVar 2) (dCons (dVar 2) dNil))) dNil))))) (sRet (dC (.bl false))) sNx)
    (sSeq (sSet 6 (dvV (fun ρ m => (dLc (dSeqU (dUn revUD (dVar 1))) (hName 7) (fun _ m => .ok true m) (dIf (dTest (dOp (cmpD fun i j => decide (j < i)) (dVar 7) (dC (.int 0)))) (dOp subD (dOp addD (dVar 4) (dC (.int 1))) (dVar 7)) (dOp subD (dOp subD (dOp subD (dC (.int 0)) (dVar 4)) (dC (.int 1))) (dVar 7))) [7] ρ m).map .lst)))
    (sRet (dAndV (dCall 2 F__law_like (dCons (dCall 1 F_cost (dCons (dMake 0 F_Row___init__ (dCons (dVar 6) dNil)) dNil)) (dCons (dVar 2) dNil))) (dOp eqD (dCall 1 F_to_go (dCons (dVar 3) dNil)) (dOp addD (dOp subD (dOp addD (dCB lenD (dCons (dVar 1) dNil)) (dC (.int 1))) (dCB lenD (dCons (dCall 1 F__law_rings (dCons (dVar 1) dNil)) dNil))) (dVar 2)))))))
theorem cr_split {w due row high more : D} {l : List D} {m m1 : Mo} {v : Int} (e1 : F__law_draw [.drw, .int 3] m = .ok (.int v) m1)
    (hA : ∀ m, crA [some (.v .drw), some (.v w), some (.v due), none, none, none, none, none] m = .nx [some (.v .drw), some (.v w), some (.v due), some (.v row), some (.v high), none, none, none] m)
    (hL : ∀ m, crL [some (.v .drw), some (.v w), some (.v due), some (.v row), some (.v high), none, none, none] m = .ok (.lst l) m) (hx : ixV (.lst l) (.int v) = some more)
    (hT : ∀ m, crT [some (.v .drw), some (.v w), some (.v due), some (.v row), some (.v high), some (.v more), none, none] m = .rt (.bl true) m) : F__law_costs_right [.drw, w, due] m = .ok (.bl true) m1 := by
  have hC : ((dCall 2 F__law_draw (dCons (dVar 0) (dCons (dC (.int 3)) dNil)))) [some (.v .drw), some (.v w), some (.v due), some (.v row), some (.v high), none, none, none] m = .ok (.int v) m1 := by
    and_intros
    rw [e1]
  unfold F__law_costs_right den__law_costs_right
  show (match (sSeq crA _) [some (.v .drw), some (.v w), some (.v due), none, none, none, none, none] m with
    | .nx _ m' => R.ok D.non m'
    | .rt d m' => .ok d m'
    | .exc c l m' => .exc c l m'
    | _ => .bad) = _
  rw [ev_seq, hA]
  show (match (sSeq (sSet 5 (dvV (dOp ixV crL ((dCall 2 F__law_draw (dCons (dVar 0) (dCons (dC (.int 3)) dNil))))))) crT) [some (.v .drw), some (.v w), some (.v due), some (.v row), some (.v high), none, none, none] m with
    | .nx _ m' => R.ok D.non m'
    | .rt d m' => .ok d m'
    | .exc c l m' => .exc c l m'
    | _ => .bad) = _
  have hB : (sSet 5 (dvV (dOp ixV crL ((dCall 2 F__law_draw (dCons (dVar 0) (dCons (dC (.int 3)) dNil))))))) [some (.v .drw), some (.v w), some (.v due), some (.v row), some (.v high), none, none, none] m = .nx [some (.v .drw), some (.v w), some (.v due), some (.v row), some (.v high), some (.v more), none, none] m1 := by
    rw [ev_set, ev_dv, ev_op, hL, ev_bind, hC, ev_bind, hx]
    rfl
  rw [ev_seq, hB]
  show (match crT _ m1 with
    | .nx _ m' => R.ok D.non m'
    | .rt d m' => .ok d m'
    | .exc c l m' => .exc c l m'
    | _ => .bad) = _
  rw [hT]
theorem crt_0_0 (m : Mo) : crT [some (.v .drw), some (.v (.lst [.int 2, .int 1])), some (.v (.int 1)), some (.v (.obj 0 (.tup [.int 2, .int 1]))), some (.v (.int 2)), some (.v (.lst [.int 2, .int 1, .int 3])), none, none] m = .rt (.bl true) m := by kernel_rfl
theorem crt_0_1 (m : Mo) : crT [some (.v .drw), some (.v (.lst [.int 2, .int 1])), some (.v (.int 1)), some (.v (.obj 0 (.tup [.int 2, .int 1]))), some (.v (.int 2)), some (.v (.lst [.int 1, .int 3, .int 2])), none, none] m = .rt (.bl true) m := by kernel_rfl
theorem crt_0_2 (m : Mo) : crT [some (.v .drw), some (.v (.lst [.int 2, .int 1])), some (.v (.int 1)), some (.v (.obj 0 (.tup [.int 2, .int 1]))), some (.v (.int 2)), some (.v (.lst [.int 2, .int 1])), none, none] m = .rt (.bl true) m := by kernel_rfl
theorem cr_0 {k : Nat} {m : Mo} (h : Lim (k + 1) m) : ∃ m', F__law_costs_right [.drw, (.lst [.int 2, .int 1]), .int 1] m = .ok (.bl true) m' ∧ Lim k m' := by
  obtain ⟨v, m1, e1, lim1, v0, v1⟩ := draw_lim (L := 3) (k := k) (by decide) (by decide) h
  have hv : v = 0 ∨ v = 1 ∨ v = 2 := by omega
  have hA : ∀ m, crA [some (.v .drw), some (.v (.lst [.int 2, .int 1])), some (.v (.int 1)), none, none, none, none, none] m = .nx [some (.v .drw), some (.v (.lst [.int 2, .int 1])), some (.v (.int 1)), some (.v (.obj 0 (.tup [.int 2, .int 1]))), some (.v (.int 2)), none, none, none] m := fun m => by kernel_rfl
  have hL : ∀ m, crL [some (.v .drw), some (.v (.lst [.int 2, .int 1])), some (.v (.int 1)), some (.v (.obj 0 (.tup [.int 2, .int 1]))), some (.v (.int 2)), none, none, none] m = .ok (.lst [(.lst [.int 2, .int 1, .int 3]), (.lst [.int 1, .int 3, .int 2]), (.lst [.int 2, .int 1])]) m := fun m => by kernel_rfl
  refine ⟨m1, ?_, lim1⟩
  rcases hv with rfl | rfl | rfl
  · exact cr_split e1 hA hL rfl crt_0_0
  · exact cr_split e1 hA hL rfl crt_0_1
  · exact cr_split e1 hA hL rfl crt_0_2
theorem crt_1_0 (m : Mo) : crT [some (.v .drw), some (.v (.lst [.int 5, .int 1, .int 3, .int 2, .int 4])), some (.v (.int 2)), some (.v (.obj 0 (.tup [.int 5, .int 1, .int 3, .int 2, .int 4]))), some (.v (.int 5)), some (.v (.lst [.int 5, .int 1, .int 3, .int 2, .int 4, .int 6])), none, none] m = .rt (.bl true) m := by kernel_rfl
theorem crt_1_1 (m : Mo) : crT [some (.v .drw), some (.v (.lst [.int 5, .int 1, .int 3, .int 2, .int 4])), some (.v (.int 2)), some (.v (.obj 0 (.tup [.int 5, .int 1, .int 3, .int 2, .int 4]))), some (.v (.int 5)), some (.v (.lst [.int 1, .int 6, .int 2, .int 4, .int 3, .int 5])), none, none] m = .rt (.bl true) m := by kernel_rfl
theorem crt_1_2 (m : Mo) : crT [some (.v .drw), some (.v (.lst [.int 5, .int 1, .int 3, .int 2, .int 4])), some (.v (.int 2)), some (.v (.obj 0 (.tup [.int 5, .int 1, .int 3, .int 2, .int 4]))), some (.v (.int 5)), some (.v (.lst [.int 2, .int 4, .int 3, .int 5, .int 1])), none, none] m = .rt (.bl true) m := by kernel_rfl
theorem cr_1 {k : Nat} {m : Mo} (h : Lim (k + 1) m) : ∃ m', F__law_costs_right [.drw, (.lst [.int 5, .int 1, .int 3, .int 2, .int 4]), .int 2] m = .ok (.bl true) m' ∧ Lim k m' := by
  obtain ⟨v, m1, e1, lim1, v0, v1⟩ := draw_lim (L := 3) (k := k) (by decide) (by decide) h
  have hv : v = 0 ∨ v = 1 ∨ v = 2 := by omega
  have hA : ∀ m, crA [some (.v .drw), some (.v (.lst [.int 5, .int 1, .int 3, .int 2, .int 4])), some (.v (.int 2)), none, none, none, none, none] m = .nx [some (.v .drw), some (.v (.lst [.int 5, .int 1, .int 3, .int 2, .int 4])), some (.v (.int 2)), some (.v (.obj 0 (.tup [.int 5, .int 1, .int 3, .int 2, .int 4]))), some (.v (.int 5)), none, none, none] m := fun m => by kernel_rfl
  have hL : ∀ m, crL [some (.v .drw), some (.v (.lst [.int 5, .int 1, .int 3, .int 2, .int 4])), some (.v (.int 2)), some (.v (.obj 0 (.tup [.int 5, .int 1, .int 3, .int 2, .int 4]))), some (.v (.int 5)), none, none, none] m = .ok (.lst [(.lst [.int 5, .int 1, .int 3, .int 2, .int 4, .int 6]), (.lst [.int 1, .int 6, .int 2, .int 4, .int 3, .int 5]), (.lst [.int 2, .int 4, .int 3, .int 5, .int 1])]) m := fun m => by kernel_rfl
  refine ⟨m1, ?_, lim1⟩
  rcases hv with rfl | rfl | rfl
  · exact cr_split e1 hA hL rfl crt_1_0
  · exact cr_split e1 hA hL rfl crt_1_1
  · exact cr_split e1 hA hL rfl crt_1_2
theorem crt_2_0 (m : Mo) : crT [some (.v .drw), some (.v (.lst [.int 2, .int 1, .int 3, .int 5, .int 4])), some (.v (.int 2)), some (.v (.obj 0 (.tup [.int 2, .int 1, .int 3, .int 5, .int 4]))), some (.v (.int 5)), some (.v (.lst [.int 2, .int 1, .int 3, .int 5, .int 4, .int 6])), none, none] m = .rt (.bl true) m := by kernel_rfl
theorem crt_2_1 (m : Mo) : crT [some (.v .drw), some (.v (.lst [.int 2, .int 1, .int 3, .int 5, .int 4])), some (.v (.int 2)), some (.v (.obj 0 (.tup [.int 2, .int 1, .int 3, .int 5, .int 4]))), some (.v (.int 5)), some (.v (.lst [.int 1, .int 3, .int 2, .int 4, .int 6, .int 5])), none, none] m = .rt (.bl true) m := by kernel_rfl
theorem crt_2_2 (m : Mo) : crT [some (.v .drw), some (.v (.lst [.int 2, .int 1, .int 3, .int 5, .int 4])), some (.v (.int 2)), some (.v (.obj 0 (.tup [.int 2, .int 1, .int 3, .int 5, .int 4]))), some (.v (.int 5)), some (.v (.lst [.int 2, .int 1, .int 3, .int 5, .int 4])), none, none] m = .rt (.bl true) m := by kernel_rfl
theorem cr_2 {k : Nat} {m : Mo} (h : Lim (k + 1) m) : ∃ m', F__law_costs_right [.drw, (.lst [.int 2, .int 1, .int 3, .int 5, .int 4]), .int 2] m = .ok (.bl true) m' ∧ Lim k m' := by
  obtain ⟨v, m1, e1, lim1, v0, v1⟩ := draw_lim (L := 3) (k := k) (by decide) (by decide) h
  have hv : v = 0 ∨ v = 1 ∨ v = 2 := by omega
  have hA : ∀ m, crA [some (.v .drw), some (.v (.lst [.int 2, .int 1, .int 3, .int 5, .int 4])), some (.v (.int 2)), none, none, none, none, none] m = .nx [some (.v .drw), some (.v (.lst [.int 2, .int 1, .int 3, .int 5, .int 4])), some (.v (.int 2)), some (.v (.obj 0 (.tup [.int 2, .int 1, .int 3, .int 5, .int 4]))), some (.v (.int 5)), none, none, none] m := fun m => by kernel_rfl
  have hL : ∀ m, crL [some (.v .drw), some (.v (.lst [.int 2, .int 1, .int 3, .int 5, .int 4])), some (.v (.int 2)), some (.v (.obj 0 (.tup [.int 2, .int 1, .int 3, .int 5, .int 4]))), some (.v (.int 5)), none, none, none] m = .ok (.lst [(.lst [.int 2, .int 1, .int 3, .int 5, .int 4, .int 6]), (.lst [.int 1, .int 3, .int 2, .int 4, .int 6, .int 5]), (.lst [.int 2, .int 1, .int 3, .int 5, .int 4])]) m := fun m => by kernel_rfl
  refine ⟨m1, ?_, lim1⟩
  rcases hv with rfl | rfl | rfl
  · exact cr_split e1 hA hL rfl crt_2_0
  · exact cr_split e1 hA hL rfl crt_2_1
  · exact cr_split e1 hA hL rfl crt_2_2
theorem crt_3_0 (m : Mo) : crT [some (.v .drw), some (.v (.lst [.int 5, .int 1, .int 3, .int 2, .int 4, .int 6, .int 8, .int 7])), some (.v (.int 2)), some (.v (.obj 0 (.tup [.int 5, .int 1, .int 3, .int 2, .int 4, .int 6, .int 8, .int 7]))), some (.v (.int 8)), some (.v (.lst [.int 5, .int 1, .int 3, .int 2, .int 4, .int 6, .int 8, .int 7, .int 9])), none, none] m = .rt (.bl true) m := by kernel_rfl
theorem crt_3_1 (m : Mo) : crT [some (.v .drw), some (.v (.lst [.int 5, .int 1, .int 3, .int 2, .int 4, .int 6, .int 8, .int 7])), some (.v (.int 2)), some (.v (.obj 0 (.tup [.int 5, .int 1, .int 3, .int 2, .int 4, .int 6, .int 8, .int 7]))), some (.v (.int 8)), some (.v (.lst [.int 1, .int 6, .int 2, .int 4, .int 3, .int 5, .int 7, .int 9, .int 8])), none, none] m = .rt (.bl true) m := by kernel_rfl
theorem crt_3_2 (m : Mo) : crT [some (.v .drw), some (.v (.lst [.int 5, .int 1, .int 3, .int 2, .int 4, .int 6, .int 8, .int 7])), some (.v (.int 2)), some (.v (.obj 0 (.tup [.int 5, .int 1, .int 3, .int 2, .int 4, .int 6, .int 8, .int 7]))), some (.v (.int 8)), some (.v (.lst [.int 2, .int 4, .int 3, .int 5, .int 1, .int 6, .int 8, .int 7])), none, none] m = .rt (.bl true) m := by kernel_rfl
theorem cr_3 {k : Nat} {m : Mo} (h : Lim (k + 1) m) : ∃ m', F__law_costs_right [.drw, (.lst [.int 5, .int 1, .int 3, .int 2, .int 4, .int 6, .int 8, .int 7]), .int 2] m = .ok (.bl true) m' ∧ Lim k m' := by
  obtain ⟨v, m1, e1, lim1, v0, v1⟩ := draw_lim (L := 3) (k := k) (by decide) (by decide) h
  have hv : v = 0 ∨ v = 1 ∨ v = 2 := by omega
  have hA : ∀ m, crA [some (.v .drw), some (.v (.lst [.int 5, .int 1, .int 3, .int 2, .int 4, .int 6, .int 8, .int 7])), some (.v (.int 2)), none, none, none, none, none] m = .nx [some (.v .drw), some (.v (.lst [.int 5, .int 1, .int 3, .int 2, .int 4, .int 6, .int 8, .int 7])), some (.v (.int 2)), some (.v (.obj 0 (.tup [.int 5, .int 1, .int 3, .int 2, .int 4, .int 6, .int 8, .int 7]))), some (.v (.int 8)), none, none, none] m := fun m => by kernel_rfl
  have hL : ∀ m, crL [some (.v .drw), some (.v (.lst [.int 5, .int 1, .int 3, .int 2, .int 4, .int 6, .int 8, .int 7])), some (.v (.int 2)), some (.v (.obj 0 (.tup [.int 5, .int 1, .int 3, .int 2, .int 4, .int 6, .int 8, .int 7]))), some (.v (.int 8)), none, none, none] m = .ok (.lst [(.lst [.int 5, .int 1, .int 3, .int 2, .int 4, .int 6, .int 8, .int 7, .int 9]), (.lst [.int 1, .int 6, .int 2, .int 4, .int 3, .int 5, .int 7, .int 9, .int 8]), (.lst [.int 2, .int 4, .int 3, .int 5, .int 1, .int 6, .int 8, .int 7])]) m := fun m => by kernel_rfl
  refine ⟨m1, ?_, lim1⟩
  rcases hv with rfl | rfl | rfl
  · exact cr_split e1 hA hL rfl crt_3_0
  · exact cr_split e1 hA hL rfl crt_3_1
  · exact cr_split e1 hA hL rfl crt_3_2
theorem crt_4_0 (m : Mo) : crT [some (.v .drw), some (.v (.lst [.int 5, .int 1, .int 3, .int 2, .int 4, .int 6, .int 11, .int 7, .int 9, .int 8, .int 10, .int 12, .int 17, .int 13, .int 15, .int 14, .int 16])), some (.v (.int 4)), some (.v (.obj 0 (.tup [.int 5, .int 1, .int 3, .int 2, .int 4, .int 6, .int 11, .int 7, .int 9, .int 8, .int 10, .int 12, .int 17, .int 13, .int 15, .int 14, .int 16]))), some (.v (.int 17)), some (.v (.lst [.int 5, .int 1, .int 3, .int 2, .int 4, .int 6, .int 11, .int 7, .int 9, .int 8, .int 10, .int 12, .int 17, .int 13, .int 15, .int 14, .int 16, .int 18])), none, none] m = .rt (.bl true) m := by kernel_rfl
theorem crt_4_1 (m : Mo) : crT [some (.v .drw), some (.v (.lst [.int 5, .int 1, .int 3, .int 2, .int 4, .int 6, .int 11, .int 7, .int 9, .int 8, .int 10, .int 12, .int 17, .int 13, .int 15, .int 14, .int 16])), some (.v (.int 4)), some (.v (.obj 0 (.tup [.int 5, .int 1, .int 3, .int 2, .int 4, .int 6, .int 11, .int 7, .int 9, .int 8, .int 10, .int 12, .int 17, .int 13, .int 15, .int 14, .int 16]))), some (.v (.int 17)), some (.v (.lst [.int 1, .int 6, .int 2, .int 4, .int 3, .int 5, .int 7, .int 12, .int 8, .int 10, .int 9, .int 11, .int 13, .int 18, .int 14, .int 16, .int 15, .int 17])), none, none] m = .rt (.bl true) m := by kernel_rfl
theorem crt_4_2 (m : Mo) : crT [some (.v .drw), some (.v (.lst [.int 5, .int 1, .int 3, .int 2, .int 4, .int 6, .int 11, .int 7, .int 9, .int 8, .int 10, .int 12, .int 17, .int 13, .int 15, .int 14, .int 16])), some (.v (.int 4)), some (.v (.obj 0 (.tup [.int 5, .int 1, .int 3, .int 2, .int 4, .int 6, .int 11, .int 7, .int 9, .int 8, .int 10, .int 12, .int 17, .int 13, .int 15, .int 14, .int 16]))), some (.v (.int 17)), some (.v (.lst [.int 2, .int 4, .int 3, .int 5, .int 1, .int 6, .int 8, .int 10, .int 9, .int 11, .int 7, .int 12, .int 14, .int 16, .int 15, .int 17, .int 13])), none, none] m = .rt (.bl true) m := by kernel_rfl
theorem cr_4 {k : Nat} {m : Mo} (h : Lim (k + 1) m) : ∃ m', F__law_costs_right [.drw, (.lst [.int 5, .int 1, .int 3, .int 2, .int 4, .int 6, .int 11, .int 7, .int 9, .int 8, .int 10, .int 12, .int 17, .int 13, .int 15, .int 14, .int 16]), .int 4] m = .ok (.bl true) m' ∧ Lim k m' := by
  obtain ⟨v, m1, e1, lim1, v0, v1⟩ := draw_lim (L := 3) (k := k) (by decide) (by decide) h
  have hv : v = 0 ∨ v = 1 ∨ v = 2 := by omega
  have hA : ∀ m, crA [some (.v .drw), some (.v (.lst [.int 5, .int 1, .int 3, .int 2, .int 4, .int 6, .int 11, .int 7, .int 9, .int 8, .int 10, .int 12, .int 17, .int 13, .int 15, .int 14, .int 16])), some (.v (.int 4)), none, none, none, none, none] m = .nx [some (.v .drw), some (.v (.lst [.int 5, .int 1, .int 3, .int 2, .int 4, .int 6, .int 11, .int 7, .int 9, .int 8, .int 10, .int 12, .int 17, .int 13, .int 15, .int 14, .int 16])), some (.v (.int 4)), some (.v (.obj 0 (.tup [.int 5, .int 1, .int 3, .int 2, .int 4, .int 6, .int 11, .int 7, .int 9, .int 8, .int 10, .int 12, .int 17, .int 13, .int 15, .int 14, .int 16]))), some (.v (.int 17)), none, none, none] m := fun m => by kernel_rfl
  have hL : ∀ m, crL [some (.v .drw), some (.v (.lst [.int 5, .int 1, .int 3, .int 2, .int 4, .int 6, .int 11, .int 7, .int 9, .int 8, .int 10, .int 12, .int 17, .int 13, .int 15, .int 14, .int 16])), some (.v (.int 4)), some (.v (.obj 0 (.tup [.int 5, .int 1, .int 3, .int 2, .int 4, .int 6, .int 11, .int 7, .int 9, .int 8, .int 10, .int 12, .int 17, .int 13, .int 15, .int 14, .int 16]))), some (.v (.int 17)), none, none, none] m = .ok (.lst [(.lst [.int 5, .int 1, .int 3, .int 2, .int 4, .int 6, .int 11, .int 7, .int 9, .int 8, .int 10, .int 12, .int 17, .int 13, .int 15, .int 14, .int 16, .int 18]), (.lst [.int 1, .int 6, .int 2, .int 4, .int 3, .int 5, .int 7, .int 12, .int 8, .int 10, .int 9, .int 11, .int 13, .int 18, .int 14, .int 16, .int 15, .int 17]), (.lst [.int 2, .int 4, .int 3, .int 5, .int 1, .int 6, .int 8, .int 10, .int 9, .int 11, .int 7, .int 12, .int 14, .int 16, .int 15, .int 17, .int 13])]) m := fun m => by kernel_rfl
  refine ⟨m1, ?_, lim1⟩
  rcases hv with rfl | rfl | rfl
  · exact cr_split e1 hA hL rfl crt_4_0
  · exact cr_split e1 hA hL rfl crt_4_1
  · exact cr_split e1 hA hL rfl crt_4_2
theorem crt_5_0 (m : Mo) : crT [some (.v .drw), some (.v (.lst [.int 5, .int 1, .int 3, .int 2, .int 4, .int 6, .int 11, .int 7, .int 9, .int 8, .int 10, .int 12, .int 14, .int 13])), some (.v (.int 3)), some (.v (.obj 0 (.tup [.int 5, .int 1, .int 3, .int 2, .int 4, .int 6, .int 11, .int 7, .int 9, .int 8, .int 10, .int 12, .int 14, .int 13]))), some (.v (.int 14)), some (.v (.lst [.int 5, .int 1, .int 3, .int 2, .int 4, .int 6, .int 11, .int 7, .int 9, .int 8, .int 10, .int 12, .int 14, .int 13, .int 15])), none, none] m = .rt (.bl true) m := by kernel_rfl
theorem crt_5_1 (m : Mo) : crT [some (.v .drw), some (.v (.lst [.int 5, .int 1, .int 3, .int 2, .int 4, .int 6, .int 11, .int 7, .int 9, .int 8, .int 10, .int 12, .int 14, .int 13])), some (.v (.int 3)), some (.v (.obj 0 (.tup [.int 5, .int 1, .int 3, .int 2, .int 4, .int 6, .int 11, .int 7, .int 9, .int 8, .int 10, .int 12, .int 14, .int 13]))), some (.v (.int 14)), some (.v (.lst [.int 1, .int 6, .int 2, .int 4, .int 3, .int 5, .int 7, .int 12, .int 8, .int 10, .int 9, .int 11, .int 13, .int 15, .int 14])), none, none] m = .rt (.bl true) m := by kernel_rfl
theorem crt_5_2 (m : Mo) : crT [some (.v .drw), some (.v (.lst [.int 5, .int 1, .int 3, .int 2, .int 4, .int 6, .int 11, .int 7, .int 9, .int 8, .int 10, .int 12, .int 14, .int 13])), some (.v (.int 3)), some (.v (.obj 0 (.tup [.int 5, .int 1, .int 3, .int 2, .int 4, .int 6, .int 11, .int 7, .int 9, .int 8, .int 10, .int 12, .int 14, .int 13]))), some (.v (.int 14)), some (.v (.lst [.int 2, .int 4, .int 3, .int 5, .int 1, .int 6, .int 8, .int 10, .int 9, .int 11, .int 7, .int 12, .int 14, .int 13])), none, none] m = .rt (.bl true) m := by kernel_rfl
theorem cr_5 {k : Nat} {m : Mo} (h : Lim (k + 1) m) : ∃ m', F__law_costs_right [.drw, (.lst [.int 5, .int 1, .int 3, .int 2, .int 4, .int 6, .int 11, .int 7, .int 9, .int 8, .int 10, .int 12, .int 14, .int 13]), .int 3] m = .ok (.bl true) m' ∧ Lim k m' := by
  obtain ⟨v, m1, e1, lim1, v0, v1⟩ := draw_lim (L := 3) (k := k) (by decide) (by decide) h
  have hv : v = 0 ∨ v = 1 ∨ v = 2 := by omega
  have hA : ∀ m, crA [some (.v .drw), some (.v (.lst [.int 5, .int 1, .int 3, .int 2, .int 4, .int 6, .int 11, .int 7, .int 9, .int 8, .int 10, .int 12, .int 14, .int 13])), some (.v (.int 3)), none, none, none, none, none] m = .nx [some (.v .drw), some (.v (.lst [.int 5, .int 1, .int 3, .int 2, .int 4, .int 6, .int 11, .int 7, .int 9, .int 8, .int 10, .int 12, .int 14, .int 13])), some (.v (.int 3)), some (.v (.obj 0 (.tup [.int 5, .int 1, .int 3, .int 2, .int 4, .int 6, .int 11, .int 7, .int 9, .int 8, .int 10, .int 12, .int 14, .int 13]))), some (.v (.int 14)), none, none, none] m := fun m => by kernel_rfl
  have hL : ∀ m, crL [some (.v .drw), some (.v (.lst [.int 5, .int 1, .int 3, .int 2, .int 4, .int 6, .int 11, .int 7, .int 9, .int 8, .int 10, .int 12, .int 14, .int 13])), some (.v (.int 3)), some (.v (.obj 0 (.tup [.int 5, .int 1, .int 3, .int 2, .int 4, .int 6, .int 11, .int 7, .int 9, .int 8, .int 10, .int 12, .int 14, .int 13]))), some (.v (.int 14)), none, none, none] m = .ok (.lst [(.lst [.int 5, .int 1, .int 3, .int 2, .int 4, .int 6, .int 11, .int 7, .int 9, .int 8, .int 10, .int 12, .int 14, .int 13, .int 15]), (.lst [.int 1, .int 6, .int 2, .int 4, .int 3, .int 5, .int 7, .int 12, .int 8, .int 10, .int 9, .int 11, .int 13, .int 15, .int 14]), (.lst [.int 2, .int 4, .int 3, .int 5, .int 1, .int 6, .int 8, .int 10, .int 9, .int 11, .int 7, .int 12, .int 14, .int 13])]) m := fun m => by kernel_rfl
  refine ⟨m1, ?_, lim1⟩
  rcases hv with rfl | rfl | rfl
  · exact cr_split e1 hA hL rfl crt_5_0
  · exact cr_split e1 hA hL rfl crt_5_1
  · exact cr_split e1 hA hL rfl crt_5_2
theorem crt_6_0 (m : Mo) : crT [some (.v .drw), some (.v (.lst [.int 2, .int 1, .int 3, .int 5, .int 4, .int 6, .int 8, .int 7])), some (.v (.int 3)), some (.v (.obj 0 (.tup [.int 2, .int 1, .int 3, .int 5, .int 4, .int 6, .int 8, .int 7]))), some (.v (.int 8)), some (.v (.lst [.int 2, .int 1, .int 3, .int 5, .int 4, .int 6, .int 8, .int 7, .int 9])), none, none] m = .rt (.bl true) m := by kernel_rfl
theorem crt_6_1 (m : Mo) : crT [some (.v .drw), some (.v (.lst [.int 2, .int 1, .int 3, .int 5, .int 4, .int 6, .int 8, .int 7])), some (.v (.int 3)), some (.v (.obj 0 (.tup [.int 2, .int 1, .int 3, .int 5, .int 4, .int 6, .int 8, .int 7]))), some (.v (.int 8)), some (.v (.lst [.int 1, .int 3, .int 2, .int 4, .int 6, .int 5, .int 7, .int 9, .int 8])), none, none] m = .rt (.bl true) m := by kernel_rfl
theorem crt_6_2 (m : Mo) : crT [some (.v .drw), some (.v (.lst [.int 2, .int 1, .int 3, .int 5, .int 4, .int 6, .int 8, .int 7])), some (.v (.int 3)), some (.v (.obj 0 (.tup [.int 2, .int 1, .int 3, .int 5, .int 4, .int 6, .int 8, .int 7]))), some (.v (.int 8)), some (.v (.lst [.int 2, .int 1, .int 3, .int 5, .int 4, .int 6, .int 8, .int 7])), none, none] m = .rt (.bl true) m := by kernel_rfl
theorem cr_6 {k : Nat} {m : Mo} (h : Lim (k + 1) m) : ∃ m', F__law_costs_right [.drw, (.lst [.int 2, .int 1, .int 3, .int 5, .int 4, .int 6, .int 8, .int 7]), .int 3] m = .ok (.bl true) m' ∧ Lim k m' := by
  obtain ⟨v, m1, e1, lim1, v0, v1⟩ := draw_lim (L := 3) (k := k) (by decide) (by decide) h
  have hv : v = 0 ∨ v = 1 ∨ v = 2 := by omega
  have hA : ∀ m, crA [some (.v .drw), some (.v (.lst [.int 2, .int 1, .int 3, .int 5, .int 4, .int 6, .int 8, .int 7])), some (.v (.int 3)), none, none, none, none, none] m = .nx [some (.v .drw), some (.v (.lst [.int 2, .int 1, .int 3, .int 5, .int 4, .int 6, .int 8, .int 7])), some (.v (.int 3)), some (.v (.obj 0 (.tup [.int 2, .int 1, .int 3, .int 5, .int 4, .int 6, .int 8, .int 7]))), some (.v (.int 8)), none, none, none] m := fun m => by kernel_rfl
  have hL : ∀ m, crL [some (.v .drw), some (.v (.lst [.int 2, .int 1, .int 3, .int 5, .int 4, .int 6, .int 8, .int 7])), some (.v (.int 3)), some (.v (.obj 0 (.tup [.int 2, .int 1, .int 3, .int 5, .int 4, .int 6, .int 8, .int 7]))), some (.v (.int 8)), none, none, none] m = .ok (.lst [(.lst [.int 2, .int 1, .int 3, .int 5, .int 4, .int 6, .int 8, .int 7, .int 9]), (.lst [.int 1, .int 3, .int 2, .int 4, .int 6, .int 5, .int 7, .int 9, .int 8]), (.lst [.int 2, .int 1, .int 3, .int 5, .int 4, .int 6, .int 8, .int 7])]) m := fun m => by kernel_rfl
  refine ⟨m1, ?_, lim1⟩
  rcases hv with rfl | rfl | rfl
  · exact cr_split e1 hA hL rfl crt_6_0
  · exact cr_split e1 hA hL rfl crt_6_1
  · exact cr_split e1 hA hL rfl crt_6_2
theorem crt_7_0 (m : Mo) : crT [some (.v .drw), some (.v (.lst [.int 2, .int 1, .int 3, .int 5, .int 4, .int 6, .int 8, .int 7, .int 9, .int 11, .int 10])), some (.v (.int 4)), some (.v (.obj 0 (.tup [.int 2, .int 1, .int 3, .int 5, .int 4, .int 6, .int 8, .int 7, .int 9, .int 11, .int 10]))), some (.v (.int 11)), some (.v (.lst [.int 2, .int 1, .int 3, .int 5, .int 4, .int 6, .int 8, .int 7, .int 9, .int 11, .int 10, .int 12])), none, none] m = .rt (.bl true) m := by kernel_rfl
theorem crt_7_1 (m : Mo) : crT [some (.v .drw), some (.v (.lst [.int 2, .int 1, .int 3, .int 5, .int 4, .int 6, .int 8, .int 7, .int 9, .int 11, .int 10])), some (.v (.int 4)), some (.v (.obj 0 (.tup [.int 2, .int 1, .int 3, .int 5, .int 4, .int 6, .int 8, .int 7, .int 9, .int 11, .int 10]))), some (.v (.int 11)), some (.v (.lst [.int 1, .int 3, .int 2, .int 4, .int 6, .int 5, .int 7, .int 9, .int 8, .int 10, .int 12, .int 11])), none, none] m = .rt (.bl true) m := by kernel_rfl
theorem crt_7_2 (m : Mo) : crT [some (.v .drw), some (.v (.lst [.int 2, .int 1, .int 3, .int 5, .int 4, .int 6, .int 8, .int 7, .int 9, .int 11, .int 10])), some (.v (.int 4)), some (.v (.obj 0 (.tup [.int 2, .int 1, .int 3, .int 5, .int 4, .int 6, .int 8, .int 7, .int 9, .int 11, .int 10]))), some (.v (.int 11)), some (.v (.lst [.int 2, .int 1, .int 3, .int 5, .int 4, .int 6, .int 8, .int 7, .int 9, .int 11, .int 10])), none, none] m = .rt (.bl true) m := by kernel_rfl
theorem cr_7 {k : Nat} {m : Mo} (h : Lim (k + 1) m) : ∃ m', F__law_costs_right [.drw, (.lst [.int 2, .int 1, .int 3, .int 5, .int 4, .int 6, .int 8, .int 7, .int 9, .int 11, .int 10]), .int 4] m = .ok (.bl true) m' ∧ Lim k m' := by
  obtain ⟨v, m1, e1, lim1, v0, v1⟩ := draw_lim (L := 3) (k := k) (by decide) (by decide) h
  have hv : v = 0 ∨ v = 1 ∨ v = 2 := by omega
  have hA : ∀ m, crA [some (.v .drw), some (.v (.lst [.int 2, .int 1, .int 3, .int 5, .int 4, .int 6, .int 8, .int 7, .int 9, .int 11, .int 10])), some (.v (.int 4)), none, none, none, none, none] m = .nx [some (.v .drw), some (.v (.lst [.int 2, .int 1, .int 3, .int 5, .int 4, .int 6, .int 8, .int 7, .int 9, .int 11, .int 10])), some (.v (.int 4)), some (.v (.obj 0 (.tup [.int 2, .int 1, .int 3, .int 5, .int 4, .int 6, .int 8, .int 7, .int 9, .int 11, .int 10]))), some (.v (.int 11)), none, none, none] m := fun m => by kernel_rfl
  have hL : ∀ m, crL [some (.v .drw), some (.v (.lst [.int 2, .int 1, .int 3, .int 5, .int 4, .int 6, .int 8, .int 7, .int 9, .int 11, .int 10])), some (.v (.int 4)), some (.v (.obj 0 (.tup [.int 2, .int 1, .int 3, .int 5, .int 4, .int 6, .int 8, .int 7, .int 9, .int 11, .int 10]))), some (.v (.int 11)), none, none, none] m = .ok (.lst [(.lst [.int 2, .int 1, .int 3, .int 5, .int 4, .int 6, .int 8, .int 7, .int 9, .int 11, .int 10, .int 12]), (.lst [.int 1, .int 3, .int 2, .int 4, .int 6, .int 5, .int 7, .int 9, .int 8, .int 10, .int 12, .int 11]), (.lst [.int 2, .int 1, .int 3, .int 5, .int 4, .int 6, .int 8, .int 7, .int 9, .int 11, .int 10])]) m := fun m => by kernel_rfl
  refine ⟨m1, ?_, lim1⟩
  rcases hv with rfl | rfl | rfl
  · exact cr_split e1 hA hL rfl crt_7_0
  · exact cr_split e1 hA hL rfl crt_7_1
  · exact cr_split e1 hA hL rfl crt_7_2
theorem crt_8_0 (m : Mo) : crT [some (.v .drw), some (.v (.lst [.int 5, .int 1, .int 3, .int 2, .int 4, .int 6, .int 8, .int 7, .int 9, .int 11, .int 10])), some (.v (.int 3)), some (.v (.obj 0 (.tup [.int 5, .int 1, .int 3, .int 2, .int 4, .int 6, .int 8, .int 7, .int 9, .int 11, .int 10]))), some (.v (.int 11)), some (.v (.lst [.int 5, .int 1, .int 3, .int 2, .int 4, .int 6, .int 8, .int 7, .int 9, .int 11, .int 10, .int 12])), none, none] m = .rt (.bl true) m := by kernel_rfl
theorem crt_8_1 (m : Mo) : crT [some (.v .drw), some (.v (.lst [.int 5, .int 1, .int 3, .int 2, .int 4, .int 6, .int 8, .int 7, .int 9, .int 11, .int 10])), some (.v (.int 3)), some (.v (.obj 0 (.tup [.int 5, .int 1, .int 3, .int 2, .int 4, .int 6, .int 8, .int 7, .int 9, .int 11, .int 10]))), some (.v (.int 11)), some (.v (.lst [.int 1, .int 6, .int 2, .int 4, .int 3, .int 5, .int 7, .int 9, .int 8, .int 10, .int 12, .int 11])), none, none] m = .rt (.bl true) m := by kernel_rfl
theorem crt_8_2 (m : Mo) : crT [some (.v .drw), some (.v (.lst [.int 5, .int 1, .int 3, .int 2, .int 4, .int 6, .int 8, .int 7, .int 9, .int 11, .int 10])), some (.v (.int 3)), some (.v (.obj 0 (.tup [.int 5, .int 1, .int 3, .int 2, .int 4, .int 6, .int 8, .int 7, .int 9, .int 11, .int 10]))), some (.v (.int 11)), some (.v (.lst [.int 2, .int 4, .int 3, .int 5, .int 1, .int 6, .int 8, .int 7, .int 9, .int 11, .int 10])), none, none] m = .rt (.bl true) m := by kernel_rfl
theorem cr_8 {k : Nat} {m : Mo} (h : Lim (k + 1) m) : ∃ m', F__law_costs_right [.drw, (.lst [.int 5, .int 1, .int 3, .int 2, .int 4, .int 6, .int 8, .int 7, .int 9, .int 11, .int 10]), .int 3] m = .ok (.bl true) m' ∧ Lim k m' := by
  obtain ⟨v, m1, e1, lim1, v0, v1⟩ := draw_lim (L := 3) (k := k) (by decide) (by decide) h
  have hv : v = 0 ∨ v = 1 ∨ v = 2 := by omega
  have hA : ∀ m, crA [some (.v .drw), some (.v (.lst [.int 5, .int 1, .int 3, .int 2, .int 4, .int 6, .int 8, .int 7, .int 9, .int 11, .int 10])), some (.v (.int 3)), none, none, none, none, none] m = .nx [some (.v .drw), some (.v (.lst [.int 5, .int 1, .int 3, .int 2, .int 4, .int 6, .int 8, .int 7, .int 9, .int 11, .int 10])), some (.v (.int 3)), some (.v (.obj 0 (.tup [.int 5, .int 1, .int 3, .int 2, .int 4, .int 6, .int 8, .int 7, .int 9, .int 11, .int 10]))), some (.v (.int 11)), none, none, none] m := fun m => by kernel_rfl
  have hL : ∀ m, crL [some (.v .drw), some (.v (.lst [.int 5, .int 1, .int 3, .int 2, .int 4, .int 6, .int 8, .int 7, .int 9, .int 11, .int 10])), some (.v (.int 3)), some (.v (.obj 0 (.tup [.int 5, .int 1, .int 3, .int 2, .int 4, .int 6, .int 8, .int 7, .int 9, .int 11, .int 10]))), some (.v (.int 11)), none, none, none] m = .ok (.lst [(.lst [.int 5, .int 1, .int 3, .int 2, .int 4, .int 6, .int 8, .int 7, .int 9, .int 11, .int 10, .int 12]), (.lst [.int 1, .int 6, .int 2, .int 4, .int 3, .int 5, .int 7, .int 9, .int 8, .int 10, .int 12, .int 11]), (.lst [.int 2, .int 4, .int 3, .int 5, .int 1, .int 6, .int 8, .int 7, .int 9, .int 11, .int 10])]) m := fun m => by kernel_rfl
  refine ⟨m1, ?_, lim1⟩
  rcases hv with rfl | rfl | rfl
  · exact cr_split e1 hA hL rfl crt_8_0
  · exact cr_split e1 hA hL rfl crt_8_1
  · exact cr_split e1 hA hL rfl crt_8_2
theorem crt_9_0 (m : Mo) : crT [some (.v .drw), some (.v (.lst [.int 3, .int (-2), .int 1])), some (.v (.int 0)), some (.v (.obj 0 (.tup [.int 3, .int (-2), .int 1]))), some (.v (.int 3)), some (.v (.lst [.int 3, .int (-2), .int 1, .int 4])), none, none] m = .rt (.bl true) m := by kernel_rfl
theorem crt_9_1 (m : Mo) : crT [some (.v .drw), some (.v (.lst [.int 3, .int (-2), .int 1])), some (.v (.int 0)), some (.v (.obj 0 (.tup [.int 3, .int (-2), .int 1]))), some (.v (.int 3)), some (.v (.lst [.int 1, .int 4, .int (-3), .int 2])), none, none] m = .rt (.bl true) m := by kernel_rfl
theorem crt_9_2 (m : Mo) : crT [some (.v .drw), some (.v (.lst [.int 3, .int (-2), .int 1])), some (.v (.int 0)), some (.v (.obj 0 (.tup [.int 3, .int (-2), .int 1]))), some (.v (.int 3)), some (.v (.lst [.int 3, .int (-2), .int 1])), none, none] m = .rt (.bl true) m := by kernel_rfl
theorem cr_9 {k : Nat} {m : Mo} (h : Lim (k + 1) m) : ∃ m', F__law_costs_right [.drw, (.lst [.int 3, .int (-2), .int 1]), .int 0] m = .ok (.bl true) m' ∧ Lim k m' := by
  obtain ⟨v, m1, e1, lim1, v0, v1⟩ := draw_lim (L := 3) (k := k) (by decide) (by decide) h
  have hv : v = 0 ∨ v = 1 ∨ v = 2 := by omega
  have hA : ∀ m, crA [some (.v .drw), some (.v (.lst [.int 3, .int (-2), .int 1])), some (.v (.int 0)), none, none, none, none, none] m = .nx [some (.v .drw), some (.v (.lst [.int 3, .int (-2), .int 1])), some (.v (.int 0)), some (.v (.obj 0 (.tup [.int 3, .int (-2), .int 1]))), some (.v (.int 3)), none, none, none] m := fun m => by kernel_rfl
  have hL : ∀ m, crL [some (.v .drw), some (.v (.lst [.int 3, .int (-2), .int 1])), some (.v (.int 0)), some (.v (.obj 0 (.tup [.int 3, .int (-2), .int 1]))), some (.v (.int 3)), none, none, none] m = .ok (.lst [(.lst [.int 3, .int (-2), .int 1, .int 4]), (.lst [.int 1, .int 4, .int (-3), .int 2]), (.lst [.int 3, .int (-2), .int 1])]) m := fun m => by kernel_rfl
  refine ⟨m1, ?_, lim1⟩
  rcases hv with rfl | rfl | rfl
  · exact cr_split e1 hA hL rfl crt_9_0
  · exact cr_split e1 hA hL rfl crt_9_1
  · exact cr_split e1 hA hL rfl crt_9_2
theorem crt_10_0 (m : Mo) : crT [some (.v .drw), some (.v (.lst [])), some (.v (.int 0)), some (.v (.obj 0 (.tup []))), some (.v (.int 0)), some (.v (.lst [.int 1])), none, none] m = .rt (.bl true) m := by kernel_rfl
theorem crt_10_1 (m : Mo) : crT [some (.v .drw), some (.v (.lst [])), some (.v (.int 0)), some (.v (.obj 0 (.tup []))), some (.v (.int 0)), some (.v (.lst [.int 1])), none, none] m = .rt (.bl true) m := by kernel_rfl
theorem crt_10_2 (m : Mo) : crT [some (.v .drw), some (.v (.lst [])), some (.v (.int 0)), some (.v (.obj 0 (.tup []))), some (.v (.int 0)), some (.v (.lst [])), none, none] m = .rt (.bl true) m := by kernel_rfl
theorem cr_10 {k : Nat} {m : Mo} (h : Lim (k + 1) m) : ∃ m', F__law_costs_right [.drw, (.lst []), .int 0] m = .ok (.bl true) m' ∧ Lim k m' := by
  obtain ⟨v, m1, e1, lim1, v0, v1⟩ := draw_lim (L := 3) (k := k) (by decide) (by decide) h
  have hv : v = 0 ∨ v = 1 ∨ v = 2 := by omega
  have hA : ∀ m, crA [some (.v .drw), some (.v (.lst [])), some (.v (.int 0)), none, none, none, none, none] m = .nx [some (.v .drw), some (.v (.lst [])), some (.v (.int 0)), some (.v (.obj 0 (.tup []))), some (.v (.int 0)), none, none, none] m := fun m => by kernel_rfl
  have hL : ∀ m, crL [some (.v .drw), some (.v (.lst [])), some (.v (.int 0)), some (.v (.obj 0 (.tup []))), some (.v (.int 0)), none, none, none] m = .ok (.lst [(.lst [.int 1]), (.lst [.int 1]), (.lst [])]) m := fun m => by kernel_rfl
  refine ⟨m1, ?_, lim1⟩
  rcases hv with rfl | rfl | rfl
  · exact cr_split e1 hA hL rfl crt_10_0
  · exact cr_split e1 hA hL rfl crt_10_1
  · exact cr_split e1 hA hL rfl crt_10_2
theorem crt_11_0 (m : Mo) : crT [some (.v .drw), some (.v (.lst [.int 4, .int 1, .int 2, .int 3])), some (.v (.int 1)), some (.v (.obj 0 (.tup [.int 4, .int 1, .int 2, .int 3]))), some (.v (.int 4)), some (.v (.lst [.int 4, .int 1, .int 2, .int 3, .int 5])), none, none] m = .rt (.bl true) m := by kernel_rfl
theorem crt_11_1 (m : Mo) : crT [some (.v .drw), some (.v (.lst [.int 4, .int 1, .int 2, .int 3])), some (.v (.int 1)), some (.v (.obj 0 (.tup [.int 4, .int 1, .int 2, .int 3]))), some (.v (.int 4)), some (.v (.lst [.int 1, .int 5, .int 2, .int 3, .int 4])), none, none] m = .rt (.bl true) m := by kernel_rfl
theorem crt_11_2 (m : Mo) : crT [some (.v .drw), some (.v (.lst [.int 4, .int 1, .int 2, .int 3])), some (.v (.int 1)), some (.v (.obj 0 (.tup [.int 4, .int 1, .int 2, .int 3]))), some (.v (.int 4)), some (.v (.lst [.int 2, .int 3, .int 4, .int 1])), none, none] m = .rt (.bl true) m := by kernel_rfl
theorem cr_11 {k : Nat} {m : Mo} (h : Lim (k + 1) m) : ∃ m', F__law_costs_right [.drw, (.lst [.int 4, .int 1, .int 2, .int 3]), .int 1] m = .ok (.bl true) m' ∧ Lim k m' := by
  obtain ⟨v, m1, e1, lim1, v0, v1⟩ := draw_lim (L := 3) (k := k) (by decide) (by decide) h
  have hv : v = 0 ∨ v = 1 ∨ v = 2 := by omega
  have hA : ∀ m, crA [some (.v .drw), some (.v (.lst [.int 4, .int 1, .int 2, .int 3])), some (.v (.int 1)), none, none, none, none, none] m = .nx [some (.v .drw), some (.v (.lst [.int 4, .int 1, .int 2, .int 3])), some (.v (.int 1)), some (.v (.obj 0 (.tup [.int 4, .int 1, .int 2, .int 3]))), some (.v (.int 4)), none, none, none] m := fun m => by kernel_rfl
  have hL : ∀ m, crL [some (.v .drw), some (.v (.lst [.int 4, .int 1, .int 2, .int 3])), some (.v (.int 1)), some (.v (.obj 0 (.tup [.int 4, .int 1, .int 2, .int 3]))), some (.v (.int 4)), none, none, none] m = .ok (.lst [(.lst [.int 4, .int 1, .int 2, .int 3, .int 5]), (.lst [.int 1, .int 5, .int 2, .int 3, .int 4]), (.lst [.int 2, .int 3, .int 4, .int 1])]) m := fun m => by kernel_rfl
  refine ⟨m1, ?_, lim1⟩
  rcases hv with rfl | rfl | rfl
  · exact cr_split e1 hA hL rfl crt_11_0
  · exact cr_split e1 hA hL rfl crt_11_1
  · exact cr_split e1 hA hL rfl crt_11_2
theorem crt_12_0 (m : Mo) : crT [some (.v .drw), some (.v (.lst [.int 8, .int 1, .int 3, .int 2, .int 4, .int 6, .int 5, .int 7])), some (.v (.int 3)), some (.v (.obj 0 (.tup [.int 8, .int 1, .int 3, .int 2, .int 4, .int 6, .int 5, .int 7]))), some (.v (.int 8)), some (.v (.lst [.int 8, .int 1, .int 3, .int 2, .int 4, .int 6, .int 5, .int 7, .int 9])), none, none] m = .rt (.bl true) m := by kernel_rfl
theorem crt_12_1 (m : Mo) : crT [some (.v .drw), some (.v (.lst [.int 8, .int 1, .int 3, .int 2, .int 4, .int 6, .int 5, .int 7])), some (.v (.int 3)), some (.v (.obj 0 (.tup [.int 8, .int 1, .int 3, .int 2, .int 4, .int 6, .int 5, .int 7]))), some (.v (.int 8)), some (.v (.lst [.int 1, .int 9, .int 2, .int 4, .int 3, .int 5, .int 7, .int 6, .int 8])), none, none] m = .rt (.bl true) m := by kernel_rfl
theorem crt_12_2 (m : Mo) : crT [some (.v .drw), some (.v (.lst [.int 8, .int 1, .int 3, .int 2, .int 4, .int 6, .int 5, .int 7])), some (.v (.int 3)), some (.v (.obj 0 (.tup [.int 8, .int 1, .int 3, .int 2, .int 4, .int 6, .int 5, .int 7]))), some (.v (.int 8)), some (.v (.lst [.int 2, .int 4, .int 3, .int 5, .int 7, .int 6, .int 8, .int 1])), none, none] m = .rt (.bl true) m := by kernel_rfl
theorem cr_12 {k : Nat} {m : Mo} (h : Lim (k + 1) m) : ∃ m', F__law_costs_right [.drw, (.lst [.int 8, .int 1, .int 3, .int 2, .int 4, .int 6, .int 5, .int 7]), .int 3] m = .ok (.bl true) m' ∧ Lim k m' := by
  obtain ⟨v, m1, e1, lim1, v0, v1⟩ := draw_lim (L := 3) (k := k) (by decide) (by decide) h
  have hv : v = 0 ∨ v = 1 ∨ v = 2 := by omega
  have hA : ∀ m, crA [some (.v .drw), some (.v (.lst [.int 8, .int 1, .int 3, .int 2, .int 4, .int 6, .int 5, .int 7])), some (.v (.int 3)), none, none, none, none, none] m = .nx [some (.v .drw), some (.v (.lst [.int 8, .int 1, .int 3, .int 2, .int 4, .int 6, .int 5, .int 7])), some (.v (.int 3)), some (.v (.obj 0 (.tup [.int 8, .int 1, .int 3, .int 2, .int 4, .int 6, .int 5, .int 7]))), some (.v (.int 8)), none, none, none] m := fun m => by kernel_rfl
  have hL : ∀ m, crL [some (.v .drw), some (.v (.lst [.int 8, .int 1, .int 3, .int 2, .int 4, .int 6, .int 5, .int 7])), some (.v (.int 3)), some (.v (.obj 0 (.tup [.int 8, .int 1, .int 3, .int 2, .int 4, .int 6, .int 5, .int 7]))), some (.v (.int 8)), none, none, none] m = .ok (.lst [(.lst [.int 8, .int 1, .int 3, .int 2, .int 4, .int 6, .int 5, .int 7, .int 9]), (.lst [.int 1, .int 9, .int 2, .int 4, .int 3, .int 5, .int 7, .int 6, .int 8]), (.lst [.int 2, .int 4, .int 3, .int 5, .int 7, .int 6, .int 8, .int 1])]) m := fun m => by kernel_rfl
  refine ⟨m1, ?_, lim1⟩
  rcases hv with rfl | rfl | rfl
  · exact cr_split e1 hA hL rfl crt_12_0
  · exact cr_split e1 hA hL rfl crt_12_1
  · exact cr_split e1 hA hL rfl crt_12_2
theorem crt_13_0 (m : Mo) : crT [some (.v .drw), some (.v (.lst [.int 8, .int 1, .int 3, .int 2, .int 4, .int 6, .int 5, .int 7, .int 9, .int 14, .int 10, .int 12, .int 11, .int 13])), some (.v (.int 3)), some (.v (.obj 0 (.tup [.int 8, .int 1, .int 3, .int 2, .int 4, .int 6, .int 5, .int 7, .int 9, .int 14, .int 10, .int 12, .int 11, .int 13]))), some (.v (.int 14)), some (.v (.lst [.int 8, .int 1, .int 3, .int 2, .int 4, .int 6, .int 5, .int 7, .int 9, .int 14, .int 10, .int 12, .int 11, .int 13, .int 15])), none, none] m = .rt (.bl true) m := by kernel_rfl
theorem crt_13_1 (m : Mo) : crT [some (.v .drw), some (.v (.lst [.int 8, .int 1, .int 3, .int 2, .int 4, .int 6, .int 5, .int 7, .int 9, .int 14, .int 10, .int 12, .int 11, .int 13])), some (.v (.int 3)), some (.v (.obj 0 (.tup [.int 8, .int 1, .int 3, .int 2, .int 4, .int 6, .int 5, .int 7, .int 9, .int 14, .int 10, .int 12, .int 11, .int 13]))), some (.v (.int 14)), some (.v (.lst [.int 1, .int 9, .int 2, .int 4, .int 3, .int 5, .int 7, .int 6, .int 8, .int 10, .int 15, .int 11, .int 13, .int 12, .int 14])), none, none] m = .rt (.bl true) m := by kernel_rfl
theorem crt_13_2 (m : Mo) : crT [some (.v .drw), some (.v (.lst [.int 8, .int 1, .int 3, .int 2, .int 4, .int 6, .int 5, .int 7, .int 9, .int 14, .int 10, .int 12, .int 11, .int 13])), some (.v (.int 3)), some (.v (.obj 0 (.tup [.int 8, .int 1, .int 3, .int 2, .int 4, .int 6, .int 5, .int 7, .int 9, .int 14, .int 10, .int 12, .int 11, .int 13]))), some (.v (.int 14)), some (.v (.lst [.int 2, .int 4, .int 3, .int 5, .int 7, .int 6, .int 8, .int 1, .int 9, .int 11, .int 13, .int 12, .int 14, .int 10])), none, none] m = .rt (.bl true) m := by kernel_rfl
theorem cr_13 {k : Nat} {m : Mo} (h : Lim (k + 1) m) : ∃ m', F__law_costs_right [.drw, (.lst [.int 8, .int 1, .int 3, .int 2, .int 4, .int 6, .int 5, .int 7, .int 9, .int 14, .int 10, .int 12, .int 11, .int 13]), .int 3] m = .ok (.bl true) m' ∧ Lim k m' := by
  obtain ⟨v, m1, e1, lim1, v0, v1⟩ := draw_lim (L := 3) (k := k) (by decide) (by decide) h
  have hv : v = 0 ∨ v = 1 ∨ v = 2 := by omega
  have hA : ∀ m, crA [some (.v .drw), some (.v (.lst [.int 8, .int 1, .int 3, .int 2, .int 4, .int 6, .int 5, .int 7, .int 9, .int 14, .int 10, .int 12, .int 11, .int 13])), some (.v (.int 3)), none, none, none, none, none] m = .nx [some (.v .drw), some (.v (.lst [.int 8, .int 1, .int 3, .int 2, .int 4, .int 6, .int 5, .int 7, .int 9, .int 14, .int 10, .int 12, .int 11, .int 13])), some (.v (.int 3)), some (.v (.obj 0 (.tup [.int 8, .int 1, .int 3, .int 2, .int 4, .int 6, .int 5, .int 7, .int 9, .int 14, .int 10, .int 12, .int 11, .int 13]))), some (.v (.int 14)), none, none, none] m := fun m => by kernel_rfl
  have hL : ∀ m, crL [some (.v .drw), some (.v (.lst [.int 8, .int 1, .int 3, .int 2, .int 4, .int 6, .int 5, .int 7, .int 9, .int 14, .int 10, .int 12, .int 11, .int 13])), some (.v (.int 3)), some (.v (.obj 0 (.tup [.int 8, .int 1, .int 3, .int 2, .int 4, .int 6, .int 5, .int 7, .int 9, .int 14, .int 10, .int 12, .int 11, .int 13]))), some (.v (.int 14)), none, none, none] m = .ok (.lst [(.lst [.int 8, .int 1, .int 3, .int 2, .int 4, .int 6, .int 5, .int 7, .int 9, .int 14, .int 10, .int 12, .int 11, .int 13, .int 15]), (.lst [.int 1, .int 9, .int 2, .int 4, .int 3, .int 5, .int 7, .int 6, .int 8, .int 10, .int 15, .int 11, .int 13, .int 12, .int 14]), (.lst [.int 2, .int 4, .int 3, .int 5, .int 7, .int 6, .int 8, .int 1, .int 9, .int 11, .int 13, .int 12, .int 14, .int 10])]) m := fun m => by kernel_rfl
  refine ⟨m1, ?_, lim1⟩
  rcases hv with rfl | rfl | rfl
  · exact cr_split e1 hA hL rfl crt_13_0
  · exact cr_split e1 hA hL rfl crt_13_1
  · exact cr_split e1 hA hL rfl crt_13_2
theorem crt_14_0 (m : Mo) : crT [some (.v .drw), some (.v (.lst [.int 6, .int 1, .int 3, .int 2, .int 4, .int 5, .int 7, .int 13, .int 8, .int 10, .int 9, .int 11, .int 12, .int 14, .int 20, .int 15, .int 17, .int 16, .int 18, .int 19])), some (.v (.int 4)), some (.v (.obj 0 (.tup [.int 6, .int 1, .int 3, .int 2, .int 4, .int 5, .int 7, .int 13, .int 8, .int 10, .int 9, .int 11, .int 12, .int 14, .int 20, .int 15, .int 17, .int 16, .int 18, .int 19]))), some (.v (.int 20)), some (.v (.lst [.int 6, .int 1, .int 3, .int 2, .int 4, .int 5, .int 7, .int 13, .int 8, .int 10, .int 9, .int 11, .int 12, .int 14, .int 20, .int 15, .int 17, .int 16, .int 18, .int 19, .int 21])), none, none] m = .rt (.bl true) m := by kernel_rfl
theorem crt_14_1 (m : Mo) : crT [some (.v .drw), some (.v (.lst [.int 6, .int 1, .int 3, .int 2, .int 4, .int 5, .int 7, .int 13, .int 8, .int 10, .int 9, .int 11, .int 12, .int 14, .int 20, .int 15, .int 17, .int 16, .int 18, .int 19])), some (.v (.int 4)), some (.v (.obj 0 (.tup [.int 6, .int 1, .int 3, .int 2, .int 4, .int 5, .int 7, .int 13, .int 8, .int 10, .int 9, .int 11, .int 12, .int 14, .int 20, .int 15, .int 17, .int 16, .int 18, .int 19]))), some (.v (.int 20)), some (.v (.lst [.int 1, .int 7, .int 2, .int 4, .int 3, .int 5, .int 6, .int 8, .int 14, .int 9, .int 11, .int 10, .int 12, .int 13, .int 15, .int 21, .int 16, .int 18, .int 17, .int 19, .int 20])), none, none] m = .rt (.bl true) m := by kernel_rfl
theorem crt_14_2 (m : Mo) : crT [some (.v .drw), some (.v (.lst [.int 6, .int 1, .int 3, .int 2, .int 4, .int 5, .int 7, .int 13, .int 8, .int 10, .int 9, .int 11, .int 12, .int 14, .int 20, .int 15, .int 17, .int 16, .int 18, .int 19])), some (.v (.int 4)), some (.v (.obj 0 (.tup [.int 6, .int 1, .int 3, .int 2, .int 4, .int 5, .int 7, .int 13, .int 8, .int 10, .int 9, .int 11, .int 12, .int 14, .int 20, .int 15, .int 17, .int 16, .int 18, .int 19]))), some (.v (.int 20)), some (.v (.lst [.int 2, .int 4, .int 3, .int 5, .int 6, .int 1, .int 7, .int 9, .int 11, .int 10, .int 12, .int 13, .int 8, .int 14, .int 16, .int 18, .int 17, .int 19, .int 20, .int 15])), none, none] m = .rt (.bl true) m := by kernel_rfl
theorem cr_14 {k : Nat} {m : Mo} (h : Lim (k + 1) m) : ∃ m', F__law_costs_right [.drw, (.lst [.int 6, .int 1, .int 3, .int 2, .int 4, .int 5, .int 7, .int 13, .int 8, .int 10, .int 9, .int 11, .int 12, .int 14, .int 20, .int 15, .int 17, .int 16, .int 18, .int 19]), .int 4] m = .ok (.bl true) m' ∧ Lim k m' := by
  obtain ⟨v, m1, e1, lim1, v0, v1⟩ := draw_lim (L := 3) (k := k) (by decide) (by decide) h
  have hv : v = 0 ∨ v = 1 ∨ v = 2 := by omega
  have hA : ∀ m, crA [some (.v .drw), some (.v (.lst [.int 6, .int 1, .int 3, .int 2, .int 4, .int 5, .int 7, .int 13, .int 8, .int 10, .int 9, .int 11, .int 12, .int 14, .int 20, .int 15, .int 17, .int 16, .int 18, .int 19])), some (.v (.int 4)), none, none, none, none, none] m = .nx [some (.v .drw), some (.v (.lst [.int 6, .int 1, .int 3, .int 2, .int 4, .int 5, .int 7, .int 13, .int 8, .int 10, .int 9, .int 11, .int 12, .int 14, .int 20, .int 15, .int 17, .int 16, .int 18, .int 19])), some (.v (.int 4)), some (.v (.obj 0 (.tup [.int 6, .int 1, .int 3, .int 2, .int 4, .int 5, .int 7, .int 13, .int 8, .int 10, .int 9, .int 11, .int 12, .int 14, .int 20, .int 15, .int 17, .int 16, .int 18, .int 19]))), some (.v (.int 20)), none, none, none] m := fun m => by kernel_rfl
  have hL : ∀ m, crL [some (.v .drw), some (.v (.lst [.int 6, .int 1, .int 3, .int 2, .int 4, .int 5, .int 7, .int 13, .int 8, .int 10, .int 9, .int 11, .int 12, .int 14, .int 20, .int 15, .int 17, .int 16, .int 18, .int 19])), some (.v (.int 4)), some (.v (.obj 0 (.tup [.int 6, .int 1, .int 3, .int 2, .int 4, .int 5, .int 7, .int 13, .int 8, .int 10, .int 9, .int 11, .int 12, .int 14, .int 20, .int 15, .int 17, .int 16, .int 18, .int 19]))), some (.v (.int 20)), none, none, none] m = .ok (.lst [(.lst [.int 6, .int 1, .int 3, .int 2, .int 4, .int 5, .int 7, .int 13, .int 8, .int 10, .int 9, .int 11, .int 12, .int 14, .int 20, .int 15, .int 17, .int 16, .int 18, .int 19, .int 21]), (.lst [.int 1, .int 7, .int 2, .int 4, .int 3, .int 5, .int 6, .int 8, .int 14, .int 9, .int 11, .int 10, .int 12, .int 13, .int 15, .int 21, .int 16, .int 18, .int 17, .int 19, .int 20]), (.lst [.int 2, .int 4, .int 3, .int 5, .int 6, .int 1, .int 7, .int 9, .int 11, .int 10, .int 12, .int 13, .int 8, .int 14, .int 16, .int 18, .int 17, .int 19, .int 20, .int 15])]) m := fun m => by kernel_rfl
  refine ⟨m1, ?_, lim1⟩
  rcases hv with rfl | rfl | rfl
  · exact cr_split e1 hA hL rfl crt_14_0
  · exact cr_split e1 hA hL rfl crt_14_1
  · exact cr_split e1 hA hL rfl crt_14_2
theorem seq_step {f g : DS} {ρ ρ1 : Ro} {m : Mo} (h : f ρ m = .nx ρ1 m) : sSeq f g ρ m = g ρ1 m := by
  rw [ev_seq, h]
  rfl
theorem lawS0 (m : Mo) : (sPar 2 3 (dCons (dLst (dCons (dC (.int 2)) (dCons (dC (.int 1)) dNil))) (dCons (dLst (dCons (dC (.int 5)) (dCons (dC (.int 1)) (dCons (dC (.int 3)) (dCons (dC (.int 2)) (dCons (dC (.int 4)) dNil)))))) dNil))) [none, some (.v .drw), none, none, none, none, none, none, none, none, none] m = .nx [none, some (.v .drw), some (.v (.lst [.int 2, .int 1])), some (.v (.lst [.int 5, .int 1, .int 3, .int 2, .int 4])), none, none, none, none, none, none, none] m := by kernel_rfl
theorem lawS1 (m : Mo) : (sSet 4 (dvLst (dCons (dTup (dCons (dVar 2) (dCons (dC (.int 1)) dNil))) (dCons (dTup (dCons (dVar 3) (dCons (dC (.int 2)) dNil))) (dCons (dTup (dCons (dOp addD (dVar 2) (dLst (dCons (dC (.int 3)) (dCons (dC (.int 5)) (dCons (dC (.int 4)) dNil))))) (dCons (dC (.int 2)) dNil))) (dCons (dTup (dCons (dOp addD (dVar 3) (dLst (dCons (dC (.int 6)) (dCons (dC (.int 8)) (dCons (dC (.int 7)) dNil))))) (dCons (dC (.int 2)) dNil))) dNil)))))) [none, some (.v .drw), some (.v (.lst [.int 2, .int 1])), some (.v (.lst [.int 5, .int 1, .int 3, .int 2, .int 4])), none, none, none, none, none, none, none] m = .nx [none, some (.v .drw), some (.v (.lst [.int 2, .int 1])), some (.v (.lst [.int 5, .int 1, .int 3, .int 2, .int 4])), some (.ml [.tup [.lst [.int 2, .int 1], .int 1], .tup [.lst [.int 5, .int 1, .int 3, .int 2, .int 4], .int 2], .tup [.lst [.int 2, .int 1, .int 3, .int 5, .int 4], .int 2], .tup [.lst [.int 5, .int 1, .int 3, .int 2, .int 4, .int 6, .int 8, .int 7], .int 2]]), none, none, none, none, none, none] m := by kernel_rfl
theorem lawS2 (m : Mo) : (sSet 5 (dvV (dOp addD (dOp addD (dOp addD (dOp addD (dVar 3) (dLst (dCons (dC (.int 6)) dNil))) (dCall 2 F__law_higher (dCons (dVar 3) (dCons (dC (.int 6)) dNil)))) (dLst (dCons (dC (.int 12)) dNil))) (dCall 2 F__law_higher (dCons (dVar 3) (dCons (dC (.int 12)) dNil)))))) [none, some (.v .drw), some (.v (.lst [.int 2, .int 1])), some (.v (.lst [.int 5, .int 1, .int 3, .int 2, .int 4])), some (.ml [.tup [.lst [.int 2, .int 1], .int 1], .tup [.lst [.int 5, .int 1, .int 3, .int 2, .int 4], .int 2], .tup [.lst [.int 2, .int 1, .int 3, .int 5, .int 4], .int 2], .tup [.lst [.int 5, .int 1, .int 3, .int 2, .int 4, .int 6, .int 8, .int 7], .int 2]]), none, none, none, none, none, none] m = .nx [none, some (.v .drw), some (.v (.lst [.int 2, .int 1])), some (.v (.lst [.int 5, .int 1, .int 3, .int 2, .int 4])), some (.ml [.tup [.lst [.int 2, .int 1], .int 1], .tup [.lst [.int 5, .int 1, .int 3, .int 2, .int 4], .int 2], .tup [.lst [.int 2, .int 1, .int 3, .int 5, .int 4], .int 2], .tup [.lst [.int 5, .int 1, .int 3, .int 2, .int 4, .int 6, .int 8, .int 7], .int 2]]), some (.v (.lst [.int 5, .int 1, .int 3, .int 2, .int 4, .int 6, .int 11, .int 7, .int 9, .int 8, .int 10, .int 12, .int 17, .int 13, .int 15, .int 14, .int 16])), none, none, none, none, none] m := by kernel_rfl
theorem lawS3 (m : Mo) : (sSet 4 (dvCat (dPeek 4) (dLst (dCons (dTup (dCons (dVar 5) (dCons (dC (.int 4)) dNil))) (dCons (dTup (dCons (dOp addD (dOp addD (dOp addD (dVar 3) (dLst (dCons (dC (.int 6)) dNil))) (dCall 2 F__law_higher (dCons (dVar 3) (dCons (dC (.int 6)) dNil)))) (dLst (dCons (dC (.int 12)) (dCons (dC (.int 14)) (dCons (dC (.int 13)) dNil))))) (dCons (dC (.int 3)) dNil))) (dCons (dTup (dCons (dOp addD (dVar 2) (dLst (dCons (dC (.int 3)) (dCons (dC (.int 5)) (dCons (dC (.int 4)) (dCons (dC (.int 6)) (dCons (dC (.int 8)) (dCons (dC (.int 7)) dNil)))))))) (dCons (dC (.int 3)) dNil))) dNil)))))) [none, some (.v .drw), some (.v (.lst [.int 2, .int 1])), some (.v (.lst [.int 5, .int 1, .int 3, .int 2, .int 4])), some (.ml [.tup [.lst [.int 2, .int 1], .int 1], .tup [.lst [.int 5, .int 1, .int 3, .int 2, .int 4], .int 2], .tup [.lst [.int 2, .int 1, .int 3, .int 5, .int 4], .int 2], .tup [.lst [.int 5, .int 1, .int 3, .int 2, .int 4, .int 6, .int 8, .int 7], .int 2]]), some (.v (.lst [.int 5, .int 1, .int 3, .int 2, .int 4, .int 6, .int 11, .int 7, .int 9, .int 8, .int 10, .int 12, .int 17, .int 13, .int 15, .int 14, .int 16])), none, none, none, none, none] m = .nx [none, some (.v .drw), some (.v (.lst [.int 2, .int 1])), some (.v (.lst [.int 5, .int 1, .int 3, .int 2, .int 4])), some (.ml [.tup [.lst [.int 2, .int 1], .int 1], .tup [.lst [.int 5, .int 1, .int 3, .int 2, .int 4], .int 2], .tup [.lst [.int 2, .int 1, .int 3, .int 5, .int 4], .int 2], .tup [.lst [.int 5, .int 1, .int 3, .int 2, .int 4, .int 6, .int 8, .int 7], .int 2], .tup [.lst [.int 5, .int 1, .int 3, .int 2, .int 4, .int 6, .int 11, .int 7, .int 9, .int 8, .int 10, .int 12, .int 17, .int 13, .int 15, .int 14, .int 16], .int 4], .tup [.lst [.int 5, .int 1, .int 3, .int 2, .int 4, .int 6, .int 11, .int 7, .int 9, .int 8, .int 10, .int 12, .int 14, .int 13], .int 3], .tup [.lst [.int 2, .int 1, .int 3, .int 5, .int 4, .int 6, .int 8, .int 7], .int 3]]), some (.v (.lst [.int 5, .int 1, .int 3, .int 2, .int 4, .int 6, .int 11, .int 7, .int 9, .int 8, .int 10, .int 12, .int 17, .int 13, .int 15, .int 14, .int 16])), none, none, none, none, none] m := by kernel_rfl
theorem lawS4 (m : Mo) : (sSet 6 (dvV (dOp addD (dVar 2) (dLst (dCons (dC (.int 3)) (dCons (dC (.int 5)) (dCons (dC (.int 4)) (dCons (dC (.int 6)) (dCons (dC (.int 8)) (dCons (dC (.int 7)) (dCons (dC (.int 9)) (dCons (dC (.int 11)) (dCons (dC (.int 10)) dNil))))))))))))) [none, some (.v .drw), some (.v (.lst [.int 2, .int 1])), some (.v (.lst [.int 5, .int 1, .int 3, .int 2, .int 4])), some (.ml [.tup [.lst [.int 2, .int 1], .int 1], .tup [.lst [.int 5, .int 1, .int 3, .int 2, .int 4], .int 2], .tup [.lst [.int 2, .int 1, .int 3, .int 5, .int 4], .int 2], .tup [.lst [.int 5, .int 1, .int 3, .int 2, .int 4, .int 6, .int 8, .int 7], .int 2], .tup [.lst [.int 5, .int 1, .int 3, .int 2, .int 4, .int 6, .int 11, .int 7, .int 9, .int 8, .int 10, .int 12, .int 17, .int 13, .int 15, .int 14, .int 16], .int 4], .tup [.lst [.int 5, .int 1, .int 3, .int 2, .int 4, .int 6, .int 11, .int 7, .int 9, .int 8, .int 10, .int 12, .int 14, .int 13], .int 3], .tup [.lst [.int 2, .int 1, .int 3, .int 5, .int 4, .int 6, .int 8, .int 7], .int 3]]), some (.v (.lst [.int 5, .int 1, .int 3, .int 2, .int 4, .int 6, .int 11, .int 7, .int 9, .int 8, .int 10, .int 12, .int 17, .int 13, .int 15, .int 14, .int 16])), none, none, none, none, none] m = .nx [none, some (.v .drw), some (.v (.lst [.int 2, .int 1])), some (.v (.lst [.int 5, .int 1, .int 3, .int 2, .int 4])), some (.ml [.tup [.lst [.int 2, .int 1], .int 1], .tup [.lst [.int 5, .int 1, .int 3, .int 2, .int 4], .int 2], .tup [.lst [.int 2, .int 1, .int 3, .int 5, .int 4], .int 2], .tup [.lst [.int 5, .int 1, .int 3, .int 2, .int 4, .int 6, .int 8, .int 7], .int 2], .tup [.lst [.int 5, .int 1, .int 3, .int 2, .int 4, .int 6, .int 11, .int 7, .int 9, .int 8, .int 10, .int 12, .int 17, .int 13, .int 15, .int 14, .int 16], .int 4], .tup [.lst [.int 5, .int 1, .int 3, .int 2, .int 4, .int 6, .int 11, .int 7, .int 9, .int 8, .int 10, .int 12, .int 14, .int 13], .int 3], .tup [.lst [.int 2, .int 1, .int 3, .int 5, .int 4, .int 6, .int 8, .int 7], .int 3]]), some (.v (.lst [.int 5, .int 1, .int 3, .int 2, .int 4, .int 6, .int 11, .int 7, .int 9, .int 8, .int 10, .int 12, .int 17, .int 13, .int 15, .int 14, .int 16])), some (.v (.lst [.int 2, .int 1, .int 3, .int 5, .int 4, .int 6, .int 8, .int 7, .int 9, .int 11, .int 10])), none, none, none, none] m := by kernel_rfl
theorem lawS5 (m : Mo) : (sSet 4 (dvCat (dPeek 4) (dLst (dCons (dTup (dCons (dVar 6) (dCons (dC (.int 4)) dNil))) (dCons (dTup (dCons (dOp addD (dVar 3) (dLst (dCons (dC (.int 6)) (dCons (dC (.int 8)) (dCons (dC (.int 7)) (dCons (dC (.int 9)) (dCons (dC (.int 11)) (dCons (dC (.int 10)) dNil)))))))) (dCons (dC (.int 3)) dNil))) (dCons (dTup (dCons (dLst (dCons (dC (.int 3)) (dCons (dUn negD (dC (.int 2))) (dCons (dC (.int 1)) dNil)))) (dCons (dC (.int 0)) dNil))) (dCons (dTup (dCons (dLst dNil) (dCons (dC (.int 0)) dNil))) (dCons (dTup (dCons (dLst (dCons (dC (.int 4)) (dCons (dC (.int 1)) (dCons (dC (.int 2)) (dCons (dC (.int 3)) dNil))))) (dCons (dC (.int 1)) dNil))) dNil)))))))) [none, some (.v .drw), some (.v (.lst [.int 2, .int 1])), some (.v (.lst [.int 5, .int 1, .int 3, .int 2, .int 4])), some (.ml [.tup [.lst [.int 2, .int 1], .int 1], .tup [.lst [.int 5, .int 1, .int 3, .int 2, .int 4], .int 2], .tup [.lst [.int 2, .int 1, .int 3, .int 5, .int 4], .int 2], .tup [.lst [.int 5, .int 1, .int 3, .int 2, .int 4, .int 6, .int 8, .int 7], .int 2], .tup [.lst [.int 5, .int 1, .int 3, .int 2, .int 4, .int 6, .int 11, .int 7, .int 9, .int 8, .int 10, .int 12, .int 17, .int 13, .int 15, .int 14, .int 16], .int 4], .tup [.lst [.int 5, .int 1, .int 3, .int 2, .int 4, .int 6, .int 11, .int 7, .int 9, .int 8, .int 10, .int 12, .int 14, .int 13], .int 3], .tup [.lst [.int 2, .int 1, .int 3, .int 5, .int 4, .int 6, .int 8, .int 7], .int 3]]), some (.v (.lst [.int 5, .int 1, .int 3, .int 2, .int 4, .int 6, .int 11, .int 7, .int 9, .int 8, .int 10, .int 12, .int 17, .int 13, .int 15, .int 14, .int 16])), some (.v (.lst [.int 2, .int 1, .int 3, .int 5, .int 4, .int 6, .int 8, .int 7, .int 9, .int 11, .int 10])), none, none, none, none] m = .nx [none, some (.v .drw), some (.v (.lst [.int 2, .int 1])), some (.v (.lst [.int 5, .int 1, .int 3, .int 2, .int 4])), some (.ml [.tup [.lst [.int 2, .int 1], .int 1], .tup [.lst [.int 5, .int 1, .int 3, .int 2, .int 4], .int 2], .tup [.lst [.int 2, .int 1, .int 3, .int 5, .int 4], .int 2], .tup [.lst [.int 5, .int 1, .int 3, .int 2, .int 4, .int 6, .int 8, .int 7], .int 2], .tup [.lst [.int 5, .int 1, .int 3, .int 2, .int 4, .int 6, .int 11, .int 7, .int 9, .int 8, .int 10, .int 12, .int 17, .int 13, .int 15, .int 14, .int 16], .int 4], .tup [.lst [.int 5, .int 1, .int 3, .int 2, .int 4, .int 6, .int 11, .int 7, .int 9, .int 8, .int 10, .int 12, .int 14, .int 13], .int 3], .tup [.lst [.int 2, .int 1, .int 3, .int 5, .int 4, .int 6, .int 8, .int 7], .int 3], .tup [.lst [.int 2, .int 1, .int 3, .int 5, .int 4, .int 6, .int 8, .int 7, .int 9, .int 11, .int 10], .int 4], .tup [.lst [.int 5, .int 1, .int 3, .int 2, .int 4, .int 6, .int 8, .int 7, .int 9, .int 11, .int 10], .int 3], .tup [.lst [.int 3, .int (-2), .int 1], .int 0], .tup [.lst [], .int 0], .tup [.lst [.int 4, .int 1, .int 2, .int 3], .int 1]]), some (.v (.lst [.int 5, .int 1, .int 3, .int 2, .int 4, .int 6, .int 11, .int 7, .int 9, .int 8, .int 10, .int 12, .int 17, .int 13, .int 15, .int 14, .int 16])), some (.v (.lst [.int 2, .int 1, .int 3, .int 5, .int 4, .int 6, .int 8, .int 7, .int 9, .int 11, .int 10])), none, none, none, none] m := by kernel_rfl
theorem lawS6 (m : Mo) : (sSet 4 (dvCat (dPeek 4) (dLst (dCons (dTup (dCons (dLst (dCons (dC (.int 8)) (dCons (dC (.int 1)) (dCons (dC (.int 3)) (dCons (dC (.int 2)) (dCons (dC (.int 4)) (dCons (dC (.int 6)) (dCons (dC (.int 5)) (dCons (dC (.int 7)) dNil))))))))) (dCons (dC (.int 3)) dNil))) (dCons (dTup (dCons (dLst (dCons (dC (.int 8)) (dCons (dC (.int 1)) (dCons (dC (.int 3)) (dCons (dC (.int 2)) (dCons (dC (.int 4)) (dCons (dC (.int 6)) (dCons (dC (.int 5)) (dCons (dC (.int 7)) (dCons (dC (.int 9)) (dCons (dC (.int 14)) (dCons (dC (.int 10)) (dCons (dC (.int 12)) (dCons (dC (.int 11)) (dCons (dC (.int 13)) dNil))))))))))))))) (dCons (dC (.int 3)) dNil))) dNil))))) [none, some (.v .drw), some (.v (.lst [.int 2, .int 1])), some (.v (.lst [.int 5, .int 1, .int 3, .int 2, .int 4])), some (.ml [.tup [.lst [.int 2, .int 1], .int 1], .tup [.lst [.int 5, .int 1, .int 3, .int 2, .int 4], .int 2], .tup [.lst [.int 2, .int 1, .int 3, .int 5, .int 4], .int 2], .tup [.lst [.int 5, .int 1, .int 3, .int 2, .int 4, .int 6, .int 8, .int 7], .int 2], .tup [.lst [.int 5, .int 1, .int 3, .int 2, .int 4, .int 6, .int 11, .int 7, .int 9, .int 8, .int 10, .int 12, .int 17, .int 13, .int 15, .int 14, .int 16], .int 4], .tup [.lst [.int 5, .int 1, .int 3, .int 2, .int 4, .int 6, .int 11, .int 7, .int 9, .int 8, .int 10, .int 12, .int 14, .int 13], .int 3], .tup [.lst [.int 2, .int 1, .int 3, .int 5, .int 4, .int 6, .int 8, .int 7], .int 3], .tup [.lst [.int 2, .int 1, .int 3, .int 5, .int 4, .int 6, .int 8, .int 7, .int 9, .int 11, .int 10], .int 4], .tup [.lst [.int 5, .int 1, .int 3, .int 2, .int 4, .int 6, .int 8, .int 7, .int 9, .int 11, .int 10], .int 3], .tup [.lst [.int 3, .int (-2), .int 1], .int 0], .tup [.lst [], .int 0], .tup [.lst [.int 4, .int 1, .int 2, .int 3], .int 1]]), some (.v (.lst [.int 5, .int 1, .int 3, .int 2, .int 4, .int 6, .int 11, .int 7, .int 9, .int 8, .int 10, .int 12, .int 17, .int 13, .int 15, .int 14, .int 16])), some (.v (.lst [.int 2, .int 1, .int 3, .int 5, .int 4, .int 6, .int 8, .int 7, .int 9, .int 11, .int 10])), none, none, none, none] m = .nx [none, some (.v .drw), some (.v (.lst [.int 2, .int 1])), some (.v (.lst [.int 5, .int 1, .int 3, .int 2, .int 4])), some (.ml [.tup [.lst [.int 2, .int 1], .int 1], .tup [.lst [.int 5, .int 1, .int 3, .int 2, .int 4], .int 2], .tup [.lst [.int 2, .int 1, .int 3, .int 5, .int 4], .int 2], .tup [.lst [.int 5, .int 1, .int 3, .int 2, .int 4, .int 6, .int 8, .int 7], .int 2], .tup [.lst [.int 5, .int 1, .int 3, .int 2, .int 4, .int 6, .int 11, .int 7, .int 9, .int 8, .int 10, .int 12, .int 17, .int 13, .int 15, .int 14, .int 16], .int 4], .tup [.lst [.int 5, .int 1, .int 3, .int 2, .int 4, .int 6, .int 11, .int 7, .int 9, .int 8, .int 10, .int 12, .int 14, .int 13], .int 3], .tup [.lst [.int 2, .int 1, .int 3, .int 5, .int 4, .int 6, .int 8, .int 7], .int 3], .tup [.lst [.int 2, .int 1, .int 3, .int 5, .int 4, .int 6, .int 8, .int 7, .int 9, .int 11, .int 10], .int 4], .tup [.lst [.int 5, .int 1, .int 3, .int 2, .int 4, .int 6, .int 8, .int 7, .int 9, .int 11, .int 10], .int 3], .tup [.lst [.int 3, .int (-2), .int 1], .int 0], .tup [.lst [], .int 0], .tup [.lst [.int 4, .int 1, .int 2, .int 3], .int 1], .tup [.lst [.int 8, .int 1, .int 3, .int 2, .int 4, .int 6, .int 5, .int 7], .int 3], .tup [.lst [.int 8, .int 1, .int 3, .int 2, .int 4, .int 6, .int 5, .int 7, .int 9, .int 14, .int 10, .int 12, .int 11, .int 13], .int 3]]), some (.v (.lst [.int 5, .int 1, .int 3, .int 2, .int 4, .int 6, .int 11, .int 7, .int 9, .int 8, .int 10, .int 12, .int 17, .int 13, .int 15, .int 14, .int 16])), some (.v (.lst [.int 2, .int 1, .int 3, .int 5, .int 4, .int 6, .int 8, .int 7, .int 9, .int 11, .int 10])), none, none, none, none] m := by kernel_rfl
theorem lawS7 (m : Mo) : (sSet 7 (dvV (dLst (dCons (dC (.int 6)) (dCons (dC (.int 1)) (dCons (dC (.int 3)) (dCons (dC (.int 2)) (dCons (dC (.int 4)) (dCons (dC (.int 5)) dNil))))))))) [none, some (.v .drw), some (.v (.lst [.int 2, .int 1])), some (.v (.lst [.int 5, .int 1, .int 3, .int 2, .int 4])), some (.ml [.tup [.lst [.int 2, .int 1], .int 1], .tup [.lst [.int 5, .int 1, .int 3, .int 2, .int 4], .int 2], .tup [.lst [.int 2, .int 1, .int 3, .int 5, .int 4], .int 2], .tup [.lst [.int 5, .int 1, .int 3, .int 2, .int 4, .int 6, .int 8, .int 7], .int 2], .tup [.lst [.int 5, .int 1, .int 3, .int 2, .int 4, .int 6, .int 11, .int 7, .int 9, .int 8, .int 10, .int 12, .int 17, .int 13, .int 15, .int 14, .int 16], .int 4], .tup [.lst [.int 5, .int 1, .int 3, .int 2, .int 4, .int 6, .int 11, .int 7, .int 9, .int 8, .int 10, .int 12, .int 14, .int 13], .int 3], .tup [.lst [.int 2, .int 1, .int 3, .int 5, .int 4, .int 6, .int 8, .int 7], .int 3], .tup [.lst [.int 2, .int 1, .int 3, .int 5, .int 4, .int 6, .int 8, .int 7, .int 9, .int 11, .int 10], .int 4], .tup [.lst [.int 5, .int 1, .int 3, .int 2, .int 4, .int 6, .int 8, .int 7, .int 9, .int 11, .int 10], .int 3], .tup [.lst [.int 3, .int (-2), .int 1], .int 0], .tup [.lst [], .int 0], .tup [.lst [.int 4, .int 1, .int 2, .int 3], .int 1], .tup [.lst [.int 8, .int 1, .int 3, .int 2, .int 4, .int 6, .int 5, .int 7], .int 3], .tup [.lst [.int 8, .int 1, .int 3, .int 2, .int 4, .int 6, .int 5, .int 7, .int 9, .int 14, .int 10, .int 12, .int 11, .int 13], .int 3]]), some (.v (.lst [.int 5, .int 1, .int 3, .int 2, .int 4, .int 6, .int 11, .int 7, .int 9, .int 8, .int 10, .int 12, .int 17, .int 13, .int 15, .int 14, .int 16])), some (.v (.lst [.int 2, .int 1, .int 3, .int 5, .int 4, .int 6, .int 8, .int 7, .int 9, .int 11, .int 10])), none, none, none, none] m = .nx [none, some (.v .drw), some (.v (.lst [.int 2, .int 1])), some (.v (.lst [.int 5, .int 1, .int 3, .int 2, .int 4])), some (.ml [.tup [.lst [.int 2, .int 1], .int 1], .tup [.lst [.int 5, .int 1, .int 3, .int 2, .int 4], .int 2], .tup [.lst [.int 2, .int 1, .int 3, .int 5, .int 4], .int 2], .tup [.lst [.int 5, .int 1, .int 3, .int 2, .int 4, .int 6, .int 8, .int 7], .int 2], .tup [.lst [.int 5, .int 1, .int 3, .int 2, .int 4, .int 6, .int 11, .int 7, .int 9, .int 8, .int 10, .int 12, .int 17, .int 13, .int 15, .int 14, .int 16], .int 4], .tup [.lst [.int 5, .int 1, .int 3, .int 2, .int 4, .int 6, .int 11, .int 7, .int 9, .int 8, .int 10, .int 12, .int 14, .int 13], .int 3], .tup [.lst [.int 2, .int 1, .int 3, .int 5, .int 4, .int 6, .int 8, .int 7], .int 3], .tup [.lst [.int 2, .int 1, .int 3, .int 5, .int 4, .int 6, .int 8, .int 7, .int 9, .int 11, .int 10], .int 4], .tup [.lst [.int 5, .int 1, .int 3, .int 2, .int 4, .int 6, .int 8, .int 7, .int 9, .int 11, .int 10], .int 3], .tup [.lst [.int 3, .int (-2), .int 1], .int 0], .tup [.lst [], .int 0], .tup [.lst [.int 4, .int 1, .int 2, .int 3], .int 1], .tup [.lst [.int 8, .int 1, .int 3, .int 2, .int 4, .int 6, .int 5, .int 7], .int 3], .tup [.lst [.int 8, .int 1, .int 3, .int 2, .int 4, .int 6, .int 5, .int 7, .int 9, .int 14, .int 10, .int 12, .int 11, .int 13], .int 3]]), some (.v (.lst [.int 5, .int 1, .int 3, .int 2, .int 4, .int 6, .int 11, .int 7, .int 9, .int 8, .int 10, .int 12, .int 17, .int 13, .int 15, .int 14, .int 16])), some (.v (.lst [.int 2, .int 1, .int 3, .int 5, .int 4, .int 6, .int 8, .int 7, .int 9, .int 11, .int 10])), some (.v (.lst [.int 6, .int 1, .int 3, .int 2, .int 4, .int 5])), none, none, none] m := by kernel_rfl
theorem lawS8 (m : Mo) : (sSet 5 (dvV (dOp addD (dOp addD (dOp addD (dOp addD (dVar 7) (dLst (dCons (dC (.int 7)) dNil))) (dCall 2 F__law_higher (dCons (dVar 7) (dCons (dC (.int 7)) dNil)))) (dLst (dCons (dC (.int 14)) dNil))) (dCall 2 F__law_higher (dCons (dVar 7) (dCons (dC (.int 14)) dNil)))))) [none, some (.v .drw), some (.v (.lst [.int 2, .int 1])), some (.v (.lst [.int 5, .int 1, .int 3, .int 2, .int 4])), some (.ml [.tup [.lst [.int 2, .int 1], .int 1], .tup [.lst [.int 5, .int 1, .int 3, .int 2, .int 4], .int 2], .tup [.lst [.int 2, .int 1, .int 3, .int 5, .int 4], .int 2], .tup [.lst [.int 5, .int 1, .int 3, .int 2, .int 4, .int 6, .int 8, .int 7], .int 2], .tup [.lst [.int 5, .int 1, .int 3, .int 2, .int 4, .int 6, .int 11, .int 7, .int 9, .int 8, .int 10, .int 12, .int 17, .int 13, .int 15, .int 14, .int 16], .int 4], .tup [.lst [.int 5, .int 1, .int 3, .int 2, .int 4, .int 6, .int 11, .int 7, .int 9, .int 8, .int 10, .int 12, .int 14, .int 13], .int 3], .tup [.lst [.int 2, .int 1, .int 3, .int 5, .int 4, .int 6, .int 8, .int 7], .int 3], .tup [.lst [.int 2, .int 1, .int 3, .int 5, .int 4, .int 6, .int 8, .int 7, .int 9, .int 11, .int 10], .int 4], .tup [.lst [.int 5, .int 1, .int 3, .int 2, .int 4, .int 6, .int 8, .int 7, .int 9, .int 11, .int 10], .int 3], .tup [.lst [.int 3, .int (-2), .int 1], .int 0], .tup [.lst [], .int 0], .tup [.lst [.int 4, .int 1, .int 2, .int 3], .int 1], .tup [.lst [.int 8, .int 1, .int 3, .int 2, .int 4, .int 6, .int 5, .int 7], .int 3], .tup [.lst [.int 8, .int 1, .int 3, .int 2, .int 4, .int 6, .int 5, .int 7, .int 9, .int 14, .int 10, .int 12, .int 11, .int 13], .int 3]]), some (.v (.lst [.int 5, .int 1, .int 3, .int 2, .int 4, .int 6, .int 11, .int 7, .int 9, .int 8, .int 10, .int 12, .int 17, .int 13, .int 15, .int 14, .int 16])), some (.v (.lst [.int 2, .int 1, .int 3, .int 5, .int 4, .int 6, .int 8, .int 7, .int 9, .int 11, .int 10])), some (.v (.lst [.int 6, .int 1, .int 3, .int 2, .int 4, .int 5])), none, none, none] m = .nx [none, some (.v .drw), some (.v (.lst [.int 2, .int 1])), some (.v (.lst [.int 5, .int 1, .int 3, .int 2, .int 4])), some (.ml [.tup [.lst [.int 2, .int 1], .int 1], .tup [.lst [.int 5, .int 1, .int 3, .int 2, .int 4], .int 2], .tup [.lst [.int 2, .int 1, .int 3, .int 5, .int 4], .int 2], .tup [.lst [.int 5, .int 1, .int 3, .int 2, .int 4, .int 6, .int 8, .int 7], .int 2], .tup [.lst [.int 5, .int 1, .int 3, .int 2, .int 4, .int 6, .int 11, .int 7, .int 9, .int 8, .int 10, .int 12, .int 17, .int 13, .int 15, .int 14, .int 16], .int 4], .tup [.lst [.int 5, .int 1, .int 3, .int 2, .int 4, .int 6, .int 11, .int 7, .int 9, .int 8, .int 10, .int 12, .int 14, .int 13], .int 3], .tup [.lst [.int 2, .int 1, .int 3, .int 5, .int 4, .int 6, .int 8, .int 7], .int 3], .tup [.lst [.int 2, .int 1, .int 3, .int 5, .int 4, .int 6, .int 8, .int 7, .int 9, .int 11, .int 10], .int 4], .tup [.lst [.int 5, .int 1, .int 3, .int 2, .int 4, .int 6, .int 8, .int 7, .int 9, .int 11, .int 10], .int 3], .tup [.lst [.int 3, .int (-2), .int 1], .int 0], .tup [.lst [], .int 0], .tup [.lst [.int 4, .int 1, .int 2, .int 3], .int 1], .tup [.lst [.int 8, .int 1, .int 3, .int 2, .int 4, .int 6, .int 5, .int 7], .int 3], .tup [.lst [.int 8, .int 1, .int 3, .int 2, .int 4, .int 6, .int 5, .int 7, .int 9, .int 14, .int 10, .int 12, .int 11, .int 13], .int 3]]), some (.v (.lst [.int 6, .int 1, .int 3, .int 2, .int 4, .int 5, .int 7, .int 13, .int 8, .int 10, .int 9, .int 11, .int 12, .int 14, .int 20, .int 15, .int 17, .int 16, .int 18, .int 19])), some (.v (.lst [.int 2, .int 1, .int 3, .int 5, .int 4, .int 6, .int 8, .int 7, .int 9, .int 11, .int 10])), some (.v (.lst [.int 6, .int 1, .int 3, .int 2, .int 4, .int 5])), none, none, none] m := by kernel_rfl
theorem lawS9 (m : Mo) : (sApp 4 (dTup (dCons (dVar 5) (dCons (dC (.int 4)) dNil)))) [none, some (.v .drw), some (.v (.lst [.int 2, .int 1])), some (.v (.lst [.int 5, .int 1, .int 3, .int 2, .int 4])), some (.ml [.tup [.lst [.int 2, .int 1], .int 1], .tup [.lst [.int 5, .int 1, .int 3, .int 2, .int 4], .int 2], .tup [.lst [.int 2, .int 1, .int 3, .int 5, .int 4], .int 2], .tup [.lst [.int 5, .int 1, .int 3, .int 2, .int 4, .int 6, .int 8, .int 7], .int 2], .tup [.lst [.int 5, .int 1, .int 3, .int 2, .int 4, .int 6, .int 11, .int 7, .int 9, .int 8, .int 10, .int 12, .int 17, .int 13, .int 15, .int 14, .int 16], .int 4], .tup [.lst [.int 5, .int 1, .int 3, .int 2, .int 4, .int 6, .int 11, .int 7, .int 9, .int 8, .int 10, .int 12, .int 14, .int 13], .int 3], .tup [.lst [.int 2, .int 1, .int 3, .int 5, .int 4, .int 6, .int 8, .int 7], .int 3], .tup [.lst [.int 2, .int 1, .int 3, .int 5, .int 4, .int 6, .int 8, .int 7, .int 9, .int 11, .int 10], .int 4], .tup [.lst [.int 5, .int 1, .int 3, .int 2, .int 4, .int 6, .int 8, .int 7, .int 9, .int 11, .int 10], .int 3], .tup [.lst [.int 3, .int (-2), .int 1], .int 0], .tup [.lst [], .int 0], .tup [.lst [.int 4, .int 1, .int 2, .int 3], .int 1], .tup [.lst [.int 8, .int 1, .int 3, .int 2, .int 4, .int 6, .int 5, .int 7], .int 3], .tup [.lst [.int 8, .int 1, .int 3, .int 2, .int 4, .int 6, .int 5, .int 7, .int 9, .int 14, .int 10, .int 12, .int 11, .int 13], .int 3]]), some (.v (.lst [.int 6, .int 1, .int 3, .int 2, .int 4, .int 5, .int 7, .int 13, .int 8, .int 10, .int 9, .int 11, .int 12, .int 14, .int 20, .int 15, .int 17, .int 16, .int 18, .int 19])), some (.v (.lst [.int 2, .int 1, .int 3, .int 5, .int 4, .int 6, .int 8, .int 7, .int 9, .int 11, .int 10])), some (.v (.lst [.int 6, .int 1, .int 3, .int 2, .int 4, .int 5])), none, none, none] m = .nx [none, some (.v .drw), some (.v (.lst [.int 2, .int 1])), some (.v (.lst [.int 5, .int 1, .int 3, .int 2, .int 4])), some (.ml [.tup [.lst [.int 2, .int 1], .int 1], .tup [.lst [.int 5, .int 1, .int 3, .int 2, .int 4], .int 2], .tup [.lst [.int 2, .int 1, .int 3, .int 5, .int 4], .int 2], .tup [.lst [.int 5, .int 1, .int 3, .int 2, .int 4, .int 6, .int 8, .int 7], .int 2], .tup [.lst [.int 5, .int 1, .int 3, .int 2, .int 4, .int 6, .int 11, .int 7, .int 9, .int 8, .int 10, .int 12, .int 17, .int 13, .int 15, .int 14, .int 16], .int 4], .tup [.lst [.int 5, .int 1, .int 3, .int 2, .int 4, .int 6, .int 11, .int 7, .int 9, .int 8, .int 10, .int 12, .int 14, .int 13], .int 3], .tup [.lst [.int 2, .int 1, .int 3, .int 5, .int 4, .int 6, .int 8, .int 7], .int 3], .tup [.lst [.int 2, .int 1, .int 3, .int 5, .int 4, .int 6, .int 8, .int 7, .int 9, .int 11, .int 10], .int 4], .tup [.lst [.int 5, .int 1, .int 3, .int 2, .int 4, .int 6, .int 8, .int 7, .int 9, .int 11, .int 10], .int 3], .tup [.lst [.int 3, .int (-2), .int 1], .int 0], .tup [.lst [], .int 0], .tup [.lst [.int 4, .int 1, .int 2, .int 3], .int 1], .tup [.lst [.int 8, .int 1, .int 3, .int 2, .int 4, .int 6, .int 5, .int 7], .int 3], .tup [.lst [.int 8, .int 1, .int 3, .int 2, .int 4, .int 6, .int 5, .int 7, .int 9, .int 14, .int 10, .int 12, .int 11, .int 13], .int 3], .tup [.lst [.int 6, .int 1, .int 3, .int 2, .int 4, .int 5, .int 7, .int 13, .int 8, .int 10, .int 9, .int 11, .int 12, .int 14, .int 20, .int 15, .int 17, .int 16, .int 18, .int 19], .int 4]]), some (.v (.lst [.int 6, .int 1, .int 3, .int 2, .int 4, .int 5, .int 7, .int 13, .int 8, .int 10, .int 9, .int 11, .int 12, .int 14, .int 20, .int 15, .int 17, .int 16, .int 18, .int 19])), some (.v (.lst [.int 2, .int 1, .int 3, .int 5, .int 4, .int 6, .int 8, .int 7, .int 9, .int 11, .int 10])), some (.v (.lst [.int 6, .int 1, .int 3, .int 2, .int 4, .int 5])), none, none, none] m := by kernel_rfl
noncomputable abbrev lawR : DS := (sSeq (sIf (dOr (dTest (dOp neD (dCall 1 F_parts (dCons (dMake 0 F_Row___init__ (dCons (dVar 3) dNil)) dNil)) (dTup (dCons (dTup (dCons (dC (.int 0)) (dCons (dC (.int 6)) dNil))) (dCons (dTup (dCons (dC (.int 2)) (dCons (dC (.int 5)) dNil))) dNil))))) (dTest (dOp neD (dCall 1 F_unfaced (dCons (dMake 0 F_Row___init__ (dCons (dVar 3) dNil)) dNil)) (dTup (dCons (dTup (dCons (dC (.int 0)) (dCons (dC (.int 6)) dNil))) (dCons (dTup (dCons (dC (.int 2)) (dCons (dC (.int 5)) dNil))) dNil)))))) (sRet (dC (.bl false))) sNx)
    (sSeq (sIf (dTest (dOp neD (dCall 1 F_chains (dCons (dMake 0 F_Row___init__ (dCons (dVar 3) dNil)) dNil)) (dTup (dCons (dTup (dCons (dTup (dCons (dC (.int 0)) (dCons (dC (.int 6)) dNil))) dNil)) (dCons (dTup (dCons (dTup (dCons (dC (.int 2)) (dCons (dC (.int 5)) dNil))) dNil)) dNil))))) (sRet (dC (.bl false))) sNx)
    (sSeq (sSet 10 (dvV (dLst (dCons (dC (.int 1)) (dCons (dC (.int 5)) (dCons (dUn negD (dC (.int 3))) (dCons (dUn negD (dC (.int 2))) (dCons (dUn negD (dC (.int 4))) (dCons (dC (.int 6)) dNil)))))))))
    (sSeq (sIf (dNot (dTru (dCall 2 F__law_like (dCons (dCall 1 F_unfaced (dCons (dMake 0 F_Row___init__ (dCons (dVar 10) dNil)) dNil)) (dCons (dCB toTup (dCons (dCall 1 F__law_unfaced (dCons (dVar 10) dNil)) dNil)) dNil))))) (sRet (dC (.bl false))) sNx)
    (sRet (dOp eqD (dCall 1 F_cost (dCons (dMake 0 F_Row___init__ (dCons (dLst (dCons (dC (.int 6)) (dCons (dUn negD (dC (.int 5))) (dCons (dUn negD (dC (.int 3))) (dCons (dUn negD (dC (.int 4))) (dCons (dUn negD (dC (.int 2))) (dCons (dC (.int 1)) dNil))))))) dNil)) dNil)) (dCall 1 F__law_cost (dCons (dLst (dCons (dC (.int 6)) (dCons (dUn negD (dC (.int 5))) (dCons (dUn negD (dC (.int 3))) (dCons (dUn negD (dC (.int 4))) (dCons (dUn negD (dC (.int 2))) (dCons (dC (.int 1)) dNil))))))) dNil))))))))
theorem lawT (m : Mo) : lawR [none, some (.v .drw), some (.v (.lst [.int 2, .int 1])), some (.v (.lst [.int 5, .int 1, .int 3, .int 2, .int 4])), some (.v (.lst [.tup [.lst [.int 2, .int 1], .int 1], .tup [.lst [.int 5, .int 1, .int 3, .int 2, .int 4], .int 2], .tup [.lst [.int 2, .int 1, .int 3, .int 5, .int 4], .int 2], .tup [.lst [.int 5, .int 1, .int 3, .int 2, .int 4, .int 6, .int 8, .int 7], .int 2], .tup [.lst [.int 5, .int 1, .int 3, .int 2, .int 4, .int 6, .int 11, .int 7, .int 9, .int 8, .int 10, .int 12, .int 17, .int 13, .int 15, .int 14, .int 16], .int 4], .tup [.lst [.int 5, .int 1, .int 3, .int 2, .int 4, .int 6, .int 11, .int 7, .int 9, .int 8, .int 10, .int 12, .int 14, .int 13], .int 3], .tup [.lst [.int 2, .int 1, .int 3, .int 5, .int 4, .int 6, .int 8, .int 7], .int 3], .tup [.lst [.int 2, .int 1, .int 3, .int 5, .int 4, .int 6, .int 8, .int 7, .int 9, .int 11, .int 10], .int 4], .tup [.lst [.int 5, .int 1, .int 3, .int 2, .int 4, .int 6, .int 8, .int 7, .int 9, .int 11, .int 10], .int 3], .tup [.lst [.int 3, .int (-2), .int 1], .int 0], .tup [.lst [], .int 0], .tup [.lst [.int 4, .int 1, .int 2, .int 3], .int 1], .tup [.lst [.int 8, .int 1, .int 3, .int 2, .int 4, .int 6, .int 5, .int 7], .int 3], .tup [.lst [.int 8, .int 1, .int 3, .int 2, .int 4, .int 6, .int 5, .int 7, .int 9, .int 14, .int 10, .int 12, .int 11, .int 13], .int 3], .tup [.lst [.int 6, .int 1, .int 3, .int 2, .int 4, .int 5, .int 7, .int 13, .int 8, .int 10, .int 9, .int 11, .int 12, .int 14, .int 20, .int 15, .int 17, .int 16, .int 18, .int 19], .int 4]])), some (.v (.lst [.int 6, .int 1, .int 3, .int 2, .int 4, .int 5, .int 7, .int 13, .int 8, .int 10, .int 9, .int 11, .int 12, .int 14, .int 20, .int 15, .int 17, .int 16, .int 18, .int 19])), some (.v (.lst [.int 2, .int 1, .int 3, .int 5, .int 4, .int 6, .int 8, .int 7, .int 9, .int 11, .int 10])), some (.v (.lst [.int 6, .int 1, .int 3, .int 2, .int 4, .int 5])), some (.v (.lst [.int 6, .int 1, .int 3, .int 2, .int 4, .int 5, .int 7, .int 13, .int 8, .int 10, .int 9, .int 11, .int 12, .int 14, .int 20, .int 15, .int 17, .int 16, .int 18, .int 19])), some (.v (.int 4)), none] m = .rt (.bl true) m := by kernel_rfl
theorem one_turn {ρ : List (Option Sv)} {w due : D} {k : Nat} {m : Mo} {x2 x3 x4 x5 x6 x7 x8 x9 : Option Sv} (H : ∃ m', F__law_costs_right [.drw, w, due] m = .ok (.bl true) m' ∧ Lim k m') :
    ∃ m', den_law_b1 [none, some (.v .drw), x2, x3, x4, x5, x6, x7, some (.v w), some (.v due), none] m = .nx [none, some (.v .drw), x2, x3, x4, x5, x6, x7, some (.v w), some (.v due), none] m' ∧ Lim k m' := by
  obtain ⟨m', e, l⟩ := H
  refine ⟨m', ?_, l⟩
  unfold den_law_b1
  and_intros
  rw [e]
  and_intros
theorem walk_rows {x2 x3 x4 x5 x6 x7 : Option Sv} : ∀ (l : List (D × D)) (k : Nat) (m : Mo) (x8 x9 : Option Sv), (∀ p ∈ l, ∀ (k : Nat) (m : Mo), Lim (k + 1) m → ∃ m', F__law_costs_right [.drw, p.1, p.2] m = .ok (.bl true) m' ∧ Lim k m') → Lim (k + l.length) m →
    ∃ m', forD (hTup 2 (hCons (hName 8) (hCons (hName 9) hNil))) den_law_b1 (l.map fun p => .tup [p.1, p.2]) [none, some (.v .drw), x2, x3, x4, x5, x6, x7, x8, x9, none] m = .nx (l.foldl (fun _ p => [none, some (.v .drw), x2, x3, x4, x5, x6, x7, some (.v p.1), some (.v p.2), none]) [none, some (.v .drw), x2, x3, x4, x5, x6, x7, x8, x9, none]) m' ∧ Lim k m'
  | [], k, m, x8, x9, _, hl => ⟨m, rfl, hl⟩
  | p :: r, k, m, x8, x9, H, hl => by
    rw [List.length_cons] at hl
    obtain ⟨m1, e1, l1⟩ := one_turn (ρ := []) (x2 := x2) (x3 := x3) (x4 := x4) (x5 := x5) (x6 := x6) (x7 := x7) (x8 := x8) (x9 := x9) (H p List.mem_cons_self (k + r.length) m (hl.le (by omega)))
    obtain ⟨m2, e2, l2⟩ := walk_rows (x2 := x2) (x3 := x3) (x4 := x4) (x5 := x5) (x6 := x6) (x7 := x7) r k m1 (some (.v p.1)) (some (.v p.2)) (fun q hq => H q (List.mem_cons_of_mem _ hq)) l1
    refine ⟨m2, ?_, l2⟩
    have hh : hTup 2 (hCons (hName 8) (hCons (hName 9) hNil)) (.tup [p.1, p.2]) [none, some (.v .drw), x2, x3, x4, x5, x6, x7, x8, x9, none] = some [none, some (.v .drw), x2, x3, x4, x5, x6, x7, some (.v p.1), some (.v p.2), none] := rfl
    rw [List.map_cons, forD_cons hh, e1]
    exact e2
def rowsK : List (D × D) := [(.lst [.int 2, .int 1], .int 1), (.lst [.int 5, .int 1, .int 3, .int 2, .int 4], .int 2), (.lst [.int 2, .int 1, .int 3, .int 5, .int 4], .int 2), (.lst [.int 5, .int 1, .int 3, .int 2, .int 4, .int 6, .int 8, .int 7], .int 2), (.lst [.int 5, .int 1, .int 3, .int 2, .int 4, .int 6, .int 11, .int 7, .int 9, .int 8, .int 10, .int 12, .int 17, .int 13, .int 15, .int 14, .int 16], .int 4), (.lst [.int 5, .int 1, .int 3, .int 2, .int 4, .int 6, .int 11, .int 7, .int 9, .int 8, .int 10, .int 12, .int 14, .int 13], .int 3), (.lst [.int 2, .int 1, .int 3, .int 5, .int 4, .int 6, .int 8, .int 7], .int 3), (.lst [.int 2, .int 1, .int 3, .int 5, .int 4, .int 6, .int 8, .int 7, .int 9, .int 11, .int 10], .int 4), (.lst [.int 5, .int 1, .int 3, .int 2, .int 4, .int 6, .int 8, .int 7, .int 9, .int 11, .int 10], .int 3), (.lst [.int 3, .int (-2), .int 1], .int 0), (.lst [], .int 0), (.lst [.int 4, .int 1, .int 2, .int 3], .int 1), (.lst [.int 8, .int 1, .int 3, .int 2, .int 4, .int 6, .int 5, .int 7], .int 3), (.lst [.int 8, .int 1, .int 3, .int 2, .int 4, .int 6, .int 5, .int 7, .int 9, .int 14, .int 10, .int 12, .int 11, .int 13], .int 3), (.lst [.int 6, .int 1, .int 3, .int 2, .int 4, .int 5, .int 7, .int 13, .int 8, .int 10, .int 9, .int 11, .int 12, .int 14, .int 20, .int 15, .int 17, .int 16, .int 18, .int 19], .int 4)]
theorem rowsK_ok : ∀ p ∈ rowsK, ∀ (k : Nat) (m : Mo), Lim (k + 1) m → ∃ m', F__law_costs_right [.drw, p.1, p.2] m = .ok (.bl true) m' ∧ Lim k m' := by
  intro p hp k m h
  simp only [rowsK, List.mem_cons, List.not_mem_nil, or_false] at hp
  rcases hp with rfl | rfl | rfl | rfl | rfl | rfl | rfl | rfl | rfl | rfl | rfl | rfl | rfl | rfl | rfl
  · exact cr_0 h
  · exact cr_1 h
  · exact cr_2 h
  · exact cr_3 h
  · exact cr_4 h
  · exact cr_5 h
  · exact cr_6 h
  · exact cr_7 h
  · exact cr_8 h
  · exact cr_9 h
  · exact cr_10 h
  · exact cr_11 h
  · exact cr_12 h
  · exact cr_13 h
  · exact cr_14 h
theorem law_true : ∀ r : MS, r.spot = 0 → r.cs = [] → ∃ m', den_law (none :: some (.v .drw) :: List.replicate 9 none) (some r) = .rt (.bl true) m' := by
  intro r hr hc
  have hL : Lim (0 + rowsK.length) (some r) := ⟨r, rfl, by rw [hr]; decide, hc⟩
  obtain ⟨m', e, _⟩ := walk_rows (x2 := some (.v (.lst [.int 2, .int 1]))) (x3 := some (.v (.lst [.int 5, .int 1, .int 3, .int 2, .int 4]))) (x4 := some (.v (.lst [.tup [.lst [.int 2, .int 1], .int 1], .tup [.lst [.int 5, .int 1, .int 3, .int 2, .int 4], .int 2], .tup [.lst [.int 2, .int 1, .int 3, .int 5, .int 4], .int 2], .tup [.lst [.int 5, .int 1, .int 3, .int 2, .int 4, .int 6, .int 8, .int 7], .int 2], .tup [.lst [.int 5, .int 1, .int 3, .int 2, .int 4, .int 6, .int 11, .int 7, .int 9, .int 8, .int 10, .int 12, .int 17, .int 13, .int 15, .int 14, .int 16], .int 4], .tup [.lst [.int 5, .int 1, .int 3, .int 2, .int 4, .int 6, .int 11, .int 7, .int 9, .int 8, .int 10, .int 12, .int 14, .int 13], .int 3], .tup [.lst [.int 2, .int 1, .int 3, .int 5, .int 4, .int 6, .int 8, .int 7], .int 3], .tup [.lst [.int 2, .int 1, .int 3, .int 5, .int 4, .int 6, .int 8, .int 7, .int 9, .int 11, .int 10], .int 4], .tup [.lst [.int 5, .int 1, .int 3, .int 2, .int 4, .int 6, .int 8, .int 7, .int 9, .int 11, .int 10], .int 3], .tup [.lst [.int 3, .int (-2), .int 1], .int 0], .tup [.lst [], .int 0], .tup [.lst [.int 4, .int 1, .int 2, .int 3], .int 1], .tup [.lst [.int 8, .int 1, .int 3, .int 2, .int 4, .int 6, .int 5, .int 7], .int 3], .tup [.lst [.int 8, .int 1, .int 3, .int 2, .int 4, .int 6, .int 5, .int 7, .int 9, .int 14, .int 10, .int 12, .int 11, .int 13], .int 3], .tup [.lst [.int 6, .int 1, .int 3, .int 2, .int 4, .int 5, .int 7, .int 13, .int 8, .int 10, .int 9, .int 11, .int 12, .int 14, .int 20, .int 15, .int 17, .int 16, .int 18, .int 19], .int 4]]))) (x5 := some (.v (.lst [.int 6, .int 1, .int 3, .int 2, .int 4, .int 5, .int 7, .int 13, .int 8, .int 10, .int 9, .int 11, .int 12, .int 14, .int 20, .int 15, .int 17, .int 16, .int 18, .int 19]))) (x6 := some (.v (.lst [.int 2, .int 1, .int 3, .int 5, .int 4, .int 6, .int 8, .int 7, .int 9, .int 11, .int 10]))) (x7 := some (.v (.lst [.int 6, .int 1, .int 3, .int 2, .int 4, .int 5]))) rowsK 0 (some r) none none rowsK_ok hL
  refine ⟨m', ?_⟩
  unfold den_law
  show sSeq _ _ [none, some (.v .drw), none, none, none, none, none, none, none, none, none] (some r) = _
  rw [seq_step (lawS0 _), seq_step (lawS1 _), seq_step (lawS2 _), seq_step (lawS3 _), seq_step (lawS4 _), seq_step (lawS5 _), seq_step (lawS6 _), seq_step (lawS7 _), seq_step (lawS8 _), seq_step (lawS9 _), ev_frz]
  have hz : frzR 4 [none, some (.v .drw), some (.v (.lst [.int 2, .int 1])), some (.v (.lst [.int 5, .int 1, .int 3, .int 2, .int 4])), some (.ml [.tup [.lst [.int 2, .int 1], .int 1], .tup [.lst [.int 5, .int 1, .int 3, .int 2, .int 4], .int 2], .tup [.lst [.int 2, .int 1, .int 3, .int 5, .int 4], .int 2], .tup [.lst [.int 5, .int 1, .int 3, .int 2, .int 4, .int 6, .int 8, .int 7], .int 2], .tup [.lst [.int 5, .int 1, .int 3, .int 2, .int 4, .int 6, .int 11, .int 7, .int 9, .int 8, .int 10, .int 12, .int 17, .int 13, .int 15, .int 14, .int 16], .int 4], .tup [.lst [.int 5, .int 1, .int 3, .int 2, .int 4, .int 6, .int 11, .int 7, .int 9, .int 8, .int 10, .int 12, .int 14, .int 13], .int 3], .tup [.lst [.int 2, .int 1, .int 3, .int 5, .int 4, .int 6, .int 8, .int 7], .int 3], .tup [.lst [.int 2, .int 1, .int 3, .int 5, .int 4, .int 6, .int 8, .int 7, .int 9, .int 11, .int 10], .int 4], .tup [.lst [.int 5, .int 1, .int 3, .int 2, .int 4, .int 6, .int 8, .int 7, .int 9, .int 11, .int 10], .int 3], .tup [.lst [.int 3, .int (-2), .int 1], .int 0], .tup [.lst [], .int 0], .tup [.lst [.int 4, .int 1, .int 2, .int 3], .int 1], .tup [.lst [.int 8, .int 1, .int 3, .int 2, .int 4, .int 6, .int 5, .int 7], .int 3], .tup [.lst [.int 8, .int 1, .int 3, .int 2, .int 4, .int 6, .int 5, .int 7, .int 9, .int 14, .int 10, .int 12, .int 11, .int 13], .int 3], .tup [.lst [.int 6, .int 1, .int 3, .int 2, .int 4, .int 5, .int 7, .int 13, .int 8, .int 10, .int 9, .int 11, .int 12, .int 14, .int 20, .int 15, .int 17, .int 16, .int 18, .int 19], .int 4]]), some (.v (.lst [.int 6, .int 1, .int 3, .int 2, .int 4, .int 5, .int 7, .int 13, .int 8, .int 10, .int 9, .int 11, .int 12, .int 14, .int 20, .int 15, .int 17, .int 16, .int 18, .int 19])), some (.v (.lst [.int 2, .int 1, .int 3, .int 5, .int 4, .int 6, .int 8, .int 7, .int 9, .int 11, .int 10])), some (.v (.lst [.int 6, .int 1, .int 3, .int 2, .int 4, .int 5])), none, none, none] = [none, some (.v .drw), some (.v (.lst [.int 2, .int 1])), some (.v (.lst [.int 5, .int 1, .int 3, .int 2, .int 4])), some (.v (.lst [.tup [.lst [.int 2, .int 1], .int 1], .tup [.lst [.int 5, .int 1, .int 3, .int 2, .int 4], .int 2], .tup [.lst [.int 2, .int 1, .int 3, .int 5, .int 4], .int 2], .tup [.lst [.int 5, .int 1, .int 3, .int 2, .int 4, .int 6, .int 8, .int 7], .int 2], .tup [.lst [.int 5, .int 1, .int 3, .int 2, .int 4, .int 6, .int 11, .int 7, .int 9, .int 8, .int 10, .int 12, .int 17, .int 13, .int 15, .int 14, .int 16], .int 4], .tup [.lst [.int 5, .int 1, .int 3, .int 2, .int 4, .int 6, .int 11, .int 7, .int 9, .int 8, .int 10, .int 12, .int 14, .int 13], .int 3], .tup [.lst [.int 2, .int 1, .int 3, .int 5, .int 4, .int 6, .int 8, .int 7], .int 3], .tup [.lst [.int 2, .int 1, .int 3, .int 5, .int 4, .int 6, .int 8, .int 7, .int 9, .int 11, .int 10], .int 4], .tup [.lst [.int 5, .int 1, .int 3, .int 2, .int 4, .int 6, .int 8, .int 7, .int 9, .int 11, .int 10], .int 3], .tup [.lst [.int 3, .int (-2), .int 1], .int 0], .tup [.lst [], .int 0], .tup [.lst [.int 4, .int 1, .int 2, .int 3], .int 1], .tup [.lst [.int 8, .int 1, .int 3, .int 2, .int 4, .int 6, .int 5, .int 7], .int 3], .tup [.lst [.int 8, .int 1, .int 3, .int 2, .int 4, .int 6, .int 5, .int 7, .int 9, .int 14, .int 10, .int 12, .int 11, .int 13], .int 3], .tup [.lst [.int 6, .int 1, .int 3, .int 2, .int 4, .int 5, .int 7, .int 13, .int 8, .int 10, .int 9, .int 11, .int 12, .int 14, .int 20, .int 15, .int 17, .int 16, .int 18, .int 19], .int 4]])), some (.v (.lst [.int 6, .int 1, .int 3, .int 2, .int 4, .int 5, .int 7, .int 13, .int 8, .int 10, .int 9, .int 11, .int 12, .int 14, .int 20, .int 15, .int 17, .int 16, .int 18, .int 19])), some (.v (.lst [.int 2, .int 1, .int 3, .int 5, .int 4, .int 6, .int 8, .int 7, .int 9, .int 11, .int 10])), some (.v (.lst [.int 6, .int 1, .int 3, .int 2, .int 4, .int 5])), none, none, none] := rfl
  rw [hz, ev_seq]
  have hf : (sFor (dSeqU (dVar 4)) (hTup 2 (hCons (hName 8) (hCons (hName 9) hNil))) den_law_b1) ([none, some (.v .drw), some (.v (.lst [.int 2, .int 1])), some (.v (.lst [.int 5, .int 1, .int 3, .int 2, .int 4])), some (.v (.lst [.tup [.lst [.int 2, .int 1], .int 1], .tup [.lst [.int 5, .int 1, .int 3, .int 2, .int 4], .int 2], .tup [.lst [.int 2, .int 1, .int 3, .int 5, .int 4], .int 2], .tup [.lst [.int 5, .int 1, .int 3, .int 2, .int 4, .int 6, .int 8, .int 7], .int 2], .tup [.lst [.int 5, .int 1, .int 3, .int 2, .int 4, .int 6, .int 11, .int 7, .int 9, .int 8, .int 10, .int 12, .int 17, .int 13, .int 15, .int 14, .int 16], .int 4], .tup [.lst [.int 5, .int 1, .int 3, .int 2, .int 4, .int 6, .int 11, .int 7, .int 9, .int 8, .int 10, .int 12, .int 14, .int 13], .int 3], .tup [.lst [.int 2, .int 1, .int 3, .int 5, .int 4, .int 6, .int 8, .int 7], .int 3], .tup [.lst [.int 2, .int 1, .int 3, .int 5, .int 4, .int 6, .int 8, .int 7, .int 9, .int 11, .int 10], .int 4], .tup [.lst [.int 5, .int 1, .int 3, .int 2, .int 4, .int 6, .int 8, .int 7, .int 9, .int 11, .int 10], .int 3], .tup [.lst [.int 3, .int (-2), .int 1], .int 0], .tup [.lst [], .int 0], .tup [.lst [.int 4, .int 1, .int 2, .int 3], .int 1], .tup [.lst [.int 8, .int 1, .int 3, .int 2, .int 4, .int 6, .int 5, .int 7], .int 3], .tup [.lst [.int 8, .int 1, .int 3, .int 2, .int 4, .int 6, .int 5, .int 7, .int 9, .int 14, .int 10, .int 12, .int 11, .int 13], .int 3], .tup [.lst [.int 6, .int 1, .int 3, .int 2, .int 4, .int 5, .int 7, .int 13, .int 8, .int 10, .int 9, .int 11, .int 12, .int 14, .int 20, .int 15, .int 17, .int 16, .int 18, .int 19], .int 4]])), some (.v (.lst [.int 6, .int 1, .int 3, .int 2, .int 4, .int 5, .int 7, .int 13, .int 8, .int 10, .int 9, .int 11, .int 12, .int 14, .int 20, .int 15, .int 17, .int 16, .int 18, .int 19])), some (.v (.lst [.int 2, .int 1, .int 3, .int 5, .int 4, .int 6, .int 8, .int 7, .int 9, .int 11, .int 10])), some (.v (.lst [.int 6, .int 1, .int 3, .int 2, .int 4, .int 5])), none, none, none]) (some r) = forD (hTup 2 (hCons (hName 8) (hCons (hName 9) hNil))) den_law_b1 (rowsK.map fun p => .tup [p.1, p.2]) ([none, some (.v .drw), some (.v (.lst [.int 2, .int 1])), some (.v (.lst [.int 5, .int 1, .int 3, .int 2, .int 4])), some (.v (.lst [.tup [.lst [.int 2, .int 1], .int 1], .tup [.lst [.int 5, .int 1, .int 3, .int 2, .int 4], .int 2], .tup [.lst [.int 2, .int 1, .int 3, .int 5, .int 4], .int 2], .tup [.lst [.int 5, .int 1, .int 3, .int 2, .int 4, .int 6, .int 8, .int 7], .int 2], .tup [.lst [.int 5, .int 1, .int 3, .int 2, .int 4, .int 6, .int 11, .int 7, .int 9, .int 8, .int 10, .int 12, .int 17, .int 13, .int 15, .int 14, .int 16], .int 4], .tup [.lst [.int 5, .int 1, .int 3, .int 2, .int 4, .int 6, .int 11, .int 7, .int 9, .int 8, .int 10, .int 12, .int 14, .int 13], .int 3], .tup [.lst [.int 2, .int 1, .int 3, .int 5, .int 4, .int 6, .int 8, .int 7], .int 3], .tup [.lst [.int 2, .int 1, .int 3, .int 5, .int 4, .int 6, .int 8, .int 7, .int 9, .int 11, .int 10], .int 4], .tup [.lst [.int 5, .int 1, .int 3, .int 2, .int 4, .int 6, .int 8, .int 7, .int 9, .int 11, .int 10], .int 3], .tup [.lst [.int 3, .int (-2), .int 1], .int 0], .tup [.lst [], .int 0], .tup [.lst [.int 4, .int 1, .int 2, .int 3], .int 1], .tup [.lst [.int 8, .int 1, .int 3, .int 2, .int 4, .int 6, .int 5, .int 7], .int 3], .tup [.lst [.int 8, .int 1, .int 3, .int 2, .int 4, .int 6, .int 5, .int 7, .int 9, .int 14, .int 10, .int 12, .int 11, .int 13], .int 3], .tup [.lst [.int 6, .int 1, .int 3, .int 2, .int 4, .int 5, .int 7, .int 13, .int 8, .int 10, .int 9, .int 11, .int 12, .int 14, .int 20, .int 15, .int 17, .int 16, .int 18, .int 19], .int 4]])), some (.v (.lst [.int 6, .int 1, .int 3, .int 2, .int 4, .int 5, .int 7, .int 13, .int 8, .int 10, .int 9, .int 11, .int 12, .int 14, .int 20, .int 15, .int 17, .int 16, .int 18, .int 19])), some (.v (.lst [.int 2, .int 1, .int 3, .int 5, .int 4, .int 6, .int 8, .int 7, .int 9, .int 11, .int 10])), some (.v (.lst [.int 6, .int 1, .int 3, .int 2, .int 4, .int 5])), none, none, none]) (some r) := by
    rw [ev_for, ev_seqU]
    rfl
  rw [hf, e]
  show lawR [none, some (.v .drw), some (.v (.lst [.int 2, .int 1])), some (.v (.lst [.int 5, .int 1, .int 3, .int 2, .int 4])), some (.v (.lst [.tup [.lst [.int 2, .int 1], .int 1], .tup [.lst [.int 5, .int 1, .int 3, .int 2, .int 4], .int 2], .tup [.lst [.int 2, .int 1, .int 3, .int 5, .int 4], .int 2], .tup [.lst [.int 5, .int 1, .int 3, .int 2, .int 4, .int 6, .int 8, .int 7], .int 2], .tup [.lst [.int 5, .int 1, .int 3, .int 2, .int 4, .int 6, .int 11, .int 7, .int 9, .int 8, .int 10, .int 12, .int 17, .int 13, .int 15, .int 14, .int 16], .int 4], .tup [.lst [.int 5, .int 1, .int 3, .int 2, .int 4, .int 6, .int 11, .int 7, .int 9, .int 8, .int 10, .int 12, .int 14, .int 13], .int 3], .tup [.lst [.int 2, .int 1, .int 3, .int 5, .int 4, .int 6, .int 8, .int 7], .int 3], .tup [.lst [.int 2, .int 1, .int 3, .int 5, .int 4, .int 6, .int 8, .int 7, .int 9, .int 11, .int 10], .int 4], .tup [.lst [.int 5, .int 1, .int 3, .int 2, .int 4, .int 6, .int 8, .int 7, .int 9, .int 11, .int 10], .int 3], .tup [.lst [.int 3, .int (-2), .int 1], .int 0], .tup [.lst [], .int 0], .tup [.lst [.int 4, .int 1, .int 2, .int 3], .int 1], .tup [.lst [.int 8, .int 1, .int 3, .int 2, .int 4, .int 6, .int 5, .int 7], .int 3], .tup [.lst [.int 8, .int 1, .int 3, .int 2, .int 4, .int 6, .int 5, .int 7, .int 9, .int 14, .int 10, .int 12, .int 11, .int 13], .int 3], .tup [.lst [.int 6, .int 1, .int 3, .int 2, .int 4, .int 5, .int 7, .int 13, .int 8, .int 10, .int 9, .int 11, .int 12, .int 14, .int 20, .int 15, .int 17, .int 16, .int 18, .int 19], .int 4]])), some (.v (.lst [.int 6, .int 1, .int 3, .int 2, .int 4, .int 5, .int 7, .int 13, .int 8, .int 10, .int 9, .int 11, .int 12, .int 14, .int 20, .int 15, .int 17, .int 16, .int 18, .int 19])), some (.v (.lst [.int 2, .int 1, .int 3, .int 5, .int 4, .int 6, .int 8, .int 7, .int 9, .int 11, .int 10])), some (.v (.lst [.int 6, .int 1, .int 3, .int 2, .int 4, .int 5])), some (.v (.lst [.int 6, .int 1, .int 3, .int 2, .int 4, .int 5, .int 7, .int 13, .int 8, .int 10, .int 9, .int 11, .int 12, .int 14, .int 20, .int 15, .int 17, .int 16, .int 18, .int 19])), some (.v (.int 4)), none] m' = _
  exact lawT m'
set_option maxHeartbeats 0
def loose0 : List Str := ["_wall", "FaceError", "BadRow", "BadPlace", "TooGreat", "MOST_WAGGONS", "is_whole", "is_among", "is_list", "need_waggons", "Row", "ends_of", "joints", "wished", "rings", "many_rings", "closed_in", "parts_in", "homes_in", "facing", "unfaced_in", "chains_in", "parts", "unfaced", "chains", "holder", "tree_in", "pruned", "is_short", "cost"]
def loose1 : List Str := ["to_go", "_law_mixed", "_law_folded", "_law_draw", "_law_begun", "_law_like", "_law_right_at", "_law_framed", "_law_rings", "_law_is_closed", "_law_parts", "_law_home", "_law_is_unfaced", "_law_unfaced", "_law_links", "_law_reached", "_law_is_leaf", "_law_is_long", "_law_cost", "_law_higher", "_law_costs_right"]
def loose : List Str := loose0 ++ loose1
abbrev R : PySem.W.OpenRow := PySem.W.OpenLaw.row PySem.Challenge.rw_faceabout_k20_branches_by_hand
abbrev hk : PySem.W.Hook := hookY R.prog 6 fa fn [] tf ex xs
def ob (s : PySem.W.SharedT) : AlY := obsY R.prog 6 fa fn [] tf ex xs (HandSHeadRun.getT s)
theorem ob_eq (s : PySem.W.SharedT) : ob s = hk.obs s.abs := obsY_eq (HandSHeadRun.getT_eq s)
theorem run (w : World) : HandSHeadRun.RunEq R (PySem.W.view R.prog [57]) hk ob 6000 loose w := by
  intro os
  kernel_rfl
end Law
open PySem PySem.W PySem.Calls PyProof.Rows
theorem PySem.Challenge.cw_faceabout_k20_branches_by_hand_holds : PySem.Challenge.rw_faceabout_k20_branches_by_hand.Holds := by
  w_on; o_law
  refine HandSHeadRun.head_any (r := OpenLaw.row PySem.Challenge.rw_faceabout_k20_branches_by_hand) (q := view (OpenLaw.row PySem.Challenge.rw_faceabout_k20_branches_by_hand).prog [57]) (H := Law.hk) (ob := Law.ob) (M := 6000) (loose := Law.loose) (d := HandSHeadRun.topDef (OpenLaw.row PySem.Challenge.rw_faceabout_k20_branches_by_hand).prog 57) (kwd := []) Law.ob_eq
    (by kernel_rfl) (fun s => by kernel_rfl) Law.run (by kernel_rfl) (by kernel_rfl) (by kernel_rfl) (by rfl) (by first | assumption | decide +kernel) (by decide +kernel) ⟨rfl, rfl, rfl, rfl, rfl, by decide +kernel⟩ ?hw ?hc
  case hw => w_witness2
  case hc =>
    refine Dn.walk_A (l := PySem.Challenge.rw_faceabout_k20_branches_by_hand) (n := 63) (k := 7) rfl (by decide) (by kernel_rfl) (Dn.callerA_room (by decide) (by decide)) ?F
    intro w mg fa h Y G hmg0
    obtain ⟨K, KX, c⟩ := Y
    have hmg : mg ("law" : PySem.Str) = some (.ref fa) := by
      have e : (HandSHeadRun.topDef (OpenLaw.row PySem.Challenge.rw_faceabout_k20_branches_by_hand).prog 57).name = ("law" : PySem.Str) := by kernel_rfl
      rw [← e]
      exact hmg0
    have e := hmg.symm.trans (He.glo_ok KX G (c.x.t.d.fact 50 (f := .glo "law") rfl))
    cases e
    exact ⟨K, Dn.spLaw (Law.GG w K), Law.tf.map (He.cT K), KX, Dn.tabsAt_of KX c.x.hd c.x.out c.x.empty, fun H a ns hl hO hT hS => ⟨ns, .ref a, rfl, Dn.scr_rep hO hS, hl, Dn.tabs_nil hT (by intro t ht; simp only [Law.GG, List.mem_cons, List.not_mem_nil, or_false] at ht), fun _ => rfl⟩,
      fun base _ _ hB => Law.fn_law (⟨c.x.t.d, c.x.more, ⟨h, KX, G⟩, c.own, by decide +kernel, c.x.hd, fun p hp => hB _ (List.mem_map.mpr ⟨p, hp, rfl⟩)⟩ : Law.CC _ K mg base) Law.law_true⟩
