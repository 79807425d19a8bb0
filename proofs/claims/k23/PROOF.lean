import PyProof.Rows.All
import Wide.All
import OpenK.AllK
import Wide.FinOn
import HandS.TupAny
import HandS.TupMul
import HandS.List
import HandS.Dict
import HandS.TupSets
import HandS.ForMost
import HandS.ForExc
import HandS.IsInst
import HandS.RaiseMore
import HandS.Conv
import HandS.ExcIs
import HandS.ExcField
import HandS.ExcInit
import HandS.ExcCtx
import HandS.HotCalls
import KE.KExcSuper
import KE.KExcMake
import KE.KExcIs
import HandS.Nested
import HandS.Deep
import HandS.Wide
import PyProof.P3In
import OpenK.KMore
import HandS.TupLe
import HandS.SetFor
import HandS.Strs
import HandS.SortInts
import HandS.SortOrd
import HandS.SortRule
import HandS.Style
import HandS.NoneIn
import HandS.Flow
import HandS.Text
import HandS.Iter
import HandS.Zip
import KE.GoesEnum
import KE.GoesZip
import KE.GoesMore
import HandS.HeadWalk
import PySem.Challenge.RW_editlots_k23_kinds_and_amounts
namespace HdTop
open PySem PySem.W PyProof.Rows
set_option Elab.async false
set_option maxRecDepth 100000
set_option maxHeartbeats 0
open_top hd for PySem.Challenge.rw_editlots_k23_kinds_and_amounts
end HdTop
set_option Elab.async false
set_option linter.all false
set_option maxRecDepth 100000
/-! ### plain tuples: those of which it is known that they are as they were made -/
namespace DL
open PySem PySem.Spec PyProof.Rows L2
/-- the object of a plain tuple -/
def TuO (o : Obj) : Prop := o.cls = .type "tuple" ∧ o.dict = none
/-- at a stands a plain tuple of vs -/
def SqP (H : Hp) (a : Addr) (vs : List V) : Prop := ∃ o : Obj, H a = some (.frz o (.tup vs)) ∧ TuO o
theorem SqP.sq {K : PySem.W.Frag} {H : Hp} {a : Addr} {vs : List V} (h : SqP H a vs) : SqT K H a vs := by
  obtain ⟨o, h, _⟩ := h
  exact .inl (.inr ⟨o, h⟩)
/-- what is wanted of a new plain tuple -/
def NewT (H : Hp) (vs : List V) (Q : VK) : Prop := ∀ (p : Addr) (o : Obj), H p = none → TuO o → Q (.ref p) (upd H p (.frz o (.tup vs)))
theorem sqp_new {H : Hp} {p : Addr} {o : Obj} {vs : List V} (h : TuO o) : SqP (upd H p (.frz o (.tup vs))) p vs := ⟨o, upd_same, h⟩
theorem tuo_new (items : Array Value) : TuO { cls := .type "tuple", data := .seq items } := ⟨rfl, rfl⟩
section
variable {X : Cx} {pins : List (Addr × Obj)} {σ : L2.St} {H : Hp} {s : Shared}
theorem newT_laid {vs : List V} {us : List Value} {Q : VK} (I : Inv X pins σ H s) (r : Vals vs us) (z : vs.length ≤ sizeLine) (q : NewT H vs Q) :
    EP X pins σ Q (.ref s.heap.objs.size) { s with heap := s.heap.push { cls := .type "tuple", data := .seq us.toArray } } := by
  have hg : (s.heap.push { cls := .type "tuple", data := .seq us.toArray }).get? s.heap.objs.size = some { cls := .type "tuple", data := .seq us.toArray } := Heap.get?_push_size _ rfl
  refine ⟨.ref s.heap.objs.size, _, I.laid (t' := s.toks) (o := .frz _ (.tup vs)) (fun b u e => Heap.get?_push_of_some _ e) (Nat.le_refl _) ?_, rfl, q _ _ (I.hok.fresh (Nat.le_refl _)) (tuo_new us.toArray)⟩
  exact ⟨hg, z, us, r, ⟨_, hg, rfl, _, rfl⟩⟩
/-- a display -/
def tTupP (t : TA) : TE := fun σ H Q => t σ H fun xs H1 => xs.length ≤ sizeLine ∧ NewT H1 xs Q
theorem pe_tupP {es : List Expr} {t : TA} {pos : Pos} {x1} (h : PA X es t) : PE X (.Tuple es x1 pos) (tTupP t) := by
  refine ⟨fun pins s σ H Q I hq => ?_⟩
  refine wpAny_Tuple_spliced (thn (h.run pos pins s σ H _ I hq) fun us s1 ⟨xs, H1, I1, r, z, q⟩ => ⟨by rw [← r.length]; exact z, ?_⟩)
  exact newT_laid I1 r z q
/-- t + u -/
def rCatP (K : PySem.W.Frag) : R2 := fun x y H Q => ∃ a b xs ys, x = .ref a ∧ y = .ref b ∧ SqT K H a xs ∧ SqT K H b ys ∧ xs.length + ys.length ≤ sizeLine ∧
  (xs = [] → Q (.ref b) H) ∧ (xs ≠ [] → ys = [] → Q (.ref a) H) ∧ (xs ≠ [] → ys ≠ [] → NewT H (xs ++ ys) Q)
theorem op_catP : OpR X (binaryOp .Add) (rCatP X.K) := by
  intro pins s σ H x y v u Q I rx ry h
  obtain ⟨a, b, xs, ys, rfl, rfl, ha, hb, hz, q0, q1, q2⟩ := h
  cases rx
  cases ry
  obtain ⟨its, r1, p1, _⟩ := I.tuple ha
  obtain ⟨its2, r2, p2, _⟩ := I.tuple hb
  by_cases hx : xs = []
  · subst hx
    cases r1
    exact cat_tup0 p1 p2 ⟨.ref b, H, I, rfl, q0 rfl⟩
  · refine HT.cat_tup p1 p2 (fun z => hx (r1.nil_iff.mp z)) (fun z => ⟨.ref a, H, I, rfl, q1 hx (r2.nil_iff.mp z)⟩) (fun z => ?_) (by rw [← r1.length, ← r2.length]; exact hz)
    exact newT_laid I (r1.append r2) (by rw [List.length_append]; exact hz) (q2 hx fun w => z (r2.nil_iff.mpr w))
/-- t[lo:hi] -/
def rSlP (K : PySem.W.Frag) : V → Option Int → Option Int → Hp → VK → Prop := fun x lo hi H Q => ∃ a xs, x = .ref a ∧ SqT K H a xs ∧
  (HT.sIx xs.length 0 lo = 0 ∧ HT.sIx xs.length xs.length hi = xs.length → Q (.ref a) H) ∧ (¬ (HT.sIx xs.length 0 lo = 0 ∧ HT.sIx xs.length xs.length hi = xs.length) → NewT H (cutV xs lo hi) Q)
theorem sl_tupP : SlR X (rSlP X.K) := by
  intro pins s σ H x v vl vu lo hi sl Q I rx hs pl pu h
  obtain ⟨a, xs, rfl, hx, q1, q2⟩ := h
  cases rx
  obtain ⟨its, r, ht, hz⟩ := I.tuple hx
  have hlen : its.toArray.size = xs.length := by rw [List.size_toArray]; exact r.length.symm
  refine ⟨"tuple", _, PyProof.Rows.slot_tuple_getitem.lookup, ht.typeIs, ?_⟩
  by_cases hw : HT.sIx xs.length 0 lo = 0 ∧ HT.sIx xs.length xs.length hi = xs.length
  · exact getItem_tuple_whole ht hs pl pu (by rw [hlen]; exact hw) ⟨.ref a, H, I, rfl, q1 hw⟩
  · refine HT.getItem_tuple_cut ht hs pl pu (by rw [hlen]; exact hw) ?_ (by rw [hlen]; exact hz)
    rw [hlen]
    exact newT_laid I ((r.drop (HT.sIx xs.length 0 lo)).take (HT.sIx xs.length xs.length hi - HT.sIx xs.length 0 lo)) (Nat.le_trans (cutV_length xs lo hi) hz) (q2 hw)
/-- tuple(l), tuple(t) -/
def rTupP (K : PySem.W.Frag) : List V → Hp → VK → Prop := fun xs H Q => ∃ p ys, xs = [.ref p] ∧ ((SqL K H p ys ∧ NewT H ys Q) ∨ (SqT K H p ys ∧ Q (.ref p) H))
theorem cr_tupP : CallR X (.type "tuple") (rTupP X.K) := by
  intro pins s σ H xs us Q I r h
  obtain ⟨p, ys, rfl, h⟩ := h
  obtain ⟨u, rfl, rx⟩ := vals1 r
  cases rx
  rcases h with ⟨hq, q⟩ | ⟨hq, q⟩
  · obtain ⟨its, r', pl, hz⟩ := I.list hq
    have hlen := r'.length
    refine call_tuple_list pl.isList (fun h' kp => ?_) (by simp only [List.size_toArray] <;> omega)
    have I1 : Inv X pins σ H { s with heap := h' } := I.kept (t' := s.toks) kp
    exact newT_laid (s := { s with heap := h' }) I1 r' hz q
  · obtain ⟨its, r', pl, hz⟩ := I.tuple hq
    exact call_tuple_same pl ⟨.ref p, H, I, rfl, q⟩
end
end DL
namespace DL
open PySem PySem.Spec PyProof.Rows L2
/-! ### a dict whose keys are tuples of ints: the keys, where they stand, what they hold -/
def thI (ks : List Int) : Int := reduceHash (Builtin.Tuple.tupleHashOf (ks.map hashInt))
def entI (x : List Int × Addr × Value) : DictEntry := ⟨thI x.1, .ref x.2.1, x.2.2⟩
def rawI (h : Heap) (a : Addr) (us : List (List Int × Addr × Value)) : Prop := ∃ o es ep, h.get? a = some o ∧ o.ExactDict ∧ o.data = .dict es ep ∧ es.toList = us.map entI ∧ (us.map (·.1)).Nodup
def RelT (p : List Int × Addr × V) (q : List Int × Addr × Value) : Prop := p.1 = q.1 ∧ p.2.1 = q.2.1 ∧ RelV p.2.2 q.2.2
def DicTO (a : Addr) (ws : List (List Int × Addr × V)) : HO := .ext fun h => (a == sysModules) = false ∧ ws.length ≤ sizeLine ∧ ∃ us, Paired RelT ws us ∧ rawI h a us
/-- the first that has that key -/
def getT {α : Type} (ws : List (List Int × Addr × α)) (k : List Int) : Option α := (ws.find? fun x => decide (x.1 = k)).map (·.2.2)
def putT {α : Type} (ws : List (List Int × Addr × α)) (k : List Int) (b : Addr) (v : α) : List (List Int × Addr × α) :=
  if (getT ws k).isSome then ws.map fun x => if x.1 = k then (x.1, x.2.1, v) else x else ws ++ [(k, b, v)]
section
variable {X : Cx} {pins : List (Addr × Obj)} {σ : L2.St} {H : Hp} {s : Shared}
/-- the keys stand as plain tuples -/
def KeysT (H : Hp) {α : Type} (ws : List (List Int × Addr × α)) : Prop := ∀ x ∈ ws, SqP H x.2.1 (x.1.map V.int)
/-- {} -/
def tDNewI : TE := fun _ H Q => ∀ p, H p = none → Q (.ref p) (upd H p (DicTO p []))
/-- d[k], there -/
def rDGetI : R2 := fun x y H Q => ∃ a b ws k v, x = .ref a ∧ y = .ref b ∧ H a = some (DicTO a ws) ∧ KeysT H ws ∧ SqP H b (k.map V.int) ∧ getT ws k = some v ∧ Q v H
/-- k in d -/
def rDInI (f : Bool → Bool) : R2 := fun x y H Q => ∃ a b ws k, x = .ref b ∧ y = .ref a ∧ H a = some (DicTO a ws) ∧ KeysT H ws ∧ SqP H b (k.map V.int) ∧ Q (.bl (f (getT ws k).isSome)) H
/-- d[k] = v -/
def tSetDI : TSet := fun o i v H Q => ∃ a b ws k, o = .ref a ∧ i = .ref b ∧ H a = some (DicTO a ws) ∧ KeysT H ws ∧ SqP H b (k.map V.int) ∧ ws.length < sizeLine ∧ Q (upd H a (DicTO a (putT ws k b v)))
end
end DL

set_option Elab.async false
set_option linter.all false
set_option maxRecDepth 100000
/-! The data layer: what expressions and statements do, told over plain data (D) and a store of mutable things, above the hand layer. -/
namespace DL
open PySem PySem.Spec PyProof.Rows L2

/-- the base of the text's own errors -/
def refusedOf (K : PySem.W.Frag) : Addr := match PySem.W.nsIn K mainGlobals "Refused" with
  | some (some (.ref D)) => D
  | _ => 0
/-- a class at C that stands under the class at D, which alone has an __init__ -/
structure UnderRf (K : PySem.W.Frag) (D C : Addr) : Prop where
  ox : OexC K C
  sub : PySem.W.mroIn K C (.ref D) = some true
  su : PySem.W.ks_superIn K C D "__init__" = some (some (.builtin "ValueError.__init__"))
  ve : PySem.W.subIn K (.ref C) (.type "ValueError") = some true
  nw : PySem.W.findIn K (.ref C) "what" = some none
  xf : XfC K C
  ec : ExcC K C
  exm : PySem.W.exmOne K (.ref C) (.ref D) = some true

/-- plain data; exc: a caught error; pr: a pair that enumerate or zip made; lst: a list that nobody changes; frl: one that nobody can; ref n: the n-th mutable thing -/
inductive D where
  | non | bl (b : Bool) | int (i : Int) | str (x : Str) | tup (xs : List D) | lst (xs : List D) | frl (xs : List D) | ref (n : Nat) | rng (lo hi : Int) | ty (n : String) | exc (a dd C : Addr) (w : D) | pr (x y : D)
  deriving Inhabited

/-- the places: of the mutable things, and of the lists that are being made -/
structure Pl where
  l : List Addr
  b : List Addr
def Pl.no (j : Pl) (a : Addr) : Prop := a ∉ j.l ∧ a ∉ j.b

/-- a list that is read alone -/
def Frl (K : PySem.W.Frag) (j : Pl) (H : Hp) (a : Addr) (vs : List V) : Prop :=
  (H a = some (.lst vs) ∧ j.no a) ∨ (∃ o, H a = some (.frz o (.lst vs))) ∨
    ∃ (o : Obj) (its : Array Value) (n : Nat), K.lookup a = some o ∧ o.cls = .type "list" ∧ o.dict = none ∧ o.data = .seq its n ∧ its.size ≤ sizeLine ∧ Vals vs its.toList
theorem Frl.sql {K : PySem.W.Frag} {j : Pl} {H : Hp} {a : Addr} {vs : List V} (h : Frl K j H a vs) : SqL K H a vs := by
  rcases h with h | h | h
  · exact .inl (.inl h.1)
  · exact .inl (.inr h)
  · exact .inr h
theorem Frl.of {K : PySem.W.Frag} {H : Hp} {a : Addr} {vs : List V} (h : SqL K H a vs) : Frl K ⟨[], []⟩ H a vs := by
  rcases h with (h | h) | h
  · exact .inl ⟨h, by simp, by simp⟩
  · exact .inr (.inl h)
  · exact .inr (.inr h)

mutual
inductive RV (K : PySem.W.Frag) (j : Pl) (H : Hp) : D → V → Prop
  | non : RV K j H .non .non
  | bl (b : Bool) : RV K j H (.bl b) (.bl b)
  | int (i : Int) : RV K j H (.int i) (.int i)
  | str (x : Str) : RV K j H (.str x) (.str x)
  | tup {a : Addr} {vs : List V} {ds : List D} : SqP H a vs → RVs K j H ds vs → RV K j H (.tup ds) (.ref a)
  | pr {a : Addr} {v u : V} {x y : D} : SqT K H a [v, u] → RV K j H x v → RV K j H y u → RV K j H (.pr x y) (.ref a)
  | lst {a : Addr} {vs : List V} {ds : List D} : H a = some (.lst vs) → j.no a → RVs K j H ds vs → RV K j H (.lst ds) (.ref a)
  | frl {a : Addr} {vs : List V} {ds : List D} : Frl K j H a vs → RVs K j H ds vs → RV K j H (.frl ds) (.ref a)
  | ref {n : Nat} {a : Addr} : j.l[n]? = some a → RV K j H (.ref n) (.ref a)
  | ty (n : String) : RV K j H (.ty n) (.ty n)
  | rng {a : Addr} {lo hi : Int} : H a = some (.rng lo hi) → j.no a → RV K j H (.rng lo hi) (.ref a)
  | exc {a dd C : Addr} {w : D} {v : V} : H dd = some (.xd [(("what" : Str), v)]) → j.no dd → RV K j H w v → RV K j H (.exc a dd C w) (.ref a)
inductive RVs (K : PySem.W.Frag) (j : Pl) (H : Hp) : List D → List V → Prop
  | nil : RVs K j H [] []
  | cons {d : D} {v : V} {ds : List D} {vs : List V} : RV K j H d v → RVs K j H ds vs → RVs K j H (d :: ds) (v :: vs)
end

def Imm : HO → Prop
  | .tup _ => True
  | .frz _ _ => True
  | _ => False

/-- what is told of data goes on -/
structure Mon (j : Pl) (H : Hp) (j' : Pl) (H' : Hp) : Prop where
  pre : ∃ t, j'.l = j.l ++ t
  keep : ∀ b o, H b = some o → (j.no b ∨ Imm o) → (∀ ps, o ≠ .tbl ps) → H' b = some o
  out : ∀ b, j.no b → b ∈ j'.l → H b = none
  blk : ∀ b, b ∈ j'.b → b ∈ j.b ∨ H b = none
structure Ext (j : Pl) (H : Hp) (j' : Pl) (H' : Hp) : Prop extends Mon j H j' H' where
  same : j'.b = j.b
  outB : ∀ b, b ∉ j.l → b ∈ j'.l → H b = none
  keepB : ∀ b o, H b = some o → b ∉ j.l → (∀ ps, o ≠ .tbl ps) → H' b = some o
  there : ∀ b o, H b = some o → ∃ o', H' b = some o'

section
variable {K : PySem.W.Frag} {j j' j1 j2 : Pl} {H H' H1 H2 : Hp}

theorem Ext.mk' (pre : ∃ t, j'.l = j.l ++ t) (same : j'.b = j.b) (keep : ∀ b o, H b = some o → (b ∉ j.l ∨ Imm o) → (∀ ps, o ≠ .tbl ps) → H' b = some o) (out : ∀ b, b ∉ j.l → b ∈ j'.l → H b = none) (there : ∀ b o, H b = some o → ∃ o', H' b = some o') : Ext j H j' H' :=
  { pre := pre, same := same, out := fun b h => out b h.1, outB := out, there := there
    keep := fun b o h n z => keep b o h (n.imp (fun q => q.1) id) z
    keepB := fun b o h n z => keep b o h (.inl n) z
    blk := fun b h => .inl (same ▸ h) }
theorem Ext.keep' (e : Ext j H j' H') (b : Addr) (o : HO) (h : H b = some o) (n : b ∉ j.l ∨ Imm o) (z : ∀ ps, o ≠ .tbl ps) : H' b = some o := by
  rcases n with n | n
  · exact e.keepB b o h n z
  · exact e.keep b o h (.inr n) z
theorem Ext.refl (j : Pl) (H : Hp) : Ext j H j H := .mk' ⟨[], by simp⟩ rfl (fun _ _ h _ _ => h) (fun _ h h' => absurd h' h) fun _ o h => ⟨o, h⟩
theorem Ext.trans (a : Ext j H j1 H1) (b : Ext j1 H1 j2 H2) : Ext j H j2 H2 := by
  obtain ⟨t1, e1⟩ := a.pre
  obtain ⟨t2, e2⟩ := b.pre
  refine .mk' ⟨t1 ++ t2, by rw [e2, e1, List.append_assoc]⟩ (b.same.trans a.same) (fun c o h n z => ?_) (fun c h h' => ?_) (fun c o h => ?_)
  · refine b.keep' c o (a.keep' c o h n z) ?_ z
    rcases n with n | n
    · by_cases hm : c ∈ j1.l
      · have := a.outB c n hm
        rw [h] at this; cases this
      · exact .inl hm
    · exact .inr n
  · by_cases hm : c ∈ j1.l
    · exact a.outB c h hm
    · have q := b.outB c hm h'
      cases e : H c with
      | none => rfl
      | some o =>
        obtain ⟨o', e'⟩ := a.there c o e
        rw [e'] at q; cases q
  · obtain ⟨o1, h1⟩ := a.there c o h
    exact b.there c o1 h1
theorem Mon.get (e : Mon j H j' H') {n : Nat} {a : Addr} (h : j.l[n]? = some a) : j'.l[n]? = some a := by
  obtain ⟨t, e⟩ := e.pre
  rw [e, List.getElem?_append_left (List.getElem?_eq_some_iff.mp h).1]; exact h
theorem Mon.nin (e : Mon j H j' H') {a : Addr} {o : HO} (h : j.no a) (h' : H a = some o) : j'.no a := by
  refine ⟨fun z => ?_, fun z => ?_⟩
  · have := e.out a h z
    rw [h'] at this; cases this
  · rcases e.blk a z with q | q
    · exact h.2 q
    · rw [h'] at q; cases q
theorem Ext.free (e : Ext j H j' H') {a : Addr} (h : H' a = none) : H a = none := by
  cases q : H a with
  | none => rfl
  | some o =>
    obtain ⟨o', e'⟩ := e.there a o q
    rw [e'] at h; cases h
/-- a locked dict -/
def Lkd : HO → Prop
  | .frz _ (.dK _) => True
  | _ => False
/-- what plain data hangs on stays -/
structure Keeps (j : Pl) (H : Hp) (j' : Pl) (H' : Hp) : Prop where
  get : ∀ (n : Nat) (a : Addr), j.l[n]? = some a → j'.l[n]? = some a
  nin : ∀ (a : Addr) (o : HO), j.no a → H a = some o → j'.no a
  keep : ∀ b o, H b = some o → (j.no b ∨ (Imm o ∧ ¬ Lkd o)) → (∀ ps, o ≠ .tbl ps) → H' b = some o
theorem Mon.kp (e : Mon j H j' H') : Keeps j H j' H' := ⟨fun _ _ h => e.get h, fun _ _ h h' => e.nin h h', fun b o h n z => e.keep b o h (n.imp id (·.1)) z⟩
theorem Keeps.sqt (e : Keeps j H j' H') {a : Addr} {vs : List V} (h : SqT K H a vs) : SqT K H' a vs := by
  rcases h with (h | ⟨o, h⟩) | h
  · exact .inl (.inl (e.keep _ _ h (.inr ⟨trivial, fun z => z⟩) (fun _ z => nomatch z)))
  · exact .inl (.inr ⟨o, e.keep _ _ h (.inr ⟨trivial, fun z => z⟩) (fun _ z => nomatch z)⟩)
  · exact .inr h
theorem Keeps.sqp (e : Keeps j H j' H') {a : Addr} {vs : List V} (h : SqP H a vs) : SqP H' a vs := by
  obtain ⟨o, h, t⟩ := h
  exact ⟨o, e.keep _ _ h (.inr ⟨trivial, fun z => z⟩) (fun _ z => nomatch z), t⟩
theorem Keeps.keepL (e : Keeps j H j' H') {a : Addr} {vs : List V} (h : H a = some (.lst vs)) (n : j.no a) : H' a = some (.lst vs) ∧ j'.no a :=
  ⟨e.keep _ _ h (.inl n) (fun _ z => nomatch z), e.nin _ _ n h⟩
theorem Keeps.frl (e : Keeps j H j' H') {a : Addr} {vs : List V} (h : Frl K j H a vs) : Frl K j' H' a vs := by
  rcases h with ⟨h, n⟩ | ⟨o, h⟩ | h
  · exact .inl (e.keepL h n)
  · exact .inr (.inl ⟨o, e.keep _ _ h (.inr ⟨trivial, fun z => z⟩) (fun _ z => nomatch z)⟩)
  · exact .inr (.inr h)
theorem Mon.sqt (e : Mon j H j' H') {a : Addr} {vs : List V} (h : SqT K H a vs) : SqT K H' a vs := e.kp.sqt h
theorem Mon.sqp (e : Mon j H j' H') {a : Addr} {vs : List V} (h : SqP H a vs) : SqP H' a vs := e.kp.sqp h
theorem Mon.keepL (e : Mon j H j' H') {a : Addr} {vs : List V} (h : H a = some (.lst vs)) (n : j.no a) : H' a = some (.lst vs) ∧ j'.no a := e.kp.keepL h n
theorem Mon.frl (e : Mon j H j' H') {a : Addr} {vs : List V} (h : Frl K j H a vs) : Frl K j' H' a vs := e.kp.frl h
mutual
theorem RV.kp (e : Keeps j H j' H') {d : D} {v : V} : RV K j H d v → RV K j' H' d v
  | .non => .non
  | .bl b => .bl b
  | .int i => .int i
  | .str x => .str x
  | .ty n => .ty n
  | .rng h n => .rng (e.keep _ _ h (.inl n) (fun _ z => nomatch z)) (e.nin _ _ n h)
  | .exc h n r => .exc (e.keep _ _ h (.inl n) (fun _ z => nomatch z)) (e.nin _ _ n h) (RV.kp e r)
  | .tup h r => .tup (e.sqp h) (RVs.kp e r)
  | .pr h r s => .pr (e.sqt h) (RV.kp e r) (RV.kp e s)
  | .lst h n r => .lst (e.keepL h n).1 (e.keepL h n).2 (RVs.kp e r)
  | .frl h r => .frl (e.frl h) (RVs.kp e r)
  | .ref h => .ref (e.get _ _ h)
theorem RVs.kp (e : Keeps j H j' H') {ds : List D} {vs : List V} : RVs K j H ds vs → RVs K j' H' ds vs
  | .nil => .nil
  | .cons r s => .cons (RV.kp e r) (RVs.kp e s)
end
theorem RV.mon (e : Mon j H j' H') {d : D} {v : V} (r : RV K j H d v) : RV K j' H' d v := r.kp e.kp
theorem RVs.mon (e : Mon j H j' H') {ds : List D} {vs : List V} (r : RVs K j H ds vs) : RVs K j' H' ds vs := r.kp e.kp
theorem RV.mono (e : Ext j H j' H') {d : D} {v : V} (r : RV K j H d v) : RV K j' H' d v := RV.mon e.toMon r
theorem RVs.mono (e : Ext j H j' H') {ds : List D} {vs : List V} (r : RVs K j H ds vs) : RVs K j' H' ds vs := RVs.mon e.toMon r
theorem RVs.length {ds : List D} {vs : List V} : RVs K j H ds vs → ds.length = vs.length
  | .nil => rfl
  | .cons _ s => congrArg (· + 1) (RVs.length s)
theorem RVs.get : ∀ {ds : List D} {vs : List V} {i : Nat} {d : D}, RVs K j H ds vs → ds[i]? = some d → ∃ v, vs[i]? = some v ∧ RV K j H d v
  | _, _, 0, _, .cons r _, e => ⟨_, rfl, by cases e; exact r⟩
  | _, _, i + 1, _, .cons _ s, e => RVs.get (i := i) s e
theorem RVs.append : ∀ {ds es : List D} {vs ws : List V}, RVs K j H ds vs → RVs K j H es ws → RVs K j H (ds ++ es) (vs ++ ws)
  | _, _, _, _, .nil, s => s
  | _, _, _, _, .cons r t, s => .cons r (RVs.append t s)
theorem RVs.take : ∀ {ds : List D} {vs : List V} (n : Nat), RVs K j H ds vs → RVs K j H (ds.take n) (vs.take n)
  | _, _, 0, _ => .nil
  | _, _, _ + 1, .nil => .nil
  | _, _, n + 1, .cons r t => .cons r (RVs.take n t)
theorem RVs.drop : ∀ {ds : List D} {vs : List V} (n : Nat), RVs K j H ds vs → RVs K j H (ds.drop n) (vs.drop n)
  | _, _, 0, r => r
  | _, _, _ + 1, .nil => .nil
  | _, _, n + 1, .cons _ t => RVs.drop n t
theorem RVs.set {d : D} {v : V} (r : RV K j H d v) : ∀ {ds : List D} {vs : List V} (i : Nat), RVs K j H ds vs → RVs K j H (ds.set i d) (vs.set i v)
  | _, _, _, .nil => .nil
  | _, _, 0, .cons _ t => .cons r t
  | _, _, i + 1, .cons q t => .cons q (RVs.set r i t)
theorem RVs.reverse : ∀ {ds : List D} {vs : List V}, RVs K j H ds vs → RVs K j H ds.reverse vs.reverse
  | _, _, .nil => .nil
  | _, _, .cons r t => by
    rw [List.reverse_cons, List.reverse_cons]
    exact (RVs.reverse t).append (.cons r .nil)
end

/-- a lambda of the text: its words; ps its parameters, fr the names that it takes from around -/
structure LamD where
  params : Arguments
  body : Expr
  scope : Scope
  qual : Str
  ps : List Str
  fr : List Str
/-- a mutable thing -/
inductive MO where
  | lst (xs : List D) | ins (C : Addr) (fs : List (Str × D)) | dk (kvs : List (Key × D)) | clo (d : LamD) (ws : List D) | dead | dt (kvs : List (List Int × D)) | dkz (kvs : List (Key × D))
/-- the lambda d as an object, with the cells cl and the code object c -/
abbrev LamD.obj (d : LamD) (cl : List (Str × Addr)) (pm : Value) (c : Addr) (ctv : Value) : Obj := PySem.W.kla_obj "<lambda>" d.qual d.params d.body d.scope cl pm c ctv
/-- the captured cells are held fast, with vs in them -/
structure CellsF (j : Pl) (H : Hp) (cl : List (Str × Addr)) (fr : List Str) (vs : List V) : Prop where
  len : vs.length = fr.length
  all : ∀ y c, cl.lookup y = some c → j.no c ∧ ∃ (o : Obj) (v : Option Value), o.data = .cell v ∧ H c = some (.frz o (.own c))
  inj : ∀ x y c, cl.lookup x = some c → cl.lookup y = some c → x = y
  has : ∀ (i : Nat) (y : Str), fr[i]? = some y → ∃ (c : Addr) (o : Obj) (u : Value) (v : V), cl.lookup y = some c ∧ H c = some (.frz o (.own c)) ∧ o.data = .cell (some u) ∧ vs[i]? = some v ∧ RelV v u
theorem CellsF.kp {j j' : Pl} {H H' : Hp} {cl : List (Str × Addr)} {fr : List Str} {vs : List V} (e : Keeps j H j' H') (x : CellsF j H cl fr vs) : CellsF j' H' cl fr vs := by
  refine ⟨x.len, fun y c h => ?_, x.inj, fun i y h => ?_⟩
  · obtain ⟨n, o, v, h1, h2⟩ := x.all y c h
    exact ⟨e.nin _ _ n h2, o, v, h1, e.keep _ _ h2 (.inr ⟨trivial, fun z => z⟩) (fun _ z => nomatch z)⟩
  · obtain ⟨c, o, u, v, h1, h2, h3⟩ := x.has i y h
    exact ⟨c, o, u, v, h1, e.keep _ _ h2 (.inr ⟨trivial, fun z => z⟩) (fun _ z => nomatch z), h3⟩
theorem CellsF.mon {j j' : Pl} {H H' : Hp} {cl : List (Str × Addr)} {fr : List Str} {vs : List V} (e : Mon j H j' H') (x : CellsF j H cl fr vs) : CellsF j' H' cl fr vs := x.kp e.kp
/-- no code object stands there, no table -/
def NoCode (a : Addr) (u : HO) : Prop := (∀ q, u ≠ LamX.CodeO a q) ∧ ∀ ps, u ≠ .tbl ps
/-- the tables of the code objects that make lambdas, each with its lambdas' name -/
class Tb where
  t : List (Addr × Str)
abbrev Sto := List MO

inductive RF (K : PySem.W.Frag) (j : Pl) (H : Hp) {α : Type} : List (α × D) → List (α × V) → Prop
  | nil : RF K j H [] []
  | cons {x : α} {d : D} {v : V} {ds : List (α × D)} {vs : List (α × V)} : RV K j H d v → RF K j H ds vs → RF K j H ((x, d) :: ds) ((x, v) :: vs)

/-- a dict with tuples of ints as keys -/
inductive RT (K : PySem.W.Frag) (j : Pl) (H : Hp) : List (List Int × D) → List (List Int × Addr × V) → Prop
  | nil : RT K j H [] []
  | cons {k : List Int} {b : Addr} {d : D} {v : V} {ds : List (List Int × D)} {ws : List (List Int × Addr × V)} : SqP H b (k.map V.int) → RV K j H d v → RT K j H ds ws → RT K j H ((k, d) :: ds) ((k, b, v) :: ws)

def RO (K : PySem.W.Frag) (j : Pl) (H : Hp) : MO → Addr → Prop
  | .lst xs, a => ∃ vs, H a = some (.lst vs) ∧ RVs K j H xs vs
  | .ins C fs, a => ∃ dx gs, H a = some (.ins C dx gs) ∧ RF K j H fs gs
  | .dk kvs, a => ∃ ws, H a = some (.dK ws) ∧ RF K j H kvs ws
  | .clo d ws, a => ∃ cl pm c ctv vs, H a = some (.frz (d.obj cl pm c ctv) (.own a)) ∧ H c = some (LamX.CodeO c d.qual) ∧ j.no c ∧ RVs K j H ws vs ∧ CellsF j H cl d.fr vs
  | .dead, a => ∃ o, H a = some o ∧ NoCode a o
  | .dt kvs, a => ∃ ws, H a = some (DicTO a ws) ∧ RT K j H kvs ws
  | .dkz kvs, a => ∃ o ws, H a = some (.frz o (.dK ws)) ∧ RF K j H kvs ws

structure SR [Tb] (K : PySem.W.Frag) (j : Pl) (H : Hp) (S : Sto) : Prop where
  len : j.l.length = S.length
  nd : j.l.Nodup
  objs : ∀ (i : Nat) (o : MO) (a : Addr), S[i]? = some o → j.l[i]? = some a → RO K j H o a
  bb : ∀ a ∈ j.b, ∃ o, H a = some o ∧ NoCode a o
  lb : ∀ a ∈ j.l, a ∉ j.b
  tabs : LamX.Tabs Tb.t H

theorem dicT_noCode (a : Addr) (ws : List (List Int × Addr × V)) : NoCode a (DicTO a ws) := by
  refine ⟨fun q h => ?_, fun _ z => nomatch z⟩
  injection h with h
  have hg : ({ objs := (Array.replicate (a + 1) { cls := .none, data := .fields #[.none, .str q 0] }) } : Heap).get? a = some { cls := .none, data := .fields #[.none, .str q 0] } := by
    unfold Heap.get?
    rw [show (Array.replicate (a + 1) ({ cls := .none, data := .fields #[.none, .str q 0] } : Obj))[a]? = some { cls := .none, data := .fields #[.none, .str q 0] } by rw [Array.getElem?_replicate, if_pos (Nat.lt_succ_self a)]]
  have p := congrFun h { objs := (Array.replicate (a + 1) { cls := .none, data := .fields #[.none, .str q 0] }) }
  obtain ⟨_, _, us, _, o, es, ep, ho, _, hd, _⟩ := p.mpr ⟨_, _, 0, hg, rfl, rfl⟩
  rw [hg] at ho
  cases ho
  cases hd
variable [Tb]
/-- slots -/
abbrev Env := List (Option D)
structure ER (K : PySem.W.Frag) (j : Pl) (H : Hp) (ρ : Env) (σ : L2.St) : Prop where
  len : σ.length = ρ.length
  at' : ∀ (i : Nat) (d : D), ρ[i]? = some (some d) → ∃ v, σ[i]? = some (some v) ∧ RV K j H d v

section
variable {K : PySem.W.Frag} {j j' j1 j2 : Pl} {H H' H1 H2 : Hp} {S : Sto}
theorem RF.kp (e : Keeps j H j' H') {α : Type} {ds : List (α × D)} {vs : List (α × V)} : RF K j H ds vs → RF K j' H' ds vs
  | .nil => .nil
  | .cons r s => .cons (r.kp e) (RF.kp e s)
theorem RF.mon (e : Mon j H j' H') {α : Type} {ds : List (α × D)} {vs : List (α × V)} (r : RF K j H ds vs) : RF K j' H' ds vs := r.kp e.kp
theorem RT.kp (e : Keeps j H j' H') {ds : List (List Int × D)} {ws : List (List Int × Addr × V)} : RT K j H ds ws → RT K j' H' ds ws
  | .nil => .nil
  | .cons h r s => .cons (e.sqp h) (r.kp e) (RT.kp e s)
theorem RT.mon (e : Mon j H j' H') {ds : List (List Int × D)} {ws : List (List Int × Addr × V)} (r : RT K j H ds ws) : RT K j' H' ds ws := r.kp e.kp
theorem RF.mono (e : Ext j H j' H') {α : Type} {ds : List (α × D)} {vs : List (α × V)} (r : RF K j H ds vs) : RF K j' H' ds vs := r.mon e.toMon
theorem ER.mon {ρ : Env} {σ : L2.St} (r : ER K j H ρ σ) (e : Mon j H j' H') : ER K j' H' ρ σ :=
  ⟨r.len, fun i d h => let ⟨v, h1, h2⟩ := r.at' i d h; ⟨v, h1, h2.mon e⟩⟩
theorem ER.mono {ρ : Env} {σ : L2.St} (r : ER K j H ρ σ) (e : Ext j H j' H') : ER K j' H' ρ σ := r.mon e.toMon
theorem ER.set {ρ : Env} {σ : L2.St} (r : ER K j H ρ σ) {d : D} {v : V} (q : RV K j H d v) (i : Nat) : ER K j H (ρ.set i (some d)) (σ.set i (some v)) := by
  refine ⟨by rw [List.length_set, List.length_set]; exact r.len, fun k e h => ?_⟩
  by_cases hk : i = k
  · subst hk
    have hl : i < ρ.length := by
      have := (List.getElem?_eq_some_iff.mp h).1
      rwa [List.length_set] at this
    rw [List.getElem?_set_self hl] at h
    cases h
    exact ⟨v, List.getElem?_set_self (by rw [r.len]; exact hl), q⟩
  · rw [List.getElem?_set_ne hk] at h ⊢
    exact r.at' k e h
theorem ER.gone {ρ : Env} {σ : L2.St} (r : ER K j H ρ σ) (i : Nat) : ER K j H (ρ.set i none) (σ.set i none) := by
  refine ⟨by rw [List.length_set, List.length_set]; exact r.len, fun k e h => ?_⟩
  by_cases hk : i = k
  · subst hk
    have hl : i < ρ.length := by
      have := (List.getElem?_eq_some_iff.mp h).1
      rwa [List.length_set] at this
    rw [List.getElem?_set_self hl] at h
    cases h
  · rw [List.getElem?_set_ne hk] at h ⊢
    exact r.at' k e h
theorem codeO_ne_of {a : Addr} {q : Str} {u : HO} (h : ∀ φ, u ≠ .ext φ) : u ≠ LamX.CodeO a q := fun z => h _ z
theorem noCode_of {a : Addr} {u : HO} (h : ∀ φ, u ≠ .ext φ) (h' : ∀ ps, u ≠ .tbl ps) : NoCode a u := ⟨fun _ => codeO_ne_of h, h'⟩
theorem RO.some' {o : MO} {a : Addr} (r : RO K j H o a) : ∃ u, H a = some u ∧ NoCode a u := by
  cases o with
  | lst xs => obtain ⟨vs, h, _⟩ := r; exact ⟨_, h, noCode_of (fun _ z => nomatch z) (fun _ z => nomatch z)⟩
  | ins C fs => obtain ⟨dx, gs, h, _⟩ := r; exact ⟨_, h, noCode_of (fun _ z => nomatch z) (fun _ z => nomatch z)⟩
  | dk kvs => obtain ⟨ws, h, _⟩ := r; exact ⟨_, h, noCode_of (fun _ z => nomatch z) (fun _ z => nomatch z)⟩
  | clo d ws => obtain ⟨cl, pm, c, ctv, vs, h, _⟩ := r; exact ⟨_, h, noCode_of (fun _ z => nomatch z) (fun _ z => nomatch z)⟩
  | dead => exact r
  | dt kvs => obtain ⟨ws, h, _⟩ := r; exact ⟨_, h, dicT_noCode _ _⟩
  | dkz kvs => obtain ⟨o, ws, h, _⟩ := r; exact ⟨_, h, noCode_of (fun _ z => nomatch z) (fun _ z => nomatch z)⟩
theorem SR.mem (r : SR K j H S) {a : Addr} (h : a ∈ j.l) : ∃ u, H a = some u ∧ NoCode a u := by
  obtain ⟨i, hi, e⟩ := List.getElem_of_mem h
  have hs : i < S.length := by rw [← r.len]; exact hi
  exact (r.objs i S[i] a (List.getElem?_eq_getElem hs) (by rw [List.getElem?_eq_getElem hi, e])).some'
theorem tabs_upd {T : List (Addr × Str)} {a : Addr} {o : HO} (t : LamX.Tabs T H) (h : ∀ u, H a = some u → NoCode a u) : LamX.Tabs T (upd H a o) := fun p hp => by
  obtain ⟨ps, h1, h2, h3⟩ := t p hp
  have n1 : p.1 ≠ a := fun z => by rw [z] at h1; exact (h _ h1).2 ps rfl
  refine ⟨ps, by rw [upd_ne n1]; exact h1, h2, fun pos cv hc => ?_⟩
  obtain ⟨c, e1, e2⟩ := h3 pos cv hc
  have n2 : c ≠ a := fun z => by rw [z] at e2; exact (h _ e2).1 _ rfl
  exact ⟨c, e1, by rw [upd_ne n2]; exact e2⟩
theorem tabs_new {T : List (Addr × Str)} {a : Addr} {o : HO} (t : LamX.Tabs T H) (h : H a = none) : LamX.Tabs T (upd H a o) := tabs_upd t fun u z => by rw [h] at z; cases z
theorem SR.fresh (r : SR K j H S) {p : Addr} (h : H p = none) : p ∉ j.l := fun z => by
  obtain ⟨u, e, _⟩ := r.mem z
  rw [h] at e; cases e
theorem SR.free (r : SR K j H S) {p : Addr} (h : H p = none) : j.no p := ⟨r.fresh h, fun z => by
  obtain ⟨u, e, _⟩ := r.bb p z
  rw [h] at e; cases e⟩
/-- what is at each address of the store stays -/
theorem RO.kp {o : MO} {a : Addr} (r : RO K j H o a) (e : Keeps j H j' H') (h : ∀ u, H a = some u → H' a = some u) : RO K j' H' o a := by
  cases o with
  | lst xs => obtain ⟨vs, h1, h2⟩ := r; exact ⟨vs, h _ h1, h2.kp e⟩
  | ins C fs => obtain ⟨dx, gs, h1, h2⟩ := r; exact ⟨dx, gs, h _ h1, h2.kp e⟩
  | dk kvs => obtain ⟨ws, h1, h2⟩ := r; exact ⟨ws, h _ h1, h2.kp e⟩
  | clo d ws =>
    obtain ⟨cl, pm, c, ctv, vs, h1, h3, h4, h5, h6⟩ := r
    exact ⟨cl, pm, c, ctv, vs, h _ h1, e.keep _ _ h3 (.inl h4) (fun _ z => LamX.codeO_ne _ z), e.nin _ _ h4 h3, h5.kp e, h6.kp e⟩
  | dead => obtain ⟨o, h1, h2⟩ := r; exact ⟨o, h _ h1, h2⟩
  | dt kvs => obtain ⟨ws, h1, h3⟩ := r; exact ⟨ws, h _ h1, h3.kp e⟩
  | dkz kvs => obtain ⟨o, ws, h1, h3⟩ := r; exact ⟨o, ws, h _ h1, h3.kp e⟩
theorem RO.keep {o : MO} {a : Addr} (r : RO K j H o a) (e : Mon j H j' H') (h : ∀ u, H a = some u → H' a = some u) : RO K j' H' o a := r.kp e.kp h
theorem ext_new {p : Addr} {o : HO} (hp : H p = none) : Ext j H j (upd H p o) :=
  .mk' ⟨[], by simp⟩ rfl (fun b u h _ _ => by rw [upd_ne (ne_of_none h hp)]; exact h) (fun _ h h' => absurd h' h) fun b u h => ⟨u, by rw [upd_ne (ne_of_none h hp)]; exact h⟩
theorem SR.new (r : SR K j H S) {p : Addr} {o : HO} (hp : H p = none) : SR K j (upd H p o) S :=
  ⟨r.len, r.nd, fun i u a h h' => (r.objs i u a h h').keep (ext_new hp).toMon fun u h => by rw [upd_ne (ne_of_none h hp)]; exact h, fun a h => let ⟨o, e, n⟩ := r.bb a h; ⟨o, by rw [upd_ne (ne_of_none e hp)]; exact e, n⟩, r.lb, tabs_new r.tabs hp⟩
def Pl.push (j : Pl) (p : Addr) : Pl := ⟨j.l ++ [p], j.b⟩
theorem ext_push {p : Addr} {o : HO} (hp : H p = none) : Ext j H (j.push p) (upd H p o) :=
  .mk' ⟨[p], rfl⟩ rfl (fun b u h _ _ => by rw [upd_ne (ne_of_none h hp)]; exact h) (fun b h h' => by
    rcases List.mem_append.mp h' with h' | h'
    · exact absurd h' h
    · cases List.mem_singleton.mp h'; exact hp) (ext_new (j := j) hp).there
theorem SR.push (r : SR K j H S) {p : Addr} {u : HO} {o : MO} (hp : H p = none) (ho : RO K (j.push p) (upd H p u) o p) : SR K (j.push p) (upd H p u) (S ++ [o]) := by
  refine ⟨by simp [Pl.push, r.len], ?_, fun i o' a h h' => ?_, fun a h => let ⟨o, e, n⟩ := r.bb a h; ⟨o, by rw [upd_ne (ne_of_none e hp)]; exact e, n⟩, fun a h => ?_, tabs_new r.tabs hp⟩
  · show (j.l ++ [p]).Nodup
    rw [List.nodup_append]
    refine ⟨r.nd, by simp, fun a ha b hb => ?_⟩
    cases List.mem_singleton.mp hb
    rintro rfl
    exact r.fresh hp ha
  · by_cases hi : i < S.length
    · rw [List.getElem?_append_left hi] at h
      unfold Pl.push at h'
      rw [List.getElem?_append_left (by rw [r.len]; exact hi)] at h'
      exact (r.objs i o' a h h').keep (ext_push hp).toMon fun u h => by rw [upd_ne (ne_of_none h hp)]; exact h
    · have e : i = S.length := by
        have := (List.getElem?_eq_some_iff.mp h).1
        simp at this
        omega
      subst e
      rw [List.getElem?_append_right (Nat.le_refl _), Nat.sub_self] at h
      unfold Pl.push at h'
      rw [← r.len, List.getElem?_append_right (Nat.le_refl _), Nat.sub_self] at h'
      cases h; cases h'
      exact ho
  · rcases List.mem_append.mp (show a ∈ j.l ++ [p] from h) with h | h
    · exact r.lb a h
    · cases List.mem_singleton.mp h; exact (r.free hp).2
theorem ext_write {a : Addr} {o : HO} {u : HO} (ha : a ∈ j.l) (hu : H a = some u) (hm : ¬ Imm u) : Ext j H j (upd H a o) :=
  .mk' ⟨[], by simp⟩ rfl (fun b u' h n _ => by
    have : b ≠ a := by
      rintro rfl
      rcases n with n | n
      · exact n ha
      · rw [hu] at h; cases h; exact hm n
    rw [upd_ne this]; exact h) (fun _ h h' => absurd h' h) fun b u' h => by
    by_cases e : b = a
    · subst e; exact ⟨o, upd_same⟩
    · exact ⟨u', by rw [upd_ne e]; exact h⟩
theorem SR.write (r : SR K j H S) {n : Nat} {a : Addr} {u u0 : HO} {o : MO} (ha : j.l[n]? = some a) (h0 : H a = some u0) (i0 : ¬ Imm u0) (ho : RO K j (upd H a u) o a) : SR K j (upd H a u) (S.set n o) := by
  have hm : a ∈ j.l := List.mem_of_getElem? ha
  obtain ⟨u1, h1, c0⟩ := r.mem hm
  refine ⟨by rw [List.length_set]; exact r.len, r.nd, fun i o' b h h' => ?_, fun b h => let ⟨o, e, n⟩ := r.bb b h; ⟨o, (upd_ne (fun z => r.lb a hm (by rw [← z]; exact h))).trans e, n⟩, r.lb, tabs_upd r.tabs fun u z => by rw [h1] at z; cases z; exact c0⟩
  by_cases e : n = i
  · subst e
    rw [ha] at h'; cases h'
    have hl : n < S.length := by
      have := (List.getElem?_eq_some_iff.mp h).1
      rwa [List.length_set] at this
    rw [List.getElem?_set_self hl] at h
    cases h
    exact ho
  · rw [List.getElem?_set_ne e] at h
    refine (r.objs i o' b h h').keep (ext_write hm h0 i0).toMon fun w hw => ?_
    have : b ≠ a := by
      rintro rfl
      exact e ((List.getElem_inj r.nd).mp ((List.getElem?_eq_some_iff.mp ha).2.trans (List.getElem?_eq_some_iff.mp h').2.symm))
    rw [upd_ne this]; exact hw
end

/-! ### outcomes -/
inductive Out (α : Type) where
  | ok (a : α) (S : Sto)
  | exc (C : Addr) (w : D) (S : Sto)
  | no
def Out.bind {α β : Type} (o : Out α) (k : α → Sto → Out β) : Out β := match o with
  | .ok a S => k a S
  | .exc C w S => .exc C w S
  | .no => .no
@[simp] theorem Out.bind_ok {α β : Type} (a : α) (S : Sto) (k : α → Sto → Out β) : (Out.ok a S).bind k = k a S := rfl
@[simp] theorem Out.bind_exc {α β : Type} (C : Addr) (w : D) (S : Sto) (k : α → Sto → Out β) : (Out.exc C w S : Out α).bind k = .exc C w S := rfl
@[simp] theorem Out.bind_no {α β : Type} (k : α → Sto → Out β) : (Out.no : Out α).bind k = .no := rfl

abbrev EF := Env → Sto → Out D
abbrev BF := Env → Sto → Out Bool
abbrev AF := Env → Sto → Out (List D)

/-- an error C(w) as it lies there -/
def ExcAt (K : PySem.W.Frag) (j : Pl) (H : Hp) (C : Addr) (w : D) (cls : Value) (dd : Option Addr) : Prop :=
  cls = .ref C ∧ UnderRf K (refusedOf K) C ∧ ∃ d v, dd = some d ∧ j.no d ∧ H d = some (.xd [(("what" : Str), v)]) ∧ RV K j H w v

def OKg (K : PySem.W.Frag) (j : Pl) (H : Hp) (W : WX) (σ : L2.St) {α β : Type} (R : Pl → Hp → α → β → Prop) (Q : β → Hp → Prop) : Out α → Prop
  | .ok d S' => ∀ j' H' v, Ext j H j' H' → SR K j' H' S' → R j' H' d v → Q v H'
  | .exc C w S' => ∀ j' H' cls dd, Ext j H j' H' → SR K j' H' S' → ExcAt K j' H' C w cls dd → W cls dd σ H'
  | .no => False
abbrev OK (K : PySem.W.Frag) (j : Pl) (H : Hp) (W : WX) (σ : L2.St) (Q : V → Hp → Prop) : Out D → Prop := OKg K j H W σ (RV K) Q
abbrev OKb (K : PySem.W.Frag) (j : Pl) (H : Hp) (W : WX) (σ : L2.St) (Q : Bool → Hp → Prop) : Out Bool → Prop := OKg K j H W σ (fun _ _ (a b : Bool) => a = b) Q
abbrev OKa (K : PySem.W.Frag) (j : Pl) (H : Hp) (W : WX) (σ : L2.St) (Q : List V → Hp → Prop) : Out (List D) → Prop := OKg K j H W σ (RVs K) Q

section
variable {K : PySem.W.Frag} {j j' j1 j2 : Pl} {H H' H1 H2 : Hp} {S : Sto} {W : WX} {σ : L2.St} {α β α' β' : Type} {R : Pl → Hp → α → β → Prop} {R' : Pl → Hp → α' → β' → Prop} {Q : β → Hp → Prop} {Q' : β' → Hp → Prop}
theorem OKg.ext {o : Out α} (h : OKg K j H W σ R Q o) (e : Ext j H j1 H1) : OKg K j1 H1 W σ R Q o := by
  cases o with
  | ok d S' => exact fun j' H' v e' s r => h j' H' v (e.trans e') s r
  | exc C w S' => exact fun j' H' c d e' s r => h j' H' c d (e.trans e') s r
  | no => exact h
theorem OKg.bind {o : Out α'} {k : α' → Sto → Out α} (h : OKg K j H W σ R Q (o.bind k))
    (q : ∀ j1 H1 d v S1, Ext j H j1 H1 → SR K j1 H1 S1 → R' j1 H1 d v → OKg K j1 H1 W σ R Q (k d S1) → Q' v H1) : OKg K j H W σ R' Q' o := by
  cases o with
  | ok d S' => exact fun j' H' v e s r => q j' H' d v S' e s r (OKg.ext h e)
  | exc C w S' => exact h
  | no => exact h
end

def rd (K : PySem.W.Frag) (W : WX) (f : EF) : TE := fun σ H Q => ∃ j ρ S, SR K j H S ∧ ER K j H ρ σ ∧ OK K j H W σ Q (f ρ S)
def rdB (K : PySem.W.Frag) (W : WX) (f : BF) : TT := fun σ H Q => ∃ j ρ S, SR K j H S ∧ ER K j H ρ σ ∧ OKb K j H W σ Q (f ρ S)
def rdA (K : PySem.W.Frag) (W : WX) (f : AF) : TA := fun σ H Q => ∃ j ρ S, SR K j H S ∧ ER K j H ρ σ ∧ OKa K j H W σ Q (f ρ S)

abbrev EV (X : Cx) (W : WX) (e : Expr) (f : EF) : Prop := PE X e (rd X.K W f)
abbrev ET (X : Cx) (W : WX) (e : Expr) (f : BF) : Prop := PT X e (rdB X.K W f)
abbrev EA (X : Cx) (W : WX) (es : List Expr) (f : AF) : Prop := PA X es (rdA X.K W f)

/-- a reading may be strengthened -/
theorem pe_imp {X : Cx} {e : Expr} {t t' : TE} (h : PE X e t) (i : ∀ σ H Q, t' σ H Q → t σ H Q) : PE X e t' := ⟨fun pins s σ H Q I q => h.run pins s σ H Q I (i σ H Q q)⟩
theorem pt_imp {X : Cx} {e : Expr} {t t' : TT} (h : PT X e t) (i : ∀ σ H Q, t' σ H Q → t σ H Q) : PT X e t' := ⟨fun pins s σ H Q I q => h.run pins s σ H Q I (i σ H Q q)⟩
theorem pw_imp {X : Cx} {e : Expr} {t t' : TT} (h : PW X e t) (i : ∀ σ H Q, t' σ H Q → t σ H Q) : PW X e t' := ⟨fun whole pins s σ H Q I q => h.run whole pins s σ H Q I (i σ H Q q)⟩
theorem pa_imp {X : Cx} {e : List Expr} {t t' : TA} (h : PA X e t) (i : ∀ σ H Q, t' σ H Q → t σ H Q) : PA X e t' := ⟨fun pos pins s σ H Q I q => h.run pos pins s σ H Q I (i σ H Q q)⟩
theorem ps_imp {X : Cx} {e : Stmt} {t t' : TS} (h : PS X e t) (i : ∀ D σ H, t' D σ H → t D σ H) : PS X e t' := ⟨fun pins s σ H D I q => h.run pins s σ H D I (i D σ H q)⟩
theorem pss_imp {X : Cx} {e : List Stmt} {t t' : TS} (h : PSs X e t) (i : ∀ D σ H, t' D σ H → t D σ H) : PSs X e t' := ⟨fun pins s σ H D I q => h.run pins s σ H D I (i D σ H q)⟩

end DL

set_option Elab.async false
set_option linter.all false
set_option maxRecDepth 100000
namespace DL
open PySem PySem.Spec PyProof.Rows L2
variable [Tb]

/-! ### plain expressions -/
def eVar (i : Nat) : EF := fun ρ S => match ρ[i]? with | some (some d) => .ok d S | _ => .no
def eC (d : D) : EF := fun _ S => .ok d S
def eUn (g : D → Sto → Out D) (fa : EF) : EF := fun ρ S => (fa ρ S).bind g
def eBin (g : D → D → Sto → Out D) (fa fb : EF) : EF := fun ρ S => (fa ρ S).bind fun x S1 => (fb ρ S1).bind fun y S2 => g x y S2
def eChain (g g' : D → D → Sto → Out D) (fa fb fc : EF) : EF := fun ρ S => (fa ρ S).bind fun x S1 => (fb ρ S1).bind fun y S2 => (g x y S2).bind fun z S3 =>
  match z with
  | .bl true => (fc ρ S3).bind fun w S4 => g' y w S4
  | .bl false => .ok (.bl false) S3
  | _ => .no
def eAnd (fa fb : EF) : EF := fun ρ S => (fa ρ S).bind fun x S1 => match x with | .bl true => fb ρ S1 | .bl false => .ok (.bl false) S1 | _ => .no
def eOr (fa fb : EF) : EF := fun ρ S => (fa ρ S).bind fun x S1 => match x with | .bl false => fb ρ S1 | .bl true => .ok (.bl true) S1 | _ => .no
def eNot (fa : EF) : EF := fun ρ S => (fa ρ S).bind fun x S1 => match x with | .bl b => .ok (.bl (!b)) S1 | _ => .no
def eIf (t : BF) (fa fb : EF) : EF := fun ρ S => (t ρ S).bind fun b S1 => if b = true then fa ρ S1 else fb ρ S1
def aNil : AF := fun _ S => .ok [] S
def aCons (fa : EF) (fr : AF) : AF := fun ρ S => (fa ρ S).bind fun x S1 => (fr ρ S1).bind fun xs S2 => .ok (x :: xs) S2
def eTup (fa : AF) : EF := fun ρ S => (fa ρ S).bind fun xs S1 => if xs.length ≤ 16777216 then .ok (.tup xs) S1 else .no
/-- a list that nobody changes -/
def eLst (fa : AF) : EF := fun ρ S => (fa ρ S).bind fun xs S1 => if xs.length ≤ 16777216 then .ok (.lst xs) S1 else .no
/-- a list of its own place -/
def eLstM (fa : AF) : EF := fun ρ S => (fa ρ S).bind fun xs S1 => if xs.length ≤ 16777216 then .ok (.ref S1.length) (S1 ++ [.lst xs]) else .no
def eCall (g : List D → Sto → Out D) (fa : AF) : EF := fun ρ S => (fa ρ S).bind g
def bVal (fa : EF) : BF := fun ρ S => (fa ρ S).bind fun x S1 => match x with | .bl b => .ok b S1 | _ => .no
def bNot (t : BF) : BF := fun ρ S => (t ρ S).bind fun b S1 => .ok (!b) S1
def bAnd (t u : BF) : BF := fun ρ S => (t ρ S).bind fun b S1 => if b = true then u ρ S1 else .ok false S1
def bOr (t u : BF) : BF := fun ρ S => (t ρ S).bind fun b S1 => if b = true then .ok true S1 else u ρ S1

section
variable {X : Cx} {W : WX} {e a b c : Expr} {es : List Expr} {fa fb fc : EF} {f : AF} {t u : BF} {pos : Pos}

theorem ev_var (i : Nat) (h : PE X e (tVar i)) : EV X W e (eVar i) := pe_imp h fun σ H Q ⟨j, ρ, S, hs, hr, q⟩ => by
  unfold eVar at q
  cases e : ρ[i]? with
  | none => rw [e] at q; exact q.elim
  | some o =>
    cases o with
    | none => rw [e] at q; exact q.elim
    | some d =>
      rw [e] at q
      obtain ⟨v, h1, r⟩ := hr.at' i d e
      exact ⟨v, h1, q j H v (.refl j H) hs r⟩
theorem ev_c {v : V} (d : D) (h : PE X e (tC v)) (r : ∀ j H, RV X.K j H d v) : EV X W e (eC d) := pe_imp h fun σ H Q ⟨j, ρ, S, hs, hr, q⟩ => q j H v (.refl j H) hs (r j H)
theorem ev_int {i : Int} {k pos} : EV X W (.Constant (.int i) k pos) (eC (.int i)) := ev_c (.int i) pe_int fun _ _ => .int i
theorem ev_bl {i : Bool} {k pos} : EV X W (.Constant (.bool i) k pos) (eC (.bl i)) := ev_c (.bl i) pe_bl fun _ _ => .bl i
theorem ev_str {i : Str} {k pos} : EV X W (.Constant (.str i) k pos) (eC (.str i)) := ev_c (.str i) pe_str fun _ _ => .str i
theorem ev_non {k pos} : EV X W (.Constant .none k pos) (eC .non) := ev_c .non pe_non fun _ _ => .non

/-! ### operations on values -/
def Op2 (K : PySem.W.Frag) (g : D → D → Sto → Out D) (r : R2) : Prop :=
  ∀ (j : Pl) (H : Hp) (S : Sto) (W : WX) (σ : L2.St) (Q : VK) (x y : D) (vx vy : V), SR K j H S → RV K j H x vx → RV K j H y vy → OK K j H W σ Q (g x y S) → r vx vy H Q
def Op1 (K : PySem.W.Frag) (g : D → Sto → Out D) (r : V → Hp → VK → Prop) : Prop :=
  ∀ (j : Pl) (H : Hp) (S : Sto) (W : WX) (σ : L2.St) (Q : VK) (x : D) (vx : V), SR K j H S → RV K j H x vx → OK K j H W σ Q (g x S) → r vx H Q
def OpA (K : PySem.W.Frag) (g : List D → Sto → Out D) (r : List V → Hp → VK → Prop) : Prop :=
  ∀ (j : Pl) (H : Hp) (S : Sto) (W : WX) (σ : L2.St) (Q : VK) (xs : List D) (vs : List V), SR K j H S → RVs K j H xs vs → OK K j H W σ Q (g xs S) → r vs H Q

theorem rd_op {g : D → D → Sto → Out D} {r : R2} (hi : Op2 X.K g r) (σ : L2.St) (H : Hp) (Q : VK) (h : rd X.K W (eBin g fa fb) σ H Q) : tOp r (rd X.K W fa) (rd X.K W fb) σ H Q := by
  obtain ⟨j, ρ, S, hs, hr, q⟩ := h
  refine ⟨j, ρ, S, hs, hr, OKg.bind q fun j1 H1 x vx S1 e1 s1 r1 q1 => ?_⟩
  refine ⟨j1, ρ, S1, s1, hr.mono e1, OKg.bind q1 fun j2 H2 y vy S2 e2 s2 r2 q2 => ?_⟩
  exact hi j2 H2 S2 W σ Q x y vx vy s2 (r1.mono e2) r2 q2
theorem ev_bin {op : Operator} {g : D → D → Sto → Out D} {r : R2} (ho : OpR X (binaryOp op) r) (hi : Op2 X.K g r) (ha : EV X W a fa) (hb : EV X W b fb) : EV X W (.BinOp a op b pos) (eBin g fa fb) := pe_imp (pe_op ho ha hb) (rd_op hi)
theorem ev_cmp {op : CmpOp} {g : D → D → Sto → Out D} {r : R2} (ho : OpR X (compareOp op) r) (hi : Op2 X.K g r) (ha : EV X W a fa) (hb : EV X W b fb) (hm : behindInMarks op b = false) : EV X W (.Compare a [op] [b] pos) (eBin g fa fb) := pe_imp (pe_cmpR ho ha hb hm) (rd_op hi)
theorem ev_ix {g : D → D → Sto → Out D} {r : R2} (ho : IxR X r) (hi : Op2 X.K g r) (ha : EV X W a fa) (hb : EV X W b fb) (hs : PlainIx b) : EV X W (.Subscript a b pos) (eBin g fa fb) := pe_imp (pe_ix ho ha hb hs) (rd_op hi)
theorem ev_un {op : UnaryOp} {g : D → Sto → Out D} {r : V → Hp → VK → Prop} (ho : UnR X (unaryOp op) r) (hi : Op1 X.K g r) (ha : EV X W a fa) : EV X W (.UnaryOp op a pos) (eUn g fa) := pe_imp (pe_un ho ha) fun σ H Q ⟨j, ρ, S, hs, hr, q⟩ =>
  ⟨j, ρ, S, hs, hr, OKg.bind q fun j1 H1 x vx S1 e1 s1 r1 q1 => hi j1 H1 S1 W σ Q x vx s1 r1 q1⟩
theorem ev_chain {op op' : CmpOp} {g g' : D → D → Sto → Out D} {r r' : R2} (ho : OpR X (compareOp op) r) (hi : Op2 X.K g r) (ho' : OpR X (compareOp op') r') (hi' : Op2 X.K g' r') (ha : EV X W a fa) (hb : EV X W b fb) (hc : EV X W c fc)
    (hm : lastMarks [op, op'] [b, c] = false) : EV X W (.Compare a [op, op'] [b, c] pos) (eChain g g' fa fb fc) := pe_imp (pe_chain ho ho' ha hb hc hm) fun σ H Q ⟨j, ρ, S, hs, hr, q⟩ => by
  refine ⟨j, ρ, S, hs, hr, OKg.bind q fun j1 H1 x vx S1 e1 s1 r1 q1 => ?_⟩
  refine ⟨j1, ρ, S1, s1, hr.mono e1, OKg.bind q1 fun j2 H2 y vy S2 e2 s2 r2 q2 => ?_⟩
  refine hi j2 H2 S2 W σ _ x y vx vy s2 (r1.mono e2) r2 (OKg.bind q2 fun j3 H3 z vz S3 e3 s3 r3 q3 => ?_)
  cases r3 with
  | bl b =>
    refine ⟨b, rfl, ?_⟩
    cases b with
    | true =>
      refine iteT ⟨j3, ρ, S3, s3, ((hr.mono e1).mono e2).mono e3, OKg.bind q3 fun j4 H4 w vw S4 e4 s4 r4 q4 => ?_⟩
      exact hi' j4 H4 S4 W σ Q y w vy vw s4 ((r2.mono e3).mono e4) r4 q4
    | false => exact iteF (q3 j3 H3 _ (.refl _ _) s3 (.bl false))
  | _ => exact q3.elim
theorem ev_and (ha : EV X W a fa) (hb : EV X W (.BoolOp .And (b :: es) pos) fb) : EV X W (.BoolOp .And (a :: b :: es) pos) (eAnd fa fb) := pe_imp (pe_and ha hb) fun σ H Q ⟨j, ρ, S, hs, hr, q⟩ => by
  refine ⟨j, ρ, S, hs, hr, OKg.bind q fun j1 H1 x vx S1 e1 s1 r1 q1 => ?_⟩
  cases r1 with
  | bl b =>
    refine ⟨b, rfl, ?_⟩
    cases b with
    | true => exact iteT ⟨j1, ρ, S1, s1, hr.mono e1, q1⟩
    | false => exact iteF (q1 j1 H1 _ (.refl _ _) s1 (.bl false))
  | _ => exact q1.elim
theorem ev_one {op} (h : EV X W a fa) : EV X W (.BoolOp op [a] pos) fa := pe_one h
theorem ev_not (ha : EV X W a fa) : EV X W (.UnaryOp .Not a pos) (eNot fa) := pe_imp (pe_not ha) fun σ H Q ⟨j, ρ, S, hs, hr, q⟩ => by
  refine ⟨j, ρ, S, hs, hr, OKg.bind q fun j1 H1 x vx S1 e1 s1 r1 q1 => ?_⟩
  cases r1 with
  | bl b => exact ⟨b, rfl, q1 j1 H1 _ (.refl _ _) s1 (.bl _)⟩
  | _ => exact q1.elim
theorem ev_if (ht : ET X W c t) (ha : EV X W a fa) (hb : EV X W b fb) : EV X W (.IfExp c a b pos) (eIf t fa fb) := pe_imp (pe_ifExp ht ha hb) fun σ H Q ⟨j, ρ, S, hs, hr, q⟩ => by
  refine ⟨j, ρ, S, hs, hr, OKg.bind q fun j1 H1 x vx S1 e1 s1 r1 q1 => ?_⟩
  cases r1
  cases x with
  | true => exact iteT ⟨j1, ρ, S1, s1, hr.mono e1, q1⟩
  | false => exact iteF ⟨j1, ρ, S1, s1, hr.mono e1, q1⟩
theorem ea_nil : EA X W [] aNil := pa_imp pa_nil fun σ H Q ⟨j, ρ, S, hs, hr, q⟩ => q j H [] (.refl j H) hs .nil
theorem ea_cons (ha : EV X W e fa) (hr : EA X W es f) (hs : starEach (e :: es) X.env = (false, eval e X.env) :: starEach es X.env := by rfl) : EA X W (e :: es) (aCons fa f) := pa_imp (pa_cons ha hr hs) fun σ H Q ⟨j, ρ, S, hs, hr, q⟩ => by
  refine ⟨j, ρ, S, hs, hr, OKg.bind q fun j1 H1 x vx S1 e1 s1 r1 q1 => ?_⟩
  refine ⟨j1, ρ, S1, s1, hr.mono e1, OKg.bind q1 fun j2 H2 xs vs S2 e2 s2 r2 q2 => ?_⟩
  exact q2 j2 H2 _ (.refl _ _) s2 (.cons (r1.mono e2) r2)
theorem line_eq {n : Nat} (h : n ≤ 16777216) : n ≤ sizeLine := by rw [sizeLine_eq]; exact h
theorem ev_tup {x1} (h : EA X W es f) : EV X W (.Tuple es x1 pos) (eTup f) := pe_imp (pe_tupP h) fun σ H Q ⟨j, ρ, S, hs, hr, q⟩ => by
  refine ⟨j, ρ, S, hs, hr, OKg.bind q fun j1 H1 x vx S1 e1 s1 r1 q1 => ?_⟩
  split at q1
  · rename_i hl
    refine ⟨by rw [← r1.length]; exact line_eq hl, fun p o hp ho => ?_⟩
    exact q1 j1 _ _ (ext_new hp) (s1.new hp) (.tup (sqp_new ho) (r1.mono (ext_new hp)))
  · exact q1.elim
theorem ev_lst (h : EA X W es f) : EV X W (.List es pos) (eLst f) := pe_imp (pe_lst h) fun σ H Q ⟨j, ρ, S, hs, hr, q⟩ => by
  refine ⟨j, ρ, S, hs, hr, OKg.bind q fun j1 H1 x vx S1 e1 s1 r1 q1 => ?_⟩
  split at q1
  · rename_i hl
    refine ⟨by rw [← r1.length]; exact line_eq hl, fun p hp => ?_⟩
    exact q1 j1 _ _ (ext_new hp) (s1.new hp) (.lst upd_same (s1.free hp) (r1.mono (ext_new hp)))
  · exact q1.elim
theorem SR.at_last {K : PySem.W.Frag} {j : Pl} {H : Hp} {S : Sto} (s : SR K j H S) (p : Addr) : (j.push p).l[S.length]? = some p := by
  unfold Pl.push
  rw [← s.len, List.getElem?_append_right (Nat.le_refl _), Nat.sub_self]; rfl
theorem ev_lstM (h : EA X W es f) : EV X W (.List es pos) (eLstM f) := pe_imp (pe_lst h) fun σ H Q ⟨j, ρ, S, hs, hr, q⟩ => by
  refine ⟨j, ρ, S, hs, hr, OKg.bind q fun j1 H1 x vx S1 e1 s1 r1 q1 => ?_⟩
  split at q1
  · rename_i hl
    refine ⟨by rw [← r1.length]; exact line_eq hl, fun p hp => ?_⟩
    exact q1 _ _ _ (ext_push hp) (s1.push hp ⟨vx, upd_same, r1.mono (ext_push hp)⟩) (.ref (s1.at_last p))
  · exact q1.elim
theorem rd_call {g : List D → Sto → Out D} {r : List V → Hp → VK → Prop} (hi : OpA X.K g r) (σ : L2.St) (H : Hp) (Q : VK) (h : rd X.K W (eCall g f) σ H Q) : tCB r (rdA X.K W f) σ H Q := by
  obtain ⟨j, ρ, S, hs, hr, q⟩ := h
  exact ⟨j, ρ, S, hs, hr, OKg.bind q fun j1 H1 x vx S1 e1 s1 r1 q1 => hi j1 H1 S1 W σ Q x vx s1 r1 q1⟩
theorem ev_callB {x : Str} {id : String} {p : Pos} {g : List D → Sto → Out D} {r : List V → Hp → VK → Prop} (hc : CallR X (.builtin id) r) (hi : OpA X.K g r) (hm : X.mg x = none) (hv : bootBuiltins x = some (.builtin id)) (hg : Gl X x) (ha : EA X W (e :: es) f) (hn : x ≠ "__name__" := by decide) (hdb : (x == ("__debug__" : Str)) = false := by decide)
    (he : starEach (e :: es) X.env = (false, eval e X.env) :: starEach es X.env := by rfl) (hpl : (backTo pos (starEach es X.env)).any (·.1) = false := by rfl) : EV X W (.Call (.Name x p) (e :: es) [] pos) (eCall g f) :=
  pe_imp (pe_callB hc hg hm hv ha hn hdb he hpl) (rd_call hi)
theorem ev_callTy {x : Str} {T : String} {p : Pos} {g : List D → Sto → Out D} {r : List V → Hp → VK → Prop} (hc : CallR X (.type T) r) (hi : OpA X.K g r) (hm : X.mg x = none) (hv : bootBuiltins x = some (.type T)) (hg : Gl X x) (ha : EA X W (e :: es) f) (hn : x ≠ "__name__" := by decide) (hdb : (x == ("__debug__" : Str)) = false := by decide)
    (he : starEach (e :: es) X.env = (false, eval e X.env) :: starEach es X.env := by rfl) (hpl : (backTo pos (starEach es X.env)).any (·.1) = false := by rfl) : EV X W (.Call (.Name x p) (e :: es) [] pos) (eCall g f) :=
  pe_imp (pe_callTy hc hg hm hv ha hn hdb he hpl) (rd_call hi)
/-! ### tests -/
theorem et_val (h : EV X W e fa) (he : ∀ whole, isTrue e X.env whole = (do let v ← whole; standAt e.pos; holding [v] (truthy v)) := by intro _; rfl) : ET X W e (bVal fa) := pt_imp (pt_val h he) fun σ H Q ⟨j, ρ, S, hs, hr, q⟩ => by
  refine ⟨j, ρ, S, hs, hr, OKg.bind q fun j1 H1 x vx S1 e1 s1 r1 q1 => ?_⟩
  cases r1 with
  | bl b => exact ⟨b, rfl, q1 j1 H1 b (.refl _ _) s1 rfl⟩
  | _ => exact q1.elim
theorem et_not (h : ET X W a t) : ET X W (.UnaryOp .Not a pos) (bNot t) := pt_imp (pt_not h) fun σ H Q ⟨j, ρ, S, hs, hr, q⟩ => by
  refine ⟨j, ρ, S, hs, hr, OKg.bind q fun j1 H1 x vx S1 e1 s1 r1 q1 => ?_⟩
  cases r1
  exact q1 j1 H1 _ (.refl _ _) s1 rfl
abbrev EW (X : Cx) (W : WX) (e : Expr) (f : BF) : Prop := PW X e (rdB X.K W f)
theorem ew_and1 (h : ET X W a t) : EW X W (.BoolOp .And [a] pos) t := pw_and1 h
theorem ew_or1 (h : ET X W a t) : EW X W (.BoolOp .Or [a] pos) t := pw_or1 h
theorem ew_and (h : ET X W a t) (h2 : EW X W (.BoolOp .And (b :: es) pos) u) : EW X W (.BoolOp .And (a :: b :: es) pos) (bAnd t u) := pw_imp (pw_and h h2) fun σ H Q ⟨j, ρ, S, hs, hr, q⟩ => by
  refine ⟨j, ρ, S, hs, hr, OKg.bind q fun j1 H1 x vx S1 e1 s1 r1 q1 => ?_⟩
  cases r1
  cases x with
  | true => exact iteT ⟨j1, ρ, S1, s1, hr.mono e1, q1⟩
  | false => exact iteF (q1 j1 H1 _ (.refl _ _) s1 rfl)
theorem ew_or (h : ET X W a t) (h2 : EW X W (.BoolOp .Or (b :: es) pos) u) : EW X W (.BoolOp .Or (a :: b :: es) pos) (bOr t u) := pw_imp (pw_or h h2) fun σ H Q ⟨j, ρ, S, hs, hr, q⟩ => by
  refine ⟨j, ρ, S, hs, hr, OKg.bind q fun j1 H1 x vx S1 e1 s1 r1 q1 => ?_⟩
  cases r1
  cases x with
  | true => exact iteT (q1 j1 H1 _ (.refl _ _) s1 rfl)
  | false => exact iteF ⟨j1, ρ, S1, s1, hr.mono e1, q1⟩
theorem et_w (h : EW X W a t) : ET X W a t := h.pt
end
end DL

set_option Elab.async false
set_option linter.all false
set_option maxRecDepth 100000
namespace DL
open PySem PySem.Spec PyProof.Rows L2
variable [Tb]

/-! ### calls: a def's promise where nobody is being shown (so that repr tells all) -/
structure FnG (P : Program) (w : World) (K : PySem.W.Frag) (mg : Str → Option Value) (base : Heap) (k : Nat) (f : Addr) (fd : FuncData) (ps : List Str) (sp : Sp) : Prop where
  len : ∀ vs H Q E, sp vs H Q E → vs.length = ps.length
  run : ∀ (A : Around) (outer : List PySem.Env) (s : Shared) (H : Hp) (args : Args) (us : List Value) (vs : List V) (Q : VK) (E : XK), Room k A → A.guards = some [] → Env0 P w K mg base A outer s H →
    BindsTo s fd args (ps.zip us) → Vals vs us → sp vs H Q E → codeAny (model P w) A (.call (.ref f) args) (CR (L2N.CX P w) outer P w H s Q E) s
theorem FnG.mono {P : Program} {w : World} {K : PySem.W.Frag} {mg : Str → Option Value} {base : Heap} {i k : Nat} {f : Addr} {fd : FuncData} {ps : List Str} {sp : Sp} (F : FnG P w K mg base i f fd ps sp) (h : i ≤ k) : FnG P w K mg base k f fd ps sp :=
  ⟨F.len, fun A outer s H args us vs Q E hr => F.run A outer s H args us vs Q E (hr.mono h)⟩

section
variable {P : Program} {w : World} {K : PySem.W.Frag} {mg : Str → Option Value} {base : Heap}
/-- a def of the text by its body -/
theorem fng_of {x qual : Str} {st : Stmt} {f : Addr} {fd : FuncData} {N ps : List Str} {k : Nat} {sp : Sp} (F : Fun K x qual st f fd) (S : FnScope N ps (defScope st)) (len : ∀ vs H Q E, sp vs H Q E → vs.length = ps.length)
    (hbody : ∀ (cdv : Value) (A : Around) (outer : List PySem.Env) (s : Shared) (H : Hp) (vs : List V) (Q : VK) (E : XK), fd.code = cdv → Room k (A.deeper (envOfC qual (defScope st) s.heap.objs.size f cdv)) → A.guards = some [] → sp vs H Q E →
      ∃ t, PSs (cxOf (L2N.CX P w) P w K mg base N qual (defScope st) f cdv A outer s H E) (defBody st) t ∧ t { nx := fun _ H' => Q .non H', rt := Q } (start N vs) H) : FnG P w K mg base (k + 1) f fd ps sp := by
  obtain ⟨oc, od, kV, doc, pm, an, cdv, ct, osl, rfl, lk, hcd⟩ := F.ex
  refine ⟨len, ?_⟩
  intro A outer s H args us vs Q E hr hg e0 hb r hsp
  have nargs := len _ _ _ _ hsp
  have KX : K.In s.heap := e0.mod.kin.keeps fun b o e => (e0.bs b o e).1
  have lim : s.heap.NoLimit := e0.mod.nolimit.keeps fun b o e => (e0.bs b o e).1
  refine codeAny_call_function hr.depth (KX _ _ lk) rfl S.co S.gen rfl (PySem.W.codeRec_of KX hcd) (hb _ _ _ _ ?_)
  refine wpAny_newFunctionEnv_cells S.kind (fun ⟨n, v⟩ hy => ?_) fun env he s1 hx => ?_
  · cases S.par n (List.of_mem_zip hy).1 with
    | inl q => exact .inl q
    | inr q => exact .inr ⟨q, PySem.W.cellsFrom_some _ _ _ (.inl q)⟩
  subst he
  refine ⟨lim.keeps hx.toInCall.keep, codeAny_func ?_⟩
  obtain ⟨t, ht, hq⟩ := hbody cdv A outer s H vs Q E rfl (hr.deeper _) hg hsp
  have I : Inv (cxOf (L2N.CX P w) P w K mg base N qual (defScope st) f cdv A outer s H E) [] (start N vs) H s1 := inv_start S hr.hd e0 nargs r hx
  have fin : ∀ {σ' : L2.St} {H' : Hp} {v : V} {u : Value} {s' : Shared}, Inv (cxOf (L2N.CX P w) P w K mg base N qual (defScope st) f cdv A outer s H E) [] σ' H' s' → RelV v u → Q v H' → CE outer P w H s Q u s' :=
    fun J rv q => ⟨_, _, J.os, J.bare, J.base, J.hok, rv, q⟩
  refine wpAny_mono (ht.run [] s1 (start N vs) H _ I hq) (fun fl s' hs => ?_) fun e s' hs => hs
  cases fl with
  | ret u =>
    obtain ⟨v, σ', H', J, rv, q⟩ := hs
    exact fin J rv q
  | next =>
    obtain ⟨σ', H', J, q⟩ := hs
    exact fin (v := V.non) (u := Value.none) J rfl q
  | brk => exact (hs.choose_spec.choose_spec.2 : False).elim
  | cont => exact (hs.choose_spec.choose_spec.2 : False).elim
end

section
variable {X : Cx} {k : Nat} {f C : Addr} {fd : FuncData} {ps : List Str} {sp : Sp} {W : WX} {x m : Str} {p pos apos : Pos} {e o : Expr} {es : List Expr} {ta : TE} {t : TA}
/-- the callee's end, for the caller -/
theorem after_g {pins : List (Addr × Obj)} {σ : L2.St} {H : Hp} {s s' : Shared} {Q : VK} {r : Result} (tk : L2N.Takes X W) (I : Inv X pins σ H s) (h : CR (L2N.CX X.prog X.w) X.stack X.prog X.w H s Q (WE W σ) r s') :
    match r with | .ok (.ret u) => EP X pins σ Q u s' | .ok _ => False | .error e => X.xe e s' := by
  cases r with
  | error e => exact L2N.passAt tk σ pins H s e s' I h
  | ok fl =>
    cases fl with
    | ret u => exact I.after h
    | next => exact h
    | brk => exact h
    | cont => exact h
theorem run_g {pins : List (Addr × Obj)} {σ : L2.St} {H : Hp} {s : Shared} {Q : VK} {us : List Value} {vs : List V} (F : FnG X.prog X.w X.K X.mg X.base k f fd ps sp) (hr : Room k X.A) (hg : X.A.guards = some []) (hb : Binds X.K fd ps []) (tk : L2N.Takes X W)
    (I : Inv X pins σ H s) (r : Vals vs us) (h : sp vs H Q (WE W σ)) : wpAny (model X.prog X.w) X.A (call (.ref f) us) (EP X pins σ Q) X.xe s := by
  have hl : us.length = ps.length := r.length.symm.trans (F.len _ _ _ _ h)
  have b := hb s us I.kIn (by simpa using hl)
  rw [List.append_nil] at b
  refine wpAny_call (codeAny_mono (F.run X.A X.stack s H ⟨us, []⟩ us vs Q (WE W σ) hr hg I.env0 b r h) fun r s' hq => ?_)
  have z := after_g tk I hq
  cases r with
  | error e => exact z
  | ok fl => cases fl <;> exact z
theorem pe_g (F : FnG X.prog X.w X.K X.mg X.base k f fd ps sp) (hr : Room k X.A) (hgd : X.A.guards = some []) (hg : Gl X x) (hm : X.mg x = some (.ref f)) (hk : PySem.W.keepIn X.K (.ref f) = true) (hb : Binds X.K fd ps []) (tk : L2N.Takes X W)
    (ha : PA X (e :: es) t) (hdb : (x == ("__debug__" : Str)) = false := by decide) (he : starEach (e :: es) X.env = (false, eval e X.env) :: starEach es X.env := by rfl) (hpl : (backTo pos (starEach es X.env)).any (·.1) = false := by rfl) :
    PE X (.Call (.Name x p) (e :: es) [] pos) (tCallS sp (WE W) t) := by
  constructor
  intro pins s σ H Q I h
  refine wpAny_Call_Name_kw (ld_glob I hg hm ?_ hdb)
  exact PySem.W.callWith_K (h₀ := X.base) I.ok.mod.kin hk (thn (ha.run pos pins s σ H _ I h) fun us s1 ⟨vs, H1, I1, r, q⟩ => ⟨I1.kIn, run_g F hr hgd hb tk I1 r q⟩) he hpl
end

theorem takesN0 {X : Cx} : L2N.Takes X (fun _ _ _ _ => False) := fun _ _ ⟨_, _, _, _, _, _, _, _, _, _, _, _, _, _, _, _, z⟩ => z.elim
/-! ### what a def is worth over plain data -/
abbrev MF := List D → Sto → Out D
def spD (K : PySem.W.Frag) (n : Nat) (m : MF) : Sp := fun vs H Q E => ∃ j S ds, SR K j H S ∧ RVs K j H ds vs ∧ ds.length = n ∧ OK K j H (fun cls d _ H' => E cls d H') [] Q (m ds S)
/-- the def x of the text does what m says -/
structure DOk (P : Program) (w : World) (K : PySem.W.Frag) (mg : Str → Option Value) (base : Heap) (k : Nat) (x : Str) (n : Nat) (m : MF) : Prop where
  ex : ∃ (f : Addr) (fd : FuncData) (ps : List Str), mg x = some (.ref f) ∧ PySem.W.keepIn K (.ref f) = true ∧ Binds K fd ps [] ∧ FnG P w K mg base k f fd ps (spD K n m)
theorem DOk.mono {P : Program} {w : World} {K : PySem.W.Frag} {mg : Str → Option Value} {base : Heap} {i k : Nat} {x : Str} {n : Nat} {m : MF} (F : DOk P w K mg base i x n m) (h : i ≤ k) : DOk P w K mg base k x n m := by
  obtain ⟨f, fd, ps, a, b, c, d⟩ := F.ex
  exact ⟨f, fd, ps, a, b, c, d.mono h⟩
/-- where an operation runs -/
structure AtU (X : Cx) : Prop where
  un : X.A.units + 200 < cLine
  gd : X.A.guards = some []
/-- where a body runs, as far as calls ask -/
structure At (X : Cx) (k : Nat) : Prop where
  room : Room k X.A
  gd : X.A.guards = some []

theorem At.u {X : Cx} {k : Nat} (a : At X k) : AtU X := ⟨by have := a.room.un; omega, a.gd⟩
def eFn (n : Nat) (m : MF) (fa : AF) : EF := fun ρ S => (fa ρ S).bind fun xs S1 => if xs.length = n then m xs S1 else .no
section
variable {X : Cx} {k i : Nat} {W : WX} {x : Str} {p pos : Pos} {e : Expr} {es : List Expr} {fa : AF} {n : Nat} {m : MF}
theorem OKg.weak {K : PySem.W.Frag} {j : Pl} {H : Hp} {W W' : WX} {σ σ' : L2.St} {Q : VK} {o : Out D} (h : OK K j H W σ Q o) (hw : ∀ c d H', W c d σ H' → W' c d σ' H') : OK K j H W' σ' Q o := by
  cases o with
  | ok d S' => exact h
  | exc C w S' => exact fun j' H' c d e s r => hw c d H' (h j' H' c d e s r)
  | no => exact h
theorem ev_fn (F : DOk X.prog X.w X.K X.mg X.base i x n m) (at' : At X k) (hi : i ≤ k) (tk : L2N.Takes X W) (hg : Gl X x) (ha : EA X W (e :: es) fa) (hdb : (x == ("__debug__" : Str)) = false := by decide)
    (he : starEach (e :: es) X.env = (false, eval e X.env) :: starEach es X.env := by rfl) (hpl : (backTo pos (starEach es X.env)).any (·.1) = false := by rfl) : EV X W (.Call (.Name x p) (e :: es) [] pos) (eFn n m fa) := by
  obtain ⟨f, fd, ps, hm, hk, hb, G⟩ := F.ex
  refine pe_imp (pe_g G (at'.room.mono hi) at'.gd hg hm hk hb tk ha hdb he hpl) fun σ H Q ⟨j, ρ, S, hs, hr, q⟩ => ?_
  refine ⟨j, ρ, S, hs, hr, OKg.bind q fun j1 H1 xs vs S1 e1 s1 r1 q1 => ?_⟩
  split at q1
  · rename_i hl
    exact ⟨j1, S1, xs, s1, r1, hl, OKg.weak q1 fun _ _ _ z => z⟩
  · exact q1.elim
end
end DL

set_option Elab.async false
set_option linter.all false
set_option maxRecDepth 100000
namespace DL
open PySem PySem.Spec PyProof.Rows L2
variable [Tb]

/-! ### statements -/
inductive SO where
  | nx (ρ : Env) (S : Sto) | rt (d : D) (S : Sto) | bk (ρ : Env) (S : Sto) | ct (ρ : Env) (S : Sto) | exc (C : Addr) (w : D) (ρ : Env) (S : Sto) | no
abbrev SF := Env → Sto → SO

def OKs (K : PySem.W.Frag) (j : Pl) (H : Hp) (W : WX) (D : Ends) : SO → Prop
  | .nx ρ S => ∀ j' H' σ, Ext j H j' H' → SR K j' H' S → ER K j' H' ρ σ → D.nx σ H'
  | .bk ρ S => ∀ j' H' σ, Ext j H j' H' → SR K j' H' S → ER K j' H' ρ σ → D.bk σ H'
  | .ct ρ S => ∀ j' H' σ, Ext j H j' H' → SR K j' H' S → ER K j' H' ρ σ → D.ct σ H'
  | .rt d S => ∀ j' H' v, Ext j H j' H' → SR K j' H' S → RV K j' H' d v → D.rt v H'
  | .exc C w ρ S => ∀ j' H' σ cls dd, Ext j H j' H' → SR K j' H' S → ER K j' H' ρ σ → ExcAt K j' H' C w cls dd → W cls dd σ H'
  | .no => False

def rdS (K : PySem.W.Frag) (W : WX) (g : SF) : TS := fun D σ H => ∃ j ρ S, SR K j H S ∧ ER K j H ρ σ ∧ OKs K j H W D (g ρ S)
abbrev ES (X : Cx) (W : WX) (st : Stmt) (g : SF) : Prop := PS X st (rdS X.K W g)
abbrev ESs (X : Cx) (W : WX) (st : List Stmt) (g : SF) : Prop := PSs X st (rdS X.K W g)

def letE (fa : EF) (k : D → SF) : SF := fun ρ S => match fa ρ S with
  | .ok d S1 => k d ρ S1
  | .exc C w S1 => .exc C w ρ S1
  | .no => .no
def letB (t : BF) (k : Bool → SF) : SF := fun ρ S => match t ρ S with
  | .ok d S1 => k d ρ S1
  | .exc C w S1 => .exc C w ρ S1
  | .no => .no
def sNext : SF := fun ρ S => .nx ρ S
def sNo : SF := fun _ _ => .no
def sRet (fa : EF) : SF := letE fa fun d _ S => .rt d S
def sRetN : SF := fun _ S => .rt .non S
def sExpr (fa : EF) : SF := letE fa fun _ ρ S => .nx ρ S
def sSet (i : Nat) (fa : EF) : SF := letE fa fun d ρ S => .nx (ρ.set i (some d)) S
def sIf (t : BF) (g h : SF) : SF := letB t fun b => if b = true then g else h
def sBreak : SF := fun ρ S => .bk ρ S
def sCont : SF := fun ρ S => .ct ρ S
def sSeq (g h : SF) : SF := fun ρ S => match g ρ S with
  | .nx ρ1 S1 => h ρ1 S1
  | o => o

section
variable {K : PySem.W.Frag} {j j1 : Pl} {H H1 : Hp} {W : WX} {D D' : Ends} {S : Sto} {σ : L2.St} {ρ : Env}
theorem OKs.ext {o : SO} (h : OKs K j H W D o) (e : Ext j H j1 H1) : OKs K j1 H1 W D o := by
  cases o with
  | nx ρ S' => exact fun j' H' σ e' s r => h j' H' σ (e.trans e') s r
  | bk ρ S' => exact fun j' H' σ e' s r => h j' H' σ (e.trans e') s r
  | ct ρ S' => exact fun j' H' σ e' s r => h j' H' σ (e.trans e') s r
  | rt d S' => exact fun j' H' σ e' s r => h j' H' σ (e.trans e') s r
  | exc C w ρ S' => exact fun j' H' σ c d e' s r => h j' H' σ c d (e.trans e') s r
  | no => exact h
/-- an expression ahead of what follows -/
theorem OKs.letE {fa : EF} {k : DL.D → SF} {Q : VK} (hr : ER K j H ρ σ) (h : OKs K j H W D (letE fa k ρ S))
    (q : ∀ j1 H1 d v S1, Ext j H j1 H1 → SR K j1 H1 S1 → RV K j1 H1 d v → ER K j1 H1 ρ σ → OKs K j1 H1 W D (k d ρ S1) → Q v H1) : OK K j H W σ Q (fa ρ S) := by
  unfold DL.letE at h
  cases e : fa ρ S with
  | ok d S1 => rw [e] at h; exact fun j' H' v e' s r => q j' H' d v S1 e' s r (hr.mono e') (OKs.ext h e')
  | exc C w S1 => rw [e] at h; exact fun j' H' c d e' s x => h j' H' σ c d e' s (hr.mono e') x
  | no => rw [e] at h; exact h
theorem OKs.letB {t : BF} {k : Bool → SF} {Q : Bool → Hp → Prop} (hr : ER K j H ρ σ) (h : OKs K j H W D (letB t k ρ S))
    (q : ∀ j1 H1 b S1, Ext j H j1 H1 → SR K j1 H1 S1 → ER K j1 H1 ρ σ → OKs K j1 H1 W D (k b ρ S1) → Q b H1) : OKb K j H W σ Q (t ρ S) := by
  unfold DL.letB at h
  cases e : t ρ S with
  | ok d S1 =>
    rw [e] at h
    intro j' H' v e' s r
    cases r
    exact q j' H' d S1 e' s (hr.mono e') (OKs.ext h e')
  | exc C w S1 => rw [e] at h; exact fun j' H' c d e' s x => h j' H' σ c d e' s (hr.mono e') x
  | no => rw [e] at h; exact h
end

section
variable {X : Cx} {W : WX} {e c : Expr} {fa : EF} {t : BF} {pos : Pos} {st : Stmt} {sts sts' : List Stmt} {g h : SF}
theorem ess_nil : ESs X W [] sNext := pss_imp pss_nil fun D σ H ⟨j, ρ, S, hs, hr, q⟩ => q j H σ (.refl j H) hs hr
theorem ess_cons (h1 : ES X W st g) (h2 : ESs X W sts h) : ESs X W (st :: sts) (sSeq g h) := pss_imp (pss_cons h1 h2) fun D σ H ⟨j, ρ, S, hs, hr, q⟩ => by
  refine ⟨j, ρ, S, hs, hr, ?_⟩
  unfold sSeq at q
  cases e : g ρ S with
  | nx ρ1 S1 =>
    rw [e] at q
    exact fun j1 H1 σ1 e1 s1 r1 => ⟨j1, ρ1, S1, s1, r1, OKs.ext q e1⟩
  | _ => rw [e] at q; exact q
theorem ess_one (h1 : ES X W st g) : ESs X W [st] g := pss_one h1
theorem es_ret (he : EV X W e fa) : ES X W (.Return (some e) pos) (sRet fa) := ps_imp (ps_ret he) fun D σ H ⟨j, ρ, S, hs, hr, q⟩ =>
  ⟨j, ρ, S, hs, hr, OKs.letE hr q fun j1 H1 d v S1 e1 s1 r1 _ q1 => q1 j1 H1 v (.refl _ _) s1 r1⟩
theorem es_expr (he : EV X W e fa) (hs : swapsWith e none pos.line X.env = pure false := by rfl) : ES X W (.Expr e pos) (sExpr fa) := ps_imp (ps_expr he hs) fun D σ H ⟨j, ρ, S, hs, hr, q⟩ =>
  ⟨j, ρ, S, hs, hr, OKs.letE hr q fun j1 H1 d v S1 e1 s1 r1 hr1 q1 => q1 j1 H1 σ (.refl _ _) s1 hr1⟩
theorem es_set (i : Nat) {x : Str} {pos' : Pos} (hN : X.N.Nodup) (hi : X.N[i]? = some x) (hx : Loc X.env.scope x) (he : EV X W e fa) (hs : swapsWith e (some (.Name x pos')) pos.line X.env = pure false := by rfl) (hf : X.fn x = true ∨ X.env.scope.names.lookup x = some .local := by first | exact .inl rfl | exact .inr rfl | assumption) :
    ES X W (.Assign [.Name x pos'] e pos) (sSet i fa) := ps_imp (ps_set hN hi hx he hs hf) fun D σ H ⟨j, ρ, S, hs, hr, q⟩ =>
  ⟨j, ρ, S, hs, hr, OKs.letE hr q fun j1 H1 d v S1 e1 s1 r1 hr1 q1 => q1 j1 H1 _ (.refl _ _) s1 (hr1.set r1 i)⟩
theorem es_if {a b : List Stmt} (hc : ET X W c t) (ha : ESs X W a g) (hb : ESs X W b h) : ES X W (.If c a b pos) (sIf t g h) := ps_imp (ps_if hc ha hb) fun D σ H ⟨j, ρ, S, hs, hr, q⟩ =>
  ⟨j, ρ, S, hs, hr, OKs.letB hr q fun j1 H1 b S1 e1 s1 hr1 q1 => by
    cases b with
    | true => exact iteT ⟨j1, ρ, S1, s1, hr1, q1⟩
    | false => exact iteF ⟨j1, ρ, S1, s1, hr1, q1⟩⟩
end

/-! ### targets -/
abbrev GF := D → SF
def rdG (K : PySem.W.Frag) (T : GF) : TG := fun v σ H Q => ∃ j ρ S d, SR K j H S ∧ ER K j H ρ σ ∧ RV K j H d v ∧ ∃ ρ' S', T d ρ S = .nx ρ' S' ∧ ∀ j' H' σ', Ext j H j' H' → SR K j' H' S' → ER K j' H' ρ' σ' → Q σ' H'
abbrev EG (X : Cx) (tg : Expr) (T : GF) : Prop := PG X tg (rdG X.K T)
theorem pg_imp {X : Cx} {tg : Expr} {t t' : TG} (h : PG X tg t) (i : ∀ v σ H Q, t' v σ H Q → t v σ H Q) : PG X tg t' := ⟨fun pins s σ H v u Q I r q => h.run pins s σ H v u Q I r (i v σ H Q q)⟩
def tName (i : Nat) : GF := fun d ρ S => .nx (ρ.set i (some d)) S
def tNames : List GF → List D → SF
  | [], [] => fun ρ S => .nx ρ S
  | T :: Ts, d :: ds => sSeq (T d) (tNames Ts ds)
  | _, _ => sNo
def tTuple (Ts : List GF) : GF := fun d => match d with
  | .tup xs => tNames Ts xs
  | .pr x y => tNames Ts [x, y]
  | _ => sNo
def sAsg (fa : EF) (T : GF) : SF := letE fa fun d ρ S => match T d ρ S with
  | .nx ρ' S' => .nx ρ' S'
  | _ => .no
def rdGs (K : PySem.W.Frag) (T : List D → SF) : TGs := fun vs σ H Q => ∃ j ρ S ds, SR K j H S ∧ ER K j H ρ σ ∧ RVs K j H ds vs ∧ ∃ ρ' S', T ds ρ S = .nx ρ' S' ∧ ∀ j' H' σ', Ext j H j' H' → SR K j' H' S' → ER K j' H' ρ' σ' → Q σ' H'
theorem pgs_imp {X : Cx} {tg : List Expr} {t t' : TGs} (h : PGs X tg t) (i : ∀ v σ H Q, t' v σ H Q → t v σ H Q) : PGs X tg t' := ⟨fun pins s σ H v u Q I r q => h.run pins s σ H v u Q I r (i v σ H Q q)⟩

section
variable {X : Cx} {W : WX} {e e2 : Expr} {es : List Expr} {fa fi : EF} {T : GF} {Ts : List GF} {pos : Pos}
theorem eg_name (i : Nat) {x : Str} (hN : X.N.Nodup) (hi : X.N[i]? = some x) (hx : Loc X.env.scope x) (hf : X.fn x = true ∨ X.env.scope.names.lookup x = some .local := by first | exact .inl rfl | exact .inr rfl | assumption) : EG X (.Name x pos) (tName i) :=
  pg_imp (pg_name hN hi hx hf) fun v σ H Q ⟨j, ρ, S, d, hs, hr, rv, ρ', S', e, q⟩ => by
    cases e
    exact q j H _ (.refl _ _) hs (hr.set rv i)
theorem egs_nil : PGs X [] (rdGs X.K (tNames [])) := pgs_imp pgs_nil fun vs σ H Q ⟨j, ρ, S, ds, hs, hr, rv, ρ', S', e, q⟩ => by
  cases rv with
  | nil => cases e; exact ⟨rfl, q j H σ (.refl _ _) hs hr⟩
  | cons _ _ => cases e
theorem egs_cons (h1 : EG X e T) (h2 : PGs X es (rdGs X.K (tNames Ts))) (hs : (assignEach (e :: es) X.env).map (·.2) = assign e X.env :: (assignEach es X.env).map (·.2) := by rfl) : PGs X (e :: es) (rdGs X.K (tNames (T :: Ts))) := pgs_imp (pgs_cons h1 h2 hs) fun vs σ H Q ⟨j, ρ, S, ds, hs, hr, rv, ρ', S', e, q⟩ => by
  cases rv with
  | nil => cases e
  | @cons d v ds vs r1 r2 =>
    refine ⟨v, vs, rfl, j, ρ, S, d, hs, hr, r1, ?_⟩
    have e' : sSeq (T d) (tNames Ts ds) ρ S = .nx ρ' S' := e
    unfold sSeq at e'
    cases e1 : T d ρ S with
    | nx ρ1 S1 =>
      rw [e1] at e'
      exact ⟨ρ1, S1, rfl, fun j1 H1 σ1 x1 s1 q1 => ⟨j1, ρ1, S1, ds, s1, q1, r2.mono x1, ρ', S', e', fun j2 H2 σ2 x2 s2 q2 => q j2 H2 σ2 (x1.trans x2) s2 q2⟩⟩
    | _ => rw [e1] at e'; cases e'
theorem tNames_len : ∀ {Ts : List GF} {ds : List D} {ρ ρ' : Env} {S S' : Sto}, tNames Ts ds ρ S = .nx ρ' S' → ds.length = Ts.length
  | [], [], _, _, _, _, _ => rfl
  | [], _ :: _, _, _, _, _, h => by cases h
  | _ :: _, [], _, _, _, _, h => by cases h
  | T :: Ts, d :: ds, ρ, ρ', S, S', h => by
    have h' : sSeq (T d) (tNames Ts ds) ρ S = .nx ρ' S' := h
    unfold sSeq at h'
    cases e1 : T d ρ S with
    | nx ρ1 S1 => rw [e1] at h'; exact congrArg (· + 1) (tNames_len h')
    | _ => rw [e1] at h'; cases h'
theorem eg_tup {k : Nat} (hc : X.calm = true) (h : PGs X es (rdGs X.K (tNames Ts))) (hn : (assignEach es X.env).length = Ts.length := by rfl) (hst : (assignEach es X.env).findIdx? (·.1) = none := by rfl) : EG X (.Tuple es k pos) (tTuple Ts) :=
  pg_imp (pg_tup hc h hn hst) fun v σ H Q ⟨j, ρ, S, d, hs, hr, rv, ρ', S', e, q⟩ => by
    cases rv with
    | @tup a vs ds hq r =>
      have e' : tNames Ts ds ρ S = .nx ρ' S' := e
      exact ⟨a, vs, rfl, hq.sq, by rw [← r.length]; exact tNames_len e', j, ρ, S, ds, hs, hr, r, ρ', S', e', q⟩
    | @pr a v u x y hq r r2 =>
      have e' : tNames Ts [x, y] ρ S = .nx ρ' S' := e
      have r' : RVs X.K j H [x, y] [v, u] := .cons r (.cons r2 .nil)
      exact ⟨a, [v, u], rfl, hq, by rw [← r'.length]; exact tNames_len e', j, ρ, S, [x, y], hs, hr, r', ρ', S', e', q⟩
    | _ => cases e
theorem es_asg {tg : Expr} (he : EV X W e fa) (hg : EG X tg T) (hs : swapsWithSole [tg] e pos.line X.env = pure false := by rfl) (hw : swappedStores [tg] e X.env = pure none := by rfl)
    (h1 : (assignEach [tg] X.env).map (·.2) = [assign tg X.env] := by rfl) : ES X W (.Assign [tg] e pos) (sAsg fa T) := ps_imp (ps_asg he hg hs hw h1) fun D σ H ⟨j, ρ, S, hs, hr, q⟩ =>
  ⟨j, ρ, S, hs, hr, OKs.letE hr q fun j1 H1 d v S1 e1 s1 r1 hr1 q1 => by
    cases e2 : T d ρ S1 with
    | nx ρ2 S2 => rw [e2] at q1; exact ⟨j1, ρ, S1, d, s1, hr1, r1, ρ2, S2, e2, q1⟩
    | _ => rw [e2] at q1; exact q1.elim⟩
/-- x += e, by the operation on values -/
def sAug (i : Nat) (g : D → D → Sto → Out D) (fa : EF) : SF := letE (eBin g (eVar i) fa) fun d ρ S => .nx (ρ.set i (some d)) S
end

/-! ### what is walked -/
def lstOf (S : Sto) : D → Option (List D)
  | .lst xs => some xs
  | .frl xs => some xs
  | .ref n => match S[n]? with
    | some (.lst xs) => some xs
    | _ => none
  | _ => none
theorem lst_of {K : PySem.W.Frag} {j : Pl} {H : Hp} {S : Sto} {d : D} {v : V} {xs : List D} (s : SR K j H S) (r : RV K j H d v) (h : lstOf S d = some xs) : ∃ a vs, v = .ref a ∧ SqL K H a vs ∧ RVs K j H xs vs := by
  cases r with
  | lst h1 h2 r => cases h; exact ⟨_, _, rfl, .inl (.inl h1), r⟩
  | frl h1 r => cases h; exact ⟨_, _, rfl, h1.sql, r⟩
  | @ref n a hn =>
    simp only [lstOf] at h
    cases e : S[n]? with
    | none => rw [e] at h; cases h
    | some o =>
      rw [e] at h
      cases o with
      | lst ys =>
        cases h
        obtain ⟨vs, h1, r⟩ := s.objs n _ a e hn
        exact ⟨a, vs, rfl, .inl (.inl h1), r⟩
      | _ => cases h
  | _ => cases h
def seqOf (S : Sto) : D → Option (List D)
  | .tup xs => some xs
  | d => lstOf S d
inductive Src where
  | lst (d : D) | tup (xs : List D) | its (xs : List D) | enm (d : D) | zip (d e : D)
def pairAt (xs ys : List D) (i : Nat) : Option D := match xs[i]?, ys[i]? with
  | some x, some y => some (.pr x y)
  | _, _ => none
def Src.at' (S : Sto) (i : Nat) : Src → Option (Option D)
  | .lst d => (lstOf S d).map fun xs => xs[i]?
  | .tup xs => some xs[i]?
  | .its xs => some xs[i]?
  | .enm d => (seqOf S d).map fun xs => (xs[i]?).map fun x => .pr (.int (i : Nat)) x
  | .zip d e => match seqOf S d, seqOf S e with
    | some xs, some ys => some (pairAt xs ys i)
    | _, _ => none
def Src.len (S : Sto) : Src → Nat
  | .lst d => match lstOf S d with | some xs => xs.length | none => 0
  | .tup xs => xs.length
  | .its xs => xs.length
  | .enm d => match seqOf S d with | some xs => xs.length | none => 0
  | .zip d e => match seqOf S d, seqOf S e with
    | some xs, some ys => min xs.length ys.length
    | _, _ => 0
def YlAt (K : PySem.W.Frag) (j : Pl) (H : Hp) (S : Sto) (J : It) (i : Nat) : Option (Option D) → Prop
  | some (some x) => J.go i H ∧ ∀ v H3, J.yld i H v H3 → Ext j H j H3 ∧ SR K j H3 S ∧ RV K j H3 x v
  | some none => J.stop i H
  | none => True
def Yl (K : PySem.W.Frag) (j : Pl) (H : Hp) (J : It) (s : Src) : Prop := ∀ i j2 H2 S2, Mon j H j2 H2 → SR K j2 H2 S2 → YlAt K j2 H2 S2 J i (s.at' S2 i)
def OKi (K : PySem.W.Frag) (j : Pl) (H : Hp) (W : WX) (σ : L2.St) (R : It → Hp → Prop) : Out Src → Prop
  | .ok s S' => ∀ j' H' J, Ext j H j' H' → SR K j' H' S' → Yl K j' H' J s → R J H'
  | .exc C w S' => ∀ j' H' cls dd, Ext j H j' H' → SR K j' H' S' → ExcAt K j' H' C w cls dd → W cls dd σ H'
  | .no => False
abbrev XF := DL.Env → Sto → Out Src
def rdI (K : PySem.W.Frag) (W : WX) (fi : XF) : TI := fun σ H R => ∃ j ρ S, SR K j H S ∧ ER K j H ρ σ ∧ OKi K j H W σ R (fi ρ S)
abbrev EI (X : Cx) (W : WX) (tg iter : Expr) (fi : XF) : Prop := PI X tg iter (rdI X.K W fi)
theorem pi_imp {X : Cx} {tg e : Expr} {t t' : TI} (h : PI X tg e t) (i : ∀ σ H R, t' σ H R → t σ H R) : PI X tg e t' := ⟨fun pins s σ H R I q => h.run pins s σ H R I (i σ H R q)⟩
def xLst (fa : EF) : XF := fun ρ S => (fa ρ S).bind fun d S1 => match lstOf S1 d with
  | some _ => .ok (.lst d) S1
  | none => .no
def xTup (fa : EF) : XF := fun ρ S => (fa ρ S).bind fun d S1 => match d with
  | .tup xs => .ok (.tup xs) S1
  | _ => .no
/-- the ints from lo on, n of them -/
def intsFrom (lo : Int) (n : Nat) : List D := (List.range n).map fun (k : Nat) => D.int (lo + (k : Int))
def xRng1 (fa : AF) : XF := fun ρ S => (fa ρ S).bind fun ds S1 => match ds with
  | [.int b] => if -(2 ^ 62) ≤ b ∧ b < 2 ^ 62 then .ok (.its (intsFrom 0 b.toNat)) S1 else .no
  | _ => .no
def xRng2 (fa : AF) : XF := fun ρ S => (fa ρ S).bind fun ds S1 => match ds with
  | [.int a, .int b] => if -(2 ^ 62) ≤ a ∧ a < 2 ^ 62 ∧ -(2 ^ 62) ≤ b ∧ b < 2 ^ 62 then .ok (.its (intsFrom a (b - a).toNat)) S1 else .no
  | _ => .no
section
variable {X : Cx} {W : WX} {e tg : Expr} {es : List Expr} {fa : EF} {f : AF} {pos : Pos}
theorem OKi.ext {K : PySem.W.Frag} {j j1 : Pl} {H H1 : Hp} {σ : L2.St} {R : It → Hp → Prop} {o : Out Src} (h : OKi K j H W σ R o) (e : Ext j H j1 H1) : OKi K j1 H1 W σ R o := by
  cases o with
  | ok s S' => exact fun j' H' J e' s' y => h j' H' J (e.trans e') s' y
  | exc C w S' => exact fun j' H' c dd e' s' y => h j' H' c dd (e.trans e') s' y
  | no => exact h
theorem OKi.bind {K : PySem.W.Frag} {j : Pl} {H : Hp} {σ : L2.St} {R : It → Hp → Prop} {α β : Type} {o : Out α} {k : α → Sto → Out Src} {Rel : Pl → Hp → α → β → Prop} {Q : β → Hp → Prop} (h : OKi K j H W σ R (o.bind k))
    (q : ∀ j1 H1 d v S1, Ext j H j1 H1 → SR K j1 H1 S1 → Rel j1 H1 d v → OKi K j1 H1 W σ R (k d S1) → Q v H1) : OKg K j H W σ Rel Q o := by
  cases o with
  | ok d S1 => exact fun j1 H1 v e1 s1 r1 => q j1 H1 d v S1 e1 s1 r1 (OKi.ext h e1)
  | exc C w S' => exact h
  | no => exact h
theorem yl_lst {K : PySem.W.Frag} {j : Pl} {H : Hp} {d : D} {a : Addr} (r : RV K j H d (.ref a)) : Yl K j H (Itl K a) (.lst d) := by
  intro i j2 H2 S2 e s
  cases h : lstOf S2 d with
  | none => rw [show (Src.lst d).at' S2 i = none by simp only [Src.at', h, Option.map]]; trivial
  | some xs =>
    rw [show (Src.lst d).at' S2 i = some xs[i]? by simp only [Src.at', h, Option.map]]
    obtain ⟨b, vs, eb, hq, rs⟩ := lst_of s (r.mon e) h
    cases eb
    cases hx : xs[i]? with
    | none => exact ⟨vs, hq, by rw [← rs.length]; exact List.getElem?_eq_none_iff.mp hx⟩
    | some x =>
      obtain ⟨v, hv, rv⟩ := rs.get hx
      refine ⟨⟨vs, v, hq, hv⟩, fun v' H3 ⟨e3, hy⟩ => ?_⟩
      subst e3
      have := hy vs hq
      rw [hv] at this
      cases this
      exact ⟨.refl _ _, s, rv⟩
/-- a list, of whatever kind -/
theorem ei_lst (h : EV X W e fa) : EI X W tg e (xLst fa) := pi_imp (pi_list h) fun σ H R ⟨j, ρ, S, hs, hr, q⟩ => by
  refine ⟨j, ρ, S, hs, hr, OKi.bind q fun j1 H1 d v S1 e1 s1 r1 q1 => ?_⟩
  cases hl : lstOf S1 d with
  | none => rw [hl] at q1; exact q1.elim
  | some xs =>
    rw [hl] at q1
    obtain ⟨a, vs, ev, hq, rs⟩ := lst_of s1 r1 hl
    subst ev
    exact ⟨a, rfl, ⟨vs, hq⟩, q1 j1 H1 _ (.refl _ _) s1 (yl_lst r1)⟩
theorem yl_tup {K : PySem.W.Frag} {j : Pl} {H : Hp} {ds : List D} {a : Addr} {vs : List V} (hq : SqT K H a vs) (rs : RVs K j H ds vs) : Yl K j H (Itt K a) (.tup ds) := by
  intro i j2 H2 S2 e s
  have hq2 := e.sqt hq
  rw [show (Src.tup ds).at' S2 i = some ds[i]? from rfl]
  cases hx : ds[i]? with
  | none => exact ⟨vs, hq2, by rw [← rs.length]; exact List.getElem?_eq_none_iff.mp hx⟩
  | some x =>
    obtain ⟨v, hv, rv⟩ := rs.get hx
    refine ⟨⟨vs, v, hq2, hv⟩, fun v' H3 ⟨e3, hy⟩ => ?_⟩
    subst e3
    have := hy vs hq2
    rw [hv] at this
    cases this
    exact ⟨.refl _ _, s, rv.mon e⟩
theorem ei_tup (h : EV X W e fa) : EI X W tg e (xTup fa) := pi_imp (pi_tup h) fun σ H R ⟨j, ρ, S, hs, hr, q⟩ => by
  refine ⟨j, ρ, S, hs, hr, OKi.bind q fun j1 H1 d v S1 e1 s1 r1 q1 => ?_⟩
  cases r1 with
  | @tup a vs ds hq r => exact ⟨a, rfl, ⟨vs, hq.sq⟩, q1 j1 H1 _ (.refl _ _) s1 (yl_tup hq.sq r)⟩
  | _ => exact q1.elim
theorem yl_rng {K : PySem.W.Frag} {j : Pl} {H : Hp} {lo : Int} {n : Nat} : Yl K j H (Itr lo n) (.its (intsFrom lo n)) := by
  intro i j2 H2 S2 e s
  rw [show (Src.its (intsFrom lo n)).at' S2 i = some (intsFrom lo n)[i]? from rfl]
  unfold intsFrom
  rw [List.getElem?_map]
  by_cases hi : i < n
  · rw [List.getElem?_range hi]
    exact ⟨hi, fun v H3 ⟨e3, e4⟩ => by subst e3; subst e4; exact ⟨.refl _ _, s, .int _⟩⟩
  · rw [List.getElem?_eq_none_iff.mpr (by simpa using hi)]
    exact Nat.le_of_not_lt hi
theorem ei_rng1 {p : Pos} (hm : X.mg "range" = none) (hg : Gl X "range") (ha : EA X W [e] f) (hs : starEach [e] X.env = [(false, eval e X.env)] := by rfl) : EI X W tg (.Call (.Name "range" p) [e] [] pos) (xRng1 f) :=
  pi_imp (pi_range1 hg hm ha hs) fun σ H R ⟨j, ρ, S, hs, hr, q⟩ => by
    refine ⟨j, ρ, S, hs, hr, OKi.bind q fun j1 H1 d v S1 e1 s1 r1 q1 => ?_⟩
    cases r1 with
    | nil => exact q1.elim
    | cons r1 r2 =>
      cases r2 with
      | nil =>
        cases r1 with
        | int b =>
          simp only at q1
          split at q1
          · rename_i hb
            exact ⟨b, rfl, hb.1, hb.2, q1 j1 H1 _ (.refl _ _) s1 yl_rng⟩
          · exact q1.elim
        | _ => exact q1.elim
      | cons _ _ => cases r1 <;> exact q1.elim
end
end DL

set_option Elab.async false
set_option linter.all false
set_option maxRecDepth 100000
namespace DL
open PySem PySem.Spec PyProof.Rows L2
variable [Tb]

/-! ### a list in the making -/
section
variable {K : PySem.W.Frag} {j j1 j2 j3 : Pl} {H H1 H2 H3 : Hp} {S : Sto} {p : Addr} {b1 : List Addr} {l : List Addr}
theorem wr_mon {vs : List V} {o : HO} (hp : H p = some (.lst vs)) (hb : p ∈ j.b) : Mon j H j (upd H p o) :=
  ⟨⟨[], by simp⟩, fun b u h n _ => by
    have : b ≠ p := by
      rintro rfl
      rcases n with n | n
      · exact n.2 hb
      · rw [hp] at h; cases h; exact n
    rw [upd_ne this]; exact h, fun _ h h' => absurd h' h.1, fun _ h => .inl h⟩
theorem SR.wr (s : SR K j H S) {vs : List V} {o : HO} (hp : H p = some (.lst vs)) (hb : p ∈ j.b) (hn : p ∉ j.l) (no : NoCode p o) : SR K j (upd H p o) S :=
  ⟨s.len, s.nd, fun i u a h h' => (s.objs i u a h h').keep (wr_mon hp hb) fun u h => by
    have : a ≠ p := by
      rintro rfl
      exact hn (List.mem_of_getElem? h')
    rw [upd_ne this]; exact h, fun a h => by
    by_cases e : a = p
    · subst e; exact ⟨o, upd_same, no⟩
    · obtain ⟨u, e', n⟩ := s.bb a h
      exact ⟨u, by rw [upd_ne e]; exact e', n⟩, s.lb, tabs_upd s.tabs fun u z => by rw [hp] at z; cases z; exact noCode_of (fun _ z => nomatch z) (fun _ z => nomatch z)⟩
theorem ext_beside {o : HO} (e : Ext j1 H1 j H) (hp : H1 p = none) : Ext j1 H1 j (upd H p o) :=
  .mk' e.pre e.same (fun b u h n z => by rw [upd_ne (ne_of_none h hp)]; exact e.keep' b u h n z) e.outB fun b u h => by
    obtain ⟨o', h'⟩ := e.there b u h
    exact ⟨o', by rw [upd_ne (ne_of_none h hp)]; exact h'⟩
theorem ext_unb (e : Ext j2 H2 j3 H3) : Ext ⟨j2.l, b1⟩ H2 ⟨j3.l, b1⟩ H3 := .mk' e.pre rfl (fun b u h n z => e.keep' b u h n z) e.outB e.there
theorem mon_unb (hb : j.b = p :: b1) : Mon j H ⟨j.l, b1⟩ H :=
  ⟨⟨[], by simp⟩, fun _ _ h _ _ => h, fun _ h h' => absurd h' h.1, fun a h => .inl (by rw [hb]; exact List.mem_cons_of_mem _ h)⟩
theorem mon_blk (e : Ext j1 H1 ⟨j2.l, j1.b⟩ H2) (hb : j2.b = p :: j1.b) (hp : H1 p = none) : Mon j1 H1 j2 H2 :=
  ⟨e.pre, e.keep, e.out, fun a h => by
    rw [hb] at h
    rcases List.mem_cons.mp h with rfl | h
    · exact .inr hp
    · exact .inl h⟩
theorem SR.unb (s : SR K j H S) (hb : j.b = p :: b1) : SR K ⟨j.l, b1⟩ H S :=
  ⟨s.len, s.nd, fun i u a h h' => (s.objs i u a h h').keep (mon_unb hb) fun _ h => h, fun a h => s.bb a (by rw [hb]; exact List.mem_cons_of_mem _ h), fun a h z => s.lb a h (by rw [hb]; exact List.mem_cons_of_mem _ z), s.tabs⟩
theorem SR.blk (s : SR K j H S) {o : HO} (hp : H p = none) (no : NoCode p o) : SR K ⟨j.l, p :: j.b⟩ (upd H p o) S :=
  ⟨s.len, s.nd, fun i u a h h' => (s.objs i u a h h').keep (mon_blk (j2 := ⟨j.l, p :: j.b⟩) (ext_new hp) rfl hp) fun u h => by rw [upd_ne (ne_of_none h hp)]; exact h, fun a h => by
    rcases List.mem_cons.mp h with rfl | h
    · exact ⟨o, upd_same, no⟩
    · obtain ⟨u, e, n⟩ := s.bb a h
      exact ⟨u, by rw [upd_ne (ne_of_none e hp)]; exact e, n⟩, fun a h z => by
    rcases List.mem_cons.mp z with rfl | z
    · exact s.fresh hp h
    · exact s.lb a h z, tabs_new s.tabs hp⟩
end

/-! ### list comprehensions -/
/-- a comprehension's target: a name's slot, or the slots of several names -/
inductive CT where
  | one (i : Nat) | tup (is : List Nat)
def putAll : List Nat → List D → Env → Option Env
  | [], [], ρ => some ρ
  | i :: is, d :: ds, ρ => putAll is ds (ρ.set i (some d))
  | _, _, _ => none
def CT.put : CT → D → Env → Option Env
  | .one i, d, ρ => some (ρ.set i (some d))
  | .tup is, .tup ds, ρ => putAll is ds ρ
  | .tup is, .pr x y, ρ => putAll is [x, y] ρ
  | .tup _, _, _ => none
def gNames : List Nat → TGs
  | [] => gNil
  | i :: is => gCons (gName i) (gNames is)
def CT.g (K : PySem.W.Frag) : CT → TG
  | .one i => gName i
  | .tup is => gTup K is.length (gNames is)
def CT.is : CT → List Nat
  | .one i => [i]
  | .tup is => is
theorem pgs_names {X : Cx} {e : Expr} {es : List Expr} {i : Nat} {is : List Nat} (h1 : PG X e (gName i)) (h2 : PGs X es (gNames is)) (hs : (assignEach (e :: es) X.env).map (·.2) = assign e X.env :: (assignEach es X.env).map (·.2) := by rfl) : PGs X (e :: es) (gNames (i :: is)) := pgs_cons h1 h2 hs
theorem ct_one {X : Cx} {e : Expr} {i : Nat} (h : PG X e (gName i)) : PG X e ((CT.one i).g X.K) := h
theorem ct_tup {X : Cx} {es : List Expr} {is : List Nat} {k : Nat} {pos : Pos} (hc : X.calm = true) (h : PGs X es (gNames is)) (hn : (assignEach es X.env).length = is.length := by rfl) (hst : (assignEach es X.env).findIdx? (·.1) = none := by rfl) : PG X (.Tuple es k pos) ((CT.tup is).g X.K) := pg_tup hc h hn hst

def wipeE (ρ : Env) : List Nat → Env
  | [] => ρ
  | v :: vs => (wipeE ρ vs).set v none
theorem ER.wipe {K : PySem.W.Frag} {j : Pl} {H : Hp} {ρ : Env} {σ : L2.St} (r : ER K j H ρ σ) : ∀ vs : List Nat, ER K j H (wipeE ρ vs) (L2.wipe σ vs)
  | [] => r
  | v :: vs => (ER.wipe r vs).gone v
theorem wipe_at {vs : List Nat} : ∀ {σ : L2.St} {i : Nat}, i ∈ vs → i < σ.length → (L2.wipe σ vs)[i]? = some none := by
  induction vs with
  | nil => intro _ _ h; cases h
  | cons v vs ih =>
    intro σ i h hl
    show ((L2.wipe σ vs).set v none)[i]? = some none
    by_cases e : v = i
    · subst e
      exact List.getElem?_set_self (by rw [wipe_length]; exact hl)
    · rw [List.getElem?_set_ne e]
      exact ih ((List.mem_cons.mp h).resolve_left fun z => e z.symm) hl
theorem wipe_ne {vs : List Nat} : ∀ {σ : L2.St} {i : Nat}, i ∉ vs → (L2.wipe σ vs)[i]? = σ[i]? := by
  induction vs with
  | nil => intro _ _ _; rfl
  | cons v vs ih =>
    intro σ i h
    show ((L2.wipe σ vs).set v none)[i]? = σ[i]?
    rw [List.getElem?_set_ne fun z => h (by rw [← z]; exact List.mem_cons_self)]
    exact ih fun z => h (List.mem_cons_of_mem _ z)
theorem wipe_eq {vs : List Nat} {σ τ : L2.St} (hl : τ.length = σ.length) (h : ∀ i, i ∉ vs → τ[i]? = σ[i]?) : L2.wipe τ vs = L2.wipe σ vs := by
  apply List.ext_getElem?
  intro i
  by_cases hi : i ∈ vs
  · by_cases hlt : i < σ.length
    · rw [wipe_at hi hlt, wipe_at hi (by rw [hl]; exact hlt)]
    · rw [List.getElem?_eq_none_iff.mpr (by rw [wipe_length, hl]; omega), List.getElem?_eq_none_iff.mpr (by rw [wipe_length]; omega)]
  · rw [wipe_ne hi, wipe_ne hi, h i hi]
theorem wipe_wipe (σ : L2.St) (vs : List Nat) : L2.wipe (L2.wipe σ vs) vs = L2.wipe σ vs := wipe_eq (wipe_length σ vs) fun i h => wipe_ne h
theorem ct_put {K : PySem.W.Frag} {j : Pl} {H : Hp} {own : List Nat} {c : CT} (hi : ∀ i ∈ c.is, i ∈ own) {d : D} {v : V} {ρ ρ' : Env} {σ : L2.St} {Q : L2.St → Hp → Prop} (r : ER K j H ρ σ) (rv : RV K j H d v) (h : c.put d ρ = some ρ')
    (q : ∀ σ', ER K j H ρ' σ' → L2.wipe σ' own = L2.wipe σ own → Q σ' H) : c.g K v σ H Q := by
  cases c with
  | one i =>
    cases h
    exact q _ (r.set rv i) (wipe_eq (by rw [List.length_set]) fun k hk => List.getElem?_set_ne fun z => hk (by rw [← z]; exact hi i (List.mem_singleton.mpr rfl)))
  | tup is =>
    have main : ∀ (ds : List D) (a : Addr) (vs : List V), v = .ref a → SqT K H a vs → RVs K j H ds vs → putAll is ds ρ = some ρ' → (CT.tup is).g K v σ H Q := by
      intro ds a vs ev hq rs h'
      subst ev
      have hl : ∀ (is : List Nat) (ds : List D) (ρ : Env), putAll is ds ρ = some ρ' → ds.length = is.length := by
        intro is
        induction is with
        | nil => intro ds ρ h; cases ds with
          | nil => rfl
          | cons _ _ => cases h
        | cons i is ih => intro ds ρ h; cases ds with
          | nil => cases h
          | cons d ds => exact congrArg (· + 1) (ih ds _ h)
      refine ⟨a, vs, rfl, hq, by rw [← rs.length]; exact hl is ds ρ h', ?_⟩
      have go : ∀ (is : List Nat) (ds : List D) (vs : List V) (ρ : Env) (σ1 : L2.St), (∀ i ∈ is, i ∈ own) → RVs K j H ds vs → putAll is ds ρ = some ρ' → ER K j H ρ σ1 → L2.wipe σ1 own = L2.wipe σ own → gNames is vs σ1 H Q := by
        intro is
        induction is with
        | nil =>
          intro ds vs ρ σ1 _ rs h r w
          cases rs with
          | nil => cases h; exact ⟨rfl, q σ1 r w⟩
          | cons _ _ => cases h
        | cons i is ih =>
          intro ds vs ρ σ1 hi rs h r w
          cases rs with
          | nil => cases h
          | @cons d v ds vs r1 r2 =>
            refine ⟨v, vs, rfl, ih ds vs _ _ (fun k hk => hi k (List.mem_cons_of_mem _ hk)) r2 h (r.set r1 i) ?_⟩
            rw [← w]
            exact wipe_eq (by rw [List.length_set]) fun k hk => List.getElem?_set_ne fun z => hk (by rw [← z]; exact hi i List.mem_cons_self)
      exact go is ds vs ρ σ hi rs h' r rfl
    cases d with
    | tup ds =>
      cases rv with
      | @tup a vs _ hq rs => exact main ds a vs rfl hq.sq rs h
    | pr x y =>
      cases rv with
      | @pr a v u _ _ hq r1 r2 => exact main [x, y] a [v, u] rfl hq (.cons r1 (.cons r2 .nil)) h
    | _ => cases h

def compL (src : Src) (own : List Nat) (c : CT) (t : BF) (fe : EF) (ρ : Env) : Nat → Nat → List D → Sto → Out (List D)
  | 0, _, _, _ => .no
  | f + 1, i, acc, S => match src.at' S i with
    | some (some x) => match c.put x (wipeE ρ own) with
      | some ρ2 => match t ρ2 S with
        | .ok true S2 => match fe ρ2 S2 with
          | .ok y S3 => if acc.length < 16777216 then compL src own c t fe ρ f (i + 1) (acc ++ [y]) S3 else .no
          | _ => .no
        | .ok false S2 => compL src own c t fe ρ f (i + 1) acc S2
        | _ => .no
      | none => .no
    | some none => .ok acc S
    | none => .no
def eComp (fi : XF) (own : List Nat) (c : CT) (t : BF) (fe : EF) : EF := fun ρ S => (fi ρ S).bind fun src S1 => (compL src own c t fe ρ (src.len S1 + 1) 0 [] S1).bind fun ds S2 => .ok (.lst ds) S2
def eCompM (fi : XF) (own : List Nat) (c : CT) (t : BF) (fe : EF) : EF := fun ρ S => (fi ρ S).bind fun src S1 => (compL src own c t fe ρ (src.len S1 + 1) 0 [] S1).bind fun ds S2 => .ok (.ref S2.length) (S2 ++ [.lst ds])
abbrev W0 : WX := fun _ _ _ _ => False
def bTrue : BF := fun _ S => .ok true S
abbrev ETs (X : Cx) (ifs : List Expr) (t : BF) : Prop := PTs X ifs (rdB X.K W0 t)
theorem pts_imp {X : Cx} {ifs : List Expr} {t t' : TT} (h : PTs X ifs t) (i : ∀ σ H Q, t' σ H Q → t σ H Q) : PTs X ifs t' := ⟨fun pins s σ H Q I q => h.run pins s σ H Q I (i σ H Q q)⟩
theorem ets_nil {X : Cx} : ETs X [] bTrue := pts_imp pts_nil fun σ H Q ⟨j, ρ, S, hs, hr, q⟩ => q j H true (.refl _ _) hs rfl
/-- what is left to do behind a comprehension's loop -/
def FinOk (K : PySem.W.Frag) (kfin : List D → Sto → Out D) : Prop := ∀ (j j2 : Pl) (H H2 : Hp) (W : WX) (σ : L2.St) (Q : VK) (p : Addr) (ds : List D) (vs : List V) (S : Sto), Ext j H ⟨j2.l, j.b⟩ H2 → j2.b = p :: j.b → SR K j2 H2 S → H p = none → p ∉ j2.l → H2 p = some (.lst vs) → j.no p →
  RVs K j2 H2 ds vs → OK K j H W σ Q (kfin ds S) → Q (.ref p) H2
theorem fin_v {K : PySem.W.Frag} : FinOk K fun ds S => .ok (.lst ds) S := fun j j2 H H2 W σ Q p ds vs S e eb s hp n h2 no r q => q _ H2 _ e (s.unb eb) (.lst h2 ⟨n, no.2⟩ (r.mon (mon_unb eb)))
abbrev fComp (fi : XF) (own : List Nat) (c : CT) (t : BF) (fe : EF) (kfin : List D → Sto → Out D) : EF := fun ρ S => (fi ρ S).bind fun src S1 => (compL src own c t fe ρ (src.len S1 + 1) 0 [] S1).bind kfin
theorem rd_lc {X : Cx} {W : WX} {own : List (Str × Nat)} {fi : XF} {c : CT} {t : BF} {fe : EF} {kfin : List D → Sto → Out D} (hk : FinOk X.K kfin) (ho : ∀ i ∈ c.is, i ∈ own.map (·.2)) (σ : L2.St) (H : Hp) (Q : VK)
    (h : rd X.K W (fComp fi (own.map (·.2)) c t fe kfin) σ H Q) : tLc (rdI X.K W fi) (c.g X.K) (rdB X.K W0 t) (rd X.K W0 fe) (own.map (·.2)) σ H Q := by
  obtain ⟨j, ρ, S, hs, hr, q⟩ := h
  refine ⟨j, ρ, S, hs, hr, ?_⟩
  replace q : OK X.K j H W σ Q ((fi ρ S).bind fun src S1 => (compL src (own.map (·.2)) c t fe ρ (src.len S1 + 1) 0 [] S1).bind kfin) := q
  cases e0 : fi ρ S with
  | no => rw [e0] at q; exact q.elim
  | exc C w S' => rw [e0] at q; exact q
  | ok src S1 =>
  rw [e0] at q
  intro j1 H1 J e1 s1 yl p hp
  have q1 : OK X.K j1 H1 W σ Q ((compL src (own.map (·.2)) c t fe ρ (src.len S1 + 1) 0 [] S1).bind kfin) := OKg.ext q e1
  have r1 := hr.mono e1
  refine ⟨fun i m H2 => ∃ j2 S2 acc vs, Ext j1 H1 ⟨j2.l, j1.b⟩ H2 ∧ j2.b = p :: j1.b ∧ p ∉ j2.l ∧ SR X.K j2 H2 S2 ∧ H2 p = some (.lst vs) ∧ RVs X.K j2 H2 acc vs ∧ OK X.K j1 H1 W σ Q ((compL src (own.map (·.2)) c t fe ρ (m + 1) i acc S2).bind kfin),
    ⟨src.len S1, ⟨j1.l, p :: j1.b⟩, S1, [], [], ext_new hp, rfl, s1.fresh hp, s1.blk hp (noCode_of (fun _ z => nomatch z) (fun _ z => nomatch z)), upd_same, .nil, q1⟩, fun i m H2 => ?_⟩
  rintro ⟨j2, S2, acc, vs, e2, eb, np, s2, hp2, ra, q2⟩
  have m2 : Mon j1 H1 j2 H2 := mon_blk e2 eb hp
  have y := yl i j2 H2 S2 m2 s2
  simp only [compL] at q2
  cases ea : src.at' S2 i with
  | none => rw [ea] at q2; exact q2.elim
  | some o =>
  rw [ea] at y q2
  cases o with
  | none => exact .inl ⟨y, hk j1 j2 H1 H2 W σ Q p acc vs S2 e2 eb s2 hp np hp2 (s1.free hp) ra q2⟩
  | some x =>
  refine .inr ⟨y.1, ?_⟩
  simp only at q2
  cases ep : c.put x (wipeE ρ (own.map (·.2))) with
  | none => rw [ep] at q2; exact q2.elim
  | some ρ2 =>
  rw [ep] at q2
  simp only at q2
  refine ⟨fun H' => ∃ m', m' < m ∧ ∃ j2 S2 acc vs, Ext j1 H1 ⟨j2.l, j1.b⟩ H' ∧ j2.b = p :: j1.b ∧ p ∉ j2.l ∧ SR X.K j2 H' S2 ∧ H' p = some (.lst vs) ∧ RVs X.K j2 H' acc vs ∧ OK X.K j1 H1 W σ Q ((compL src (own.map (·.2)) c t fe ρ (m' + 1) (i + 1) acc S2).bind kfin), fun H' z => z, fun v H3 hy => ?_⟩
  obtain ⟨e3, s3, rx⟩ := y.2 v H3 hy
  have m3 : Mon j1 H1 j2 H3 := ⟨m2.pre, fun b o h n z => e3.keep' b o (m2.keep b o h n z) (by
      rcases n with n | n
      · exact .inl (m2.nin n h).1
      · exact .inr n) z, m2.out, m2.blk⟩
  refine ct_put ho ((r1.mon m3).wipe _) rx ep fun σ2 r2 w2 => ?_
  refine ⟨w2.trans (wipe_wipe σ _), ?_⟩
  have e13 : Ext j1 H1 ⟨j2.l, j1.b⟩ H3 := e2.trans (ext_unb e3)
  refine ⟨j2, ρ2, S2, s3, r2, ?_⟩
  cases et : t ρ2 S2 with
  | no => rw [et] at q2; exact q2.elim
  | exc _ _ _ => rw [et] at q2; exact q2.elim
  | ok b S4 =>
  rw [et] at q2
  intro j4 H4 b' e4 s4 eb'
  subst eb'
  have b4 : j4.b = p :: j1.b := e4.same.trans eb
  have hp3 : H3 p = some (.lst vs) := e3.keepB p _ hp2 np (fun _ z => nomatch z)
  have hp4 : H4 p = some (.lst vs) := e4.keepB p _ hp3 np (fun _ z => nomatch z)
  have np4 : p ∉ j4.l := fun z => by
    have := e4.outB p np z
    rw [hp3] at this; cases this
  have e14 : Ext j1 H1 ⟨j4.l, j1.b⟩ H4 := e13.trans (ext_unb e4)
  cases b with
  | false =>
    refine iteF ?_
    cases m with
    | zero => exact (show False from q2).elim
    | succ m => exact ⟨m, Nat.lt_succ_self m, j4, S4, acc, vs, e14, b4, np4, s4, hp4, (ra.mono e3).mono e4, q2⟩
  | true =>
    refine iteT ⟨j4, ρ2, S4, s4, r2.mono e4, ?_⟩
    simp only at q2
    cases ef : fe ρ2 S4 with
    | no => rw [ef] at q2; exact q2.elim
    | exc _ _ _ => rw [ef] at q2; exact q2.elim
    | ok y5 S5 =>
    rw [ef] at q2
    simp only at q2
    intro j5 H5 v5 e5 s5 r5
    have hp5 : H5 p = some (.lst vs) := e5.keepB p _ hp4 np4 (fun _ z => nomatch z)
    have np5 : p ∉ j5.l := fun z => by
      have := e5.outB p np4 z
      rw [hp4] at this; cases this
    have b5 : j5.b = p :: j1.b := e5.same.trans b4
    have pb5 : p ∈ j5.b := by rw [b5]; exact List.mem_cons_self
    split at q2
    · rename_i hl
      have ra5 : RVs X.K j5 H5 acc vs := ((ra.mono e3).mono e4).mono e5
      refine ⟨vs, hp5, by rw [← ra5.length, sizeLine_eq]; exact hl, ?_⟩
      cases m with
      | zero => exact (show False from q2).elim
      | succ m =>
        refine ⟨m, Nat.lt_succ_self m, j5, S5, acc ++ [y5], vs ++ [v5], ext_beside (e14.trans (ext_unb e5)) hp, b5, np5, s5.wr hp5 pb5 np5 (noCode_of (fun _ z => nomatch z) (fun _ z => nomatch z)), upd_same, ?_, q2⟩
        exact (ra5.append (.cons r5 .nil)).mon (wr_mon hp5 pb5)
    · exact q2.elim

section
variable {X : Cx} {W : WX} {elt tg iter : Expr} {ifs : List Expr} {scope : Scope} {own : List (Str × Nat)} {pos : Pos} {fi : XF} {c : CT} {t : BF} {fe : EF} {kfin : List D → Sto → Out D}
theorem ev_lc (own : List (Str × Nat)) (c : CT) (hk : FinOk X.K kfin) (hc : X.calm = true) (hN : X.N.Nodup) (ok : BlkOk X.N X.env.scope scope own) (hi : EI X W tg iter fi)
    (hg : ∀ (s : Shared) (H : Hp) (C : Addr) (cl : List (Str × Addr)) (fp : List Addr), PG (X.blk s H scope (compEnvC scope cl C X.env) fp) tg (c.g X.K)) (ho : ∀ i ∈ c.is, i ∈ own.map (·.2))
    (ht : ∀ (s : Shared) (H : Hp) (C : Addr) (cl : List (Str × Addr)) (fp : List Addr), ETs (X.blk s H scope (compEnvC scope cl C X.env) fp) ifs t)
    (he : ∀ (s : Shared) (H : Hp) (C : Addr) (cl : List (Str × Addr)) (fp : List Addr), EV (X.blk s H scope (compEnvC scope cl C X.env) fp) W0 elt fe) (hs : ∀ x, foldedSetIterable iter X.env x = pure x := by intro _; rfl) :
    EV X W (.ListComp elt [⟨tg, iter, ifs, 0⟩] scope pos) (fComp fi (own.map (·.2)) c t fe kfin) := pe_imp (pe_lc (tt := rdB X.K W0 t) (te := rd X.K W0 fe) hc hN hi ok hg ht he hs) (rd_lc hk ho)
end
/-- a, b = x, y -/
def sPar (i k : Nat) (fa : AF) : SF := fun ρ S => match fa ρ S with
  | .ok [a, b] S1 => .nx ((ρ.set i (some a)).set k (some b)) S1
  | .exc C w S1 => .exc C w ρ S1
  | _ => .no
theorem es_par {X : Cx} {W : WX} {f : AF} (i k : Nat) {x y : Str} {a b : Expr} {px py pt pos : Pos} {kt k2 pt2} (hc : X.calm = true) (hN : X.N.Nodup) (hi : X.N[i]? = some x) (hj : X.N[k]? = some y) (hij : i ≠ k)
    (hx : X.env.scope.names.lookup x = some .local) (hy : X.env.scope.names.lookup y = some .local) (ha : EA X W [a, b] f)
    (hw : swappedStores [.Tuple [.Name x px, .Name y py] kt pt] (.Tuple [a, b] k2 pt2) X.env = pure (some [x, y]))
    (hs : swapsWithSole [.Tuple [.Name x px, .Name y py] kt pt] (.Tuple [a, b] k2 pt2) pos.line X.env = pure false := by rfl) :
    ES X W (.Assign [.Tuple [.Name x px, .Name y py] kt pt] (.Tuple [a, b] k2 pt2) pos) (sPar i k f) := ps_imp (ps_par hc hN hi hj hij hx hy ha hw hs) fun D σ H ⟨j, ρ, S, hs, hr, q⟩ => by
  refine ⟨j, ρ, S, hs, hr, ?_⟩
  unfold sPar at q
  cases e : f ρ S with
  | no => rw [e] at q; exact q
  | exc C w S1 => rw [e] at q; exact fun j' H' c d e' s x => q j' H' σ c d e' s (hr.mono e') x
  | ok ds S1 =>
    rw [e] at q
    intro j1 H1 vs e1 s1 r1
    match ds, vs, r1, q with
    | [d1, d2], _, .cons r1 (.cons r2 .nil), q => exact ⟨_, _, rfl, q j1 H1 _ e1 s1 (((hr.mono e1).set r1 i).set r2 k)⟩
end DL

set_option Elab.async false
set_option linter.all false
set_option maxRecDepth 100000
namespace DL
open PySem PySem.Spec PyProof.Rows L2
variable [Tb]

/-! ### loops -/
/-- behind a loop's body -/
def SO.turn (o : SO) (k : SF) : SO := match o with
  | .nx ρ S => k ρ S
  | .ct ρ S => k ρ S
  | .bk ρ S => .nx ρ S
  | .rt d S => .rt d S
  | .exc C w ρ S => .exc C w ρ S
  | .no => .no
def forL (src : Src) (T : GF) (body : SF) : Nat → Nat → SF
  | 0, _ => sNo
  | f + 1, i => fun ρ S => match src.at' S i with
    | some (some x) => match T x ρ S with
      | .nx ρ1 S1 => (body ρ1 S1).turn (forL src T body f (i + 1))
      | _ => .no
    | some none => .nx ρ S
    | none => .no
def sFor (fi : XF) (T : GF) (body : SF) : SF := fun ρ S => match fi ρ S with
  | .ok src S1 => forL src T body (src.len S1 + 1) 0 ρ S1
  | .exc C w S1 => .exc C w ρ S1
  | .no => .no
def whileL (t : BF) (body : SF) : Nat → SF
  | 0 => sNo
  | f + 1 => letB t fun b => if b = true then fun ρ S => (body ρ S).turn (whileL t body f) else sNext
def sWhile (n : Env → Sto → Nat) (t : BF) (body : SF) : SF := fun ρ S => whileL t body (n ρ S) ρ S

section
variable {X : Cx} {W : WX} {tg iter c : Expr} {body : List Stmt} {fi : XF} {T : GF} {g : SF} {t : BF} {pos : Pos}
theorem turn_ok {K : PySem.W.Frag} {j : Pl} {H : Hp} {W : WX} {D : Ends} {o : SO} {k : SF} {N : L2.St → Hp → Prop} (h : OKs K j H W D (o.turn k))
    (q : ∀ j' H' ρ S σ, Ext j H j' H' → SR K j' H' S → ER K j' H' ρ σ → OKs K j' H' W D (k ρ S) → N σ H') : OKs K j H W { D with nx := N, ct := N, bk := D.nx } o := by
  cases o with
  | nx ρ S => exact fun j' H' σ e s r => q j' H' ρ S σ e s r (OKs.ext h e)
  | ct ρ S => exact fun j' H' σ e s r => q j' H' ρ S σ e s r (OKs.ext h e)
  | bk ρ S => exact h
  | rt d S => exact h
  | exc C w ρ S => exact h
  | no => exact h
theorem es_for (hp : PassesOwn (model X.prog X.w) X.A X.env X.xe) (hc : X.calm = true) (hi : EI X W tg iter fi) (hg : EG X tg T) (hb : ESs X W body g)
    (hs : ∀ x, foldedSetIterable iter X.env x = pure x := by intro _; rfl) : ES X W (.For tg iter body [] pos) (sFor fi T g) := ps_imp (ps_for hp hc hi hg hb hs) fun D σ H ⟨j, ρ, S, hs, hr, q⟩ => by
  refine ⟨j, ρ, S, hs, hr, ?_⟩
  unfold sFor at q
  cases e0 : fi ρ S with
  | no => rw [e0] at q; exact q.elim
  | exc C w S' => rw [e0] at q; exact fun j' H' cls dd e s x => q j' H' σ cls dd e s (hr.mono e) x
  | ok src S1 =>
  rw [e0] at q
  intro j1 H1 J e1 s1 yl
  refine ⟨fun i m σ H => ∃ j2 ρ2 S2, Ext j1 H1 j2 H ∧ SR X.K j2 H S2 ∧ ER X.K j2 H ρ2 σ ∧ OKs X.K j2 H W D (forL src T g (m + 1) i ρ2 S2), ⟨src.len S1, j1, ρ, S1, .refl _ _, s1, hr.mono e1, OKs.ext q e1⟩, fun i m σ2 H2 => ?_⟩
  rintro ⟨j2, ρ2, S2, e2, s2, r2, q2⟩
  have y := yl i j2 H2 S2 e2.toMon s2
  simp only [forL] at q2
  cases ea : src.at' S2 i with
  | none => rw [ea] at q2; exact q2.elim
  | some o =>
  rw [ea] at y q2
  cases o with
  | none => exact .inl ⟨y, q2 j2 H2 σ2 (.refl _ _) s2 r2⟩
  | some x =>
  refine .inr ⟨y.1, fun σ' H' => ∃ m', m' < m ∧ ∃ j2 ρ2 S2, Ext j1 H1 j2 H' ∧ SR X.K j2 H' S2 ∧ ER X.K j2 H' ρ2 σ' ∧ OKs X.K j2 H' W D (forL src T g (m' + 1) (i + 1) ρ2 S2), fun σ' H' z => z, fun v H3 hy => ?_⟩
  obtain ⟨e3, s3, rx⟩ := y.2 v H3 hy
  simp only at q2
  cases et : T x ρ2 S2 with
  | nx ρ4 S4 =>
    rw [et] at q2
    refine ⟨j2, ρ2, S2, x, s3, r2.mono e3, rx, ρ4, S4, et, fun j4 H4 σ4 e4 s4 r4 => ?_⟩
    refine ⟨j4, ρ4, S4, s4, r4, turn_ok (OKs.ext q2 (e3.trans e4)) fun j5 H5 ρ5 S5 σ5 e5 s5 r5 q5 => ?_⟩
    cases m with
    | zero => exact (show False from q5).elim
    | succ m => exact ⟨m, Nat.lt_succ_self m, j5, ρ5, S5, ((e2.trans e3).trans e4).trans e5, s5, r5, q5⟩
  | _ => rw [et] at q2; exact q2.elim
end
end DL

set_option Elab.async false
set_option linter.all false
set_option maxRecDepth 100000
namespace DL
open PySem PySem.Spec PyProof.Rows L2
variable [Tb]

/-! ### a def's end: what is left of its own things falls away -/
mutual
def D.closed (n : Nat) : D → Bool
  | .tup xs => D.closeds n xs
  | .lst xs => D.closeds n xs
  | .frl xs => D.closeds n xs
  | .ref k => decide (k < n)
  | .exc _ _ _ w => w.closed n
  | .pr x y => x.closed n && y.closed n
  | _ => true
def D.closeds (n : Nat) : List D → Bool
  | [] => true
  | d :: ds => d.closed n && D.closeds n ds
end
def MO.closed (n : Nat) : MO → Bool
  | .lst xs => D.closeds n xs
  | .ins _ fs => fs.all fun p => p.2.closed n
  | .dk kvs => kvs.all fun p => p.2.closed n
  | .clo _ ws => D.closeds n ws
  | .dead => true
  | .dkz kvs => kvs.all fun p => p.2.closed n
  | .dt kvs => kvs.all fun p => p.2.closed n
def frzD (S : Sto) (n : Nat) (d : D) : Option D := match d with
  | .ref k => if k < n then some (.ref k) else match S[k]? with
    | some (.lst xs) => if D.closeds n xs = true then some (.lst xs) else none
    | _ => none
  | d => if d.closed n = true then some d else none
def Drop (S0 S : Sto) : Prop := S0.length ≤ S.length ∧ ∀ i, i < S0.length → S[i]? = S0[i]? ∨ ∃ o, S[i]? = some o ∧ o.closed S0.length = true
open Classical in
noncomputable def cut (S0 : Sto) (d : D) (S : Sto) : Out D := if Drop S0 S then match frzD S S0.length d with
  | some d' => .ok d' (S.take S0.length)
  | none => .ok d S
  else .ok d S
open Classical in
noncomputable def cutX (S0 : Sto) (C : Addr) (d : D) (S : Sto) : Out D := if Drop S0 S ∧ d.closed S0.length = true then .exc C d (S.take S0.length) else .exc C d S

section
variable {K : PySem.W.Frag} {j j' : Pl} {H H' : Hp} {S S0 : Sto}
mutual
theorem RV.clo {d : D} {v : V} : RV K j H d v → d.closed j.l.length = true
  | .non => rfl
  | .bl _ => rfl
  | .int _ => rfl
  | .str _ => rfl
  | .ty _ => rfl
  | .rng _ _ => rfl
  | .exc _ _ r => by simp only [D.closed]; exact RV.clo r
  | .tup _ r => by simp only [D.closed]; exact RVs.clo r
  | .pr _ r s => by simp only [D.closed, RV.clo r, RV.clo s]; rfl
  | .lst _ _ r => by simp only [D.closed]; exact RVs.clo r
  | .frl _ r => by simp only [D.closed]; exact RVs.clo r
  | .ref h => by simp only [D.closed]; exact decide_eq_true (List.getElem?_eq_some_iff.mp h).1
theorem RVs.clo {ds : List D} {vs : List V} : RVs K j H ds vs → D.closeds j.l.length ds = true
  | .nil => rfl
  | .cons r s => by simp only [D.closeds, RV.clo r, RVs.clo s]; rfl
end
theorem RF.clo {α : Type} {ds : List (α × D)} {vs : List (α × V)} : RF K j H ds vs → (ds.all fun p => p.2.closed j.l.length) = true
  | .nil => rfl
  | .cons r s => by simp only [List.all_cons, RV.clo r, RF.clo s]; rfl
theorem RT.clo {ds : List (List Int × D)} {ws : List (List Int × Addr × V)} : RT K j H ds ws → (ds.all fun p => p.2.closed j.l.length) = true
  | .nil => rfl
  | .cons _ r s => by simp only [List.all_cons, RV.clo r, RT.clo s]; rfl
theorem RO.clo {o : MO} {a : Addr} (r : RO K j H o a) : o.closed j.l.length = true := by
  cases o with
  | lst xs => obtain ⟨_, _, h⟩ := r; exact h.clo
  | ins C fs => obtain ⟨_, _, _, h⟩ := r; exact h.clo
  | dk kvs => obtain ⟨_, _, h⟩ := r; exact h.clo
  | clo d ws => obtain ⟨_, _, _, _, _, _, _, _, h, _⟩ := r; exact h.clo
  | dead => rfl
  | dt kvs => obtain ⟨_, _, h⟩ := r; exact h.clo
  | dkz kvs => obtain ⟨_, _, _, h⟩ := r; exact h.clo
/-- j is the beginning of j' -/
structure Beg (j j' : Pl) : Prop where
  l : ∃ t, j'.l = j.l ++ t
  b : j'.b = j.b
theorem Beg.no (e : Beg j j') {a : Addr} (h : j'.no a) : j.no a := by
  obtain ⟨t, h1⟩ := e.l
  exact ⟨fun z => h.1 (by rw [h1]; exact List.mem_append_left _ z), fun z => h.2 (by rw [e.b]; exact z)⟩
theorem Beg.get (e : Beg j j') {k : Nat} {a : Addr} (h : j'.l[k]? = some a) (hk : k < j.l.length) : j.l[k]? = some a := by
  obtain ⟨t, h1⟩ := e.l
  rw [h1, List.getElem?_append_left hk] at h
  exact h
mutual
theorem RV.beg (e : Beg j j') {d : D} {v : V} : RV K j' H d v → d.closed j.l.length = true → RV K j H d v
  | .non, _ => .non
  | .bl b, _ => .bl b
  | .int i, _ => .int i
  | .str x, _ => .str x
  | .ty n, _ => .ty n
  | .rng h n, _ => .rng h (e.no n)
  | .exc h n r, c => .exc h (e.no n) (RV.beg e r (by simpa only [D.closed] using c))
  | .tup h r, c => .tup h (RVs.beg e r (by simpa only [D.closed] using c))
  | .pr h r s, c => .pr h (RV.beg e r (by simp only [D.closed, Bool.and_eq_true] at c; exact c.1)) (RV.beg e s (by simp only [D.closed, Bool.and_eq_true] at c; exact c.2))
  | .lst h n r, c => .lst h (e.no n) (RVs.beg e r (by simpa only [D.closed] using c))
  | .frl h r, c => .frl (by
      rcases h with ⟨h, n⟩ | h
      · exact .inl ⟨h, e.no n⟩
      · exact .inr h) (RVs.beg e r (by simpa only [D.closed] using c))
  | .ref h, c => .ref (e.get h (of_decide_eq_true (by simpa only [D.closed] using c)))
theorem RVs.beg (e : Beg j j') {ds : List D} {vs : List V} : RVs K j' H ds vs → D.closeds j.l.length ds = true → RVs K j H ds vs
  | .nil, _ => .nil
  | .cons r s, c => by
    simp only [D.closeds, Bool.and_eq_true] at c
    exact .cons (RV.beg e r c.1) (RVs.beg e s c.2)
end
theorem RF.beg (e : Beg j j') {α : Type} {ds : List (α × D)} {vs : List (α × V)} : RF K j' H ds vs → (ds.all fun p => p.2.closed j.l.length) = true → RF K j H ds vs
  | .nil, _ => .nil
  | .cons r s, c => by
    simp only [List.all_cons, Bool.and_eq_true] at c
    exact .cons (RV.beg e r c.1) (RF.beg e s c.2)
theorem RT.beg (e : Beg j j') {ds : List (List Int × D)} {ws : List (List Int × Addr × V)} : RT K j' H ds ws → (ds.all fun p => p.2.closed j.l.length) = true → RT K j H ds ws
  | .nil, _ => .nil
  | .cons h r s, c => by
    simp only [List.all_cons, Bool.and_eq_true] at c
    exact .cons h (RV.beg e r c.1) (RT.beg e s c.2)
theorem RO.beg (e : Beg j j') {o : MO} {a : Addr} (r : RO K j' H o a) (c : o.closed j.l.length = true) : RO K j H o a := by
  cases o with
  | lst xs => obtain ⟨vs, h1, h⟩ := r; exact ⟨vs, h1, h.beg e c⟩
  | ins C fs => obtain ⟨dx, gs, h1, h⟩ := r; exact ⟨dx, gs, h1, h.beg e c⟩
  | dk kvs => obtain ⟨ws, h1, h⟩ := r; exact ⟨ws, h1, h.beg e c⟩
  | clo d ws =>
    obtain ⟨cl, pm, cc, ctv, vs, h1, h3, h4, h5, h6⟩ := r
    exact ⟨cl, pm, cc, ctv, vs, h1, h3, e.no h4, h5.beg e c, h6.len, fun y c' h => (h6.all y c' h).imp (fun z => e.no z) id, h6.inj, h6.has⟩
  | dead => exact r
  | dt kvs => obtain ⟨ws, h1, h⟩ := r; exact ⟨ws, h1, h.beg e c⟩
  | dkz kvs => obtain ⟨o, ws, h1, h⟩ := r; exact ⟨o, ws, h1, h.beg e c⟩
theorem Ext.beg (e : Ext j H j' H') : Beg j j' := ⟨e.pre, e.same⟩
theorem Ext.back (e : Ext j H j' H') : Ext j H j H' := .mk' ⟨[], by simp⟩ rfl (fun b o h n z => e.keep' b o h n z) (fun _ h h' => absurd h' h) e.there
theorem SR.back (s0 : SR K j H S0) (e : Ext j H j' H') (s : SR K j' H' S) (d : Drop S0 S) : SR K j H' (S.take S0.length) := by
  refine ⟨by rw [List.length_take, Nat.min_eq_left d.1]; exact s0.len, s0.nd, fun i o a h h' => ?_, fun a h => s.bb a (by rw [e.same]; exact h), s0.lb, s.tabs⟩
  have hi : i < S0.length := by rw [← s0.len]; exact (List.getElem?_eq_some_iff.mp h').1
  rw [List.getElem?_take_of_lt hi] at h
  refine (s.objs i o a h (e.get h')).beg e.beg ?_
  rw [s0.len]
  rcases d.2 i hi with q | ⟨o', q, c⟩
  · rw [h] at q
    have := (s0.objs i o a q.symm h').clo
    rw [s0.len] at this
    exact this
  · rw [h] at q; cases q; exact c
theorem frz_ok (s0 : SR K j H S0) (e : Ext j H j' H') (s : SR K j' H' S) {d d' : D} {v : V} (r : RV K j' H' d v) (h : frzD S S0.length d = some d') : RV K j H' d' v := by
  unfold frzD at h
  split at h
  · rename_i k
    split at h
    · rename_i hk
      cases h
      cases r with
      | ref q => exact .ref (e.beg.get q (by rw [s0.len]; exact hk))
    · rename_i hk
      split at h
      · rename_i xs hx
        split at h
        · rename_i hc
          cases h
          cases r with
          | ref q =>
            obtain ⟨vs, h1, r1⟩ := s.objs k _ _ hx q
            refine .lst h1 ⟨fun z => ?_, fun z => ?_⟩ (r1.beg e.beg (by rw [s0.len]; exact hc))
            · obtain ⟨i, hi, ei⟩ := List.getElem_of_mem z
              have h2 : j'.l[i]? = some _ := e.get (by rw [List.getElem?_eq_getElem hi, ei])
              have : i = k := (List.getElem_inj s.nd).mp ((List.getElem?_eq_some_iff.mp h2).2.trans (List.getElem?_eq_some_iff.mp q).2.symm)
              subst this
              exact hk (by rw [← s0.len]; exact hi)
            · exact s.lb _ (List.mem_of_getElem? q) (by rw [e.same]; exact z)
        · cases h
      · cases h
  · split at h
    · rename_i hc
      cases h
      exact r.beg e.beg (by rw [s0.len]; exact hc)
    · cases h
theorem cut_ok {W : WX} {σ : L2.St} {Q : VK} (s0 : SR K j H S0) {d : D} (h : OK K j H W σ Q (cut S0 d S)) : ∀ j' H' v, Ext j H j' H' → SR K j' H' S → RV K j' H' d v → Q v H' := by
  intro j' H' v e s r
  unfold cut at h
  split at h
  · rename_i hd
    split at h
    · rename_i d' hf
      exact h j H' v e.back (s0.back e s hd) (frz_ok s0 e s r hf)
    · exact h j' H' v e s r
  · exact h j' H' v e s r
theorem cutX_ok {W : WX} {σ : L2.St} {Q : VK} (s0 : SR K j H S0) {C : Addr} {d : D} (h : OK K j H W σ Q (cutX S0 C d S)) : ∀ j' H' cls dd, Ext j H j' H' → SR K j' H' S → ExcAt K j' H' C d cls dd → W cls dd σ H' := by
  intro j' H' cls dd e s r
  unfold cutX at h
  split at h
  · rename_i hd
    obtain ⟨hc, hU, a, v, e1, n, h1, r1⟩ := r
    exact h j H' cls dd e.back (s0.back e s hd.1) ⟨hc, hU, a, v, e1, e.beg.no n, h1, r1.beg e.beg (by rw [s0.len]; exact hd.2)⟩
  · exact h j' H' cls dd e s r
end

/-! ### a def that hands back a list of its own place -/
/-- the first n places are alike, what is untold in j' is untold in j -/
structure BegN (n : Nat) (j j' : Pl) : Prop where
  g : ∀ k a, k < n → j'.l[k]? = some a → j.l[k]? = some a
  no : ∀ a, j'.no a → j.no a
section
variable {K : PySem.W.Frag} {j j' : Pl} {H H' : Hp} {S S0 : Sto}
mutual
theorem RV.begN {n : Nat} (e : BegN n j j') {d : D} {v : V} : RV K j' H d v → d.closed n = true → RV K j H d v
  | .non, _ => .non
  | .bl b, _ => .bl b
  | .int i, _ => .int i
  | .str x, _ => .str x
  | .ty n, _ => .ty n
  | .rng h n, _ => .rng h (e.no _ n)
  | .exc h n r, c => .exc h (e.no _ n) (RV.begN e r (by simpa only [D.closed] using c))
  | .tup h r, c => .tup h (RVs.begN e r (by simpa only [D.closed] using c))
  | .pr h r s, c => .pr h (RV.begN e r (by simp only [D.closed, Bool.and_eq_true] at c; exact c.1)) (RV.begN e s (by simp only [D.closed, Bool.and_eq_true] at c; exact c.2))
  | .lst h n r, c => .lst h (e.no _ n) (RVs.begN e r (by simpa only [D.closed] using c))
  | .frl h r, c => .frl (by
      rcases h with ⟨h, n⟩ | h
      · exact .inl ⟨h, e.no _ n⟩
      · exact .inr h) (RVs.begN e r (by simpa only [D.closed] using c))
  | .ref h, c => .ref (e.g _ _ (of_decide_eq_true (by simpa only [D.closed] using c)) h)
theorem RVs.begN {n : Nat} (e : BegN n j j') {ds : List D} {vs : List V} : RVs K j' H ds vs → D.closeds n ds = true → RVs K j H ds vs
  | .nil, _ => .nil
  | .cons r s, c => by
    simp only [D.closeds, Bool.and_eq_true] at c
    exact .cons (RV.begN e r c.1) (RVs.begN e s c.2)
end
theorem RF.begN {n : Nat} (e : BegN n j j') {α : Type} {ds : List (α × D)} {vs : List (α × V)} : RF K j' H ds vs → (ds.all fun p => p.2.closed n) = true → RF K j H ds vs
  | .nil, _ => .nil
  | .cons r s, c => by
    simp only [List.all_cons, Bool.and_eq_true] at c
    exact .cons (RV.begN e r c.1) (RF.begN e s c.2)
theorem RT.begN {n : Nat} (e : BegN n j j') {ds : List (List Int × D)} {ws : List (List Int × Addr × V)} : RT K j' H ds ws → (ds.all fun p => p.2.closed n) = true → RT K j H ds ws
  | .nil, _ => .nil
  | .cons h r s, c => by
    simp only [List.all_cons, Bool.and_eq_true] at c
    exact .cons h (RV.begN e r c.1) (RT.begN e s c.2)
theorem RO.begN {n : Nat} (e : BegN n j j') {o : MO} {a : Addr} (r : RO K j' H o a) (c : o.closed n = true) : RO K j H o a := by
  cases o with
  | lst xs => obtain ⟨vs, h1, h⟩ := r; exact ⟨vs, h1, h.begN e c⟩
  | ins C fs => obtain ⟨dx, gs, h1, h⟩ := r; exact ⟨dx, gs, h1, h.begN e c⟩
  | dk kvs => obtain ⟨ws, h1, h⟩ := r; exact ⟨ws, h1, h.begN e c⟩
  | clo d ws =>
    obtain ⟨cl, pm, cc, ctv, vs, h1, h3, h4, h5, h6⟩ := r
    exact ⟨cl, pm, cc, ctv, vs, h1, h3, e.no _ h4, h5.begN e c, h6.len, fun y c' h => (h6.all y c' h).imp (fun z => e.no _ z) id, h6.inj, h6.has⟩
  | dead => exact r
  | dt kvs => obtain ⟨ws, h1, h⟩ := r; exact ⟨ws, h1, h.begN e c⟩
  | dkz kvs => obtain ⟨o, ws, h1, h⟩ := r; exact ⟨o, ws, h1, h.begN e c⟩
/-- a new list is handed back as one of its own place: its number is the caller's next -/
noncomputable def cutM (S0 : Sto) (d : D) (S : Sto) : Out D := open Classical in if Drop S0 S then match d with
    | .ref k => if k < S0.length then .ok d (S.take S0.length) else match S[k]? with
      | some (.lst xs) => if D.closeds S0.length xs = true then .ok (.ref S0.length) (S.take S0.length ++ [.lst xs]) else .no
      | _ => .no
    | _ => if d.closed S0.length = true then .ok d (S.take S0.length) else .no
  else .no
theorem cutM_ok {W : WX} {σ : L2.St} {Q : VK} (s0 : SR K j H S0) {d : D} (h : OK K j H W σ Q (cutM S0 d S)) : ∀ j' H' v, Ext j H j' H' → SR K j' H' S → RV K j' H' d v → Q v H' := by
  intro j' H' v e s r
  unfold cutM at h
  split at h
  · rename_i hd
    split at h
    · rename_i k
      split at h
      · rename_i hk
        cases r with
        | ref q => exact h j H' _ e.back (s0.back e s hd) (.ref (e.beg.get q (by rw [s0.len]; exact hk)))
      · rename_i hk
        split at h
        · rename_i xs hx
          split at h
          · rename_i hc
            cases r with
            | @ref _ a q =>
              obtain ⟨vs, h1, r1⟩ := s.objs k _ _ hx q
              have nl : a ∉ j.l := fun z => by
                obtain ⟨i, hi, ei⟩ := List.getElem_of_mem z
                have h2 : j'.l[i]? = some _ := e.get (by rw [List.getElem?_eq_getElem hi, ei])
                have : i = k := (List.getElem_inj s.nd).mp ((List.getElem?_eq_some_iff.mp h2).2.trans (List.getElem?_eq_some_iff.mp q).2.symm)
                subst this
                exact hk (by rw [← s0.len]; exact hi)
              have nb : a ∉ j.b := fun z => s.lb _ (List.mem_of_getElem? q) (by rw [e.same]; exact z)
              have mem : a ∈ j'.l := List.mem_of_getElem? q
              have bn : BegN S0.length (j.push a) j' := by
                refine ⟨fun i b hi hb => ?_, fun b n => ⟨fun z => ?_, fun z => ?_⟩⟩
                · unfold Pl.push
                  have hl : i < j.l.length := by rw [s0.len]; exact hi
                  rw [List.getElem?_append_left hl]
                  exact e.beg.get hb hl
                · rcases List.mem_append.mp (show b ∈ j.l ++ [a] from z) with z | z
                  · obtain ⟨t, et⟩ := e.pre
                    exact n.1 (by rw [et]; exact List.mem_append_left _ z)
                  · cases List.mem_singleton.mp z; exact n.1 mem
                · exact n.2 (by rw [e.same]; exact z)
              have ex : Ext j H (j.push a) H' := .mk' ⟨[a], rfl⟩ rfl (fun b o h n z => e.keep' b o h n z) (fun b hb hb' => by
                rcases List.mem_append.mp (show b ∈ j.l ++ [a] from hb') with z | z
                · exact absurd z hb
                · cases List.mem_singleton.mp z; exact e.outB _ hb mem) e.there
              refine h (j.push a) H' _ ex ⟨?_, ?_, fun i o b hi hb => ?_, fun b hb => s.bb b (by rw [e.same]; exact hb), fun b hb => ?_, s.tabs⟩ (.ref ?_)
              · simp [Pl.push, s0.len, Nat.min_eq_left hd.1]
              · show (j.l ++ [a]).Nodup
                rw [List.nodup_append]
                refine ⟨s0.nd, by simp, fun c hc b hb => ?_⟩
                cases List.mem_singleton.mp hb
                rintro rfl
                exact nl hc
              · have hb' : (j.l ++ [a])[i]? = some b := hb
                by_cases hl : i < S0.length
                · rw [List.getElem?_append_left (by rw [List.length_take, Nat.min_eq_left hd.1]; exact hl), List.getElem?_take_of_lt hl] at hi
                  rw [List.getElem?_append_left (by rw [s0.len]; exact hl)] at hb'
                  refine (s.objs i o b hi (e.get hb')).begN bn ?_
                  rcases hd.2 i hl with q' | ⟨o', q', c⟩
                  · rw [hi] at q'
                    have := (s0.objs i o b q'.symm hb').clo
                    rw [s0.len] at this
                    exact this
                  · rw [hi] at q'; cases q'; exact c
                · have ei : i = S0.length := by
                    have := (List.getElem?_eq_some_iff.mp hi).1
                    simp [Nat.min_eq_left hd.1] at this
                    omega
                  subst ei
                  rw [List.getElem?_append_right (by rw [List.length_take, Nat.min_eq_left hd.1]; exact Nat.le_refl _), List.length_take, Nat.min_eq_left hd.1, Nat.sub_self] at hi
                  rw [← s0.len, List.getElem?_append_right (Nat.le_refl _), Nat.sub_self] at hb'
                  cases hi; cases hb'
                  exact ⟨vs, h1, r1.begN bn hc⟩
              · rcases List.mem_append.mp (show b ∈ j.l ++ [a] from hb) with z | z
                · exact s0.lb b z
                · cases List.mem_singleton.mp z; exact nb
              · show (j.l ++ [a])[S0.length]? = some a
                rw [← s0.len, List.getElem?_append_right (Nat.le_refl _), Nat.sub_self]; rfl
          · exact h.elim
        · exact h.elim
    · split at h
      · rename_i hc
        exact h j H' _ e.back (s0.back e s hd) (r.beg e.beg (by rw [s0.len]; exact hc))
      · exact h.elim
  · exact h.elim
end

/-! ### a def of the text -/
noncomputable def mBody (n : Nat) (g : SF) : MF := fun ds S => match g (ds.map some ++ List.replicate (n - ds.length) none) S with
  | .nx _ S' => cut S .non S'
  | .rt d S' => cut S d S'
  | .exc C w _ S' => cutX S C w S'
  | _ => .no
noncomputable def mBodyM (n : Nat) (g : SF) : MF := fun ds S => match g (ds.map some ++ List.replicate (n - ds.length) none) S with
  | .nx _ S' => cutM S .non S'
  | .rt d S' => cutM S d S'
  | .exc C w _ S' => cutX S C w S'
  | _ => .no
theorem ER.start {K : PySem.W.Frag} {j : Pl} {H : Hp} {ds : List D} {vs : List V} (r : RVs K j H ds vs) (N : List Str) : ER K j H (ds.map some ++ List.replicate (N.length - ds.length) none) (start N vs) := by
  refine ⟨?_, fun i d h => ?_⟩
  · show (vs.map some ++ List.replicate (N.length - vs.length) none).length = _
    simp [r.length]
  · show ∃ v, (vs.map some ++ List.replicate (N.length - vs.length) none)[i]? = some (some v) ∧ _
    by_cases hi : i < ds.length
    · rw [List.getElem?_append_left (by simpa using hi), List.getElem?_map] at h
      rw [List.getElem?_append_left (by simpa [← r.length] using hi), List.getElem?_map]
      cases e : ds[i]? with
      | none => rw [e] at h; cases h
      | some d' =>
        rw [e] at h
        cases h
        obtain ⟨v, hv, rv⟩ := r.get e
        exact ⟨v, by rw [hv]; rfl, rv⟩
    · rw [List.getElem?_append_right (by simpa using hi), List.getElem?_replicate] at h
      split at h <;> cases h
section
variable {P : Program} {w : World} {K : PySem.W.Frag} {mg : Str → Option Value} {base : Heap}
/-- a def with parameters of the text does what its body's reading tells -/
theorem fng_dok {x qual : Str} {st : Stmt} {f : Addr} {fd : FuncData} {N ps : List Str} {k : Nat} {g : SF} {n : Nat} (F : Fun K x qual st f fd) (S : FnScope N ps (defScope st)) (hn : ps.length = n)
    (body : ∀ (cdv : Value) (A : Around) (outer : List PySem.Env) (s : Shared) (H : Hp) (E : XK), fd.code = cdv → At (cxOf (L2N.CX P w) P w K mg base N qual (defScope st) f cdv A outer s H E) k →
      ESs (cxOf (L2N.CX P w) P w K mg base N qual (defScope st) f cdv A outer s H E) (fun cls d _ H' => E cls d H') (defBody st) g) : FnG P w K mg base (k + 1) f fd ps (spD K n (mBody N.length g)) := by
  subst hn
  refine fng_of F S (fun vs H Q E ⟨j, S, ds, hs, hr, hl, q⟩ => by rw [← hr.length]; exact hl) fun cdv A outer s H vs Q E hcd hr hgd ⟨j, S0, ds, hs, hv, hl, q⟩ => ?_
  refine ⟨_, body cdv A outer s H E hcd ⟨hr, hgd⟩, j, _, S0, hs, ER.start hv N, ?_⟩
  unfold mBody at q
  cases e : g (ds.map some ++ List.replicate (N.length - ds.length) none) S0 with
  | nx ρ S' => rw [e] at q; exact fun j' H' σ e s r => cut_ok hs q j' H' .non e s .non
  | rt d S' => rw [e] at q; exact cut_ok hs q
  | exc C w ρ S' => rw [e] at q; exact fun j' H' σ cls dd e s r x => cutX_ok hs q j' H' cls dd e s x
  | _ => rw [e] at q; exact q.elim
theorem dok_of {x qual : Str} {st : Stmt} {f : Addr} {fd : FuncData} {N ps : List Str} {k : Nat} {g : SF} {n : Nat} (F : Fun K x qual st f fd) (S : FnScope N ps (defScope st)) (hb : Binds K fd ps []) (hg : mg x = some (.ref f)) (hn : ps.length = n)
    (body : ∀ (cdv : Value) (A : Around) (outer : List PySem.Env) (s : Shared) (H : Hp) (E : XK), fd.code = cdv → At (cxOf (L2N.CX P w) P w K mg base N qual (defScope st) f cdv A outer s H E) k →
      ESs (cxOf (L2N.CX P w) P w K mg base N qual (defScope st) f cdv A outer s H E) (fun cls d _ H' => E cls d H') (defBody st) g) : DOk P w K mg base (k + 1) x n (mBody N.length g) :=
  ⟨f, fd, ps, hg, F.kp, hb, fng_dok F S hn body⟩
theorem fng_dokM {x qual : Str} {st : Stmt} {f : Addr} {fd : FuncData} {N ps : List Str} {k : Nat} {g : SF} {n : Nat} (F : Fun K x qual st f fd) (S : FnScope N ps (defScope st)) (hn : ps.length = n)
    (body : ∀ (cdv : Value) (A : Around) (outer : List PySem.Env) (s : Shared) (H : Hp) (E : XK), fd.code = cdv → At (cxOf (L2N.CX P w) P w K mg base N qual (defScope st) f cdv A outer s H E) k →
      ESs (cxOf (L2N.CX P w) P w K mg base N qual (defScope st) f cdv A outer s H E) (fun cls d _ H' => E cls d H') (defBody st) g) : FnG P w K mg base (k + 1) f fd ps (spD K n (mBodyM N.length g)) := by
  subst hn
  refine fng_of F S (fun vs H Q E ⟨j, S, ds, hs, hr, hl, q⟩ => by rw [← hr.length]; exact hl) fun cdv A outer s H vs Q E hcd hr hgd ⟨j, S0, ds, hs, hv, hl, q⟩ => ?_
  refine ⟨_, body cdv A outer s H E hcd ⟨hr, hgd⟩, j, _, S0, hs, ER.start hv N, ?_⟩
  unfold mBodyM at q
  cases e : g (ds.map some ++ List.replicate (N.length - ds.length) none) S0 with
  | nx ρ S' => rw [e] at q; exact fun j' H' σ e s r => cutM_ok hs q j' H' .non e s .non
  | rt d S' => rw [e] at q; exact cutM_ok hs q
  | exc C w ρ S' => rw [e] at q; exact fun j' H' σ cls dd e s r x => cutX_ok hs q j' H' cls dd e s x
  | _ => rw [e] at q; exact q.elim
theorem dok_ofM {x qual : Str} {st : Stmt} {f : Addr} {fd : FuncData} {N ps : List Str} {k : Nat} {g : SF} {n : Nat} (F : Fun K x qual st f fd) (S : FnScope N ps (defScope st)) (hb : Binds K fd ps []) (hg : mg x = some (.ref f)) (hn : ps.length = n)
    (body : ∀ (cdv : Value) (A : Around) (outer : List PySem.Env) (s : Shared) (H : Hp) (E : XK), fd.code = cdv → At (cxOf (L2N.CX P w) P w K mg base N qual (defScope st) f cdv A outer s H E) k →
      ESs (cxOf (L2N.CX P w) P w K mg base N qual (defScope st) f cdv A outer s H E) (fun cls d _ H' => E cls d H') (defBody st) g) : DOk P w K mg base (k + 1) x n (mBodyM N.length g) :=
  ⟨f, fd, ps, hg, F.kp, hb, fng_dokM F S hn body⟩
end
end DL

set_option Elab.async false
set_option linter.all false
set_option maxRecDepth 100000
namespace DL
open PySem PySem.Spec PyProof.Rows L2
variable [Tb]
/-! ### calls by keywords alone, in the parameters' order -/
structure KBnd (K : PySem.W.Frag) (fd : FuncData) (ks : List Str) : Prop where
  to : ∀ (s : Shared) (ws : List Value), ws.length = ks.length → BindsTo s fd ⟨[], ks.zip ws⟩ (ks.zip ws)
structure DOkK (P : Program) (w : World) (K : PySem.W.Frag) (mg : Str → Option Value) (base : Heap) (k : Nat) (x : Str) (ks : List Str) (n : Nat) (m : MF) : Prop where
  ex : ∃ (f : Addr) (fd : FuncData), mg x = some (.ref f) ∧ PySem.W.keepIn K (.ref f) = true ∧ KBnd K fd ks ∧ ks.length = n ∧ FnG P w K mg base k f fd ks (spD K n m)
theorem DOkK.mono {P : Program} {w : World} {K : PySem.W.Frag} {mg : Str → Option Value} {base : Heap} {i k : Nat} {x : Str} {ks : List Str} {n : Nat} {m : MF} (F : DOkK P w K mg base i x ks n m) (h : i ≤ k) : DOkK P w K mg base k x ks n m := by
  obtain ⟨f, fd, a, b, c, e, d⟩ := F.ex
  exact ⟨f, fd, a, b, c, e, d.mono h⟩
section
variable {P : Program} {w : World} {K : PySem.W.Frag} {mg : Str → Option Value} {base : Heap}
end
section
variable {X : Cx} {k i n : Nat} {f : Addr} {fd : FuncData} {ps ks : List Str} {sp : Sp} {W : WX} {x : Str} {p pos kpos : Pos} {e : Expr} {kws : List Keyword} {nm : Option Str} {t : TA} {m : MF} {fa : EF} {g : AF}
abbrev EK (X : Cx) (W : WX) (kws : List Keyword) (f : AF) : Prop := PK X kws (rdA X.K W f)
end
end DL

set_option Elab.async false
set_option linter.all false
set_option maxRecDepth 100000
set_option maxHeartbeats 4000000
namespace DL
open PySem PySem.Spec PyProof.Rows L2
/-! ### tuple * 1, tuple * k where k is nought or less -/
theorem tuple_mul1W (l : Addr) (items : Array Value) (n : Nat) (dd : Option Addr) (sl : Array (Option Value)) (x : Int) (u : Tok) (c0 : (decide (x < -(2 ^ 63)) || decide (x ≥ 2 ^ 63)) = false) (c1 : (items.isEmpty || x == 1) = true) :
    Meets (Builtin.«tuple.__mul__» ⟨[.ref l, .int x u], []⟩) (fun _ R s => s.heap.get? l = some { cls := .type "tuple", dict := dd, data := .seq items n, slots := sl } ∧ R (.ok (.ret (Value.ref l))) s) :=
  .of_wp fun prog w A R s h => by
    obtain ⟨hp, g, d, tk, os⟩ := s
    obtain ⟨hl, h⟩ := h
    have f1 := AutoSeq1.idx_int
    wp_walk using wpAny_loadPart' hl
    repeat (first
      | (refine wpAny_ite_false (decide_eq_false (by rw [c0]; exact Bool.false_ne_true)) ?_; wp_walk using wpAny_loadPart' hl)
      | (refine wpAny_ite_true (decide_eq_true (by rw [c1])) ?_; wp_walk using wpAny_loadPart' hl))
    exact ⟨_, rfl, h⟩
theorem tuple_mul0W (l : Addr) (items : Array Value) (n : Nat) (dd : Option Addr) (sl : Array (Option Value)) (x : Int) (u : Tok) (c0 : (decide (x < -(2 ^ 63)) || decide (x ≥ 2 ^ 63)) = false) (c1 : (items.isEmpty || x == 1) = false) (c2 : (decide (x ≤ 0) || items.isEmpty) = true) :
    Meets (Builtin.«tuple.__mul__» ⟨[.ref l, .int x u], []⟩) (fun _ R s => s.heap.get? l = some { cls := .type "tuple", dict := dd, data := .seq items n, slots := sl } ∧
      R (.ok (.ret (Value.ref s.heap.objs.size))) { s with heap := s.heap.push { cls := Value.type "tuple", data := Data.seq #[] }, toks := s.toks }) :=
  .of_wp fun prog w A R s h => by
    obtain ⟨hp, g, d, tk, os⟩ := s
    obtain ⟨hl, h⟩ := h
    have f1 := AutoSeq1.idx_int
    wp_walk using wpAny_loadPart' hl
    repeat (first
      | (refine wpAny_ite_false (decide_eq_false (by rw [c0]; exact Bool.false_ne_true)) ?_; wp_walk using wpAny_loadPart' hl)
      | (refine wpAny_ite_false (decide_eq_false (by rw [c1]; exact Bool.false_ne_true)) ?_; wp_walk using wpAny_loadPart' hl)
      | (refine wpAny_ite_true (decide_eq_true (by rw [c2])) ?_; wp_walk using wpAny_loadPart' hl))
    exact ⟨_, rfl, h⟩
def rRepT1 (K : PySem.W.Frag) : R2 := fun x y H Q => ∃ l xs, x = .ref l ∧ y = .int 1 ∧ SqT K H l xs ∧ Q (.ref l) H
def rRepT0 (K : PySem.W.Frag) : R2 := fun x y H Q => ∃ l k xs, x = .ref l ∧ y = .int k ∧ SqT K H l xs ∧ xs ≠ [] ∧ -1000 ≤ k ∧ k ≤ 0 ∧ NewT H [] Q
/-- tuple * k, k two or more -/
def rRepP (K : PySem.W.Frag) : R2 := fun x y H Q => ∃ l k xs, x = .ref l ∧ y = .int k ∧ SqT K H l xs ∧ xs ≠ [] ∧ 2 ≤ k ∧ k ≤ 100000 ∧ xs.length * k.toNat ≤ 1000000 ∧ NewT H (List.replicate k.toNat xs).flatten Q
section
variable {X : Cx}
theorem op_repT1 : OpR X (binaryOp .Mult) (rRepT1 X.K) := by
  intro pins s σ H x y v u Q I rx ry h
  obtain ⟨l, xs, rfl, rfl, hT, q⟩ := h
  cases rx
  obtain ⟨t, rfl⟩ := ry
  obtain ⟨its, r, ⟨⟨cls, dd, data, sl⟩, ho, hc, n, hd⟩, hs⟩ := I.tuple hT
  simp only at hc hd
  subst hc hd
  have c0 : (decide ((1 : Int) < -(2 ^ 63)) || decide ((1 : Int) ≥ 2 ^ 63)) = false := by decide
  have c1 : (its.toArray.isEmpty || (1 : Int) == 1) = true := by rw [show ((1 : Int) == 1) = true from rfl, Bool.or_true]
  refine wpAny_binaryOp_repeat_ref (T := "tuple") (U := "int") (by decide) ⟨_, ho, rfl⟩ (fun s' => typeIs_int s' 1 t) noFill_tuple_mul F.fills_int_mul F.slot_int_rmul repeat_tuple F.slot_int_index.lookup
    (call_meets F.slot_int_rmul (typeIs_int s 1 t) F.entry_int_rmul (F.args_int_rmul_2 _ _) (int_rmul_tuple 1 t l its.toArray n dd sl)
      ⟨ho, rfl, ⟨_, ho, rfl⟩, call_meets F.slot_tuple_mul ⟨_, ho, rfl⟩ F.entry_tuple_mul (F.args_tuple_mul_2 _ _) (tuple_mul1W l its.toArray n dd sl 1 t c0 c1) ⟨ho, ?_⟩⟩)
  exact ⟨.ref l, _, I, rfl, q⟩
theorem op_repT0 : OpR X (binaryOp .Mult) (rRepT0 X.K) := by
  intro pins s σ H x y v u Q I rx ry h
  obtain ⟨l, k, xs, rfl, rfl, hT, hne, h1, h2, q⟩ := h
  cases rx
  obtain ⟨t, rfl⟩ := ry
  obtain ⟨its, r, ⟨⟨cls, dd, data, sl⟩, ho, hc, n, hd⟩, hs⟩ := I.tuple hT
  simp only at hc hd
  subst hc hd
  have hle : its.length = xs.length := r.length.symm
  have hn : its ≠ [] := fun e => hne (by
    rw [e] at hle
    exact List.eq_nil_of_length_eq_zero hle.symm)
  have hi : its.toArray.isEmpty = false := by
    cases its with
    | nil => exact absurd rfl hn
    | cons a b => rfl
  have c0 : (decide (k < -(2 ^ 63)) || decide (k ≥ 2 ^ 63)) = false := by
    rw [decide_eq_false (by omega), decide_eq_false (by omega)] <;> rfl
  have c1 : (its.toArray.isEmpty || k == 1) = false := by
    rw [hi, Bool.false_or]
    exact beq_eq_false_iff_ne.mpr (by omega)
  have c2 : (decide (k ≤ 0) || its.toArray.isEmpty) = true := by
    rw [hi, Bool.or_false]
    exact decide_eq_true h2
  refine wpAny_binaryOp_repeat_ref (T := "tuple") (U := "int") (by decide) ⟨_, ho, rfl⟩ (fun s' => typeIs_int s' k t) noFill_tuple_mul F.fills_int_mul F.slot_int_rmul repeat_tuple F.slot_int_index.lookup
    (call_meets F.slot_int_rmul (typeIs_int s k t) F.entry_int_rmul (F.args_int_rmul_2 _ _) (int_rmul_tuple k t l its.toArray n dd sl)
      ⟨ho, rfl, ⟨_, ho, rfl⟩, call_meets F.slot_tuple_mul ⟨_, ho, rfl⟩ F.entry_tuple_mul (F.args_tuple_mul_2 _ _) (tuple_mul0W l its.toArray n dd sl k t c0 c1 c2) ⟨ho, ?_⟩⟩)
  exact newT_laid I .nil (Nat.zero_le _) q
theorem op_repP : OpR X (binaryOp .Mult) (rRepP X.K) := by
  intro pins s σ H x y v u Q I rx ry h
  obtain ⟨l, k, xs, rfl, rfl, hT, hne, h1, h2, hz, q⟩ := h
  cases rx
  obtain ⟨t, rfl⟩ := ry
  obtain ⟨its, r, ⟨⟨cls, dd, data, sl⟩, ho, hc, n, hd⟩, hs⟩ := I.tuple hT
  simp only at hc hd
  subst hc hd
  have hle : its.length = xs.length := r.length.symm
  have hn : its ≠ [] := fun e => hne (by
    rw [e] at hle
    exact List.eq_nil_of_length_eq_zero hle.symm)
  have hi : its.toArray.isEmpty = false := by
    cases its with
    | nil => exact absurd rfl hn
    | cons a b => rfl
  have hsz0 : its.toArray.size = xs.length := by rw [List.size_toArray, hle]
  have hm : ((its.toArray.size : Nat) : Int) * k ≤ 1000000 := by
    rw [hsz0]
    have hk : k = ((k.toNat : Nat) : Int) := (Int.toNat_of_nonneg (by omega)).symm
    rw [hk, ← Int.natCast_mul]
    generalize xs.length * k.toNat = z at hz
    omega
  have ffl : (List.replicate k.toNat its).flatten.length ≤ sizeLine := by
    rw [PyProof.Rows.lm_len_rep_flat, hle, sizeLine_eq]
    rw [Nat.mul_comm]
    exact Nat.le_trans hz (by decide)
  have c0 : (decide (k < -(2 ^ 63)) || decide (k ≥ 2 ^ 63)) = false := by
    rw [decide_eq_false (by omega), decide_eq_false (by omega)] <;> rfl
  have c1 : (its.toArray.isEmpty || k == 1) = false := by
    rw [hi, Bool.false_or]
    exact beq_eq_false_iff_ne.mpr (by omega)
  have c2 : (decide (k ≤ 0) || its.toArray.isEmpty) = false := by
    rw [hi, Bool.or_false]
    exact decide_eq_false (by omega)
  have c4 : Builtin.Tuple.tupleTooMany (((its.toArray.size : Nat) : Int) * k) = false := by
    unfold Builtin.Tuple.tupleTooMany
    rw [sizeLine_eq]
    exact decide_eq_false (by omega)
  refine wpAny_binaryOp_repeat_ref (T := "tuple") (U := "int") (by decide) ⟨_, ho, rfl⟩ (fun s' => typeIs_int s' k t) noFill_tuple_mul F.fills_int_mul F.slot_int_rmul repeat_tuple F.slot_int_index.lookup
    (call_meets F.slot_int_rmul (typeIs_int s k t) F.entry_int_rmul (F.args_int_rmul_2 _ _) (int_rmul_tuple k t l its.toArray n dd sl)
      ⟨ho, rfl, ⟨_, ho, rfl⟩, call_meets F.slot_tuple_mul ⟨_, ho, rfl⟩ F.entry_tuple_mul (F.args_tuple_mul_2 _ _) (tuple_mulW l its.toArray n dd sl k t c0 c1 c2 (by omega) c4 (by rw [size_rep, List.size_toArray]; exact ffl)) ⟨ho, ?_⟩⟩)
  rw [size_rep]
  exact newT_laid I (r.rep k.toNat) (by rw [PyProof.Rows.lm_len_rep_flat, sizeLine_eq, Nat.mul_comm]; exact Nat.le_trans hz (by decide)) q
end
end DL

set_option Elab.async false
set_option linter.all false
set_option maxRecDepth 100000
namespace DL
open PySem PySem.Spec PyProof.Rows L2
variable [Tb]

/-! ### data as the library tells it -/
mutual
def D.P : D → PyData
  | .non => .none
  | .bl b => .bool b
  | .int i => .int i
  | .str x => .str x
  | .tup xs => .tuple (D.Ps xs)
  | .lst xs => .list (D.Ps xs)
  | .frl xs => .list (D.Ps xs)
  | .ref _ => .none
  | .ty _ => .none
  | .rng _ _ => .none
  | .exc _ _ _ _ => .none
  | .pr _ _ => .none
def D.Ps : List D → List PyData
  | [] => []
  | d :: ds => d.P :: D.Ps ds
end
mutual
def D.pure : D → Bool
  | .tup xs => D.pures xs
  | .lst xs => D.pures xs
  | .frl xs => D.pures xs
  | .ref _ => false
  | .ty _ => false
  | .rng _ _ => false
  | .exc _ _ _ _ => false
  | .pr _ _ => false
  | _ => true
def D.pures : List D → Bool
  | [] => true
  | d :: ds => d.pure && D.pures ds
end
def okD (d : D) : Bool := d.pure && SeqAt.shaped d.P
/-- a list of its own place as what it holds -/
def top (S : Sto) (d : D) : D := match d with
  | .ref n => match S[n]? with
    | some (.lst xs) => .lst xs
    | _ => .ref n
  | d => d
section
variable {K : PySem.W.Frag} {j : Pl} {H : Hp} {S : Sto}
mutual
theorem RV.dp {d : D} {v : V} : RV K j H d v → d.pure = true → Dp K H v d.P
  | .non, _ => .non
  | .bl b, _ => .bl b
  | .int i, _ => .int i
  | .str x, _ => .str x
  | .tup h r, c => .tup h.sq (RVs.dp r (by simpa only [D.pure] using c))
  | .lst h _ r, c => .lst (.inl (.inl h)) (RVs.dp r (by simpa only [D.pure] using c))
  | .frl h r, c => .lst h.sql (RVs.dp r (by simpa only [D.pure] using c))
  | .ref _, c => by simp only [D.pure] at c; cases c
  | .ty _, c => by simp only [D.pure] at c; cases c
  | .rng _ _, c => by simp only [D.pure] at c; cases c
  | .exc _ _ _, c => by simp only [D.pure] at c; cases c
  | .pr _ _ _, c => by simp only [D.pure] at c; cases c
theorem RVs.dp {ds : List D} {vs : List V} : RVs K j H ds vs → D.pures ds = true → DpAll K H vs (D.Ps ds)
  | .nil, _ => .nil
  | .cons r s, c => by
    simp only [D.pures, Bool.and_eq_true] at c
    exact .cons (RV.dp r c.1) (RVs.dp s c.2)
end
theorem dp_top (s : SR K j H S) {d : D} {v : V} (r : RV K j H d v) (c : (top S d).pure = true) : Dp K H v (top S d).P := by
  cases r with
  | @ref n a hn =>
    simp only [top] at c ⊢
    cases e : S[n]? with
    | none => rw [e] at c; simp only [D.pure] at c; cases c
    | some o =>
      rw [e] at c
      cases o with
      | lst xs =>
        obtain ⟨vs, h1, h⟩ := s.objs n _ a e hn
        exact .lst (.inl (.inl h1)) (h.dp (by simpa only [D.pure] using c))
      | _ => simp only [D.pure] at c; cases c
  | non => exact RV.dp (j := j) .non c
  | bl b => exact RV.dp (j := j) (.bl b) c
  | int b => exact RV.dp (j := j) (.int b) c
  | str b => exact RV.dp (j := j) (.str b) c
  | ty b => simp only [top, D.pure] at c; cases c
  | rng h n => simp only [top, D.pure] at c; cases c
  | exc h n r => simp only [top, D.pure] at c; cases c
  | pr h r s => simp only [top, D.pure] at c; cases c
  | tup h r => exact RV.dp (j := j) (.tup h r) c
  | lst h n r => exact RV.dp (j := j) (.lst h n r) c
  | frl h r => exact RV.dp (j := j) (.frl h r) c
end

theorem OpR.or {X : Cx} {f : Value → Value → Sem Value} {r r' : R2} (h : OpR X f r) (h' : OpR X f r') : OpR X f (fun x y H Q => r x y H Q ∨ r' x y H Q) := fun pins s σ H x y v u Q I rx ry q => by
  rcases q with q | q
  · exact h pins s σ H x y v u Q I rx ry q
  · exact h' pins s σ H x y v u Q I rx ry q

/-! ### operations -/
/-- a list of one's own, as it is now -/
def ownL (S : Sto) : D → Option (List D)
  | .lst xs => some xs
  | .ref n => match S[n]? with
    | some (.lst xs) => some xs
    | _ => none
  | _ => none
theorem ownL_of {K : PySem.W.Frag} {j : Pl} {H : Hp} {S : Sto} {d : D} {v : V} {xs : List D} (s : SR K j H S) (r : RV K j H d v) (h : ownL S d = some xs) : ∃ a vs, v = .ref a ∧ H a = some (.lst vs) ∧ RVs K j H xs vs := by
  cases r with
  | lst h1 h2 r => cases h; exact ⟨_, _, rfl, h1, r⟩
  | @ref n a hn =>
    simp only [ownL] at h
    cases e : S[n]? with
    | none => rw [e] at h; cases h
    | some o =>
      rw [e] at h
      cases o with
      | lst ys =>
        cases h
        obtain ⟨vs, h1, r⟩ := s.objs n _ a e hn
        exact ⟨a, vs, rfl, h1, r⟩
      | _ => cases h
  | _ => cases h
def addD (x y : D) (S : Sto) : Out D := match x, y with
  | .int i, .int j => .ok (.int (i + j)) S
  | .tup xs, .tup ys => if xs.length + ys.length ≤ 16777216 then .ok (.tup (xs ++ ys)) S else .no
  | .lst xs, .lst ys => if xs.length + ys.length ≤ 16777216 then .ok (.lst (xs ++ ys)) S else .no
  | .str a, .str b => if a.length + b.length ≤ 16777216 then .ok (.str (a ++ b)) S else .no
  | x, y => match ownL S x, ownL S y with
    | some xs, some ys => if xs.length + ys.length ≤ 16777216 then .ok (.lst (xs ++ ys)) S else .no
    | _, _ => .no
def subD (x y : D) (S : Sto) : Out D := match x, y with
  | .int i, .int j => .ok (.int (i - j)) S
  | _, _ => .no
def mulD (x y : D) (S : Sto) : Out D := match x, y with
  | .int i, .int j => if (-(2 ^ 64) < i ∧ i < 2 ^ 64) ∨ (-(2 ^ 64) < j ∧ j < 2 ^ 64) then .ok (.int (i * j)) S else .no
  | .lst xs, .int k => if -(2 ^ 63) ≤ k ∧ k < 2 ^ 63 ∧ xs.length * k.toNat ≤ 16777216 then .ok (.lst (List.replicate k.toNat xs).flatten) S else .no
  | .tup xs, .int k => if xs ≠ [] ∧ -1000 ≤ k ∧ k ≤ 100000 ∧ xs.length * k.toNat ≤ 1000000 then .ok (.tup (List.replicate k.toNat xs).flatten) S else .no
  | _, _ => .no
def modD (x y : D) (S : Sto) : Out D := match x, y with
  | .int i, .int j => if 0 < j then .ok (.int (i % j)) S else .no
  | _, _ => .no
def fdivD (x y : D) (S : Sto) : Out D := match x, y with
  | .int i, .int j => if 0 < j ∧ j.natAbs.log2 < 9000 then .ok (.int (i / j)) S else .no
  | _, _ => .no
def powD (x y : D) (S : Sto) : Out D := match x, y with
  | .int i, .int j => if 0 ≤ j ∧ j ≤ 1000000 ∧ i.natAbs < 2 ^ 64 then .ok (.int (i ^ j.toNat)) S else .no
  | _, _ => .no
def cmpI (p : Int → Int → Bool) (x y : D) (S : Sto) : Out D := match x, y with
  | .int i, .int j => .ok (.bl (p i j)) S
  | _, _ => .no
abbrev ltD := cmpI fun i j => decide (i < j)
abbrev leD := cmpI fun i j => decide (i ≤ j)
abbrev gtD := cmpI fun i j => decide (j < i)
abbrev geD := cmpI fun i j => decide (j ≤ i)
def eqB (S : Sto) (x y : D) : Option Bool := if okD (top S x) = true ∧ okD (top S y) = true then some (PyData.eqv (top S x).P (top S y).P) else none
def eqD (x y : D) (S : Sto) : Out D := match eqB S x y with
  | some b => .ok (.bl b) S
  | none => .no
def neD (x y : D) (S : Sto) : Out D := match eqB S x y with
  | some b => .ok (.bl (!b)) S
  | none => .no
def isD (x y : D) (S : Sto) : Out D := match x, y with
  | x, .non => .ok (.bl (match x with | .non => true | _ => false)) S
  | .bl a, .bl b => .ok (.bl (decide (a = b))) S
  | _, _ => .no
def isNotD (x y : D) (S : Sto) : Out D := match x, y with
  | x, .non => .ok (.bl (match x with | .non => false | _ => true)) S
  | .bl a, .bl b => .ok (.bl (!decide (a = b))) S
  | _, _ => .no
/-- x is in what y holds -/
def inB (S : Sto) (x y : D) : Option Bool := if okD (top S x) = true ∧ okD (top S y) = true then match top S y with
    | .tup ys => some ((D.Ps ys).any fun z => PyData.eqv z (top S x).P)
    | .lst ys => some ((D.Ps ys).any fun z => PyData.eqv z (top S x).P)
    | .frl ys => some ((D.Ps ys).any fun z => PyData.eqv z (top S x).P)
    | _ => none
  else none
def inD (x y : D) (S : Sto) : Out D := match inB S x y with
  | some b => .ok (.bl b) S
  | none => .no
def notInD (x y : D) (S : Sto) : Out D := match inB S x y with
  | some b => .ok (.bl (!b)) S
  | none => .no
def ixD (x y : D) (S : Sto) : Out D := match y with
  | .int i => match seqOf S x with
    | some xs => match atI xs i with
      | some d => .ok d S
      | none => .no
    | none => match x with
      | .str z => if z.length ≤ 16777216 then match atI z.cps.toList i with
          | some c => .ok (.str ⟨#[c]⟩) S
          | none => .no
        else .no
      | _ => .no
  | _ => .no

section
variable {X : Cx} {W : WX} {a b : Expr} {fa fb : EF} {pos : Pos} {k : Nat}
theorem ok_at {K : PySem.W.Frag} {j : Pl} {H : Hp} {W : WX} {σ : L2.St} {Q : VK} {d : D} {v : V} {S : Sto} (s : SR K j H S) (r : RV K j H d v) (h : OK K j H W σ Q (.ok d S)) : Q v H := h j H v (.refl _ _) s r
theorem ev_add (ha : EV X W a fa) (hb : EV X W b fb) : EV X W (.BinOp a .Add b pos) (eBin addD fa fb) :=
  ev_bin (op_add.or (op_catP.or (op_cat.or op_add_str))) (fun j H S W σ Q x y vx vy s rx ry q => by
    unfold addD at q
    split at q
    · cases rx; cases ry; exact .inl ⟨_, _, rfl, rfl, ok_at s (.int _) q⟩
    · cases rx with
      | tup h1 r1 =>
        cases ry with
        | tup h2 r2 =>
          split at q
          · rename_i hl
            refine .inr (.inl ⟨_, _, _, _, rfl, rfl, h1.sq, h2.sq, by rw [← r1.length, ← r2.length, sizeLine_eq]; exact hl, fun e => ?_, fun n e => ?_, fun _ _ p o hp ho => ?_⟩)
            · subst e; cases r1; exact ok_at s (.tup h2 r2) q
            · subst e; cases r2; rw [List.append_nil] at q; exact ok_at s (.tup h1 r1) q
            · exact q j _ _ (ext_new hp) (s.new hp) (.tup (sqp_new ho) ((r1.append r2).mono (ext_new hp)))
          · exact q.elim
    · cases rx with
      | lst h1 n1 r1 =>
        cases ry with
        | lst h2 n2 r2 =>
          split at q
          · rename_i hl
            refine .inr (.inr (.inl ⟨_, _, _, _, rfl, rfl, h1, h2, by rw [← r1.length, ← r2.length, sizeLine_eq]; exact hl, fun p hp => ?_⟩))
            exact q j _ _ (ext_new hp) (s.new hp) (.lst upd_same (s.free hp) ((r1.append r2).mono (ext_new hp)))
          · exact q.elim
    · cases rx; cases ry
      split at q
      · rename_i hl
        exact .inr (.inr (.inr ⟨_, _, rfl, rfl, line_eq hl, ok_at s (.str _) q⟩))
      · exact q.elim
    · split at q
      · rename_i xs ys ex ey
        split at q
        · rename_i hl
          obtain ⟨_, _, rfl, h1, r1⟩ := ownL_of s rx ex
          obtain ⟨_, _, rfl, h2, r2⟩ := ownL_of s ry ey
          refine .inr (.inr (.inl ⟨_, _, _, _, rfl, rfl, h1, h2, by rw [← r1.length, ← r2.length, sizeLine_eq]; exact hl, fun p hp => ?_⟩))
          exact q j _ _ (ext_new hp) (s.new hp) (.lst upd_same (s.free hp) ((r1.append r2).mono (ext_new hp)))
        · exact q.elim
      · exact q.elim) ha hb
theorem ev_sub (ha : EV X W a fa) (hb : EV X W b fb) : EV X W (.BinOp a .Sub b pos) (eBin subD fa fb) :=
  ev_bin op_sub (fun j H S W σ Q x y vx vy s rx ry q => by
    unfold subD at q
    split at q
    · cases rx; cases ry; exact ⟨_, _, rfl, rfl, ok_at s (.int _) q⟩
    · exact q.elim) ha hb
theorem ev_mul (ha : EV X W a fa) (hb : EV X W b fb) : EV X W (.BinOp a .Mult b pos) (eBin mulD fa fb) :=
  ev_bin (op_mul.or (op_rep.or (op_repP.or (op_repT1.or op_repT0)))) (fun j H S W σ Q x y vx vy s rx ry q => by
    unfold mulD at q
    split at q
    · cases rx; cases ry
      split at q
      · rename_i hc; exact .inl ⟨_, _, rfl, rfl, hc, ok_at s (.int _) q⟩
      · exact q.elim
    · rename_i xs k
      cases rx with
      | lst h1 n1 r1 =>
        cases ry
        split at q
        · rename_i hc
          refine .inr (.inl ⟨_, _, _, rfl, rfl, h1, hc.1, hc.2.1, by rw [← r1.length, sizeLine_eq]; exact hc.2.2, fun p hp => ?_⟩)
          exact q j _ _ (ext_new hp) (s.new hp) (.lst upd_same (s.free hp) (RVs.mono (ext_new hp) (by
            induction k.toNat with
            | zero => exact .nil
            | succ n ih => rw [List.replicate_succ, List.replicate_succ, List.flatten_cons, List.flatten_cons]; exact r1.append ih)))
        · exact q.elim
    · rename_i xs k
      cases rx with
      | tup h1 r1 =>
        cases ry
        split at q
        · rename_i hc
          by_cases k2 : 2 ≤ k
          · refine .inr (.inr (.inl ⟨_, _, _, rfl, rfl, h1.sq, fun e => ?_, k2, hc.2.2.1, by rw [← r1.length]; exact hc.2.2.2, fun p o hp ho => ?_⟩))
            · subst e; cases r1; exact hc.1 rfl
            · exact q j _ _ (ext_new hp) (s.new hp) (.tup (sqp_new ho) (RVs.mono (ext_new hp) (by
                induction k.toNat with
                | zero => exact .nil
                | succ n ih => rw [List.replicate_succ, List.replicate_succ, List.flatten_cons, List.flatten_cons]; exact r1.append ih)))
          · by_cases k1 : k = 1
            · subst k1
              have e1 : (List.replicate (1 : Int).toNat xs).flatten = xs := by simp
              rw [e1] at q
              exact .inr (.inr (.inr (.inl ⟨_, _, rfl, rfl, h1.sq, ok_at s (.tup h1 r1) q⟩)))
            · have e0 : (List.replicate k.toNat xs).flatten = [] := by rw [show k.toNat = 0 by omega]; rfl
              rw [e0] at q
              refine .inr (.inr (.inr (.inr ⟨_, _, _, rfl, rfl, h1.sq, fun e => ?_, hc.2.1, by omega, fun p o hp ho => ?_⟩)))
              · subst e; cases r1; exact hc.1 rfl
              · exact q j _ _ (ext_new hp) (s.new hp) (.tup (sqp_new ho) .nil)
        · exact q.elim
    · exact q.elim) ha hb
/-- a list times a number, kept to be written into -/
def mulM (x y : D) (S : Sto) : Out D := match x, y with
  | .lst xs, .int k => if -(2 ^ 63) ≤ k ∧ k < 2 ^ 63 ∧ xs.length * k.toNat ≤ 16777216 then .ok (.ref S.length) (S ++ [.lst (List.replicate k.toNat xs).flatten]) else .no
  | _, _ => .no
theorem ev_mod (ha : EV X W a fa) (hb : EV X W b fb) : EV X W (.BinOp a .Mod b pos) (eBin modD fa fb) :=
  ev_bin op_mod (fun j H S W σ Q x y vx vy s rx ry q => by
    unfold modD at q
    split at q
    · cases rx; cases ry
      split at q
      · rename_i hc; exact ⟨_, _, rfl, rfl, hc, ok_at s (.int _) q⟩
      · exact q.elim
    · exact q.elim) ha hb
theorem ev_fdiv (ha : EV X W a fa) (hb : EV X W b fb) : EV X W (.BinOp a .FloorDiv b pos) (eBin fdivD fa fb) :=
  ev_bin op_fdivW (fun j H S W σ Q x y vx vy s rx ry q => by
    unfold fdivD at q
    split at q
    · cases rx; cases ry
      split at q
      · rename_i hc; exact ⟨_, _, rfl, rfl, hc, ok_at s (.int _) q⟩
      · exact q.elim
    · exact q.elim) ha hb
theorem ev_pow (ha : EV X W a fa) (hb : EV X W b fb) : EV X W (.BinOp a .Pow b pos) (eBin powD fa fb) :=
  ev_bin op_pow (fun j H S W σ Q x y vx vy s rx ry q => by
    unfold powD at q
    split at q
    · cases rx; cases ry
      split at q
      · rename_i hc; exact ⟨_, _, rfl, rfl, hc, ok_at s (.int _) q⟩
      · exact q.elim
    · exact q.elim) ha hb
theorem cmp_ok {K : PySem.W.Frag} {p : Int → Int → Bool} : Op2 K (cmpI p) (rI0 fun i j => .bl (p i j)) := fun j H S W σ Q x y vx vy s rx ry q => by
  unfold cmpI at q
  split at q
  · cases rx; cases ry; exact ⟨_, _, rfl, rfl, ok_at s (.bl _) q⟩
  · exact q.elim
theorem eq_ok {K : PySem.W.Frag} : Op2 K eqD (rEqD K) := fun j H S W σ Q x y vx vy s rx ry q => by
  unfold eqD eqB at q
  split at q
  · rename_i b hb
    split at hb
    · rename_i hc
      cases hb
      simp only [okD, Bool.and_eq_true] at hc
      exact ⟨_, _, dp_top s rx hc.1.1, dp_top s ry hc.2.1, hc.1.2, hc.2.2, ok_at s (.bl _) q⟩
    · cases hb
  · exact q.elim
theorem ne_ok {K : PySem.W.Frag} : Op2 K neD (rNeD K) := fun j H S W σ Q x y vx vy s rx ry q => by
  unfold neD eqB at q
  split at q
  · rename_i b hb
    split at hb
    · rename_i hc
      cases hb
      simp only [okD, Bool.and_eq_true] at hc
      exact ⟨_, _, dp_top s rx hc.1.1, dp_top s ry hc.2.1, hc.1.2, hc.2.2, ok_at s (.bl _) q⟩
    · cases hb
  · exact q.elim
theorem ev_lt (ha : EV X W a fa) (hb : EV X W b fb) : EV X W (.Compare a [.Lt] [b] pos) (eBin ltD fa fb) := ev_cmp op_lt cmp_ok ha hb (nomark _)
theorem ev_ge (ha : EV X W a fa) (hb : EV X W b fb) : EV X W (.Compare a [.GtE] [b] pos) (eBin geD fa fb) := ev_cmp op_ge cmp_ok ha hb (nomark _)
theorem ev_eq (at' : AtU X) (ha : EV X W a fa) (hb : EV X W b fb) : EV X W (.Compare a [.Eq] [b] pos) (eBin eqD fa fb) := ev_cmp (op_eqD (by have := at'.un; omega)) eq_ok ha hb (nomark _)
theorem ev_lele {c : Expr} {fc : EF} (ha : EV X W a fa) (hb : EV X W b fb) (hc : EV X W c fc) (hm : lastMarks [CmpOp.LtE, .LtE] [b, c] = false := by with_unfolding_all rfl) : EV X W (.Compare a [.LtE, .LtE] [b, c] pos) (eChain leD leD fa fb fc) := ev_chain op_le cmp_ok op_le cmp_ok ha hb hc hm
theorem is_ok {K : PySem.W.Frag} : Op2 K isD (fun x y H Q => (y = .non ∧ Q (.bl (decide (x = .non))) H) ∨ (∃ a b, x = .bl a ∧ y = .bl b ∧ Q (.bl (decide (a = b))) H)) := fun j H S W σ Q x y vx vy s rx ry q => by
  unfold isD at q
  split at q
  · cases ry
    refine .inl ⟨rfl, ?_⟩
    have q' := ok_at s (.bl _) q
    cases rx <;> exact q'
  · cases rx; cases ry; exact .inr ⟨_, _, rfl, rfl, ok_at s (.bl _) q⟩
  · exact q.elim
theorem isNot_ok {K : PySem.W.Frag} : Op2 K isNotD (fun x y H Q => (y = .non ∧ Q (.bl (!decide (x = .non))) H) ∨ (∃ a b, x = .bl a ∧ y = .bl b ∧ Q (.bl (!decide (a = b))) H)) := fun j H S W σ Q x y vx vy s rx ry q => by
  unfold isNotD at q
  split at q
  · cases ry
    refine .inl ⟨rfl, ?_⟩
    have q' := ok_at s (.bl _) q
    cases rx <;> exact q'
  · cases rx; cases ry; exact .inr ⟨_, _, rfl, rfl, ok_at s (.bl _) q⟩
  · exact q.elim
theorem ev_is (ha : EV X W a fa) (hb : EV X W b fb) : EV X W (.Compare a [.Is] [b] pos) (eBin isD fa fb) := ev_cmp (op_isN.or op_is_bl) is_ok ha hb (nomark _)
theorem seq_ofP {K : PySem.W.Frag} {j : Pl} {H : Hp} {S : Sto} {d : D} {v : V} {xs : List D} (s : SR K j H S) (r : RV K j H d v) (h : seqOf S d = some xs) : ∃ a vs, v = .ref a ∧ (SqL K H a vs ∨ SqP H a vs) ∧ RVs K j H xs vs := by
  unfold seqOf at h
  split at h
  · cases h
    cases r with
    | tup h1 r => exact ⟨_, _, rfl, .inr h1, r⟩
  · obtain ⟨a, vs, h1, h2, h3⟩ := lst_of s r h
    exact ⟨a, vs, h1, .inl h2, h3⟩
theorem seq_of {K : PySem.W.Frag} {j : Pl} {H : Hp} {S : Sto} {d : D} {v : V} {xs : List D} (s : SR K j H S) (r : RV K j H d v) (h : seqOf S d = some xs) : ∃ a vs, v = .ref a ∧ (SqL K H a vs ∨ SqT K H a vs) ∧ RVs K j H xs vs := by
  obtain ⟨a, vs, h1, h2, h3⟩ := seq_ofP s r h
  exact ⟨a, vs, h1, h2.imp id SqP.sq, h3⟩
theorem atI_rv {K : PySem.W.Frag} {j : Pl} {H : Hp} {xs : List D} {vs : List V} {i : Int} {d : D} (r : RVs K j H xs vs) (h : atI xs i = some d) : ∃ v, atI vs i = some v ∧ RV K j H d v := by
  unfold atI at h ⊢
  rw [← r.length]
  cases e : ixN xs.length i with
  | none => rw [e] at h; cases h
  | some n =>
    rw [e] at h
    exact r.get h
theorem ix_ok {K : PySem.W.Frag} : Op2 K ixD (fun x y H Q => rIxL K x y H Q ∨ rIxT K x y H Q ∨ rIxS x y H Q) := fun j H S W σ Q x y vx vy s rx ry q => by
  unfold ixD at q
  split at q
  · cases ry
    split at q
    · rename_i xs hx
      split at q
      · rename_i d hd
        obtain ⟨a, vs, rfl, hq, r⟩ := seq_of s rx hx
        obtain ⟨v, hv, rv⟩ := atI_rv r hd
        have z := ok_at s rv q
        rcases hq with hq | hq
        · exact .inl ⟨a, vs, _, v, rfl, rfl, hq, hv, z⟩
        · exact .inr (.inl ⟨a, vs, _, v, rfl, rfl, hq, hv, z⟩)
      · exact q.elim
    · split at q
      · cases rx
        split at q
        · rename_i hl
          split at q
          · rename_i c hc
            exact .inr (.inr ⟨_, _, c, rfl, rfl, line_eq hl, hc, ok_at s (.str _) q⟩)
          · exact q.elim
        · exact q.elim
      · exact q.elim
  · exact q.elim
theorem ev_at (ha : EV X W a fa) (hb : EV X W b fb) (hs : PlainIx b := by exact fun _ _ => rfl) : EV X W (.Subscript a b pos) (eBin ixD fa fb) := ev_ix (ix_list.or (ix_tup.or ix_str)) ix_ok ha hb hs
end
end DL

set_option Elab.async false
set_option linter.all false
set_option maxRecDepth 100000
namespace DL
open PySem PySem.Spec PyProof.Rows L2
variable [Tb]

theorem CallR.or {X : Cx} {f : Value} {r r' : List V → Hp → VK → Prop} (h : CallR X f r) (h' : CallR X f r') : CallR X f (fun xs H Q => r xs H Q ∨ r' xs H Q) := fun pins s σ H xs us Q I r q => by
  rcases q with q | q
  · exact h pins s σ H xs us Q I r q
  · exact h' pins s σ H xs us Q I r q

/-! ### in -/
def rInT (K : PySem.W.Frag) : R2 := fun x y H Q => ∃ d ds, Dp K H x d ∧ Dp K H y (.tuple ds) ∧ SeqAt.shaped d = true ∧ SeqAt.shaped (.tuple ds) = true ∧ Q (.bl (ds.any fun z => PyData.eqv z d)) H
def rNotInT (K : PySem.W.Frag) : R2 := fun x y H Q => ∃ d ds, Dp K H x d ∧ Dp K H y (.tuple ds) ∧ SeqAt.shaped d = true ∧ SeqAt.shaped (.tuple ds) = true ∧ Q (.bl (!ds.any fun z => PyData.eqv z d)) H
theorem op_inT {X : Cx} (hu : X.A.units + 65 < cLine) : OpR X (compareOp .In) (rInT X.K) := by
  intro pins s σ H x y v u Q I rx ry ⟨d, ds, hd, he, sd, se, q⟩
  obtain ⟨as, r1⟩ := Dp.reads I d x v hd rx
  obtain ⟨bs, r2⟩ := Dp.reads I (.tuple ds) y u he ry
  have c2 : PyData.canLayAll0 ds = true := SeqAt.canLay_of_shaped se
  exact SeqAt.in_tuple_reads r2 r1 c2 (SeqAt.canLay_of_shaped sd) (room_in_shaped sd hu) ⟨.bl _, H, I, rfl, q⟩
theorem op_notInT {X : Cx} (hu : X.A.units + 65 < cLine) : OpR X (compareOp .NotIn) (rNotInT X.K) := by
  intro pins s σ H x y v u Q I rx ry ⟨d, ds, hd, he, sd, se, q⟩
  obtain ⟨as, r1⟩ := Dp.reads I d x v hd rx
  obtain ⟨bs, r2⟩ := Dp.reads I (.tuple ds) y u he ry
  have c2 : PyData.canLayAll0 ds = true := SeqAt.canLay_of_shaped se
  exact SeqAt.notIn_tuple_reads r2 r1 c2 (SeqAt.canLay_of_shaped sd) (room_in_shaped sd hu) ⟨.bl _, H, I, rfl, q⟩
section
variable {X : Cx} {W : WX} {a b : Expr} {fa fb : EF} {pos : Pos} {k : Nat}
theorem in_ok {K : PySem.W.Frag} : Op2 K inD (fun x y H Q => rInD K x y H Q ∨ rInT K x y H Q) := fun j H S W σ Q x y vx vy s rx ry q => by
  unfold inD inB at q
  split at q
  · rename_i b hb
    split at hb
    · rename_i hc
      simp only [okD, Bool.and_eq_true] at hc
      have d1 := dp_top s rx hc.1.1
      have d2 := dp_top s ry hc.2.1
      split at hb
      · rename_i ys e
        cases hb
        rw [e] at d2 hc
        exact .inr ⟨_, _, d1, d2, hc.1.2, hc.2.2, ok_at s (.bl _) q⟩
      · rename_i ys e
        cases hb
        rw [e] at d2 hc
        exact .inl ⟨_, _, d1, d2, hc.1.2, hc.2.2, ok_at s (.bl _) q⟩
      · rename_i ys e
        cases hb
        rw [e] at d2 hc
        exact .inl ⟨_, _, d1, d2, hc.1.2, hc.2.2, ok_at s (.bl _) q⟩
      · cases hb
    · cases hb
  · exact q.elim
theorem notIn_ok {K : PySem.W.Frag} : Op2 K notInD (fun x y H Q => rNotInD K x y H Q ∨ rNotInT K x y H Q) := fun j H S W σ Q x y vx vy s rx ry q => by
  unfold notInD inB at q
  split at q
  · rename_i b hb
    split at hb
    · rename_i hc
      simp only [okD, Bool.and_eq_true] at hc
      have d1 := dp_top s rx hc.1.1
      have d2 := dp_top s ry hc.2.1
      split at hb
      · rename_i ys e
        cases hb
        rw [e] at d2 hc
        exact .inr ⟨_, _, d1, d2, hc.1.2, hc.2.2, ok_at s (.bl _) q⟩
      · rename_i ys e
        cases hb
        rw [e] at d2 hc
        exact .inl ⟨_, _, d1, d2, hc.1.2, hc.2.2, ok_at s (.bl _) q⟩
      · rename_i ys e
        cases hb
        rw [e] at d2 hc
        exact .inl ⟨_, _, d1, d2, hc.1.2, hc.2.2, ok_at s (.bl _) q⟩
      · cases hb
    · cases hb
  · exact q.elim
theorem AtU.u65 {X : Cx} (at' : AtU X) : X.A.units + 65 < cLine := by have := at'.un; omega
theorem ev_notIn (at' : AtU X) (ha : EV X W a fa) (hb : EV X W b fb) (hm : behindInMarks .NotIn b = false := by rfl) : EV X W (.Compare a [.NotIn] [b] pos) (eBin notInD fa fb) := ev_cmp ((op_notInD at'.u65).or (op_notInT at'.u65)) notIn_ok ha hb hm
end

/-! ### slices -/
abbrev OF := DL.Env → Sto → Out (Option Int)
def oNone : OF := fun _ S => .ok none S
def oSome (fa : EF) : OF := fun ρ S => (fa ρ S).bind fun d S1 => match d with
  | .int i => .ok (some i) S1
  | _ => .no
def cutD (xs : List D) (lo hi : Option Int) : List D := (xs.drop (HT.sIx xs.length 0 lo)).take (HT.sIx xs.length xs.length hi - HT.sIx xs.length 0 lo)
def eSl (fa : EF) (fl fh : OF) : EF := fun ρ S => (fa ρ S).bind fun d S1 => (fl ρ S1).bind fun lo S2 => (fh ρ S2).bind fun hi S3 => match d with
  | .tup xs => .ok (.tup (cutD xs lo hi)) S3
  | d => match lstOf S3 d with
    | some xs => .ok (.lst (cutD xs lo hi)) S3
    | none => .no
def rdO (K : PySem.W.Frag) (W : WX) (f : OF) : TO := fun σ H Q => ∃ j ρ S, SR K j H S ∧ ER K j H ρ σ ∧ OKg K j H W σ (fun _ _ (a b : Option Int) => a = b) Q (f ρ S)
abbrev EO (X : Cx) (W : WX) (e : Option Expr) (f : OF) : Prop := PO X e (rdO X.K W f)
theorem po_imp {X : Cx} {e : Option Expr} {t t' : TO} (h : PO X e t) (i : ∀ σ H Q, t' σ H Q → t σ H Q) : PO X e t' := ⟨fun pins s σ H Q I q => h.run pins s σ H Q I (i σ H Q q)⟩
section
variable {X : Cx} {W : WX} {e : Expr} {lo hi : Option Expr} {fa : EF} {fl fh : OF} {pos p2 : Pos}
theorem eo_none : EO X W none oNone := po_imp po_none fun σ H Q ⟨j, ρ, S, hs, hr, q⟩ => q j H none (.refl _ _) hs rfl
theorem eo_some (h : EV X W e fa) : EO X W (some e) (oSome fa) := po_imp (po_some h) fun σ H Q ⟨j, ρ, S, hs, hr, q⟩ => by
  refine ⟨j, ρ, S, hs, hr, OKg.bind q fun j1 H1 x vx S1 e1 s1 r1 q1 => ?_⟩
  cases r1 with
  | int i => exact ⟨i, rfl, q1 j1 H1 _ (.refl _ _) s1 rfl⟩
  | _ => exact q1.elim
theorem SlR.or' {r r' : V → Option Int → Option Int → Hp → VK → Prop} (h : SlR X r) (h' : SlR X r') : SlR X (fun x lo hi H Q => r x lo hi H Q ∨ r' x lo hi H Q) := SlR.or h h'
theorem cut_rv {K : PySem.W.Frag} {j : Pl} {H : Hp} {xs : List D} {vs : List V} (r : RVs K j H xs vs) (lo hi : Option Int) : RVs K j H (cutD xs lo hi) (cutV vs lo hi) := by
  unfold cutD cutV
  rw [r.length]
  exact (r.drop _).take _
theorem ev_sl (h : EV X W e fa) (hl : EO X W lo fl) (hh : EO X W hi fh) : EV X W (.Subscript e (.Slice lo hi none p2) pos) (eSl fa fl fh) := pe_imp (pe_slice (SlR.or' sl_list sl_tupP) h hl hh) fun σ H Q ⟨j, ρ, S, hs, hr, q⟩ => by
  refine ⟨j, ρ, S, hs, hr, OKg.bind q fun j1 H1 x vx S1 e1 s1 r1 q1 => ?_⟩
  refine ⟨j1, ρ, S1, s1, hr.mono e1, OKg.bind q1 fun j2 H2 a b S2 e2 s2 r2 q2 => ?_⟩
  subst r2
  refine ⟨j2, ρ, S2, s2, (hr.mono e1).mono e2, OKg.bind q2 fun j3 H3 c d S3 e3 s3 r3 q3 => ?_⟩
  subst r3
  have r := (r1.mono e2).mono e3
  split at q3
  · rename_i xs
    cases r with
    | @tup p vs _ hq r =>
      refine .inr ⟨p, vs, rfl, hq.sq, fun hw => ?_, fun _ t o ht ho => ?_⟩
      · have : cutD xs a c = xs := by
          unfold cutD
          rw [r.length, hw.1, hw.2, Nat.sub_zero, List.drop_zero, ← r.length]
          exact List.take_length
        rw [this] at q3
        exact ok_at s3 (.tup hq r) q3
      · exact q3 j3 _ _ (ext_new ht) (s3.new ht) (.tup (sqp_new ho) ((cut_rv r a c).mono (ext_new ht)))
  · split at q3
    · rename_i xs hx
      obtain ⟨p, vs, rfl, hq, r⟩ := lst_of s3 r hx
      exact .inl ⟨p, vs, rfl, hq, fun t ht => q3 j3 _ _ (ext_new ht) (s3.new ht) (.lst upd_same (s3.free ht) ((cut_rv r a c).mono (ext_new ht)))⟩
    · exact q3.elim
end

/-! ### built-in functions -/
def lenD (xs : List D) (S : Sto) : Out D := match xs with
  | [d] => match seqOf S d with
    | some ys => .ok (.int ys.length) S
    | none => match d with
      | .str x => if x.length ≤ 16777216 then .ok (.int x.length) S else .no
      | _ => .no
  | _ => .no
def intD (xs : List D) (S : Sto) : Out D := match xs with
  | [.int i] => .ok (.int i) S
  | [.bl b] => .ok (.int (if b then 1 else 0)) S
  | _ => .no
def intsOf : List D → Option (List Int)
  | [] => some []
  | .int i :: r => (intsOf r).map (i :: ·)
  | _ => none
def blsOf : List D → Option (List Bool)
  | [] => some []
  | .bl i :: r => (blsOf r).map (i :: ·)
  | _ => none
/-- max, min of two ints -/
def max2D (xs : List D) (S : Sto) : Out D := match xs with
  | [.int i, .int j] => .ok (.int (if j > i then j else i)) S
  | _ => .no
def min2D (xs : List D) (S : Sto) : Out D := match xs with
  | [.int i, .int j] => .ok (.int (if j < i then j else i)) S
  | _ => .no
def sumD (xs : List D) (S : Sto) : Out D := match xs with
  | [d] => match (lstOf S d).bind intsOf with
    | some ns => .ok (.int ns.sum) S
    | none => .no
  | _ => .no
def anyD (xs : List D) (S : Sto) : Out D := match xs with
  | [d] => match (lstOf S d).bind blsOf with
    | some bs => .ok (.bl (bs.any id)) S
    | none => .no
  | _ => .no
def allD (xs : List D) (S : Sto) : Out D := match xs with
  | [d] => match (lstOf S d).bind blsOf with
    | some bs => .ok (.bl (bs.all id)) S
    | none => .no
  | _ => .no
def tupleD (xs : List D) (S : Sto) : Out D := match xs with
  | [d] => match seqOf S d with
    | some ys => .ok (.tup ys) S
    | none => .no
  | _ => .no
/-- list(x), that nobody changes; listM: one of its own place -/
def listD (xs : List D) (S : Sto) : Out D := match xs with
  | [d] => match seqOf S d with
    | some ys => .ok (.lst ys) S
    | none => .no
  | _ => .no
def listM (xs : List D) (S : Sto) : Out D := match xs with
  | [d] => match seqOf S d with
    | some ys => .ok (.ref S.length) (S ++ [.lst ys])
    | none => .no
  | _ => .no
def tyOf (S : Sto) : D → Option String
  | .non => some "NoneType"
  | .bl _ => some "bool"
  | .int _ => some "int"
  | .str _ => some "str"
  | .tup _ => some "tuple"
  | .lst _ => some "list"
  | .frl _ => some "list"
  | .ref n => match S[n]? with
    | some (.lst _) => some "list"
    | some (.dk _) => some "dict"
    | _ => none
  | .ty _ => none
  | .rng _ _ => none
  | .exc _ _ _ _ => none
  | .pr _ _ => none
def isiD (xs : List D) (S : Sto) : Out D := match xs with
  | [d, .ty T] => match tyOf S d with
    | some t => match kitB t T with
      | some b => .ok (.bl b) S
      | none => .no
    | none => .no
  | _ => .no
def reprD (xs : List D) (S : Sto) : Out D := match xs with
  | [d] => if okD (top S d) = true ∧ (top S d).P.showable = true ∧ (top S d).P.shown.length ≤ 16777216 then .ok (.str (top S d).P.shown) S else .no
  | _ => .no
section
variable {X : Cx} {W : WX} {e : Expr} {es : List Expr} {f : AF} {pos p : Pos} {k : Nat} {K : PySem.W.Frag}
theorem len_ok : OpA K lenD (fun xs H Q => ∃ x n, xs = [x] ∧ LenV K x H n ∧ Q (.int n) H) := fun j H S W σ Q xs vs s r q => by
  unfold lenD at q
  split at q
  · rename_i d
    cases r with
    | cons r1 r2 =>
      cases r2
      split at q
      · rename_i ys hy
        obtain ⟨a, ws, rfl, hq, r⟩ := seq_of s r1 hy
        refine ⟨_, ys.length, rfl, ?_, ok_at s (.int _) q⟩
        rcases hq with hq | hq
        · exact .inl ⟨ws, hq, r.length⟩
        · exact .inr ⟨ws, hq, r.length⟩
      · split at q
        · cases r1
          split at q
          · rename_i hl; exact ⟨_, _, rfl, ⟨line_eq hl, rfl⟩, ok_at s (.int _) q⟩
          · exact q.elim
        · exact q.elim
  · exact q.elim
theorem int_ok : OpA K intD (fun xs H Q => (∃ i, xs = [V.int i] ∧ Q (.int i) H) ∨ ∃ k, xs = [V.bl k] ∧ Q (.int (if k then 1 else 0)) H) := fun j H S W σ Q xs vs s r q => by
  unfold intD at q
  split at q
  · cases r with
    | cons r1 r2 => cases r2; cases r1; exact .inl ⟨_, rfl, ok_at s (.int _) q⟩
  · cases r with
    | cons r1 r2 => cases r2; cases r1; exact .inr ⟨_, rfl, ok_at s (.int _) q⟩
  · exact q.elim
theorem rv2 {j : Pl} {H : Hp} {x y : D} {vs : List V} (r : RVs K j H [x, y] vs) : ∃ v w, vs = [v, w] ∧ RV K j H x v ∧ RV K j H y w := by
  cases r with
  | cons r1 r2 => cases r2 with
    | cons r2 r3 => cases r3; exact ⟨_, _, rfl, r1, r2⟩
theorem rv1 {j : Pl} {H : Hp} {x : D} {vs : List V} (r : RVs K j H [x] vs) : ∃ v, vs = [v] ∧ RV K j H x v := by
  cases r with
  | cons r1 r2 => cases r2; exact ⟨_, rfl, r1⟩
theorem max2_ok : OpA K max2D (fun xs H Q => ∃ i j, xs = [V.int i, .int j] ∧ Q (.int (if j > i then j else i)) H) := fun j H S W σ Q xs vs s r q => by
  unfold max2D at q
  split at q
  · obtain ⟨v, w, rfl, r1, r2⟩ := rv2 r
    cases r1; cases r2; exact ⟨_, _, rfl, ok_at s (.int _) q⟩
  · exact q.elim
theorem min2_ok : OpA K min2D (fun xs H Q => ∃ i j, xs = [V.int i, .int j] ∧ Q (.int (if j < i then j else i)) H) := fun j H S W σ Q xs vs s r q => by
  unfold min2D at q
  split at q
  · obtain ⟨v, w, rfl, r1, r2⟩ := rv2 r
    cases r1; cases r2; exact ⟨_, _, rfl, ok_at s (.int _) q⟩
  · exact q.elim
theorem bls_rv {j : Pl} {H : Hp} : ∀ {xs : List D} {vs : List V} {ns : List Bool}, RVs K j H xs vs → blsOf xs = some ns → vs = ns.map V.bl
  | [], _, _, .nil, h => by cases h; rfl
  | .bl i :: xs, _, ns, .cons r1 r2, h => by
    cases r1
    simp only [blsOf] at h
    cases e : blsOf xs with
    | none => rw [e] at h; cases h
    | some ms => rw [e] at h; cases h; rw [bls_rv r2 e]; rfl
  | .non :: _, _, _, _, h => by cases h
  | .int _ :: _, _, _, _, h => by cases h
  | .str _ :: _, _, _, _, h => by cases h
  | .tup _ :: _, _, _, _, h => by cases h
  | .lst _ :: _, _, _, _, h => by cases h
  | .frl _ :: _, _, _, _, h => by cases h
  | .ref _ :: _, _, _, _, h => by cases h
  | .ty _ :: _, _, _, _, h => by cases h
  | .exc _ _ _ _ :: _, _, _, _, h => by cases h
  | .pr _ _ :: _, _, _, _, h => by cases h
theorem all_ok : OpA K allD (rAll K) := fun j H S W σ Q xs vs s r q => by
  unfold allD at q
  split at q
  · rename_i d
    obtain ⟨v, rfl, r1⟩ := rv1 r
    split at q
    · rename_i ns hn
      obtain ⟨ys, h1, h2⟩ := Option.bind_eq_some_iff.mp hn
      obtain ⟨a, ws, rfl, hq, r⟩ := lst_of s r1 h1
      rw [bls_rv r h2] at hq
      exact ⟨a, ns, rfl, hq, ok_at s (.bl _) q⟩
    · exact q.elim
  · exact q.elim
theorem tuple_ok : OpA K tupleD (rTupP K) := fun j H S W σ Q xs vs s r q => by
  unfold tupleD at q
  split at q
  · rename_i d
    obtain ⟨v, rfl, r1⟩ := rv1 r
    split at q
    · rename_i ys hy
      obtain ⟨a, ws, rfl, hq, r⟩ := seq_ofP s r1 hy
      refine ⟨a, ws, rfl, ?_⟩
      rcases hq with hq | hq
      · exact .inl ⟨hq, fun l o hl ho => q j _ _ (ext_new hl) (s.new hl) (.tup (sqp_new ho) (r.mono (ext_new hl)))⟩
      · exact .inr ⟨hq.sq, ok_at s (.tup hq r) q⟩
    · exact q.elim
  · exact q.elim
theorem listM_ok : OpA K listM (fun xs H Q => ∃ p ys, xs = [V.ref p] ∧ (SqL K H p ys ∨ SqT K H p ys) ∧ ∀ l, H l = none → Q (.ref l) (upd H l (.lst ys))) := fun j H S W σ Q xs vs s r q => by
  unfold listM at q
  split at q
  · rename_i d
    obtain ⟨v, rfl, r1⟩ := rv1 r
    split at q
    · rename_i ys hy
      obtain ⟨a, ws, rfl, hq, r⟩ := seq_of s r1 hy
      exact ⟨a, ws, rfl, hq, fun l hl => q _ _ _ (ext_push hl) (s.push hl ⟨ws, upd_same, r.mono (ext_push hl)⟩) (.ref (s.at_last l))⟩
    · exact q.elim
  · exact q.elim
theorem ty_ok {j : Pl} {H : Hp} {S : Sto} {d : D} {v : V} {t : String} (s : SR K j H S) (r : RV K j H d v) (h : tyOf S d = some t) : TyX K H v (.type t) := by
  cases r with
  | non => cases h; exact .base .non
  | bl b => cases h; exact .base (.bl b)
  | int b => cases h; exact .base (.int b)
  | str b => cases h; exact .base (.str b)
  | ty b => cases h
  | rng h1 h2 => cases h
  | exc h1 h2 r => cases h
  | tup hq r =>
    cases h
    obtain ⟨o, hq, _⟩ := hq
    exact .fTuple hq
  | pr h1 r s => cases h
  | lst hq n r => cases h; exact .base (.lst hq)
  | frl hq r =>
    cases h
    rcases hq with ⟨hq, _⟩ | ⟨o, hq⟩ | ⟨o, its, n, h1, h2, _⟩
    · exact .base (.lst hq)
    · exact .base (.frz hq)
    · exact .kList h1 h2
  | @ref n a hn =>
    simp only [tyOf] at h
    cases e : S[n]? with
    | none => rw [e] at h; cases h
    | some o =>
      rw [e] at h
      have ro := s.objs n o a e hn
      cases o with
      | lst xs => cases h; obtain ⟨vs, h1, _⟩ := ro; exact .base (.lst h1)
      | dk xs => cases h; obtain ⟨vs, h1, _⟩ := ro; exact .base (.dK h1)
      | _ => cases h
theorem isi_ok : OpA K isiD (rIsi K) := fun j H S W σ Q xs vs s r q => by
  unfold isiD at q
  split at q
  · rename_i d T
    obtain ⟨v, w, rfl, r1, r2⟩ := rv2 r
    cases r2
    split at q
    · rename_i t ht
      split at q
      · rename_i b hb
        exact ⟨v, _, _, _, b, rfl, .ty T, ty_ok s r1 ht, kit_ty hb, ok_at s (.bl _) q⟩
      · exact q.elim
    · exact q.elim
  · exact q.elim

def rRepr (K : PySem.W.Frag) : List V → Hp → VK → Prop := fun xs H Q => ∃ x d, xs = [x] ∧ Dp K H x d ∧ SeqAt.shaped d = true ∧ d.showable = true ∧ d.shown.length ≤ sizeLine ∧ Q (.str d.shown) H
theorem call_repr (hg : X.A.guards = some []) (hu : X.A.units + 80 < cLine) : CallR X (.builtin "repr") (rRepr X.K) := by
  intro pins s σ H xs us Q I r ⟨x, d, e, hd, sh, sw, hl, q⟩
  subst e
  obtain ⟨u, rfl, rx⟩ := vals1 r
  obtain ⟨as, rd⟩ := Dp.reads I d x u hd rx
  have dep : d.depth ≤ 64 := by
    unfold SeqAt.shaped at sh
    simp only [Bool.and_eq_true, decide_eq_true_eq] at sh
    exact sh.2
  have noD : d.hasDict = true → sysModules ∉ as := PyData.noDict_hsm (PyData.hasDict_of_canLay d (SeqAt.canLay_of_shaped sh))
  have fin : ∀ h' t tk, (∀ b o, s.heap.get? b = some o → h'.get? b = some o) → EP X pins σ Q (.str d.shown t) { s with heap := h', toks := tk } := fun h' t tk hk => ⟨.str _, H, I.kept hk, ⟨_, rfl⟩, q⟩
  cases hd with
  | non => cases rx; exact PySem.P.repr_of_none (fin s.heap _ _ fun _ _ h => h)
  | bl b => cases rx; exact PySem.P.repr_of_bool (fin s.heap _ _ fun _ _ h => h)
  | int i =>
    obtain ⟨t, rfl⟩ := rx
    exact PySem.P.repr_of_int (of_decide_eq_true (by simpa only [PyData.showable] using sw)) (fin s.heap _ _ fun _ _ h => h)
  | str x =>
    obtain ⟨t, rfl⟩ := rx
    exact PySem.P.repr_of_str (fin s.heap _ _ fun _ _ h => h) hl
  | lst h1 h2 => cases rx; exact repr_of_reads' rd sw noD hg (by omega) (fun _ _ h => h) fin hl
  | tup h1 h2 => cases rx; exact repr_of_reads' rd sw noD hg (by omega) (fun _ _ h => h) fin hl
theorem repr_ok : OpA K reprD (rRepr K) := fun j H S W σ Q xs vs s r q => by
  unfold reprD at q
  split at q
  · obtain ⟨v, rfl, r1⟩ := rv1 r
    split at q
    · rename_i hc
      obtain ⟨h1, h2, h3⟩ := hc
      simp only [okD, Bool.and_eq_true] at h1
      exact ⟨v, _, rfl, dp_top s r1 h1.1, h1.2, h2, line_eq h3, ok_at s (.str _) q⟩
    · exact q.elim
  · exact q.elim
end
end DL

set_option Elab.async false
set_option linter.all false
set_option maxRecDepth 100000
namespace DL
open PySem PySem.Spec PyProof.Rows L2
variable [Tb]

/-! ### what changes a list -/
abbrev Me := D → List D → Sto → Out D
def eLM (g : Me) (fo : EF) (fa : AF) : EF := fun ρ S => (fo ρ S).bind fun o S1 => match lstOf S1 o with
  | some _ => (fa ρ S1).bind fun xs S2 => g o xs S2
  | none => .no
def appendD (o : D) (xs : List D) (S : Sto) : Out D := match o, xs with
  | .ref n, [d] => match S[n]? with
    | some (.lst ys) => if ys.length < 16777216 then .ok .non (S.set n (.lst (ys ++ [d]))) else .no
    | _ => .no
  | _, _ => .no
/-- a list of the text's own (none that is only read) -/
def ownOf (S : Sto) : D → Option (List D)
  | .lst xs => some xs
  | .ref n => match S[n]? with
    | some (.lst xs) => some xs
    | _ => none
  | _ => none
def extendD (o : D) (xs : List D) (S : Sto) : Out D := match o, xs with
  | .ref n, [d] => match S[n]?, ownOf S d with
    | some (.lst ys), some zs => if ys.length + zs.length ≤ 16777216 then .ok .non (S.set n (.lst (ys ++ zs))) else .no
    | _, _ => .no
  | _, _ => .no
def popD (o : D) (xs : List D) (S : Sto) : Out D := match o, xs with
  | .ref n, [] => match S[n]? with
    | some (.lst ys) => match ys[ys.length - 1]? with
      | some d => .ok d (S.set n (.lst ys.dropLast))
      | none => .no
    | _ => .no
  | .ref n, [.int i] => match S[n]? with
    | some (.lst ys) => if -(2 ^ 63) ≤ i ∧ i < 2 ^ 63 then match seqIndex? i ys.length with
        | some k => match ys[k]? with
          | some d => .ok d (S.set n (.lst (ys.eraseIdx k)))
          | none => .no
        | none => .no
      else .no
    | _ => .no
  | _, _ => .no
def MtA (K : PySem.W.Frag) (g : Me) (r : V → List V → Hp → VK → Prop) : Prop :=
  ∀ (j : Pl) (H : Hp) (S : Sto) (W : WX) (σ : L2.St) (Q : VK) (x : D) (vx : V) (xs : List D) (vs : List V), SR K j H S → RV K j H x vx → RVs K j H xs vs → OK K j H W σ Q (g x xs S) → r vx vs H Q
section
variable {X : Cx} {W : WX} {o e : Expr} {es : List Expr} {fo : EF} {f : AF} {apos cpos : Pos} {K : PySem.W.Frag}
theorem ev_lm {name : Str} {id : String} {g : Me} {r : V → List V → Hp → VK → Prop} (slot : Slot "list" name id) (hty : typeOf (.builtin id) = pure (.type "method_descriptor")) (hm : MtR X id r) (hi : MtA X.K g r) (ho : EV X W o fo) (ha : EA X W (e :: es) f)
    (hbase : attributeBase o name X.env (eval o X.env) = eval o X.env := by rfl)
    (hfew : ((backTo cpos (starEach (e :: es) X.env)).all (fun x => !x.1) && (backToKw cpos (keywordEach [] X.env)).all (fun x => x.1.isSome)
      && decide ((e :: es).length + ([] : List Keyword).length + (if ([] : List Keyword).isEmpty then 0 else 1) < 30)) = true := by rfl) (hline : (apos.endLine == cpos.line) = true := by rfl)
    (hs : starEach (e :: es) X.env = (false, eval e X.env) :: starEach es X.env := by rfl) (hplain : (backTo cpos (starEach es X.env)).any (·.1) = false := by rfl) :
    EV X W (.Call (.Attribute o name apos) (e :: es) [] cpos) (eLM g fo f) := pe_imp (pe_bm PySem.F.plainAttrs_list slot hty hm ho ha hbase hfew hline hs hplain) fun σ H Q ⟨j, ρ, S, hs, hr, q⟩ => by
  refine ⟨j, ρ, S, hs, hr, OKg.bind q fun j1 H1 x vx S1 e1 s1 r1 q1 => ?_⟩
  split at q1
  · rename_i ys hy
    obtain ⟨a, vs, rfl, hq, _⟩ := lst_of s1 r1 hy
    refine ⟨.inl ⟨rfl, vs, hq⟩, j1, ρ, S1, s1, hr.mono e1, OKg.bind q1 fun j2 H2 xs vs S2 e2 s2 r2 q2 => ?_⟩
    exact hi j2 H2 S2 W σ Q x _ xs vs s2 (r1.mono e2) r2 q2
  · exact q1.elim
theorem SR.lst {j : Pl} {H : Hp} {S : Sto} (s : SR K j H S) {n : Nat} {xs : List D} {a : Addr} (h : S[n]? = some (.lst xs)) (ha : j.l[n]? = some a) : ∃ vs, H a = some (.lst vs) ∧ RVs K j H xs vs := s.objs n _ a h ha
theorem wr_l {j : Pl} {H : Hp} {S : Sto} {W : WX} {σ : L2.St} {Q : VK} {d : D} {v : V} {n : Nat} {a : Addr} {xs zs : List D} {vs ws : List V} (s : SR K j H S) (ha : j.l[n]? = some a) (h : H a = some (.lst vs)) (r : RVs K j H zs ws) (rd : RV K j H d v)
    (q : OK K j H W σ Q (.ok d (S.set n (.lst zs)))) : Q v (upd H a (.lst ws)) := by
  have e : Ext j H j (upd H a (.lst ws)) := ext_write (List.mem_of_getElem? ha) h (fun z => z)
  exact q j _ v e (s.write ha h (fun z => z) ⟨ws, upd_same, r.mono e⟩) (rd.mono e)
theorem append_ok : MtA K appendD rAppend := fun j H S W σ Q x vx xs vs s rx r q => by
  unfold appendD at q
  split at q
  · rename_i n d
    obtain ⟨v, rfl, r1⟩ := rv1 r
    cases rx with
    | ref hn =>
      split at q
      · rename_i ys hy
        split at q
        · rename_i hl
          obtain ⟨ws, h1, h2⟩ := s.lst hy hn
          exact ⟨_, ws, v, rfl, rfl, h1, by rw [← h2.length, sizeLine_eq]; exact hl, wr_l (xs := ys) s hn h1 (h2.append (.cons r1 .nil)) .non q⟩
        · exact q.elim
      · exact q.elim
  · exact q.elim
theorem own_of {j : Pl} {H : Hp} {S : Sto} {d : D} {v : V} {xs : List D} (s : SR K j H S) (r : RV K j H d v) (h : ownOf S d = some xs) : ∃ a vs, v = .ref a ∧ H a = some (.lst vs) ∧ RVs K j H xs vs := by
  cases r with
  | lst h1 h2 r => cases h; exact ⟨_, _, rfl, h1, r⟩
  | @ref n a hn =>
    simp only [ownOf] at h
    cases e : S[n]? with
    | none => rw [e] at h; cases h
    | some o =>
      rw [e] at h
      cases o with
      | lst ys =>
        cases h
        obtain ⟨vs, h1, r⟩ := s.objs n _ a e hn
        exact ⟨a, vs, rfl, h1, r⟩
      | _ => cases h
  | _ => cases h
theorem extend_ok : MtA K extendD rExtend := fun j H S W σ Q x vx xs vs s rx r q => by
  unfold extendD at q
  split at q
  · rename_i n d
    obtain ⟨v, rfl, r1⟩ := rv1 r
    cases rx with
    | ref hn =>
      split at q
      · rename_i ys zs hy hz
        split at q
        · rename_i hl
          obtain ⟨ws, h1, h2⟩ := s.lst hy hn
          obtain ⟨b, us, rfl, h3, h4⟩ := own_of s r1 hz
          exact ⟨_, b, ws, us, rfl, rfl, h1, h3, by rw [← h2.length, ← h4.length, sizeLine_eq]; exact hl, wr_l (xs := ys) s hn h1 (h2.append h4) .non q⟩
        · exact q.elim
      · exact q.elim
  · exact q.elim
theorem RVs.dropLast {j : Pl} {H : Hp} {xs : List D} {vs : List V} (r : RVs K j H xs vs) : RVs K j H xs.dropLast vs.dropLast := by
  rw [List.dropLast_eq_take, List.dropLast_eq_take, r.length]
  exact r.take _
theorem RVs.eraseIdx {j : Pl} {H : Hp} : ∀ {xs : List D} {vs : List V} (k : Nat), RVs K j H xs vs → RVs K j H (xs.eraseIdx k) (vs.eraseIdx k)
  | _, _, _, .nil => .nil
  | _, _, 0, .cons _ s => s
  | _, _, k + 1, .cons r s => .cons r (RVs.eraseIdx k s)
theorem pop_ok : MtA K popD (fun x vs H Q => rPop x vs H Q ∨ rPopAt x vs H Q) := fun j H S W σ Q x vx xs vs s rx r q => by
  unfold popD at q
  split at q
  · rename_i n
    cases r
    cases rx with
    | ref hn =>
      split at q
      · rename_i ys hy
        split at q
        · rename_i d hd
          obtain ⟨ws, h1, h2⟩ := s.lst hy hn
          obtain ⟨v, hv, rv⟩ := h2.get hd
          rw [h2.length] at hv
          exact .inl ⟨_, ws, v, rfl, rfl, h1, hv, wr_l (xs := ys) s hn h1 h2.dropLast rv q⟩
        · exact q.elim
      · exact q.elim
  · rename_i n i
    obtain ⟨v, rfl, r1⟩ := rv1 r
    cases r1
    cases rx with
    | ref hn =>
      split at q
      · rename_i ys hy
        split at q
        · rename_i hb
          split at q
          · rename_i k hk
            split at q
            · rename_i d hd
              obtain ⟨ws, h1, h2⟩ := s.lst hy hn
              obtain ⟨v, hv, rv⟩ := h2.get hd
              exact .inr ⟨_, ws, i, k, v, rfl, rfl, h1, hb.1, hb.2, by rw [← h2.length]; exact hk, hv, wr_l (xs := ys) s hn h1 (h2.eraseIdx k) rv q⟩
            · exact q.elim
          · exact q.elim
        · exact q.elim
      · exact q.elim
  · exact q.elim
theorem MtR.or {id : String} {r r' : V → List V → Hp → VK → Prop} (h : MtR X id r) (h' : MtR X id r') : MtR X id (fun x xs H Q => r x xs H Q ∨ r' x xs H Q) := fun pins s σ H x xs v us Q I rx r q => by
  rcases q with q | q
  · exact h pins s σ H x xs v us Q I rx r q
  · exact h' pins s σ H x xs v us Q I rx r q
end

/-! ### o[i] = e -/
def setD (d o i : D) : SF := fun ρ S => match o, i with
  | .ref n, .int k => match S[n]? with
    | some (.lst xs) => match ixN xs.length k with
      | some m => .nx ρ (S.set n (.lst (xs.set m d)))
      | none => .no
    | _ => .no
  | _, _ => .no
def tSub (fo fi : EF) : GF := fun d => letE fo fun o => letE fi fun i => setD d o i
section
variable {X : Cx} {o i : Expr} {fo fi : EF} {pos : Pos}
theorem letE_nx {fa : EF} {k : D → SF} {ρ ρ' : DL.Env} {S S' : Sto} (h : letE fa k ρ S = .nx ρ' S') : ∃ d S1, fa ρ S = .ok d S1 ∧ k d ρ S1 = .nx ρ' S' := by
  unfold letE at h
  cases e : fa ρ S with
  | ok d S1 => rw [e] at h; exact ⟨d, S1, rfl, h⟩
  | exc _ _ _ => rw [e] at h; cases h
  | no => rw [e] at h; cases h
theorem eg_sub (ho : EV X W0 o fo) (hi : EV X W0 i fi)
    (ha : ∀ v, assign (.Subscript o i pos) X.env v = (do
      let ov ← holding [v] (eval o X.env)
      let iv ← holding [v, ov] (eval i X.env)
      standAt pos
      holding [v, ov, iv] (setItem ov iv v)
      release [v, ov, iv] []) := by intro _; rfl) : EG X (.Subscript o i pos) (tSub fo fi) :=
  pg_imp (pg_sub ho hi set_list ha) fun v σ H Q ⟨j, ρ, S, d, hs, hr, rv, ρ', S', e, q⟩ => by
    obtain ⟨od, S1, e1, h1⟩ := letE_nx e
    obtain ⟨id, S2, e2, h2⟩ := letE_nx h1
    refine ⟨j, ρ, S, hs, hr, ?_⟩
    rw [e1]
    intro j1 H1 ov x1 s1 r1
    refine ⟨j1, ρ, S1, s1, hr.mono x1, ?_⟩
    rw [e2]
    intro j2 H2 iv x2 s2 r2
    have r1' := r1.mono x2
    have rv' := (rv.mono x1).mono x2
    unfold setD at h2
    split at h2
    · rename_i n k
      cases r2
      cases r1' with
      | ref hn =>
        split at h2
        · rename_i xs hx
          split at h2
          · rename_i m hm
            cases h2
            obtain ⟨vs, h3, h4⟩ := s2.lst hx hn
            refine ⟨_, vs, k, m, rfl, rfl, h3, by rw [← h4.length]; exact hm, ?_⟩
            have ew : Ext j2 H2 j2 (upd H2 _ (.lst (vs.set m v))) := ext_write (List.mem_of_getElem? hn) h3 (fun z => z)
            exact q j2 _ σ ((x1.trans x2).trans ew) (s2.write hn h3 (fun z => z) ⟨_, upd_same, (h4.set rv' m).mono ew⟩) (hr.mono ((x1.trans x2).trans ew))
          · cases h2
        · cases h2
    · cases h2
end
end DL

set_option Elab.async false
set_option linter.all false
set_option maxRecDepth 100000
namespace DL
open PySem PySem.Spec PyProof.Rows L2
/-! ### ints, each once, rising -/
def insU (k : Int) : List Int → List Int
  | [] => [k]
  | x :: r => if k < x then k :: x :: r else if k = x then x :: r else x :: insU k r
def sortU (ns : List Int) : List Int := ns.foldr insU []
/-! ### set(xs), xs a tuple of ints -/
def rSetI (K : PySem.W.Frag) (w : World) : List V → Hp → VK → Prop := fun vs H Q => ∃ (a : Addr) (ns : List Int), vs = [V.ref a] ∧ SqT K H a (ns.map V.int) ∧ ns.length < 1000 ∧
  ∀ p, H p = none → Q (.ref p) (upd H p (SetO w p (fun j => decide (j ∈ ns)) (sortU ns).length))
section
variable {X : Cx}
end
/-! ### sorted(set(xs)) -/
def ssetD (xs : List D) (S : Sto) : Out D := match xs with
  | [.tup ys] => match intsOf ys with
    | some ns => if ns.length < 1000 ∧ (sortU ns).length < 64 then .ok (.lst ((sortU ns).map D.int)) S else .no
    | none => .no
  | _ => .no
section
variable [Tb] {X : Cx} {W : WX} {e : Expr} {f : EF} {pos p p2 q2 : Pos}
end
/-! ### a test that is a choice -/
def bIf (t u v : BF) : BF := fun ρ S => (t ρ S).bind fun b S1 => if b = true then u ρ S1 else v ρ S1
def tIfT (t u v : TT) : TT := fun σ H Q => t σ H fun c H1 => if c = true then u σ H1 Q else v σ H1 Q
end DL

set_option Elab.async false
set_option linter.all false
set_option maxRecDepth 100000
set_option maxHeartbeats 4000000
/-! ### tuples of ints, in their order -/
namespace DL
/-- the order of tuples -/
def lexL : List Int → List Int → Bool
  | [], [] => false
  | [], _ :: _ => true
  | _ :: _, [] => false
  | x :: r, y :: q => if x = y then lexL r q else decide (x < y)
def insT (a : List Int) : List (List Int) → List (List Int)
  | [] => [a]
  | b :: r => if lexL b a then b :: insT a r else a :: b :: r
def sortT (l : List (List Int)) : List (List Int) := l.foldr insT []
abbrev Up2 (l : List (List Int)) : Prop := l.Pairwise fun a b => lexL b a = false
/-- ints, in their order -/
def insI (a : Int) : List Int → List Int
  | [] => [a]
  | b :: r => if b < a then b :: insI a r else a :: b :: r
def sortI (l : List Int) : List Int := l.foldr insI []
end DL

namespace SrtO
open PySem PyProof.Rows Srt
section
variable {prog : Program} {w : World} {A : Around} {E : Value → Shared → Prop} {s : Shared}
/-- what is sorted: tuples of ints, none of them empty -/
def TupsAny (h : Heap) (vs : List Value) : Prop := ∀ v, v ∈ vs → ∃ ns, TS.TupInts h v ns ∧ ns ≠ []
/-! ### sorted of a tuple -/
end
end SrtO

set_option Elab.async false
set_option linter.all false
set_option maxRecDepth 100000
namespace DL
open PySem PySem.Spec PyProof.Rows L2
/-! ### sorted(xs): tuples of ints; ints out of a tuple -/
def rSortedTu (K : PySem.W.Frag) : List V → Hp → VK → Prop := fun vs H Q => ∃ (a : Addr) (ps : List (V × List Int)), vs = [V.ref a] ∧ SqL K H a (ps.map (·.1)) ∧ (∀ x ∈ ps, ∃ t, x.1 = V.ref t ∧ SqT K H t (x.2.map V.int)) ∧ (2 ≤ ps.length → ∀ x ∈ ps, x.2 ≠ []) ∧
  ∀ (qs : List (V × List Int)) (p : Addr), qs.Perm ps → qs.map (·.2) = sortT (ps.map (·.2)) → H p = none → Q (.ref p) (upd H p (.lst (qs.map (·.1))))
section
variable {X : Cx}
def rSortedIT (K : PySem.W.Frag) : List V → Hp → VK → Prop := fun vs H Q => ∃ (a : Addr) (ns : List Int), vs = [V.ref a] ∧ SqT K H a (ns.map V.int) ∧ ∀ p, H p = none → Q (.ref p) (upd H p (.lst ((sortI ns).map V.int)))
end
/-- tuples of ints -/
def lotsOf : List D → Option (List (List Int))
  | [] => some []
  | .tup xs :: r => match intsOf xs, lotsOf r with
    | some ns, some nss => some (ns :: nss)
    | _, _ => none
  | _ => none
def tupI (l : List Int) : D := .tup (l.map D.int)
def sortedD (xs : List D) (S : Sto) : Out D := match xs with
  | [.tup ys] => match intsOf ys with
    | some ns => .ok (.lst ((sortI ns).map D.int)) S
    | none => .no
  | [d] => match lstOf S d with
    | some ys => match intsOf ys with
      | some ns => .ok (.lst ((sortI ns).map D.int)) S
      | none => match lotsOf ys with
        | some nss => if nss.length < 2 ∨ nss.all (fun l => !l.isEmpty) = true then .ok (.lst ((sortT nss).map tupI)) S else .no
        | none => .no
    | none => .no
  | _ => .no
section
variable [Tb] {K : PySem.W.Frag}
theorem CallR.or' {X : Cx} {f : Value} {r r' : List V → Hp → VK → Prop} (h : CallR X f r) (h' : CallR X f r') : CallR X f (fun vs H Q => r vs H Q ∨ r' vs H Q) := fun pins s σ H xs us Q I rx q => by
  rcases q with q | q
  · exact h pins s σ H xs us Q I rx q
  · exact h' pins s σ H xs us Q I rx q
/-! ### where it stands: l.index(x), t.index(x) -/
def idxOf (ys : List D) (x : D) : Option Nat := (D.Ps ys).findIdx? fun z => PyData.eqv z x.P
def indexL (ys : List D) (x : D) (S : Sto) : Out D := if okD (.lst ys) = true ∧ okD x = true then match idxOf ys x with
    | some j => .ok (.int (j : Int)) S
    | none => .no
  else .no
def lindexD (o : D) (xs : List D) (S : Sto) : Out D := match xs with
  | [x] => match top S o with
    | .lst ys => indexL ys x S
    | .frl ys => indexL ys x S
    | _ => .no
  | _ => .no
def tindexD (o : D) (xs : List D) (S : Sto) : Out D := match o, xs with
  | .tup ys, [x] => if okD (.tup ys) = true ∧ okD x = true then match idxOf ys x with
      | some j => .ok (.int (j : Int)) S
      | none => .no
    else .no
  | _, _ => .no
theorem findIdx_spec {α : Type} {p : α → Bool} : ∀ {l : List α} {j : Nat}, l.findIdx? p = some j → ∃ z, l[j]? = some z ∧ p z = true ∧ ∀ m z', m < j → l[m]? = some z' → p z' = false
  | [], _, h => by simp at h
  | a :: l, j, h => by
    rw [List.findIdx?_cons] at h
    cases ha : p a with
    | true =>
      rw [ha] at h
      simp only [if_true, Option.some.injEq] at h
      subst h
      exact ⟨a, rfl, ha, fun m z' hm => by omega⟩
    | false =>
      rw [ha] at h
      simp only [Bool.false_eq_true, if_false, Option.map_eq_some_iff] at h
      obtain ⟨i, hi, rfl⟩ := h
      obtain ⟨z, h1, h2, h3⟩ := findIdx_spec hi
      refine ⟨z, by rw [List.getElem?_cons_succ]; exact h1, h2, fun m z' hm hz => ?_⟩
      cases m with
      | zero => simp only [List.getElem?_cons_zero, Option.some.injEq] at hz; rw [← hz]; exact ha
      | succ m => rw [List.getElem?_cons_succ] at hz; exact h3 m z' (by omega) hz
theorem okD_sh {d : D} (h : okD d = true) : d.pure = true ∧ SeqAt.shaped d.P = true := by
  simp only [okD, Bool.and_eq_true] at h
  exact ⟨h.1, h.2⟩
/-- t.index(x): the first place of an equal one -/
def rTIndexD (K : PySem.W.Frag) : V → List V → Hp → VK → Prop := fun x xs H Q => ∃ (a : Addr) (y : V) (d : PyData) (ds : List PyData) (j : Nat) (z : PyData), x = V.ref a ∧ xs = [y] ∧ Dp K H (V.ref a) (.tuple ds) ∧ Dp K H y d ∧
  SeqAt.shaped (.tuple ds) = true ∧ SeqAt.shaped d = true ∧ ds[j]? = some z ∧ PyData.eqv z d = true ∧ (∀ (m : Nat) (z' : PyData), m < j → ds[m]? = some z' → PyData.eqv z' d = false) ∧ Q (.int (j : Nat)) H
theorem mt_tindexD {X : Cx} (hu : X.A.units + 65 < cLine) : MtR X "tuple.index" (rTIndexD X.K) := by
  intro pins s σ H x xs v us Q I rx rxs h
  obtain ⟨a, y, d, ds, j, z, rfl, rfl, hl, hy, sl, sd, hz, hzj, hno, q⟩ := h
  cases rx
  cases rxs with
  | cons ry rt =>
    rename_i uy ut
    cases rt
    obtain ⟨bs, r1⟩ := Dp.reads I d y uy hy ry
    have hxs : PyData.canLayAll0 ds = true := SeqAt.canLay_of_shaped sl
    have hroom : X.A.units + 1 + min (PyData.depthAll ds) d.depth < cLine := by
      have h1 : d.depth ≤ 64 := by
        unfold SeqAt.shaped at sd
        simp only [Bool.and_eq_true, decide_eq_true_eq] at sd
        exact sd.2
      have := Nat.min_le_right (PyData.depthAll ds) d.depth
      omega
    cases hl with
    | tup hs ha =>
      obtain ⟨its, rv, ⟨⟨cls, dd, data, sls⟩, ho, hc, n, hdt⟩, hlen⟩ := I.tuple hs
      simp only at hc hdt
      subst hc hdt
      obtain ⟨as, h4⟩ := Dp.readsAll I ds _ its ha rv
      have hn : its.length = ds.length := SeqAt.ReadsAll.length ds its as h4
      have hmap : its.map (SeqAt.readOf s.heap) = ds := SeqAt.readsAll_map ds its as hxs h4
      obtain ⟨hjd, _⟩ := List.getElem?_eq_some_iff.mp hz
      have hjl : j < its.length := by omega
      have hj : j < its.toArray.size := by simpa using hjl
      have at_ : ∀ (m : Nat) (hm : m < its.toArray.size) (z' : PyData), ds[m]? = some z' → SeqAt.readOf s.heap its.toArray[m] = z' := by
        intro m hm z' hz'
        have hml : m < its.length := by simpa using hm
        rw [← hmap, List.getElem?_map, List.getElem?_eq_getElem hml] at hz'
        have e1 : SeqAt.readOf s.heap its[m] = z' := Option.some.inj (show some (SeqAt.readOf s.heap its[m]) = some z' from hz')
        simpa using e1
      refine call_meets PySem.F.slot_tuple_index ⟨_, ho, rfl⟩ PySem.F.entry_tuple_index (PySem.F.args_tuple_index_2 _ _)
        (TI.tuple_indexAt a its.toArray n dd sls uy (fun u => PyData.eqv (SeqAt.readOf s.heap u) d) j hj ?_ ?_) ⟨ho, SeqAt.items_eqAt (vs := its.toArray) (show ReadsAll s.heap its.toArray.toList ds as from h4) r1 hxs (SeqAt.canLay_of_shaped sd) hroom, ?_⟩
      · show PyData.eqv (SeqAt.readOf s.heap its.toArray[j]) d = true
        rw [at_ j hj z hz]
        exact hzj
      · intro m hm hmj
        have hmd : m < ds.length := by have : m < its.length := by simpa using hm
                                       omega
        have hz' : ds[m]? = some ds[m] := List.getElem?_eq_getElem hmd
        show PyData.eqv (SeqAt.readOf s.heap its.toArray[m]) d = false
        rw [at_ m hm _ hz']
        exact hno m _ hmj hz'
      · exact ⟨.int (j : Nat), H, I.tok _, ⟨_, rfl⟩, q⟩
theorem tindex_ok : MtA K tindexD (rTIndexD K) := fun j H S W σ Q x vx xs vs s rx r q => by
  unfold tindexD at q
  split at q
  · rename_i ys y
    obtain ⟨v, rfl, r1⟩ := rv1 r
    split at q
    · rename_i hc
      split at q
      · rename_i i hi
        obtain ⟨p1, p2⟩ := okD_sh hc.1
        obtain ⟨p3, p4⟩ := okD_sh hc.2
        obtain ⟨z, h1, h2, h3⟩ := findIdx_spec hi
        have dp := RV.dp rx p1
        cases rx with
        | tup ht rt => exact ⟨_, v, y.P, D.Ps ys, i, z, rfl, rfl, dp, RV.dp r1 p3, p2, p4, h1, h2, h3, ok_at s (.int _) q⟩
      · exact q.elim
    · exact q.elim
  · exact q.elim
end
/-! ### methods of a tuple -/
def eTM (g : Me) (fo : EF) (fa : AF) : EF := fun ρ S => (fo ρ S).bind fun o S1 => match o with
  | .tup _ => (fa ρ S1).bind fun xs S2 => g o xs S2
  | _ => .no
section
variable [Tb] {X : Cx} {W : WX} {o e : Expr} {es : List Expr} {fo : EF} {f : AF} {apos cpos : Pos} {K : PySem.W.Frag}
/-- a method of a plain tuple -/
def tTM (r : V → List V → Hp → VK → Prop) (to : TE) (t : TA) : TE := fun σ H Q => to σ H fun x H1 => (∃ a vs, x = V.ref a ∧ SqP H1 a vs) ∧ t σ H1 fun xs H2 => r x xs H2 Q
theorem pe_tm {to : TE} {t : TA} {name : Str} {id : String} {r : V → List V → Hp → VK → Prop} (slot : Slot "tuple" name id) (hty : typeOf (.builtin id) = pure (.type "method_descriptor")) (hm : MtR X id r) (ho : PE X o to) (ha : PA X (e :: es) t)
    (hbase : attributeBase o name X.env (eval o X.env) = eval o X.env := by rfl)
    (hfew : ((backTo cpos (starEach (e :: es) X.env)).all (fun x => !x.1) && (backToKw cpos (keywordEach [] X.env)).all (fun x => x.1.isSome)
      && decide ((e :: es).length + ([] : List Keyword).length + (if ([] : List Keyword).isEmpty then 0 else 1) < 30)) = true := by rfl)
    (hline : (apos.endLine == cpos.line) = true := by rfl) (hs : starEach (e :: es) X.env = (false, eval e X.env) :: starEach es X.env := by rfl) (hplain : (backTo cpos (starEach es X.env)).any (·.1) = false := by rfl) :
    PE X (.Call (.Attribute o name apos) (e :: es) [] cpos) (tTM r to t) := by
  refine ⟨fun pins s σ H Q I h => ?_⟩
  refine wpAny_Call_method_late hbase hfew hline rfl (thn (ho.run pins s σ H _ I h) fun v s1 ⟨x, H1, I1, r1, ty, q1⟩ => ?_)
  obtain ⟨a, vs, rfl, ob, hka, hcl, hdc⟩ := ty
  have hob : s1.heap.get? a = some ob := (I1.hok a _ hka).1
  have R1 := r1
  cases r1
  refine ⟨"tuple", id, PySem.F.plainAttrs_tuple, slot, hty, ⟨ob, hob, hcl⟩, fun b hb => ?_, ?_⟩
  · cases hb
    exact ⟨ob, hob, hdc⟩
  have hA := ha.run cpos pins s1 σ H1 _ I1 q1
  rw [hs] at hA ⊢
  refine Calls.callWith_builtin (by show (false || (backTo cpos (starEach es X.env)).any (·.1)) = false; rw [hplain] <;> rfl) (Calls.evalArgs_plain ?_)
  exact thn hA fun us s2 ⟨vs, H2, I2, r2, q2⟩ => hm pins s2 σ H2 (.ref a) vs (.ref a) us Q I2 rfl r2 q2
theorem ev_tm {name : Str} {id : String} {g : Me} {r : V → List V → Hp → VK → Prop} (slot : Slot "tuple" name id) (hty : typeOf (.builtin id) = pure (.type "method_descriptor")) (hm : MtR X id r) (hi : MtA X.K g r) (ho : EV X W o fo) (ha : EA X W (e :: es) f)
    (hbase : attributeBase o name X.env (eval o X.env) = eval o X.env := by rfl)
    (hfew : ((backTo cpos (starEach (e :: es) X.env)).all (fun x => !x.1) && (backToKw cpos (keywordEach [] X.env)).all (fun x => x.1.isSome)
      && decide ((e :: es).length + ([] : List Keyword).length + (if ([] : List Keyword).isEmpty then 0 else 1) < 30)) = true := by rfl) (hline : (apos.endLine == cpos.line) = true := by rfl)
    (hs : starEach (e :: es) X.env = (false, eval e X.env) :: starEach es X.env := by rfl) (hplain : (backTo cpos (starEach es X.env)).any (·.1) = false := by rfl) :
    EV X W (.Call (.Attribute o name apos) (e :: es) [] cpos) (eTM g fo f) := pe_imp (pe_tm slot hty hm ho ha hbase hfew hline hs hplain) fun σ H Q ⟨j, ρ, S, hs, hr, q⟩ => by
  refine ⟨j, ρ, S, hs, hr, OKg.bind q fun j1 H1 x vx S1 e1 s1 r1 q1 => ?_⟩
  split at q1
  · rename_i ys
    cases r1 with
    | tup ht rt =>
      refine ⟨⟨_, _, rfl, ht⟩, j1, ρ, S1, s1, hr.mono e1, OKg.bind q1 fun j2 H2 xs vs S2 e2 s2 r2 q2 => ?_⟩
      exact hi j2 H2 S2 W σ Q _ _ xs vs s2 ((RV.tup ht rt : RV X.K j1 H1 (.tup ys) _).mono e2) r2 q2
  · exact q1.elim
end
end DL

set_option Elab.async false
set_option linter.all false
set_option maxRecDepth 100000
namespace DL
open PySem PySem.Spec PyProof.Rows L2
variable [Tb]
/-! ### dicts with tuples of ints as keys -/
def eDic : EF := fun _ S => .ok (.ref S.length) (S ++ [.dt []])
def getI (kvs : List (List Int × D)) (k : List Int) : Option D := (kvs.find? fun p => decide (p.1 = k)).map (·.2)
def putI (kvs : List (List Int × D)) (k : List Int) (d : D) : List (List Int × D) := if (getI kvs k).isSome then kvs.map fun p => if p.1 = k then (p.1, d) else p else kvs ++ [(k, d)]
def dixD (x y : D) (S : Sto) : Out D := match x, y with
  | .ref n, .tup ks => match S[n]?, intsOf ks with
    | some (.dt kvs), some ns => match getI kvs ns with
      | some d => .ok d S
      | none => .no
    | _, _ => .no
  | _, _ => .no
def dinB (S : Sto) (x y : D) : Option Bool := match y, x with
  | .ref n, .tup ks => match S[n]?, intsOf ks with
    | some (.dt kvs), some ns => some (getI kvs ns).isSome
    | _, _ => none
  | _, _ => none
def dinD (x y : D) (S : Sto) : Out D := match dinB S x y with
  | some b => .ok (.bl b) S
  | none => .no
def dninD (x y : D) (S : Sto) : Out D := match dinB S x y with
  | some b => .ok (.bl (!b)) S
  | none => .no
def setID (d o i : D) : SF := fun ρ S => match o, i with
  | .ref n, .tup ks => match S[n]?, intsOf ks with
    | some (.dt kvs), some ns => if kvs.length < 16777216 then .nx ρ (S.set n (.dt (putI kvs ns d))) else .no
    | _, _ => .no
  | _, _ => .no
def tDSub (fo fi : EF) : GF := fun d => letE fo fun o => letE fi fun i => setID d o i
section
variable {K : PySem.W.Frag} {j : Pl} {H : Hp}
theorem RT.keys {kvs : List (List Int × D)} {ws : List (List Int × Addr × V)} : RT K j H kvs ws → KeysT H ws
  | .nil => fun x hx => by cases hx
  | .cons h r s => fun x hx => by
    rcases List.mem_cons.mp hx with rfl | hx
    · exact h
    · exact RT.keys s x hx
theorem RT.len {kvs : List (List Int × D)} {ws : List (List Int × Addr × V)} : RT K j H kvs ws → kvs.length = ws.length
  | .nil => rfl
  | .cons _ _ s => congrArg (· + 1) (RT.len s)
theorem RT.get {k : List Int} {d : D} : ∀ {kvs : List (List Int × D)} {ws : List (List Int × Addr × V)}, RT K j H kvs ws → getI kvs k = some d → ∃ v, getT ws k = some v ∧ RV K j H d v
  | _, _, .nil, h => by cases h
  | _, _, .cons (k := k') (v := v) hb r s, h => by
    unfold getI at h
    unfold getT
    rw [List.find?_cons] at h ⊢
    simp only at h ⊢
    by_cases e : k' = k
    · rw [decide_eq_true e] at h ⊢
      simp only [Option.map_some, Option.some.injEq] at h ⊢
      subst h
      exact ⟨_, rfl, r⟩
    · rw [decide_eq_false e] at h ⊢
      exact RT.get s h
theorem RT.has {k : List Int} : ∀ {kvs : List (List Int × D)} {ws : List (List Int × Addr × V)}, RT K j H kvs ws → (getI kvs k).isSome = (getT ws k).isSome
  | _, _, .nil => rfl
  | _, _, .cons (k := k') hb r s => by
    have ih := RT.has (k := k) s
    unfold getI getT at ih ⊢
    rw [List.find?_cons, List.find?_cons]
    simp only
    by_cases e : k' = k
    · rw [decide_eq_true e]; rfl
    · rw [decide_eq_false e]; exact ih
theorem RT.put {k : List Int} {b : Addr} {d : D} {v : V} {kvs : List (List Int × D)} {ws : List (List Int × Addr × V)} (r : RT K j H kvs ws) (hb : SqP H b (k.map V.int)) (rv : RV K j H d v) : RT K j H (putI kvs k d) (putT ws k b v) := by
  unfold putI putT
  rw [r.has]
  split
  · clear hb
    have mp : ∀ {kvs : List (List Int × D)} {ws : List (List Int × Addr × V)}, RT K j H kvs ws → RT K j H (kvs.map fun p => if p.1 = k then (p.1, d) else p) (ws.map fun x => if x.1 = k then (x.1, x.2.1, v) else x) := by
      intro kvs ws r
      induction r with
      | nil => exact .nil
      | @cons k' b' d' v' ds ws' h1 h2 h3 ih =>
        rw [List.map_cons, List.map_cons]
        by_cases e : k' = k
        · rw [if_pos e, if_pos e]; exact .cons h1 rv ih
        · rw [if_neg e, if_neg e]; exact .cons h1 h2 ih
    exact mp r
  · have app : ∀ {kvs : List (List Int × D)} {ws : List (List Int × Addr × V)}, RT K j H kvs ws → RT K j H (kvs ++ [(k, d)]) (ws ++ [(k, b, v)]) := by
      intro kvs ws r
      induction r with
      | nil => exact .cons hb rv .nil
      | cons h1 h2 h3 ih => exact .cons h1 h2 ih
    exact app r
end
section
variable {X : Cx} {W : WX} {a b : Expr} {fa fb : EF} {pos : Pos}
end
end DL

set_option Elab.async false
set_option linter.all false
set_option maxRecDepth 100000
namespace DL
open PySem PySem.Spec PyProof.Rows L2
variable [Tb]

def sPar3 (i k l : Nat) (fa : AF) : SF := fun ρ S => match fa ρ S with
  | .ok [a, b, c] S1 => .nx (((ρ.set i (some a)).set k (some b)).set l (some c)) S1
  | .exc C w S1 => .exc C w ρ S1
  | _ => .no
section
variable {X : Cx} {W : WX} {f : AF}
end
/-- (a, b, ..) = a list -/
def tUnl (Ts : List GF) : GF := fun d ρ S => match lstOf S d with
  | some xs => tNames Ts xs ρ S
  | none => .no
theorem eg_unl {X : Cx} {es : List Expr} {Ts : List GF} {pos : Pos} {k : Nat} (hc : X.calm = true) (h : PGs X es (rdGs X.K (tNames Ts))) (hn : (assignEach es X.env).length = Ts.length := by rfl) (hst : (assignEach es X.env).findIdx? (·.1) = none := by rfl) : EG X (.Tuple es k pos) (tUnl Ts) :=
  pg_imp (pg_unl hc h hn hst) fun v σ H Q ⟨j, ρ, S, d, hs, hr, rv, ρ', S', e, q⟩ => by
    unfold tUnl at e
    cases hl : lstOf S d with
    | none => rw [hl] at e; cases e
    | some xs =>
      rw [hl] at e
      obtain ⟨a, vs, rfl, hq, r⟩ := lst_of hs rv hl
      exact ⟨a, vs, rfl, hq, by rw [← r.length]; exact tNames_len e, j, ρ, S, xs, hs, hr, r, ρ', S', e, q⟩
def negD (x : D) (S : Sto) : Out D := match x with
  | .int i => .ok (.int (-i)) S
  | _ => .no
theorem neg_ok {K : PySem.W.Frag} : Op1 K negD (fun x H Q => ∃ i, x = .int i ∧ Q (.int (-i)) H) := fun j H S W σ Q x vx s rx q => by
  unfold negD at q
  split at q
  · cases rx; exact ⟨_, rfl, ok_at s (.int _) q⟩
  · exact q.elim
theorem ev_neg {X : Cx} {W : WX} {a : Expr} {fa : EF} {pos : Pos} (ha : EV X W a fa) : EV X W (.UnaryOp .USub a pos) (eUn negD fa) := ev_un un_neg neg_ok ha
def augAddD (x y : D) (S : Sto) : Out D := match x, y with
  | .int i, .int j => .ok (.int (i + j)) S
  | _, _ => .no
def augSubD (x y : D) (S : Sto) : Out D := match x, y with
  | .int i, .int j => .ok (.int (i - j)) S
  | _, _ => .no
/-! ### comparisons as tests -/
section
variable {X : Cx} {W : WX} {a b c : Expr} {fa fb fc : EF} {pos : Pos} {k : Nat}
theorem et_cmp {op : CmpOp} {g : D → D → Sto → Out D} {r : R2} (ho : OpR X (compareOp op) r) (hi : Op2 X.K g r) (ha : EV X W a fa) (hb : EV X W b fb) (hm : behindInMarks op b = false) : ET X W (.Compare a [op] [b] pos) (bVal (eBin g fa fb)) :=
  pt_imp (pt_cmpR ho ha hb hm) fun σ H Q ⟨j, ρ, S, hs, hr, q⟩ => rd_op (W := W) hi σ H _ ⟨j, ρ, S, hs, hr, OKg.bind q fun j1 H1 x vx S1 e1 s1 r1 q1 => by
    cases r1 with
    | bl b => exact ⟨b, rfl, q1 j1 H1 b (.refl _ _) s1 rfl⟩
    | _ => exact q1.elim⟩
theorem et_lt (ha : EV X W a fa) (hb : EV X W b fb) : ET X W (.Compare a [.Lt] [b] pos) (bVal (eBin ltD fa fb)) := et_cmp op_lt cmp_ok ha hb (nomark _)
theorem et_le (ha : EV X W a fa) (hb : EV X W b fb) : ET X W (.Compare a [.LtE] [b] pos) (bVal (eBin leD fa fb)) := et_cmp op_le cmp_ok ha hb (nomark _)
theorem et_gt (ha : EV X W a fa) (hb : EV X W b fb) : ET X W (.Compare a [.Gt] [b] pos) (bVal (eBin gtD fa fb)) := et_cmp op_gt cmp_ok ha hb (nomark _)
theorem et_eq (at' : AtU X) (ha : EV X W a fa) (hb : EV X W b fb) : ET X W (.Compare a [.Eq] [b] pos) (bVal (eBin eqD fa fb)) := et_cmp (op_eqD (by have := at'.un; omega)) eq_ok ha hb (nomark _)
theorem et_ne (at' : AtU X) (ha : EV X W a fa) (hb : EV X W b fb) : ET X W (.Compare a [.NotEq] [b] pos) (bVal (eBin neD fa fb)) := et_cmp (op_neD (by have := at'.un; omega)) ne_ok ha hb (nomark _)
theorem et_is (ha : EV X W a fa) (hb : EV X W b fb) : ET X W (.Compare a [.Is] [b] pos) (bVal (eBin isD fa fb)) := et_cmp (op_isN.or op_is_bl) is_ok ha hb (nomark _)
theorem et_isNot (ha : EV X W a fa) (hb : EV X W b fb) : ET X W (.Compare a [.IsNot] [b] pos) (bVal (eBin isNotD fa fb)) := et_cmp (op_notN.or op_isnot_bl) isNot_ok ha hb (nomark _)
theorem et_in (at' : AtU X) (ha : EV X W a fa) (hb : EV X W b fb) (hm : behindInMarks .In b = false := by rfl) : ET X W (.Compare a [.In] [b] pos) (bVal (eBin inD fa fb)) := et_cmp ((op_inD at'.u65).or (op_inT at'.u65)) in_ok ha hb hm
end
/-! ### short words for the printed terms -/
section
variable {X : Cx} {W : WX} {e o : Expr} {es : List Expr} {f : AF} {fo : EF} {p pos apos cpos : Pos} {k : Nat}
theorem ev_ty {x : Str} {n : String} (hm : X.mg x = none) (hv : bootBuiltins x = some (.type n)) (hg : Gl X x) (hn : x ≠ "__name__" := by decide) (hd : (x == ("__debug__" : Str)) = false := by decide) : EV X W (.Name x pos) (eC (.ty n)) := ev_c (.ty n) (pe_bltn (v := .ty n) hg hm hv rfl hn hd) fun _ _ => .ty n
theorem ev_gint {x : Str} {i : Int} (hm : ∃ t, X.mg x = some (.int i t)) (hg : Gl X x) (hd : (x == ("__debug__" : Str)) = false := by decide) : EV X W (.Name x pos) (eC (.int i)) := hm.elim fun t h => ev_c (.int i) (pe_glob (v := .int i) hg h ⟨t, rfl⟩ hd) fun _ _ => .int i
theorem AtU.u80 (at' : AtU X) : X.A.units + 80 < cLine := by have := at'.un; omega
end
end DL

set_option Elab.async false
set_option linter.all false
set_option maxRecDepth 100000
namespace DL
open PySem PySem.Spec PyProof.Rows L2
variable [Tb]
/-! ### index, dicts in tests, defs that call themselves -/
section
variable {X : Cx} {W : WX} {a b o e : Expr} {fa fb fo : EF} {f : AF} {pos apos cpos : Pos} {es : List Expr}
theorem ev_tindex (at' : AtU X) (ho : EV X W o fo) (ha : EA X W (e :: es) f)
    (hbase : attributeBase o "index" X.env (eval o X.env) = eval o X.env := by rfl)
    (hfew : ((backTo cpos (starEach (e :: es) X.env)).all (fun x => !x.1) && (backToKw cpos (keywordEach [] X.env)).all (fun x => x.1.isSome)
      && decide ((e :: es).length + ([] : List Keyword).length + (if ([] : List Keyword).isEmpty then 0 else 1) < 30)) = true := by rfl) (hline : (apos.endLine == cpos.line) = true := by rfl)
    (hs : starEach (e :: es) X.env = (false, eval e X.env) :: starEach es X.env := by rfl) (hplain : (backTo cpos (starEach es X.env)).any (·.1) = false := by rfl) :
    EV X W (.Call (.Attribute o "index" apos) (e :: es) [] cpos) (eTM tindexD fo f) := ev_tm PySem.F.slot_tuple_index PySem.F.type_tuple_index (mt_tindexD at'.u65) tindex_ok ho ha hbase hfew hline hs hplain
end
/-- x or y as a value, x an int or None -/
def truD : D → Option Bool
  | .bl b => some b
  | .int i => some (i != 0)
  | .non => some false
  | _ => none
def eOrV (fa fb : EF) : EF := fun ρ S => (fa ρ S).bind fun x S1 => match truD x with
  | some true => .ok x S1
  | some false => fb ρ S1
  | none => .no
/-- list(range(n)) -/
def lrgE (fa : EF) : EF := fun ρ S => (fa ρ S).bind fun d S1 => match d with
  | .int b => if -(2 ^ 62) ≤ b ∧ b ≤ 16777216 then .ok (.lst (((List.range b.toNat).map fun k : Nat => (k : Int)).map D.int)) S1 else .no
  | _ => .no
/-- list + list, kept to be written into -/
def addM (x y : D) (S : Sto) : Out D := match ownL S x, ownL S y with
  | some xs, some ys => if xs.length + ys.length ≤ 16777216 then .ok (.ref S.length) (S ++ [.lst (xs ++ ys)]) else .no
  | _, _ => .no
section
variable {P : Program} {w : World} {K : PySem.W.Frag} {mg : Str → Option Value} {base : Heap}
end
end DL

set_option Elab.async false
set_option linter.all false
set_option maxRecDepth 100000
set_option maxHeartbeats 2000000
namespace DL
open PySem PySem.Spec PyProof.Rows L2 PySem.W
variable [Tb]

/-! ### class Refused(ValueError): def __init__(self, what): super().__init__(what); self.what = what -/
abbrev rfA (p q : Pos) : Arguments := { posonlyargs := [], args := [{ arg := "self", annotation := none, pos := p }, { arg := "what", annotation := none, pos := q }], vararg := none, kwonlyargs := [], kw_defaults := [], kwarg := none, defaults := [] }
abbrev rfE (p1 p2 p3 p4 p5 : Pos) : Expr := .Call (.Attribute (.Call (.Name "super" p1) [] [] p2) "__init__" p3) [.Name "what" p4] [] p5
abbrev rfB (p1 p2 p3 p4 p5 p6 p7 p8 p9 p10 : Pos) : List Stmt := [.Expr (rfE p1 p2 p3 p4 p5) p6, .Assign [.Attribute (.Name "self" p7) "what" p8] (.Name "what" p9) p10]
abbrev rfS (mr : List (Str × Const)) : Scope := { kind := .function, names := [("self", .local), ("what", .local), ("__class__", .free), ("super", .globalImplicit)], isGenerator := false, isCoroutine := false, more := mr }
/-- how the call of super().__init__ is read -/
def RfEv (p1 p2 p3 p4 p5 : Pos) : Prop := ∃ pl : Sem Bool, ∀ env : PySem.Env, eval (rfE p1 p2 p3 p4 p5) env = (do
      let ov ← attributeBase (.Call (.Name "super" p1) [] [] p2) "__init__" env (eval (.Call (.Name "super" p1) [] [] p2) env)
      standAt p3.atName
      let (f, first) ← holding [ov] (getMethod ov "__init__" pl)
      callWith p5 f first (backTo p5 (starEach [.Name "what" p4] env)) [])

/-- what the written part says of the class at D (Refused) and of its __init__ at f -/
structure RfTxt (K : PySem.W.Frag) (prog : Program) (D f : Addr) (q : Str) (mr : List (Str × Const)) : Prop where
  fn : ∃ (oc : Value) (od : Option Addr) (dV kV doc pm : Value) (an : Option Addr) (cda : Addr) (ct : Value) (cc : Addr) (osl : Array (Option Value)) (pa pb p1 p2 p3 p4 p5 p6 p7 p8 p9 p10 : Pos),
    K.lookup f = some ⟨oc, od, .func (PySem.W.ksFn "__init__" q (rfA pa pb) (rfB p1 p2 p3 p4 p5 p6 p7 p8 p9 p10) (rfS mr) dV kV doc pm an (.ref cda) ct cc), osl⟩ ∧ PySem.W.codeIn K (.ref cda) q = true ∧ dV = .none ∧ kV = .none ∧ RfEv p1 p2 p3 p4 p5 ∧
      (∃ ccl cdd vs ccs file tf, K.lookup cda = some ⟨ccl, cdd, .fields vs, ccs⟩ ∧ vs[2]? = some (.str file tf) ∧ ((prog.main.file : Str) == file) = true) ∧
      (∃ cl cld csl, K.lookup cc = some ⟨cl, cld, .cell (some (.ref D)), csl⟩)
  cls : ∃ cd, PySem.W.clsIn K D = some cd
  sup : PySem.W.nsIn K mainGlobals "super" = some none
  tp : PySem.W.nsIn K cStatics "thirdparty.any" = some none
  top : (prog.main.scope.names.lookup ("super" : Str)).isSome = false
def spRf (K : PySem.W.Frag) (D : Addr) : Sp := fun vs H Q _ => ∃ (a C : Addr) (v : V), vs = [.ref a, v] ∧ UnderRf K D C ∧ H a = some (exo a C none) ∧ ∀ dx, H dx = none → dx ≠ a → Q .non (upd (upd H dx (exd dx [("what", v)])) a (exo a C (some dx)))

theorem rf_end {P : Program} {w : World} {H : Hp} {hp h' : Heap} {a C dx : Addr} {t1 : Addr} {v : V} {u : Value} {fs : List Addr} (hok : HOk P w H hp) (e : H a = some (exo a C none)) (k : ∀ b o, b ≠ a → hp.get? b = some o → h'.get? b = some o) (dn : hp.objs.size ≤ dx)
    (hx : h'.get? a = some ({ cls := .ref C, dict := some dx, data := .fields #[.ref t1, .none, .none, .none, .bool false, .none] } : Obj)) (hn : h'.Ns1 dx (fun y => if y = "what" then some u else none)) (ry : RelV v u) :
    Un fs [] H (upd (upd H dx (exd dx [("what", v)])) a (exo a C (some dx))) hp h' ∧ HOk P w (upd (upd H dx (exd dx [("what", v)])) a (exo a C (some dx))) h' := by
  have hnd : H dx = none := hok.fresh dn
  have lt : ∀ {b : Addr} {o : Obj}, hp.get? b = some o → b ≠ dx := fun q => Nat.ne_of_lt (Nat.lt_of_lt_of_le (Heap.lt_size q) dn)
  have na : ∀ {b : Addr}, H b = none → b ≠ a := fun n z => by rw [z, e] at n; cases n
  refine ⟨{ keep := fun b o q n _ _ => k b o (na n) q
            slot := fun b o q n _ _ => ⟨o.slots, k b o (na n) q⟩
            free := fun b o q n _ => by rw [upd_ne (na n), upd_ne (lt q)]; exact n
            there := fun b o q _ => by
              by_cases hb : b = a
              · exact ⟨_, hb ▸ hx⟩
              · exact ⟨o, k b o hb q⟩
            tups := fun b xs q => by rw [upd_ne (at_ne e q exo_tup), upd_ne (ne_of_none q hnd)]; exact q
            frzs := fun b o v q => by rw [upd_ne (at_ne e q exo_frz), upd_ne (ne_of_none q hnd)]; exact q
            tbls := fun b ps q => ⟨#[], by rw [upd_ne (at_ne e q exo_tbl), upd_ne (ne_of_none q hnd), q]; simp⟩ }, fun b o q => ?_⟩
  by_cases hb : b = a
  · subst hb
    rw [upd_same] at q; cases q
    exact exo_ok hx
  rw [upd_ne hb] at q
  by_cases hd : b = dx
  · subst hd
    rw [upd_same] at q; cases q
    exact exd_ok hn (relO_put (fs := []) ry fun g => True.intro)
  rw [upd_ne hd] at q
  refine (hok b o q).stay (fun c v hc z => k c v ?_ z) (fun c hc => ?_) fun c xs hc => ?_
  · rcases hc with rfl | hc
    · exact hb
    · exact at_ne e hc exo_own
  · rw [upd_ne (at_ne e hc exo_own), upd_ne (ne_of_none hc hnd)]; exact hc
  · rw [upd_ne (at_ne e hc exo_tup), upd_ne (ne_of_none hc hnd)]; exact hc

section
variable {P : Program} {w : World} {K : PySem.W.Frag} {mg : Str → Option Value} {base : Heap}
theorem rf_init {D f : Addr} {q : Str} {mr : List (Str × Const)} (T : RfTxt K P D f q mr) : ∃ fd, FnOk P w K mg base CX0 1 f fd ["self", "what"] (spRf K D) ∧ Binds K fd ["self", "what"] [] := by
  obtain ⟨oc, od, dV, kV, doc, pm, an, cda, ct, cc, osl, pa, pb, p1, p2, p3, p4, p5, p6, p7, p8, p9, p10, lk, hcd, rfl, rfl, ⟨pl, hev⟩, ⟨ccl, cdd, vs, ccs, file, tf, lc, hvs, hfile⟩, ⟨cl, cld, csl, lcc⟩⟩ := T.fn
  refine ⟨PySem.W.ksFn "__init__" q (rfA pa pb) (rfB p1 p2 p3 p4 p5 p6 p7 p8 p9 p10) (rfS mr) .none .none doc pm an (.ref cda) ct cc, ⟨fun vs H Q E ⟨a, C, v, e, _⟩ => by rw [e]; rfl, ?_⟩, .all fun us hl => match us, hl with | [_, _], _ => rfl⟩
  intro A outer s H args us vv Q E hr e0 hb r ⟨a, C, v, ev, U, ea, hq⟩
  subst ev
  match us, r with
  | [u0, u], .cons r0 (.cons rv .nil) =>
  obtain rfl : u0 = Value.ref a := r0
  have KX : K.In s.heap := e0.mod.kin.keeps fun b o e => (e0.bs b o e).1
  have lim : s.heap.NoLimit := e0.mod.nolimit.keeps fun b o e => (e0.bs b o e).1
  have keepN : ∀ {x : Addr} {m : Str → Option Value}, base.Ns x m → s.heap.Ns x m := fun ⟨o, es, ep, h1, r⟩ => ⟨o, es, ep, (e0.bs _ _ h1).1, r⟩
  have gl : s.heap.Ns mainGlobals mg := keepN e0.mod.glob
  obtain ⟨mb, bl, hbb⟩ := e0.mod.blt
  have bl : s.heap.Ns builtinsNs mb := keepN bl
  have hsup : mg "super" = none := PySem.W.mg_none_of e0.mod.kin e0.mod.glob T.sup
  refine ks_codeAny_call_defAt hr.depth (KX _ _ lk) rfl lim (PySem.W.codeRec_of KX hcd) rfl hb (fun x hx => ?_) (fun x hx => ?_) (fun h₀ hns k0 => ?_)
  · have hx : x ∈ (rfS mr).names := hx
    simp only [rfS, List.mem_cons, List.not_mem_nil, or_false] at hx
    rcases hx with rfl | rfl | rfl | rfl <;> decide
  · show (rfS mr).names.lookup x.1 = some .local
    rcases List.mem_cons.mp (show x ∈ [(("self" : Str), Value.ref a), (("what" : Str), u)] from hx) with rfl | hx
    · rfl
    · cases List.mem_singleton.mp hx; rfl
  obtain ⟨hp, g, d, t, os⟩ := s
  obtain ⟨t1, hoa⟩ := exo_at e0.hok ea
  have hoa : hp.get? a = some ({ cls := .ref C, dict := none, data := .fields #[.ref t1, .none, .none, .none, .bool false, .none] } : Obj) := hoa
  have k0 : ∀ b o, hp.get? b = some o → h₀.get? b = some o := k0
  have X0 : K.In h₀ := fun b o z => k0 b o (KX b o z)
  have nsk : ∀ {x : Addr} {m : Str → Option Value}, hp.Ns x m → h₀.Ns x m := fun ⟨o, es, ep, h1, r⟩ => ⟨o, es, ep, k0 _ _ h1, r⟩
  have hkS : ((rfS mr).names.lookup ("super" : Str)) = some .globalImplicit := rfl
  have hkC : ((rfS mr).names.lookup ("__class__" : Str)) = some .free := rfl
  have hkF : ((rfS mr).names.lookup ("self" : Str)) = some .local := rfl
  have hkW : ((rfS mr).names.lookup ("what" : Str)) = some .local := rfl
  obtain ⟨cdD, hcD⟩ := T.cls
  obtain ⟨oD, hD1, hD2⟩ : ∃ oD, K.lookup D = some oD ∧ oD.data = .cls cdD := by
    unfold clsIn at hcD
    split at hcD
    · rename_i c d cd' sl ho
      cases hcD
      exact ⟨_, ho, rfl⟩
    · cases hcD
  obtain ⟨nm, qq, N, bs, bm, sn, sub, ab, col, dd, c0, c1, c2, c3, c5, hC, hbm⟩ := U.ox.cls
  have IA : InstAt h₀ a ({ cls := .ref C, dict := none, data := .fields #[.ref t1, .none, .none, .none, .bool false, .none] } : Obj) C none := ⟨k0 _ _ hoa, rfl, rfl, trivial⟩
  show _root_.PySem.wpAt (model P w) (A.deeper (ksEnv q (rfS mr) hp.objs.size f (.ref cda) cc)) (.func (rfB p1 p2 p3 p4 p5 p6 p7 p8 p9 p10) (ksEnv q (rfS mr) hp.objs.size f (.ref cda) cc)) (execs (rfB p1 p2 p3 p4 p5 p6 p7 p8 p9 p10) (ksEnv q (rfS mr) hp.objs.size f (.ref cda) cc)) _ _ _
  have hself : ∀ {M : Model} {A' : Around} {E' : Value → Shared → Prop} {s' : Shared} {Q' : Value → Shared → Prop}, s'.heap.Ns hp.objs.size (fun x => ([(("self" : Str), Value.ref a), (("what" : Str), u)] : List (Str × Value)).reverse.lookup x) → Q' (.ref a) s' → wpAny M A' (loadName (ksEnv q (rfS mr) hp.objs.size f (.ref cda) cc) "self") Q' E' s' := fun h1 h2 => wpAny_loadName_local rfl hkF h1 rfl h2
  have hwhat : ∀ {M : Model} {A' : Around} {E' : Value → Shared → Prop} {s' : Shared} {Q' : Value → Shared → Prop}, s'.heap.Ns hp.objs.size (fun x => ([(("self" : Str), Value.ref a), (("what" : Str), u)] : List (Str × Value)).reverse.lookup x) → Q' u s' → wpAny M A' (loadName (ksEnv q (rfS mr) hp.objs.size f (.ref cda) cc) "what") Q' E' s' := fun h1 h2 => wpAny_loadName_local rfl hkW h1 rfl h2
  refine ks_wpAt_execs_cons (ks_wpAt_Expr_any (ks_wpAt_MethodCall (pl := pl) (ks_wpAt_super_base (env := ksEnv q (rfS mr) hp.objs.size f (.ref cda) cc) hkS hkC (by decide) rfl (X0 _ _ lk) rfl rfl rfl (X0 _ _ lc) rfl hvs hfile T.top ?_) (hev _)))
  refine ks_loadName_global rfl hkS (Calls.loadGlobal_builtin (env := ksEnv q (rfS mr) hp.objs.size f (.ref cda) cc) (nsk gl) hsup (nsk bl) ((hbb _ (by decide +kernel)).trans (by decide +kernel : bootBuiltins "super" = some (.type "super"))) ⟨rfl, ?_⟩)
  refine wpAny_loadName_free rfl hkC rfl ⟨_, X0 _ _ lcc, rfl⟩ ?_
  refine hself hns ?_
  refine ks_wpAny_isType_cls (X0 _ _ hD1) hD2 ⟨rfl, ?_⟩
  refine ks_wpAny_call_super (X0 _ _ hD1) hD2 (k0 _ _ hoa) rfl (fun c e => by cases e) (looks_mroIn X0 U.sub) (fun h1 hso k1 => ?_)
  have X1 : K.In h1 := fun b o z => k1 b o (X0 b o z)
  have hCc : PySem.W.clsIn K C = some { name := nm, bases := bs, mro := .ref C :: bm, ns := N, qualname := qq, hasDict := true, slotNames := sn, subclasses := sub, abstract := ab, collection := col, hasDel := false } := by unfold PySem.W.clsIn; rw [hC] <;> rfl
  have hsu := U.su
  unfold ks_superIn at hsu
  rw [hCc, Option.bind_some] at hsu
  have I1 : InstAt h1 a ({ cls := .ref C, dict := none, data := .fields #[.ref t1, .none, .none, .none, .bool false, .none] } : Obj) C none := ⟨k1 _ _ (k0 _ _ hoa), rfl, rfl, trivial⟩
  refine kxs_getMethod kxs_ValueError hso (looks_opaque X1 T.tp) (fun A Q E s k q => wpAny_bind ((looks_clsIn X1 hCc) A _ E s k (wpAny_pure q))) rfl X1 hsu (I1.type.andThen (looks_subIn X1 U.ve)) (ks_ne X1 I1 hCc) (by decide) ?_
  have k2 : ∀ b o, h1.get? b = some o → (h1.push (kxs_mw "ValueError.__init__" a)).get? b = some o := fun b o z => Heap.get?_push_of_some _ z
  generalize hh2 : h1.push (kxs_mw "ValueError.__init__" a) = h2 at k2 ⊢
  have hmw : h2.get? h1.objs.size = some (kxs_mw "ValueError.__init__" a) := by rw [← hh2]; exact Heap.get?_push_at rfl rfl
  have k02 : ∀ b o, h₀.get? b = some o → h2.get? b = some o := fun b o z => k2 b o (k1 b o z)
  have X2 : K.In h2 := fun b o z => k2 b o (X1 b o z)
  have ns2 : h2.Ns hp.objs.size (fun x => ([(("self" : Str), Value.ref a), (("what" : Str), u)] : List (Str × Value)).reverse.lookup x) := by
    obtain ⟨o, es, ep, z, r⟩ := hns
    exact ⟨o, es, ep, k02 _ _ z, r⟩
  refine kxs_callWith (i := "ValueError.__init__") (x := a) rfl (Calls.evalArgs_plain (Calls.spliced_cons ?_))
  refine wpAny_Name (hwhat ns2 ?_) (by decide)
  refine Calls.spliced_nil ⟨hmw, ?_⟩
  refine wpAny_call (codeAny_of_tree ?_)
  show wpAny _ _ (callAny (.ref h1.objs.size) ⟨[u], []⟩) _ _ _
  simp only [callAny]
  refine wpAny_bind (wpAny_load hmw ?_)
  simp only [kxs_mw, show (Value.type "method-wrapper" == Value.type "method" || Value.type "method-wrapper" == Value.type "builtin_function_or_method" || Value.type "method-wrapper" == Value.type "method-wrapper") = true by decide, if_true]
  refine KFB.if_so (by decide) ?_
  refine wpAny_bind (check_bound_init F.excBase_ValueError.toExcCallFacts (X2 _ _ hC) (k2 _ _ I1.at_) rfl ?_)
  refine wpAny_bind (wpAny_pure (wpAny_pure ?_))
  refine ⟨plainId_quiet F.excBase_ValueError.init.plain _, codeAny_builtin F.excBase_ValueError.initEntry ?_⟩
  refine exc_init_tree (cls := .ref C) (t0 := t1) (dv := none) (c2 := .none) (c3 := .none) (b4 := .bool false) (k2 _ _ I1.at_) (by show 1 ≤ sizeLine; decide) (fun h3 k3 e3 et => ?_)
  have na : hp.objs.size ≠ a := fun z => absurd (Heap.lt_size hoa) (by rw [← z]; exact Nat.lt_irrefl _)
  have X3 : K.In h3 := fun b o z => k3 b o (fun zz => by
    have y := (e0.bs _ _ (e0.mod.kin _ _ z)).2
    rw [zz, ea] at y
    cases y) (X2 b o z)
  have ns3 : h3.Ns hp.objs.size (fun x => ([(("self" : Str), Value.ref a), (("what" : Str), u)] : List (Str × Value)).reverse.lookup x) := by
    obtain ⟨o, es, ep, z, r⟩ := ns2
    exact ⟨o, es, ep, k3 _ _ na z, r⟩
  have e3 : h3.get? a = some ({ cls := .ref C, dict := none, data := .fields #[.ref h2.objs.size, .none, .none, .none, .bool false, .none] } : Obj) := e3
  show _root_.PySem.wpAt (model P w) (A.deeper (ksEnv q (rfS mr) hp.objs.size f (.ref cda) cc)) (.func (rfB p1 p2 p3 p4 p5 p6 p7 p8 p9 p10) (ksEnv q (rfS mr) hp.objs.size f (.ref cda) cc)) (execs [.Assign [.Attribute (.Name "self" p7) "what" p8] (.Name "what" p9) p10] (ksEnv q (rfS mr) hp.objs.size f (.ref cda) cc)) _ _ _
  refine ks_wpAt_execs_cons (ks_wpAt_Assign_Attr (wpAt_of_wpAny (wpAny_Name (hwhat ns3 (wpAny_Name (hself ns3 ?_) (by decide))) (by decide))))
  refine PySem.W.set_plain X3 (ox := { cls := .ref C, dict := none, data := .fields #[.ref h2.objs.size, .none, .none, .none, .bool false, .none] }) (od := none) ⟨e3, rfl, rfl, trivial⟩ U.ox.sa ?_
  refine PySem.HandSPX.exc_osa X3 e3 hCc (show PySem.HandSPX.refsVE (.ref C :: bm) = true from hbm) rfl U.nw (fun h' tk' dx k4 dn dne hx hn => ?_)
  have kall : ∀ b o, b ≠ a → hp.get? b = some o → h'.get? b = some o := fun b o nb z => k4 b o nb (k3 b o nb (k02 b o (k0 b o z)))
  have dn0 : hp.objs.size ≤ dx := by
    obtain ⟨o, es, ep, z, r⟩ := ns3
    exact Nat.le_trans (Nat.le_of_lt (Heap.lt_size z)) dn
  obtain ⟨un, hok'⟩ := rf_end (fs := frs outer) e0.hok ea kall dn0 hx hn rv
  refine wpAt_of_wpAny (wpAny_execs_nil ?_)
  exact ⟨.non, _, rfl, e0.bare, un, hok', rfl, hq dx (e0.hok.fresh dn0) dne⟩
end
end DL

set_option Elab.async false
set_option linter.all false
set_option maxRecDepth 100000
set_option maxHeartbeats 2000000
namespace DL
open PySem PySem.Spec PyProof.Rows L2
variable [Tb]

/-! ### raise, try -/
def initOf (K : PySem.W.Frag) : Addr := match PySem.W.findIn K (.ref (refusedOf K)) "__init__" with
  | some (some (.ref f)) => f
  | _ => 0
/-- what the module's name x holds: a class of errors -/
structure ErrC (K : PySem.W.Frag) (mg : Str → Option Value) (x : Str) (C : Addr) : Prop where
  mg : mg x = some (.ref C)
  un : UnderRf K (refusedOf K) C
  ini : PySem.W.findIn K (.ref C) "__init__" = some (some (.ref (initOf K)))
structure RfOk (P : Program) (w : World) (K : PySem.W.Frag) (mg : Str → Option Value) (base : Heap) : Prop where
  fn : ∃ fd, FnOk P w K mg base CX0 1 (initOf K) fd ["self", "what"] (spRf K (refusedOf K)) ∧ Binds K fd ["self", "what"] []
  ty : PySem.W.typeIn K (.ref (initOf K)) = some (.type "function")
  mg : mg "Refused" = some (.ref (refusedOf K))
/-- C(e) makes an error of the text whose context is none yet -/
theorem mkN {X : Cx} {x : Str} {C fI : Addr} {fd : FuncData} {nms : List Str} {sp : Sp} {ta : TA} {e : Expr} {p pos : Pos} (T : OexC X.K C) (hi : PySem.W.findIn X.K (.ref C) "__init__" = some (some (.ref fI))) (ht : PySem.W.typeIn X.K (.ref fI) = some (.type "function"))
    (Fi : FnOk X.prog X.w X.K X.mg X.base CX0 1 fI fd nms sp) (room : Room 2 X.A) (hb : Binds X.K fd nms []) (hg : Gl X x) (hm : X.mg x = some (.ref C)) (ha : PA X [e] ta) (hdb : (x == ("__debug__" : Str)) = false)
    (he : starEach [e] X.env = (false, eval e X.env) :: starEach [] X.env) : L2N.PMk X (.Call (.Name x p) [e] [] pos) (tMkO C sp [] ta) := by
  intro pn st sg Hh QQ J hyp
  obtain ⟨_, _, _, _, bm, _, _, _, _, _, _, _, _, _, _, clsAt, veB⟩ := T.cls
  refine wpAny_Call_Name_kw (ld_glob J hg hm ?_ hdb)
  refine PySem.W.callWith_K (h₀ := X.base) J.ok.mod.kin T.kC (thn (ha.run pos pn st sg Hh _ J hyp) fun us s1 ⟨vs, H1, J1, rvs, small, told⟩ => ⟨J1.kIn, ?_⟩) he rfl
  obtain ⟨h0, g0, dr0, t0, os0⟩ := s1
  -- the new error stands at n
  obtain ⟨n, hn⟩ : ∃ n, n = h0.objs.size + 1 := ⟨_, rfl⟩
  have free : H1 n = none := J1.hok.fresh (by rw [hn]; exact Nat.le_succ _)
  have say := told n free
  rw [List.append_nil] at say
  obtain ⟨hE, eE⟩ : ∃ hE, hE = (h0.push (PySem.W.kdv_tup us)).push (PySem.HandSPX.excO C h0.objs.size) := ⟨_, rfl⟩
  have old : ∀ b o, h0.get? b = some o → hE.get? b = some o := fun b o z => by rw [eE]; exact Heap.get?_push_of_some _ (Heap.get?_push_of_some _ z)
  have there : hE.get? n = some (PySem.HandSPX.excO C h0.objs.size) := by rw [eE, hn]; heap_get
  have J2 : Inv X pn sg (upd H1 n (exo n C none)) ⟨hE, g0, dr0, t0, os0⟩ := J1.laid (t' := t0) (h' := hE) old (by rw [hn]; exact Nat.le_succ _) (exo_ok there)
  have rel : Vals (V.ref n :: vs) (Value.ref n :: us) := .cons rfl rvs
  have cnt : (Value.ref n :: us ++ []).length = nms.length := by
    rw [List.append_nil, ← Fi.len _ _ _ _ say]
    exact rel.length.symm
  have few : us.length ≤ sizeLine := by
    rw [sizeLine_eq, ← Paired.length rvs]; omega
  have bound := hb _ (Value.ref n :: us) J2.kIn cnt
  rw [List.append_nil] at bound
  have run := Fi.run _ X.stack _ _ ⟨Value.ref n :: us, []⟩ (Value.ref n :: us) _ _ (fun _ _ _ => False) (room.make C us []) (J2.env0.make C us []) bound rel say
  rw [hn, eE] at run
  refine wpAny_call (PySem.HandSPX.call_own PySem.F.excBase_ValueError (fun Y => PySem.HandSPX.refsVE_contains Y bm veB) (J1.kIn _ _ clsAt) (PySem.W.looks_findIn J1.kIn hi) (fun self => PySem.W.bind_fn J1.kIn self ht) few (codeAny_mono run fun r s' z => ?_))
  match r, z with
  | .error er, z => exact absurd z (fun q => q)
  | .ok (.ret u), ⟨v, H2, sameOs, bare, un, hok2, rv, ev, d, fs, atE, atD, dFree, q⟩ =>
    subst ev
    obtain ⟨h2, g2, d2, t2, os2⟩ := s'
    refine ⟨rv, ?_⟩
    obtain ⟨tt, G, JJ, back, gone, obj, nA⟩ := mk_end0 (d2 := d2) (t2 := t2) J1 (Nat.le_succ _) (by rw [← eE]; exact old) un hok2 sameOs bare atE atD dFree
    exact ⟨_, _, _, ⟨G, g2, d2, t2, os2⟩, _, .ref C, some d, rfl, JJ, back, gone, obj, ⟨rfl, rfl, fun _ z => by cases z; rfl⟩, rfl, rfl, nA, rfl, bare, raises_own T.exC T.tyC, q⟩
def sRaise (C : Addr) (fa : EF) : SF := letE fa fun w ρ S => .exc C w ρ S
section
variable {X : Cx} {W : WX} {e : Expr} {fa : EF} {p pos pos' : Pos} {x : Str} {C : Addr} {k : Nat}
theorem es_raise (R : RfOk X.prog X.w X.K X.mg X.base) (Z : ErrC X.K X.mg x C) (tk : L2N.Takes X W) (at' : At X k) (hk : 2 ≤ k) (hc : X.calm = true) (hg : Gl X x) (ha : EV X W e fa) (hdb : (x == ("__debug__" : Str)) = false := by decide)
    (he : starEach [e] X.env = (false, eval e X.env) :: starEach [] X.env := by rfl) : ES X W (.Raise (some (.Call (.Name x p) [e] [] pos)) none pos') (sRaise C fa) := by
  obtain ⟨fd, F1, hb⟩ := R.fn
  refine ps_imp (L2N.ps_raise hc tk (mkN Z.un.ox Z.ini R.ty F1 (at'.room.mono hk) hb hg Z.mg (pa_cons ha pa_nil he) hdb he)) fun D σ H ⟨j, ρ, S, hs, hr, q⟩ => ?_
  refine ⟨j, ρ, S, hs, hr, OKs.letE hr q fun j1 H1 d v S1 e1 s1 r1 hr1 q1 => ?_⟩
  refine ⟨by show 1 ≤ 1000; decide, fun a ha => ⟨a, C, v, rfl, Z.un, upd_same, fun dx hdx ne => ⟨rfl, dx, [("what", v)], upd_same, by rw [upd_ne ne]; exact upd_same, by rw [upd_ne ne] at hdx; exact hdx, ?_⟩⟩⟩
  have hd1 : H1 dx = none := by rw [upd_ne ne] at hdx; exact hdx
  have eh : upd (del (upd (upd (upd H1 a (exo a C none)) dx (exd dx [("what", v)])) a (exo a C (some dx))) a) dx (.xd [("what", v)]) = upd H1 dx (.xd [("what", v)]) := by
    funext b
    by_cases hb : b = dx
    · subst hb; rw [upd_same, upd_same]
    · rw [upd_ne hb, upd_ne hb]
      by_cases hba : b = a
      · subst hba; rw [del_same, ha]
      · rw [del_ne hba, upd_ne hba, upd_ne hb, upd_ne hba]
  rw [eh]
  exact q1 j1 _ σ _ _ (ext_new hd1) (s1.new hd1) (hr1.mono (ext_new hd1)) ⟨rfl, Z.un, dx, v, rfl, s1.free hd1, upd_same, r1.mono (ext_new hd1)⟩
end

/-- behind an except suite: its name is gone -/
def SO.gone (i : Nat) : SO → SO
  | .nx ρ S => .nx (ρ.set i none) S
  | .bk ρ S => .bk (ρ.set i none) S
  | .ct ρ S => .ct (ρ.set i none) S
  | .rt d S => .rt d S
  | .exc _ _ _ _ => .no
  | .no => .no
/-- try: g; except Refused as the name of slot i: h of the error's class, told at places that do not matter -/
def sTry (i : Nat) (g : SF) (h : Addr → Addr → Addr → SF) : SF := fun ρ S => match g ρ S with
  | .exc C w ρ1 S1 => (h 0 0 C (ρ1.set i (some (.exc 0 0 C w))) S1).gone i
  | o => o
section
variable {X : Cx} {W : WX} {body suite : List Stmt} {b₀ : Stmt} {n : Str} {np pos pos' : Pos} {i : Nat} {g : SF} {h : Addr → Addr → Addr → SF}
end

/-! ### what the suite asks of the error -/
def whatD (a dd C : Addr) (x : D) (S : Sto) : Out D := match x with
  | .exc a' dd' C' w => if a' = a ∧ dd' = dd ∧ C' = C then .ok w S else .no
  | _ => .no
def isED (K : PySem.W.Frag) (a dd C C2 : Addr) (x : D) (S : Sto) : Out D := match x with
  | .exc a' dd' C' _ => if a' = a ∧ dd' = dd ∧ C' = C then match PySem.W.kitOne K (.ref C) (.ref C2) with
      | some b => .ok (.bl b) S
      | none => .no
    else .no
  | _ => .no
section
variable {X : Cx} {W : WX} {a C dd C2 : Addr} {oe : Obj} {pn : List (Addr × Obj)} {e : Expr} {fa : EF} {pos p p1 p2 : Pos} {i : Nat} {n x : Str}
theorem ev_what (U : UnderRf X.K (refusedOf X.K) C) (hz : Zc (.ref C) (some dd) oe) (hf : ∃ vs, oe.data = .fields vs) (he : EV (X.suite a ((a, oe) :: pn)) W e fa) (hb : attributeBase e "what" X.env (eval e X.env) = eval e X.env := by rfl) :
    EV (X.suite a ((a, oe) :: pn)) W (.Attribute e "what" pos) (eUn (whatD a dd C) fa) := pe_imp (pe_xf (n := "what") (pos := pos) U.xf U.nw hz hf he hb) fun σ H Q ⟨j, ρ, S, hs, hr, q⟩ => by
  refine ⟨j, ρ, S, hs, hr, OKg.bind q fun j1 H1 d v S1 e1 s1 r1 q1 => ?_⟩
  unfold whatD at q1
  split at q1
  · split at q1
    · rename_i hc
      obtain ⟨rfl, rfl, rfl⟩ := hc
      cases r1 with
      | exc hd nd rv => exact ⟨rfl, rfl, _, _, _, rfl, hd, rfl, ok_at s1 rv q1⟩
    · exact q1.elim
  · exact q1.elim
def rIsE2 (K : PySem.W.Frag) (D a : Addr) : List V → Hp → VK → Prop := fun xs H Q => ∃ (c : Addr) (b : Bool), xs = [.ref a, .ref c] ∧ PySem.W.kitOne K (.ref D) (.ref c) = some b ∧ Q (.bl b) H
end
end DL

set_option Elab.async false
set_option linter.all false
set_option maxRecDepth 100000
set_option maxHeartbeats 2000000
/-! ### try with several except clauses, each with a name or with none -/
namespace L2N
open PySem PySem.Spec PyProof.Rows L2
/-- what the suites of the clauses do -/
abbrev Suit := Addr → Value → Option Addr → TS
/-- an end behind a suite whose name is gone -/
def dropE (i : Nat) (D : Ends) : Ends := { nx := fun z Hz => D.nx (z.set i none) Hz, rt := D.rt, bk := fun z Hz => D.bk (z.set i none) Hz, ct := fun z Hz => D.ct (z.set i none) Hz }
def wCls (K : PySem.W.Frag) (Wo : WX) (D : Ends) : List (Value × Option Nat × Suit) → WX
  | [] => Wo
  | (c, none, f) :: l => fun cls d z Hz => ∃ b, PySem.W.exmOne K cls c = some b ∧ (b = true → ∀ x, Hz x = none → f x cls d D z Hz) ∧ (b = false → wCls K Wo D l cls d z Hz)
  | (c, some i, f) :: l => fun cls d z Hz => ∃ b, PySem.W.exmOne K cls c = some b ∧ (b = true → ∀ x, Hz x = none → f x cls d (dropE i D) (z.set i (some (.ref x))) Hz) ∧ (b = false → wCls K Wo D l cls d z Hz)
inductive ClsOk (X : Cx) : List ExceptHandler → List (Value × Option Nat × Suit) → Prop
  | nil : ClsOk X [] []
  | bare {m : Str} {c : Value} {f : Suit} {st : Stmt} {sts : List Stmt} {p1 p2 : Pos} {hs : List ExceptHandler} {l : List (Value × Option Nat × Suit)} (named : Names X m c)
      (suit : ∀ (x : Addr) (o : Obj) (cls : Value) (d : Option Addr) (pn : List (Addr × Obj)), Zn cls d o → (∃ vs, o.data = .fields vs) → PSs (X.suite x ((x, o) :: pn)) (st :: sts) (f x cls d)) (more : ClsOk X hs l) :
      ClsOk X (.ExceptHandler (some (.Name m p1)) none (st :: sts) p2 :: hs) ((c, none, f) :: l)
  | named {m n : Str} {i : Nat} {c : Value} {f : Suit} {st : Stmt} {sts : List Stmt} {p1 p2 : Pos} {hs : List ExceptHandler} {l : List (Value × Option Nat × Suit)} (named : Names X m c) (slot : X.N[i]? = some n) (loc : X.env.kindOf n = some .local)
      (suit : ∀ (x : Addr) (o : Obj) (cls : Value) (d : Option Addr) (pn : List (Addr × Obj)), Zn cls d o → (∃ vs, o.data = .fields vs) → PSs (X.suite x ((x, o) :: pn)) (st :: sts) (f x cls d)) (more : ClsOk X hs l) :
      ClsOk X (.ExceptHandler (some (.Name m p1)) (some n) (st :: sts) p2 :: hs) ((c, some i, f) :: l)
section
variable {X : Cx} {body : List Stmt} {hd1 : ExceptHandler} {hs : List ExceptHandler} {l : List (Value × Option Nat × Suit)} {pos : Pos} {tb : WX → TS} {Wo : WX}
theorem ps_try_cls (stk : X.stack = X.env :: X.outer) (frm : X.env.frame = some X.env.locals) (nd : X.N.Nodup) (tk : Takes X Wo)
    (run : ∀ (W : WX) (pn : List (Addr × Obj)) (xe : Value → Shared → Prop), Takes (X.tr pn xe) W → PassesOwn (model X.prog X.w) X.A X.env xe → PSs (X.tr pn xe) body (tb W))
    (clauses : ClsOk X (hd1 :: hs) l) : PS X (.Try body (hd1 :: hs) [] [] pos) (fun D z Hz => tb (wCls X.K Wo D l) D z Hz) := by
  refine ⟨fun pins s z Hz D inv goal => ?_⟩
  have good := inv.ok
  have frames : X.A.frames = some (X.env :: X.outer) := good.frames.trans (by rw [stk])
  refine wpAny_Try_except (wpAny_mono ((run (wCls X.K Wo D l) (X.pn ++ pins) (fun er t1 => wpAny (model X.prog X.w) X.A (noteFrame er X.env) (fun _ t2 => wpAny (model X.prog X.w) X.A (setFlight er none) (fun _ t3 =>
    wpAny (model X.prog X.w) X.A (handleBy er X.env (hd1 :: hs)) (SP X pins D) X.xe t3) X.xe t2) X.xe t1) (fun er t1 caught => ?_) PassesOwn.looking).run [] s z Hz D (inv.toTry _) goal) (fun fl t1 done => ?_) (fun er t1 q => q))
  · obtain ⟨x, B, t0, pins', z1, H1, cls, d, rfl, inv', nb, up, sky, free, os, bareG, wish⟩ := caught
    have inv1 : Inv X pins z1 H1 t0 := inv'.ofTry good
    rw [stk] at sky
    show wpAny (model X.prog X.w) X.A (noteFrame (.ref x) X.env) _ _ _
    refine Sky.land Zn.steady frames frm sky fun g fly upg => ?_
    have inv3 : Inv X pins z1 H1 { t1 with heap := g } := inv1.landed nb fly.1 (up.trans upg) os bareG
    obtain ⟨o3, f3, at3, zn3, dat3⟩ := fly.there
    have outside : x ∉ frs (X.env :: X.outer) := fun hm => by
      obtain ⟨_, o', at', bad⟩ := fly.2.2.1.mem hm
      rw [at3] at at'
      cases at'
      exact bad _ dat3
    have notLoc : x ≠ X.env.locals := fun q => outside (List.mem_filterMap.mpr ⟨X.env, List.mem_cons_self, by rw [frm, q]⟩)
    have notFs : x ∉ X.fs := fun hm => by
      obtain ⟨en, me, q⟩ := List.mem_filterMap.mp hm
      exact outside (List.mem_filterMap.mpr ⟨en, List.mem_cons_of_mem _ me, q⟩)
    have suite3 := inv3.suite at3 dat3 free notLoc notFs
    have name : ∀ {m : Str} {c : Value} {p1 : Pos} {R : Value → Shared → Prop} {R' : Value → Shared → Prop}, Names X m c → R c { t1 with heap := g } → wpAny (model X.prog X.w) (X.A.mark (some (.ref x))) (eval (.Name m p1) X.env) R R' { t1 with heap := g } := by
      intro m c p1 R R' nm q
      rcases nm with ⟨gl, dbg, inMod | ⟨no, boot, ne⟩⟩
      · exact ld_glob (X := X.suite x ((x, o3) :: (X.pn ++ pins))) suite3 gl inMod q dbg
      · exact ld_blt (X := X.suite x ((x, o3) :: (X.pn ++ pins))) suite3 gl no boot q ne dbg
    have asks : ∀ {c : Value} {b : Bool}, PySem.W.exmOne X.K cls c = some b → PySem.W.Looks (model X.prog X.w) g (excMatches (.ref x) c) b := fun {c b} e =>
      PySem.W.exm_one inv3.kIn (fun _ _ _ _ keep q => wpAny_typeOf_ref (keep _ _ at3) (by rw [zn3.1]; exact q)) e
    have walk : ∀ {hs' : List ExceptHandler} {l' : List (Value × Option Nat × Suit)}, ClsOk X hs' l' → wCls X.K Wo D l' cls d z1 H1 → wpAny (model X.prog X.w) X.A (handleBy (.ref x) X.env hs') (SP X pins D) X.xe { t1 with heap := g } := by
      intro hs' l' ok
      induction ok with
      | nil =>
        intro w
        refine wpAny_handleBy_nil ?_
        obtain ⟨_, _, _, o, vs, T, oT, ts', ato, _, dato, one, _⟩ := id fly
        unfold PySem.passOn
        refine wpAny_bind (wpAny_field ato dato one ?_)
        rw [if_neg (show ¬ ((Value.ref T == Value.none) = true) from by simp)]
        have last : wpAny (model X.prog X.w) X.A (setFlight (.ref x) X.env.frame) (fun _ t4 => wpAny (model X.prog X.w) X.A (throw (.ref x) : Sem Flow) (SP X pins D) X.xe t4) X.xe { t1 with heap := g } := by
          rw [frm]
          refine HandSPX.setFlight_upZ fly fun g4 top4 up4 => wpAny_throw (tk _ _ ?_)
          exact ⟨x, B, t0, pins, z1, H1, cls, d, rfl, inv1, nb, (up.trans upg).trans up4, .inr (.inr (by rw [stk]; exact top4)), free, os, bareG, w⟩
        first
          | exact wpAny_bind (wpAny_pure (wpAny_bind last))
          | exact wpAny_bind last
      | bare nm suit more ih =>
        rintro ⟨b, eb, yes, no⟩
        refine wpAny_handleBy_cons (codeAny_handlers_test (name nm ((asks eb).here ?_))) (by intro q; cases q)
        cases b with
        | false => exact ih (no rfl)
        | true =>
          refine codeAny_handlers_suite (HandSPX.lands_againZ fly fun g4 fly4 up4 => ?_)
          have inv4 : Inv X pins z1 H1 { t1 with heap := g4 } := inv1.landed nb fly4.1 ((up.trans upg).trans up4) os bareG
          obtain ⟨o4, f4, at4, zn4, dat4⟩ := fly4.there
          refine wpAny_mono ((suit x o4 cls d (X.pn ++ pins) zn4 ⟨_, dat4⟩).run [] _ _ H1 _ (inv4.suite at4 dat4 free notLoc notFs) (yes rfl x free)) (fun fl t6 done => ?_) (fun _ _ q => False.elim q)
          cases fl with
          | ret u =>
            obtain ⟨v6, z6, H6, i6, r6, q6⟩ := done
            exact ⟨v6, z6, H6, i6.unsuite good, r6, q6⟩
          | _ =>
            obtain ⟨z6, H6, i6, q6⟩ := done
            exact ⟨z6, H6, i6.unsuite good, q6⟩
      | @named m n i c f st sts p1 p2 hs2 l2 nm slot loc suit more ih =>
        rintro ⟨b, eb, yes, no⟩
        refine wpAny_handleBy_cons (codeAny_handlers_test (name nm ((asks eb).here ?_))) (by intro q; cases q)
        cases b with
        | false => exact ih (no rfl)
        | true =>
          refine codeAny_handlers_suite_as (HandSPX.lands_againZ fly fun g4 fly4 up4 => ?_)
          have inv4 : Inv X pins z1 H1 { t1 with heap := g4 } := inv1.landed nb fly4.1 ((up.trans upg).trans up4) os bareG
          obtain ⟨o4, f4, at4, zn4, dat4⟩ := fly4.there
          have lc : Loc X.env.scope n := .inl loc
          refine store_ok (X := X.suite x ((x, o4) :: (X.pn ++ pins))) (v := .ref x) (inv4.suite at4 dat4 free notLoc notFs) nd slot lc rfl (fun t5 i5 => ?_) (.inr loc)
          refine wpAny_mono ((suit x o4 cls d (X.pn ++ pins) zn4 ⟨_, dat4⟩).run [] t5 _ H1 _ i5 (yes rfl x free)) (fun fl t6 done => ?_) (fun _ _ q => False.elim q)
          cases fl with
          | ret u =>
            obtain ⟨v6, z6, H6, i6, r6, q6⟩ := done
            exact gone_ok (i6.unsuite good) nd slot loc fun t7 i7 => ⟨_, _, _, i7, r6, q6⟩
          | _ =>
            obtain ⟨z6, H6, i6, q6⟩ := done
            exact gone_ok (i6.unsuite good) nd slot loc fun t7 i7 => ⟨_, _, i7, q6⟩
    exact walk clauses wish
  · cases fl with
    | next =>
      obtain ⟨z1, H1, i1, q⟩ := done
      exact wpAny_execs_nil ⟨z1, H1, i1.ofTry good, q⟩
    | ret u =>
      obtain ⟨v, z1, H1, i1, r, q⟩ := done
      exact ⟨v, z1, H1, i1.ofTry good, r, q⟩
    | _ =>
      obtain ⟨z1, H1, i1, q⟩ := done
      exact ⟨z1, H1, i1.ofTry good, q⟩
end
end L2N
namespace DL
open PySem PySem.Spec PyProof.Rows L2
variable [Tb]
/-- a suite that raises nothing -/
def SO.still : SO → SO
  | .exc _ _ _ _ => .no
  | o => o
abbrev HF := Addr → Addr → Addr → SF
def clsGo (K : PySem.W.Frag) (C : Addr) (w : D) (ρ : DL.Env) (S : Sto) : List (Addr × Option Nat × HF) → SO
  | [] => .exc C w ρ S
  | (C2, o, h) :: l => match PySem.W.exmOne K (.ref C) (.ref C2) with
    | some true => match o with
      | some i => (h 0 0 C (ρ.set i (some (.exc 0 0 C w))) S).gone i
      | none => (h 0 0 C ρ S).still
    | some false => clsGo K C w ρ S l
    | none => .no
/-- try: g; except .. as ..: ..; except ..: .. -/
def sTryC (K : PySem.W.Frag) (g : SF) (l : List (Addr × Option Nat × HF)) : SF := fun ρ S => match g ρ S with
  | .exc C w ρ1 S1 => clsGo K C w ρ1 S1 l
  | o => o
inductive CsOk (X : Cx) : List ExceptHandler → List (Addr × Option Nat × HF) → Prop
  | nil : CsOk X [] []
  | bare {m : Str} {C : Addr} {h : HF} {b₀ : Stmt} {suite : List Stmt} {np pos' : Pos} {hs : List ExceptHandler} {l : List (Addr × Option Nat × HF)} (hg : Gl X m) (hm : X.mg m = some (.ref C)) (hdb : (m == ("__debug__" : Str)) = false)
      (hsu : ∀ (a : Addr) (oe : Obj) (C' dd : Addr) (pn : List (Addr × Obj)), L2N.Zn (.ref C') (some dd) oe → (∃ vs, oe.data = .fields vs) → UnderRf X.K (refusedOf X.K) C' → ESs (X.suite a ((a, oe) :: pn)) W0 (b₀ :: suite) (h a dd C'))
      (hind : ∀ (a dd C' : Addr) (ρ : DL.Env) (S : Sto), h a dd C' ρ S = h 0 0 C' ρ S) (more : CsOk X hs l) : CsOk X (.ExceptHandler (some (.Name m np)) none (b₀ :: suite) pos' :: hs) ((C, none, h) :: l)
  | named {m n : Str} {i : Nat} {C : Addr} {h : HF} {b₀ : Stmt} {suite : List Stmt} {np pos' : Pos} {hs : List ExceptHandler} {l : List (Addr × Option Nat × HF)} (hg : Gl X m) (hm : X.mg m = some (.ref C)) (hdb : (m == ("__debug__" : Str)) = false) (hi : X.N[i]? = some n) (hln : X.env.kindOf n = some .local)
      (hsu : ∀ (a : Addr) (oe : Obj) (C' dd : Addr) (pn : List (Addr × Obj)), L2N.Zn (.ref C') (some dd) oe → (∃ vs, oe.data = .fields vs) → UnderRf X.K (refusedOf X.K) C' → ESs (X.suite a ((a, oe) :: pn)) W0 (b₀ :: suite) (h a dd C'))
      (hind : ∀ (a dd C' : Addr) (w : D) (ρ : DL.Env) (S : Sto), (h a dd C' (ρ.set i (some (.exc a dd C' w))) S).gone i = (h 0 0 C' (ρ.set i (some (.exc 0 0 C' w))) S).gone i) (more : CsOk X hs l) : CsOk X (.ExceptHandler (some (.Name m np)) (some n) (b₀ :: suite) pos' :: hs) ((C, some i, h) :: l)
def suitOf (K : PySem.W.Frag) (h : HF) : L2N.Suit := fun a cls d D σ H => ∃ C' dd, cls = .ref C' ∧ d = some dd ∧ UnderRf K (refusedOf K) C' ∧ rdS K W0 (h a dd C') D σ H
def clsOfL (K : PySem.W.Frag) (l : List (Addr × Option Nat × HF)) : List (Value × Option Nat × L2N.Suit) := l.map fun x => (.ref x.1, x.2.1, suitOf K x.2.2)
theorem CsOk.cls {X : Cx} : ∀ {hs : List ExceptHandler} {l : List (Addr × Option Nat × HF)}, CsOk X hs l → L2N.ClsOk X hs (clsOfL X.K l)
  | _, _, .nil => .nil
  | _, _, .bare hg hm hdb hsu _ more => .bare ⟨hg, hdb, .inl hm⟩ (fun a oe cls d pn hz hv => ⟨fun pins s σ H D I ⟨C', dd, e1, e2, U, r⟩ => by
      subst e1 e2
      exact (hsu a oe C' dd pn hz hv U).run pins s σ H D I r⟩) more.cls
  | _, _, .named hg hm hdb hi hln hsu _ more => .named ⟨hg, hdb, .inl hm⟩ hi hln (fun a oe cls d pn hz hv => ⟨fun pins s σ H D I ⟨C', dd, e1, e2, U, r⟩ => by
      subst e1 e2
      exact (hsu a oe C' dd pn hz hv U).run pins s σ H D I r⟩) more.cls
section
variable {X : Cx} {W : WX} {body : List Stmt} {h₀ : ExceptHandler} {hds : List ExceptHandler} {l : List (Addr × Option Nat × HF)} {g : SF} {pos : Pos}
theorem es_tryC (hs : X.stack = X.env :: X.outer) (hf : X.env.frame = some X.env.locals) (hN : X.N.Nodup) (tk : L2N.Takes X W)
    (hb : ∀ (W' : WX) (pn : List (Addr × Obj)) (xe : Value → Shared → Prop), L2N.Takes (X.tr pn xe) W' → PassesOwn (model X.prog X.w) X.A X.env xe → ESs (X.tr pn xe) W' body g)
    (hc : CsOk X (h₀ :: hds) l) : ES X W (.Try body (h₀ :: hds) [] [] pos) (sTryC X.K g l) := by
  refine ps_imp (L2N.ps_try_cls (tb := fun W' => rdS X.K W' g) (Wo := W) hs hf hN tk hb hc.cls) fun D σ H ⟨j, ρ, S, hs, hr, q⟩ => ⟨j, ρ, S, hs, hr, ?_⟩
  unfold sTryC at q
  cases e : g ρ S with
  | exc C w ρ1 S1 =>
    rw [e] at q
    intro j' H' σ' cls dd e1 s1 r1 hx
    have hx' := hx
    obtain ⟨rfl, U, d, v, rfl, nd, hd, rv⟩ := hx
    replace q : OKs X.K j' H' W D (clsGo X.K C w ρ1 S1 l) := OKs.ext q e1
    suffices go : ∀ {hh : List ExceptHandler} {l' : List (Addr × Option Nat × HF)}, CsOk X hh l' → OKs X.K j' H' W D (clsGo X.K C w ρ1 S1 l') → L2N.wCls X.K W D (clsOfL X.K l') (.ref C) (some d) σ' H' from go hc q
    intro hh l' hc'
    clear q
    induction hc' with
    | nil => exact fun q => q j' H' σ' _ _ (.refl _ _) s1 r1 hx'
    | @bare m C2 h b₀ suite np pos' hs2 l2 hg hm hdb hsu hind more ih =>
      intro q
      have q2 : OKs X.K j' H' W D (match PySem.W.exmOne X.K (.ref C) (.ref C2) with
        | some true => (h 0 0 C ρ1 S1).still
        | some false => clsGo X.K C w ρ1 S1 l2
        | none => .no) := q
      cases eb : PySem.W.exmOne X.K (.ref C) (.ref C2) with
      | none => rw [eb] at q2; exact q2.elim
      | some b =>
        rw [eb] at q2
        refine ⟨b, eb, fun hb a ha => ?_, fun hb => ?_⟩
        · subst hb
          refine ⟨C, d, rfl, rfl, U, j', ρ1, S1, s1, r1, ?_⟩
          show OKs X.K j' H' W0 D (h a d C ρ1 S1)
          rw [hind]
          cases eh : h 0 0 C ρ1 S1 with
          | exc _ _ _ _ => rw [eh] at q2; exact q2.elim
          | no => rw [eh] at q2; exact q2.elim
          | _ => rw [eh] at q2; exact q2
        · subst hb
          exact ih q2
    | @named m n i C2 h b₀ suite np pos' hs2 l2 hg hm hdb hi hln hsu hind more ih =>
      intro q
      have q2 : OKs X.K j' H' W D (match PySem.W.exmOne X.K (.ref C) (.ref C2) with
        | some true => (h 0 0 C (ρ1.set i (some (.exc 0 0 C w))) S1).gone i
        | some false => clsGo X.K C w ρ1 S1 l2
        | none => .no) := q
      cases eb : PySem.W.exmOne X.K (.ref C) (.ref C2) with
      | none => rw [eb] at q2; exact q2.elim
      | some b =>
        rw [eb] at q2
        refine ⟨b, eb, fun hb a ha => ?_, fun hb => ?_⟩
        · subst hb
          refine ⟨C, d, rfl, rfl, U, j', ρ1.set i (some (.exc a d C w)), S1, s1, r1.set (.exc hd nd rv) i, ?_⟩
          have q3 : OKs X.K j' H' W D ((h a d C (ρ1.set i (some (.exc a d C w))) S1).gone i) := by rw [hind]; exact q2
          show OKs X.K j' H' W0 (L2N.dropE i D) (h a d C (ρ1.set i (some (.exc a d C w))) S1)
          cases eh : h a d C (ρ1.set i (some (.exc a d C w))) S1 with
          | nx ρ2 S2 => rw [eh] at q3; exact fun j2 H2 σ2 x2 s2 r2 => q3 j2 H2 _ x2 s2 (r2.gone i)
          | bk ρ2 S2 => rw [eh] at q3; exact fun j2 H2 σ2 x2 s2 r2 => q3 j2 H2 _ x2 s2 (r2.gone i)
          | ct ρ2 S2 => rw [eh] at q3; exact fun j2 H2 σ2 x2 s2 r2 => q3 j2 H2 _ x2 s2 (r2.gone i)
          | rt d2 S2 => rw [eh] at q3; exact q3
          | exc _ _ _ _ => rw [eh] at q3; exact q3.elim
          | no => rw [eh] at q3; exact q3.elim
        · subst hb
          exact ih q2
  | _ => rw [e] at q; exact q
end
end DL

set_option Elab.async false
set_option linter.all false
set_option maxRecDepth 100000
set_option maxHeartbeats 2000000
namespace DL
open PySem PySem.Spec PyProof.Rows L2
variable [Tb]

/-! ### lambdas: heaps with the captured cells held fast, and without -/
def cutH (H : Hp) (cs : List Addr) : Hp := fun b => if b ∈ cs then none else H b
def addH (H H2 : Hp) (cs : List Addr) : Hp := fun b => if b ∈ cs then H2 b else H b
def frzH (H : Hp) (h : Heap) (cs : List Addr) : Hp := fun b => if b ∈ cs then (h.get? b).map fun o => .frz o (.own b) else H b
section
variable {H H2 : Hp} {cs : List Addr} {b : Addr} {h : Heap}
theorem cutH_in (m : b ∈ cs) : cutH H cs b = none := if_pos m
theorem cutH_out (m : b ∉ cs) : cutH H cs b = H b := if_neg m
theorem addH_in (m : b ∈ cs) : addH H H2 cs b = H2 b := if_pos m
theorem addH_out (m : b ∉ cs) : addH H H2 cs b = H b := if_neg m
theorem frzH_in (m : b ∈ cs) : frzH H h cs b = (h.get? b).map fun o => .frz o (.own b) := if_pos m
theorem frzH_out (m : b ∉ cs) : frzH H h cs b = H b := if_neg m
end
/-- the cells at cs are held fast -/
def Held (H : Hp) (cs : List Addr) : Prop := ∀ c ∈ cs, ∃ o : Obj, H c = some (.frz o (.own c))
def NotOwn (o : HO) : Prop := ∀ q c, o ≠ .frz q (.own c)
theorem Held.out {H : Hp} {cs : List Addr} (x : Held H cs) {b : Addr} {o : HO} (h : H b = some o) (n : NotOwn o) : b ∉ cs := fun z => by
  obtain ⟨q, e⟩ := x b z
  rw [h] at e; exact n _ _ (Option.some.inj e)
theorem Held.out' {H : Hp} {cs : List Addr} (x : Held H cs) {b : Addr} (h : H b = none) : b ∉ cs := fun z => by
  obtain ⟨q, e⟩ := x b z
  rw [h] at e; cases e
section
variable {P : Program} {w : World} {H H' H2 H1 : Hp} {h h' B : Heap} {cs fs : List Addr}
theorem HOk.cutC (x : HOk P w H h) (c : Held H cs) : HOk P w (cutH H cs) h := fun a o e => by
  have ha : a ∉ cs := fun z => by rw [cutH_in z] at e; cases e
  rw [cutH_out ha] at e
  exact (x a o e).stay (fun _ _ _ q => q) (fun b q => by rw [cutH_out (c.out q fun _ _ z => nomatch z)]; exact q) fun b xs q => by rw [cutH_out (c.out q fun _ _ z => nomatch z)]; exact q
theorem HOk.addC (x : HOk P w H' h') (c : Held H2 cs) (n : ∀ a ∈ cs, H' a = none) (g : ∀ a ∈ cs, ∀ o, H2 a = some (.frz o (.own a)) → h'.get? a = some o) : HOk P w (addH H' H2 cs) h' := fun a o e => by
  by_cases ha : a ∈ cs
  · rw [addH_in ha] at e
    obtain ⟨q, eq⟩ := c a ha
    rw [e] at eq; cases eq
    have := g a ha q e
    exact ⟨this, q, this⟩
  · rw [addH_out ha] at e
    have out : ∀ b u, H' b = some u → b ∉ cs := fun b u q z => by rw [n b z] at q; cases q
    exact (x a o e).stay (fun _ _ _ q => q) (fun b q => by rw [addH_out (out _ _ q)]; exact q) fun b xs q => by rw [addH_out (out _ _ q)]; exact q
theorem HOk.frzC (x : HOk P w H h) (n : ∀ a ∈ cs, H a = none) : HOk P w (frzH H h cs) h := fun a o e => by
  by_cases ha : a ∈ cs
  · rw [frzH_in ha] at e
    cases q : h.get? a with
    | none => rw [q] at e; cases e
    | some u =>
      rw [q] at e; cases e
      exact ⟨q, u, q⟩
  · rw [frzH_out ha] at e
    have out : ∀ b u, H b = some u → b ∉ cs := fun b u q z => by rw [n b z] at q; cases q
    exact (x a o e).stay (fun _ _ _ q => q) (fun b q => by rw [frzH_out (out _ _ q)]; exact q) fun b xs q => by rw [frzH_out (out _ _ q)]; exact q
theorem held_at (x : HOk P w H h) (c : Held H cs) : ∀ a ∈ cs, ∀ o, H a = some (.frz o (.own a)) → h.get? a = some o := fun a _ o e => (x a _ e).1
theorem un_add (u : Un fs [] (cutH H2 cs) H' h h') (x : HOk P w H2 h) (c : Held H2 cs) (nf : ∀ a ∈ cs, a ∉ fs) : Un fs [] H2 (addH H' H2 cs) h h' ∧ (∀ a ∈ cs, H' a = none) ∧ ∀ a ∈ cs, ∀ o, H2 a = some (.frz o (.own a)) → h'.get? a = some o := by
  have nn : ∀ a ∈ cs, H' a = none := fun a ha => by
    obtain ⟨o, e⟩ := c a ha
    exact u.free a o (held_at x c a ha o e) (cutH_in ha) (by simp)
  have gg : ∀ a ∈ cs, ∀ o, H2 a = some (.frz o (.own a)) → h'.get? a = some o := fun a ha o e => u.keep a o (held_at x c a ha o e) (cutH_in ha) (nf a ha) (by simp)
  have co : ∀ {b}, H2 b = none → cutH H2 cs b = none := fun {b} e => by rw [cutH_out (c.out' e)]; exact e
  have cs' : ∀ {b o}, H2 b = some o → b ∉ cs → cutH H2 cs b = some o := fun {b o} e n => by rw [cutH_out n]; exact e
  refine ⟨⟨fun b o e n => u.keep b o e (co n), fun b o e n => u.slot b o e (co n), fun b o e n hx => ?_, u.there, fun b xs e => ?_, fun b o v e => ?_, fun b ps e => ?_⟩, nn, gg⟩
  · rw [addH_out (c.out' n)]; exact u.free b o e (co n) hx
  · have nb := c.out e fun _ _ z => nomatch z
    rw [addH_out nb]; exact u.tups b xs (cs' e nb)
  · by_cases hb : b ∈ cs
    · rw [addH_in hb]; exact e
    · rw [addH_out hb]; exact u.frzs b o v (cs' e hb)
  · have nb := c.out e fun _ _ z => nomatch z
    rw [addH_out nb]; exact u.tbls b ps (cs' e nb)
theorem ub_add (u : UB fs (cutH H2 cs) H' h B h') (x : HOk P w H2 h) (c : Held H2 cs) (nf : ∀ a ∈ cs, a ∉ fs) : UB fs H2 (addH H' H2 cs) h B h' ∧ (∀ a ∈ cs, H' a = none) ∧ ∀ a ∈ cs, ∀ o, H2 a = some (.frz o (.own a)) → B.get? a = some o := by
  have nn : ∀ a ∈ cs, H' a = none := fun a ha => by
    obtain ⟨o, e⟩ := c a ha
    exact u.free a o (held_at x c a ha o e) (cutH_in ha)
  have gg : ∀ a ∈ cs, ∀ o, H2 a = some (.frz o (.own a)) → B.get? a = some o := fun a ha o e => u.keep a o (held_at x c a ha o e) (cutH_in ha) (nf a ha)
  have co : ∀ {b}, H2 b = none → cutH H2 cs b = none := fun {b} e => by rw [cutH_out (c.out' e)]; exact e
  have cs' : ∀ {b o}, H2 b = some o → b ∉ cs → cutH H2 cs b = some o := fun {b o} e n => by rw [cutH_out n]; exact e
  refine ⟨⟨fun b o e n => u.keep b o e (co n), u.slot, fun b o e n => ?_, u.there, fun b xs e => ?_, fun b o v e => ?_, fun b ps e => ?_⟩, nn, gg⟩
  · rw [addH_out (c.out' n)]; exact u.free b o e (co n)
  · have nb := c.out e fun _ _ z => nomatch z
    rw [addH_out nb]; exact u.tups b xs (cs' e nb)
  · by_cases hb : b ∈ cs
    · rw [addH_in hb]; exact e
    · rw [addH_out hb]; exact u.frzs b o v (cs' e hb)
  · have nb := c.out e fun _ _ z => nomatch z
    rw [addH_out nb]; exact u.tbls b ps (cs' e nb)
theorem frz_held (n : ∀ a ∈ cs, ∃ o, h.get? a = some o) : Held (frzH H h cs) cs := fun a ha => by
  obtain ⟨o, e⟩ := n a ha
  exact ⟨o, by rw [frzH_in ha, e]; rfl⟩
theorem un_cut (u : Un fs [] (frzH H h cs) H' h h') (x' : HOk P w H' h') (n : ∀ a ∈ cs, H a = none) (g : ∀ a ∈ cs, ∃ o, h.get? a = some o) : Un fs [] H (cutH H' cs) h h' ∧ Held H' cs := by
  have hf := frz_held (H := H) g
  have hl : Held H' cs := fun a ha => by
    obtain ⟨o, e⟩ := hf a ha
    exact ⟨o, u.frzs a o _ e⟩
  have to : ∀ {b} {o : Option HO}, b ∉ cs → H b = o → frzH H h cs b = o := fun {b o} nb e => by rw [frzH_out nb]; exact e
  have nin : ∀ {b o}, H b = some o → b ∉ cs := fun {b o} e z => by rw [n b z] at e; cases e
  refine ⟨⟨fun b o e nb hb hx => ?_, fun b o e nb hb hx => ?_, fun b o e nb hx => ?_, u.there, fun b xs e => ?_, fun b o v e => ?_, fun b ps e => ?_⟩, hl⟩
  · by_cases hc : b ∈ cs
    · have e1 : frzH H h cs b = some (.frz o (.own b)) := by rw [frzH_in hc, e]; rfl
      exact (x' b _ (u.frzs b o _ e1)).1
    · exact u.keep b o e (to hc nb) hb hx
  · by_cases hc : b ∈ cs
    · have e1 : frzH H h cs b = some (.frz o (.own b)) := by rw [frzH_in hc, e]; rfl
      exact ⟨o.slots, (x' b _ (u.frzs b o _ e1)).1⟩
    · exact u.slot b o e (to hc nb) hb hx
  · by_cases hc : b ∈ cs
    · exact cutH_in hc
    · rw [cutH_out hc]; exact u.free b o e (to hc nb) hx
  · rw [cutH_out (nin e)]; exact u.tups b xs (to (nin e) e)
  · rw [cutH_out (nin e)]; exact u.frzs b o v (to (nin e) e)
  · rw [cutH_out (nin e)]; exact u.tbls b ps (to (nin e) e)
theorem ub_cut (u : UB fs (frzH H h cs) H' h B h') (x' : HOk P w H' B) (n : ∀ a ∈ cs, H a = none) (g : ∀ a ∈ cs, ∃ o, h.get? a = some o) : UB fs H (cutH H' cs) h B h' ∧ Held H' cs := by
  have hf := frz_held (H := H) g
  have hl : Held H' cs := fun a ha => by
    obtain ⟨o, e⟩ := hf a ha
    exact ⟨o, u.frzs a o _ e⟩
  have to : ∀ {b} {o : Option HO}, b ∉ cs → H b = o → frzH H h cs b = o := fun {b o} nb e => by rw [frzH_out nb]; exact e
  have nin : ∀ {b o}, H b = some o → b ∉ cs := fun {b o} e z => by rw [n b z] at e; cases e
  refine ⟨⟨fun b o e nb hb => ?_, u.slot, fun b o e nb => ?_, u.there, fun b xs e => ?_, fun b o v e => ?_, fun b ps e => ?_⟩, hl⟩
  · by_cases hc : b ∈ cs
    · have e1 : frzH H h cs b = some (.frz o (.own b)) := by rw [frzH_in hc, e]; rfl
      exact (x' b _ (u.frzs b o _ e1)).1
    · exact u.keep b o e (to hc nb) hb
  · by_cases hc : b ∈ cs
    · exact cutH_in hc
    · rw [cutH_out hc]; exact u.free b o e (to hc nb)
  · rw [cutH_out (nin e)]; exact u.tups b xs (to (nin e) e)
  · rw [cutH_out (nin e)]; exact u.frzs b o v (to (nin e) e)
  · rw [cutH_out (nin e)]; exact u.tbls b ps (to (nin e) e)
end

/-! ### data over such heaps -/
structure Sub (j : Pl) (H : Hp) (j' : Pl) (H' : Hp) : Prop where
  pre : ∃ t, j'.l = j.l ++ t
  keep : ∀ b o, H b = some o → NotOwn o → H' b = some o
  nin : ∀ b o, H b = some o → NotOwn o → j.no b → j'.no b
section
variable {K : PySem.W.Frag} {j j' : Pl} {H H' : Hp} {S S0 : Sto}
theorem Sub.get (e : Sub j H j' H') {n : Nat} {a : Addr} (h : j.l[n]? = some a) : j'.l[n]? = some a := by
  obtain ⟨t, e⟩ := e.pre
  rw [e, List.getElem?_append_left (List.getElem?_eq_some_iff.mp h).1]; exact h
theorem Sub.sqt (e : Sub j H j' H') {a : Addr} {vs : List V} (h : SqT K H a vs) : SqT K H' a vs := by
  rcases h with (h | ⟨o, h⟩) | h
  · exact .inl (.inl (e.keep _ _ h fun _ _ z => nomatch z))
  · exact .inl (.inr ⟨o, e.keep _ _ h fun _ _ z => nomatch z⟩)
  · exact .inr h
theorem Sub.sqp (e : Sub j H j' H') {a : Addr} {vs : List V} (h : SqP H a vs) : SqP H' a vs := by
  obtain ⟨o, h, t⟩ := h
  exact ⟨o, e.keep _ _ h (fun _ _ z => nomatch z), t⟩
theorem Sub.frl (e : Sub j H j' H') {a : Addr} {vs : List V} (h : Frl K j H a vs) : Frl K j' H' a vs := by
  rcases h with ⟨h, n⟩ | ⟨o, h⟩ | h
  · exact .inl ⟨e.keep _ _ h (fun _ _ z => nomatch z), e.nin _ _ h (fun _ _ z => nomatch z) n⟩
  · exact .inr (.inl ⟨o, e.keep _ _ h fun _ _ z => nomatch z⟩)
  · exact .inr (.inr h)
mutual
theorem RV.sub (e : Sub j H j' H') {d : D} {v : V} : RV K j H d v → RV K j' H' d v
  | .non => .non
  | .bl b => .bl b
  | .int i => .int i
  | .str x => .str x
  | .ty n => .ty n
  | .rng h n => .rng (e.keep _ _ h (fun _ _ z => nomatch z)) (e.nin _ _ h (fun _ _ z => nomatch z) n)
  | .exc h n r => .exc (e.keep _ _ h (fun _ _ z => nomatch z)) (e.nin _ _ h (fun _ _ z => nomatch z) n) (RV.sub e r)
  | .tup h r => .tup (e.sqp h) (RVs.sub e r)
  | .pr h r s => .pr (e.sqt h) (RV.sub e r) (RV.sub e s)
  | .lst h n r => .lst (e.keep _ _ h fun _ _ z => nomatch z) (e.nin _ _ h (fun _ _ z => nomatch z) n) (RVs.sub e r)
  | .frl h r => .frl (e.frl h) (RVs.sub e r)
  | .ref h => .ref (e.get h)
theorem RVs.sub (e : Sub j H j' H') {ds : List D} {vs : List V} : RVs K j H ds vs → RVs K j' H' ds vs
  | .nil => .nil
  | .cons r s => .cons (RV.sub e r) (RVs.sub e s)
end
theorem RF.sub (e : Sub j H j' H') {α : Type} {ds : List (α × D)} {vs : List (α × V)} : RF K j H ds vs → RF K j' H' ds vs
  | .nil => .nil
  | .cons r s => .cons (r.sub e) (RF.sub e s)
theorem RT.sub (e : Sub j H j' H') {ds : List (List Int × D)} {ws : List (List Int × Addr × V)} : RT K j H ds ws → RT K j' H' ds ws
  | .nil => .nil
  | .cons h r s => .cons (e.sqp h) (r.sub e) (RT.sub e s)
def MO.clo? : MO → Bool
  | .clo _ _ => true
  | _ => false
theorem RO.sub (e : Sub j H j' H') {o : MO} {a : Addr} (n : o.clo? = false) (h : ∀ u, H a = some u → ∃ u', H' a = some u' ∧ NoCode a u') (r : RO K j H o a) : RO K j' H' o a := by
  cases o with
  | lst xs => obtain ⟨vs, h1, h2⟩ := r; exact ⟨vs, e.keep _ _ h1 (fun _ _ z => nomatch z), h2.sub e⟩
  | ins C fs => obtain ⟨dx, gs, h1, h2⟩ := r; exact ⟨dx, gs, e.keep _ _ h1 (fun _ _ z => nomatch z), h2.sub e⟩
  | dk kvs => obtain ⟨ws, h1, h2⟩ := r; exact ⟨ws, e.keep _ _ h1 (fun _ _ z => nomatch z), h2.sub e⟩
  | clo d ws => cases n
  | dead => obtain ⟨o, h1, h2⟩ := r; exact h _ h1
  | dt kvs => obtain ⟨ws, h1, h2⟩ := r; exact ⟨ws, e.keep _ _ h1 (fun _ _ z => nomatch z), h2.sub e⟩
  | dkz kvs => obtain ⟨o, ws, h1, h2⟩ := r; exact ⟨o, ws, e.keep _ _ h1 (fun _ _ z => by cases z), h2.sub e⟩
def MO.kill : MO → MO
  | .clo _ _ => .dead
  | o => o
def killS (S : Sto) : Sto := S.map MO.kill
theorem RO.killed {o : MO} {a : Addr} (r : RO K j H o a) : RO K j H o.kill a := by
  cases o with
  | clo d ws => exact r.some'
  | _ => exact r
theorem kill_clo (o : MO) : o.kill.clo? = false := by cases o <;> rfl
end
end DL

set_option Elab.async false
set_option linter.all false
set_option maxRecDepth 100000
set_option maxHeartbeats 2000000
namespace DL
open PySem PySem.Spec PyProof.Rows L2
variable [Tb]

/-! ### a lambda is made -/
section
variable {X : Cx} {pins : List (Addr × Obj)} {σ : L2.St} {H : Hp} {s : Shared}
/-- the new function is told from now on -/
theorem inv_lam {d : LamD} {cl : List (Str × Addr)} {pm ctv : Value} {c : Addr} {t' : Nat} (I : Inv X pins σ H s) :
    Inv X pins σ (upd H s.heap.objs.size (.frz (d.obj cl pm c ctv) (.own s.heap.objs.size))) { s with heap := s.heap.push (d.obj cl pm c ctv), toks := t' } := by
  have e : (s.heap.push (d.obj cl pm c ctv)).get? s.heap.objs.size = some (d.obj cl pm c ctv) := Heap.get?_push_size _ rfl
  exact I.laid (fun b u q => Heap.get?_push_of_some _ q) (Nat.le_refl _) ⟨e, _, e⟩
/-- what is told of a lambda just made: f it, cl its cells -/
structure Made (H : Hp) (d : LamD) (cl : List (Str × Addr)) (f : Addr) (H1 : Hp) : Prop where
  keep : ∀ b o, H b = some o → (∀ ps, o ≠ .tbl ps) → H1 b = some o
  none' : ∀ b, H1 b = none → H b = none
  new : H f = none
  fn : ∃ pm c ctv, H1 f = some (.frz (d.obj cl pm c ctv) (.own f)) ∧ H1 c = some (LamX.CodeO c d.qual) ∧ (H c = none ∨ H c = some (LamX.CodeO c d.qual))
theorem upd_none' {a b : Addr} {o : HO} (e : upd H a o b = none) : H b = none := by
  unfold upd at e
  split at e
  · cases e
  · exact e
theorem lam_mk {T : List (Addr × Str)} {c0 P0 : Addr} {d : LamD} {pos : Pos} {E Q : Value → Shared → Prop} (I : Inv X pins σ H s) (TB : LamX.TabB X.base X.mg c0 P0) (hcode : X.env.code = .ref c0) (hq : d.qual = X.env.qual ++ "<lambda>")
    (hm : (P0, d.qual) ∈ T) (hu : ∀ p ∈ T, p.1 = P0 → p.2 = d.qual) (hT : LamX.Tabs T H) (hdef : defaultsOf d.params X.env = ([], [])) (hfree : ∀ y ∈ d.scope.names, y.2 = .free → ∃ c, X.env.cells.lookup y.1 = some c)
    (h : ∀ (f : Addr) (H1 : Hp) (s' : Shared), Inv X pins σ H1 s' → Made H d (cloFrom X.env.cells d.scope.names []) f H1 → LamX.Tabs T H1 → Q (.ref f) s') :
    wpAny (model X.prog X.w) X.A (eval (.Lambda d.params d.body d.scope pos) X.env) Q E s := by
  obtain ⟨tb, t1, t2, t3⟩ := hT (P0, d.qual) hm
  have onP : s.heap.get? P0 = some { cls := .none, data := .fields tb } := I.hok P0 _ t1
  have glo := I.mod.glob.keeps I.bk
  have cod := TB.code.keeps I.bk
  have bld := TB.bm.keeps I.bk
  refine PySem.W.kla_eval hdef ?_
  rw [← hq]
  rcases hf : codeAmong pos tb.toList with _ | cv
  · refine PySem.W.kla_makeFunction (mg := X.mg) (c := c0) (P := P0) (ps := tb) (closure_ok hfree) I.ok.glob glo hcode cod onP t2 hf TB.gP bld fun c ctv h1 tk xt lo hi rec nt => ?_
    obtain ⟨c2, oc, fs, t, ec, r1, r2, r3⟩ := rec
    cases ec
    have freeC : H c = none := I.hok.fresh lo
    have hi' : s.heap.objs.size ≤ h1.objs.size := Nat.le_trans lo (Nat.le_of_lt hi)
    have J := LamX.inv_table (t' := tk) (more := #[rawInt pos.line, rawInt pos.col, .ref c]) I t1 (fun b o n q => xt b o n q) nt lo ⟨oc, fs, t, r1, r2, r3⟩
    have freeF : upd (upd H P0 (.tbl (tb ++ #[rawInt pos.line, rawInt pos.col, .ref c]))) c (LamX.CodeO c d.qual) h1.objs.size = none := J.hok.fresh (Nat.le_refl _)
    have J2 := inv_lam (d := d) (cl := cloFrom X.env.cells d.scope.names []) (pm := (X.mg "__name__").getD .none) (c := c) (ctv := ctv) (t' := tk) J
    have kp : ∀ b o, H b = some o → (∀ ps, o ≠ .tbl ps) → upd (upd H P0 (.tbl (tb ++ #[rawInt pos.line, rawInt pos.col, .ref c]))) c (LamX.CodeO c d.qual) b = some o := fun b o q n => by
      have n2 : b ≠ P0 := by rintro rfl; rw [t1] at q; cases q; exact n tb rfl
      rw [upd_ne (ne_of_none q freeC), upd_ne n2]; exact q
    have kp2 : ∀ b o, upd (upd H P0 (.tbl (tb ++ #[rawInt pos.line, rawInt pos.col, .ref c]))) c (LamX.CodeO c d.qual) b = some o → upd (upd (upd H P0 (.tbl (tb ++ #[rawInt pos.line, rawInt pos.col, .ref c]))) c (LamX.CodeO c d.qual)) h1.objs.size (.frz (d.obj (cloFrom X.env.cells d.scope.names []) ((X.mg "__name__").getD .none) c ctv) (.own h1.objs.size)) b = some o := fun b o q => by
      rw [upd_ne (ne_of_none q freeF)]; exact q
    refine h h1.objs.size _ _ J2 ⟨fun b o q n => kp2 b o (kp b o q n), fun b q => upd_none' (upd_none' (upd_none' q)), upd_none' (upd_none' freeF), _, c, ctv, upd_same, kp2 _ _ upd_same, .inl freeC⟩ fun p hp => ?_
    have eL : (tb ++ #[rawInt pos.line, rawInt pos.col, .ref c]).toList = tb.toList ++ [rawInt pos.line, rawInt pos.col, .ref c] := by simp
    by_cases hb : p.1 = P0
    · rw [hu p hp hb, hb]
      refine ⟨_, kp2 _ _ (by rw [upd_ne (ne_of_none t1 freeC), upd_same]), by rw [eL]; exact PySem.TriplesOk_snoc _ _ _ _ t2, fun p' cv hcv => ?_⟩
      rw [eL] at hcv
      rcases LamX.among_app _ t2 hcv with z | z
      · obtain ⟨c9, e1, e2⟩ := t3 p' cv z
        exact ⟨c9, e1, kp2 _ _ (kp _ _ e2 LamX.codeO_ne)⟩
      · exact ⟨c, z, kp2 _ _ upd_same⟩
    · obtain ⟨ps', a1, a2, a3⟩ := hT p hp
      refine ⟨ps', kp2 _ _ (by rw [upd_ne (ne_of_none a1 freeC), upd_ne hb]; exact a1), a2, fun p' cv hcv => ?_⟩
      obtain ⟨c9, e1, e2⟩ := a3 p' cv hcv
      exact ⟨c9, e1, kp2 _ _ (kp _ _ e2 LamX.codeO_ne)⟩
  · obtain ⟨c, ec, hc⟩ := t3 pos cv hf
    subst ec
    refine PySem.W.kla_makeFunctionHit (mg := X.mg) (c := c0) (P := P0) (ps := tb) (closure_ok hfree) I.ok.glob glo hcode cod onP t2 hf bld fun ctv h1 tk xt lo => ?_
    have J : Inv X pins σ H { s with heap := h1, toks := tk } := I.kept xt
    have freeF : H h1.objs.size = none := J.hok.fresh (Nat.le_refl _)
    have J2 := inv_lam (d := d) (cl := cloFrom X.env.cells d.scope.names []) (pm := (X.mg "__name__").getD .none) (c := c) (ctv := ctv) (t' := tk) J
    have kp : ∀ b o, H b = some o → upd H h1.objs.size (.frz (d.obj (cloFrom X.env.cells d.scope.names []) ((X.mg "__name__").getD .none) c ctv) (.own h1.objs.size)) b = some o := fun b o q => by
      rw [upd_ne (ne_of_none q freeF)]; exact q
    exact h h1.objs.size _ _ J2 ⟨fun b o q _ => kp b o q, fun b q => upd_none' q, freeF, _, c, ctv, upd_same, kp _ _ hc, .inr hc⟩ (hT.ext kp)
end

/-! ### arguments with a lambda among them -/
/-- the lambda at f, and the arguments around it -/
def RL (K : PySem.W.Frag) (H0 : Hp) (d : LamD) (cl : List (Str × Addr)) (j : Pl) (H : Hp) (xy : List D × List D) (vs : List V) : Prop :=
  ∃ v1 f v2, vs = v1 ++ .ref f :: v2 ∧ RVs K j H xy.1 v1 ∧ RVs K j H xy.2 v2 ∧ H0 f = none ∧ j.no f ∧ ∃ pm c ctv, H f = some (.frz (d.obj cl pm c ctv) (.own f)) ∧ H c = some (LamX.CodeO c d.qual) ∧ j.no c
abbrev LF2 := Env → Sto → Out (List D × List D)
/-- the arguments es tell f, a lambda d among them -/
def EAL (X : Cx) (W : WX) (d : LamD) (es : List Expr) (f : LF2) : Prop :=
  PA X es fun σ H Q => ∃ j ρ S, SR X.K j H S ∧ ER X.K j H ρ σ ∧ OKg X.K j H W σ (RL X.K H d (cloFrom X.env.cells d.scope.names [])) Q (f ρ S)
def lCons (f0 : EF) (f : LF2) : LF2 := fun ρ S => (f0 ρ S).bind fun x S1 => (f ρ S1).bind fun p S2 => .ok (x :: p.1, p.2) S2
def lLam (f : AF) : LF2 := fun ρ S => (f ρ S).bind fun ys S1 => .ok ([], ys) S1
section
variable {X : Cx} {W : WX} {d : LamD} {e : Expr} {es : List Expr} {f0 : EF} {f : LF2} {fa : AF} {pos : Pos}
theorem made_ext {K : PySem.W.Frag} {j : Pl} {H H1 : Hp} {S : Sto} {cl : List (Str × Addr)} {a : Addr} (m : Made H d cl a H1) (s : SR K j H S) (t : LamX.Tabs Tb.t H1) : Ext j H j H1 ∧ SR K j H1 S := by
  have e : Ext j H j H1 := .mk' ⟨[], by simp⟩ rfl (fun b o h _ z => m.keep b o h z) (fun _ h h' => absurd h' h) fun b o h => by
    cases q : H1 b with
    | some u => exact ⟨u, rfl⟩
    | none => rw [m.none' b q] at h; cases h
  refine ⟨e, s.len, s.nd, fun i o b h h' => ?_, fun b h => let ⟨o, q, n⟩ := s.bb b h; ⟨o, m.keep b o q n.2, n⟩, s.lb, t⟩
  have r := s.objs i o b h h'
  obtain ⟨u, hu, nc⟩ := r.some'
  exact r.keep e.toMon fun u' h' => m.keep b u' h' (by rw [hu] at h'; cases h'; exact nc.2)
theorem eal_lam {c0 P0 : Addr} (TB : LamX.TabB X.base X.mg c0 P0) (hcode : X.env.code = .ref c0) (hq : d.qual = X.env.qual ++ "<lambda>") (hm : (P0, d.qual) ∈ Tb.t) (hu : ∀ p ∈ Tb.t, p.1 = P0 → p.2 = d.qual)
    (hdef : defaultsOf d.params X.env = ([], [])) (hfr : X.Ok → ∀ y ∈ d.scope.names, y.2 = .free → ∃ c, X.env.cells.lookup y.1 = some c) (hr : EA X W es fa)
    (hs : starEach (.Lambda d.params d.body d.scope pos :: es) X.env = (false, eval (.Lambda d.params d.body d.scope pos) X.env) :: starEach es X.env := by rfl) : EAL X W d (.Lambda d.params d.body d.scope pos :: es) (lLam fa) := by
  have pe : PE X (.Lambda d.params d.body d.scope pos) fun σ H Q => LamX.Tabs Tb.t H ∧ ∀ f H1, Made H d (cloFrom X.env.cells d.scope.names []) f H1 → LamX.Tabs Tb.t H1 → Q (.ref f) H1 := ⟨fun pins s σ H Q I ⟨t, h⟩ =>
    lam_mk I TB hcode hq hm hu t hdef (hfr I.ok) fun f H1 s' J m t' => ⟨.ref f, H1, J, rfl, h f H1 m t'⟩⟩
  refine pa_imp (pa_cons pe hr hs) fun σ H Q ⟨j, ρ, S, s, r, q⟩ => ?_
  refine ⟨s.tabs, fun f H1 m t => ?_⟩
  obtain ⟨e1, s1⟩ := made_ext m s t
  obtain ⟨pm, c, ctv, h1, h2, h3⟩ := m.fn
  refine ⟨j, ρ, S, s1, r.mono e1, OKg.bind (OKg.ext q e1) fun j2 H2 ys vs S2 e2 s2 r2 q2 => ?_⟩
  have nf : j.no f := s.free m.new
  have nc : j.no c := by
    rcases h3 with z | z
    · exact s.free z
    · refine ⟨fun y => ?_, fun y => ?_⟩
      · obtain ⟨u, h4, h5⟩ := s.mem y
        rw [z] at h4; cases h4
        exact h5.1 _ rfl
      · obtain ⟨u, h4, h5⟩ := s.bb c y
        rw [z] at h4; cases h4
        exact h5.1 _ rfl
  refine q2 j2 H2 (.ref f :: vs) (.refl _ _) s2 ⟨[], f, vs, rfl, .nil, r2, m.new, e2.nin nf h1, pm, c, ctv, e2.keep _ _ h1 (.inl nf) (fun _ z => nomatch z), e2.keep _ _ h2 (.inl nc) (fun _ z => LamX.codeO_ne _ z), e2.nin nc h2⟩
end
end DL

set_option Elab.async false
set_option linter.all false
set_option maxRecDepth 100000
set_option maxHeartbeats 2000000
namespace DL
open PySem PySem.Spec PyProof.Rows L2
variable [Tb]

/-! ### what a lambda is worth -/
abbrev LF := List D → List D → Sto → Out D
def spL (K : PySem.W.Frag) (n : Nat) (m : LF) (wvs : List V) : Sp := fun vs H Q E => ∃ j S ds wds, SR K j H S ∧ RVs K j H ds vs ∧ RVs K j H wds wvs ∧ ds.length = n ∧ OK K j H (fun cls d _ H' => E cls d H') [] Q (m wds ds S)
/-- the lambda d does what m says of what it captured and of its arguments -/
structure LOk (P : Program) (w : World) (K : PySem.W.Frag) (mg : Str → Option Value) (base : Heap) (k : Nat) (d : LamD) (m : LF) : Prop where
  run : ∀ (A : Around) (outer : List PySem.Env) (s : Shared) (H : Hp) (f c : Addr) (pm ctv : Value) (cl : List (Str × Addr)) (us : List Value) (vs wvs : List V) (Q : VK) (E : XK), Room k A → A.guards = some [] → Env0 P w K mg base A outer s H →
    s.heap.get? f = some (d.obj cl pm c ctv) → s.heap.CodeRec (.ref c) d.qual → NdefX.CellsAt cl d.fr (wvs.map some) s.heap H → Vals vs us → spL K d.ps.length m wvs vs H Q E →
    codeAny (model P w) A (.call (.ref f) ⟨us, []⟩) (CR (L2N.CX P w) outer P w H s Q E) s
theorem LOk.mono {P : Program} {w : World} {K : PySem.W.Frag} {mg : Str → Option Value} {base : Heap} {i k : Nat} {d : LamD} {m : LF} (F : LOk P w K mg base i d m) (h : i ≤ k) : LOk P w K mg base k d m :=
  ⟨fun A outer s H f c pm ctv cl us vs wvs Q E hr => F.run A outer s H f c pm ctv cl us vs wvs Q E (hr.mono h)⟩
/-- the lambda as a def without a body of statements -/
abbrev LamD.nf (d : LamD) (cl : List (Str × Addr)) (c : Addr) : NdefX.NF := ⟨"<lambda>", d.qual, d.params, [], d.scope, cl, c⟩
noncomputable def mLam (n : Nat) (g : EF) : LF := fun ws ds S => match g (ds.map some ++ (ws.map some ++ List.replicate (n - ds.length - ws.length) none)) S with
  | .ok d S' => cut S d S'
  | .exc C w S' => cutX S C w S'
  | .no => .no
theorem ER.startF {K : PySem.W.Frag} {j : Pl} {H : Hp} {ds ws : List D} {vs wvs : List V} (r : RVs K j H ds vs) (q : RVs K j H ws wvs) (N : List Str) : ER K j H (ds.map some ++ (ws.map some ++ List.replicate (N.length - ds.length - ws.length) none)) (NdefX.startF N vs (wvs.map some)) := by
  have e1 := r.length
  have e2 := q.length
  refine ⟨by unfold NdefX.startF; simp [e1, e2], fun i d h => ?_⟩
  unfold NdefX.startF
  by_cases hi : i < ds.length
  · rw [List.getElem?_append_left (by simpa using hi), List.getElem?_map] at h
    rw [List.getElem?_append_left (by simpa [← e1] using hi), List.getElem?_map]
    cases e : ds[i]? with
    | none => rw [e] at h; cases h
    | some d' =>
      rw [e] at h; cases h
      obtain ⟨v, hv, rv⟩ := r.get e
      exact ⟨v, by rw [hv]; rfl, rv⟩
  · rw [List.getElem?_append_right (by simpa using hi), List.length_map] at h
    have e3 : (vs.map some).length = ds.length := by simp [e1]
    rw [List.getElem?_append_right (by rw [e3]; omega), e3]
    by_cases hk : i - ds.length < ws.length
    · rw [List.getElem?_append_left (by simpa using hk), List.getElem?_map] at h
      rw [List.getElem?_append_left (by rw [List.length_map, ← e2]; exact hk), List.getElem?_map]
      cases e : ws[i - ds.length]? with
      | none => rw [e] at h; cases h
      | some d' =>
        rw [e] at h; cases h
        obtain ⟨v, hv, rv⟩ := q.get e
        exact ⟨v, by rw [hv]; rfl, rv⟩
    · rw [List.getElem?_append_right (by simpa using hk), List.getElem?_replicate] at h
      split at h <;> cases h
section
variable {P : Program} {w : World} {K : PySem.W.Frag} {mg : Str → Option Value} {base : Heap}
theorem lok_of {d : LamD} {N : List Str} {k : Nat} {g : EF} (S : NdefX.NScope N d.ps d.fr d.scope)
    (hb : ∀ (cl : List (Str × Addr)) (pm cdv ctv : Value) (us : List Value), us.length = d.ps.length → bindArgs (PySem.W.kla_fn "<lambda>" d.qual d.params d.body d.scope cl pm cdv ctv) ⟨us, []⟩ = pure (d.ps.zip us))
    (body : ∀ (cl : List (Str × Addr)) (c f : Addr) (A : Around) (outer : List PySem.Env) (s : Shared) (H : Hp) (E : XK), At (NdefX.ncx (L2N.CX P w) P w K mg base N (d.nf cl c) f A outer s H E) k →
      EV (NdefX.ncx (L2N.CX P w) P w K mg base N (d.nf cl c) f A outer s H E) (fun cls d _ H' => E cls d H') d.body g) : LOk P w K mg base (k + 1) d (mLam N.length g) := by
  refine ⟨fun A outer s H f c pm ctv cl us vs wvs Q E hr hg e0 ho hc C r ⟨j, S0, ds, wds, hs, hv, hw, hl, q⟩ => ?_⟩
  have lv : vs.length = d.ps.length := hv.length.symm.trans hl
  have lim : s.heap.NoLimit := e0.mod.nolimit.keeps fun b o e => (e0.bs b o e).1
  refine PySem.W.kla_callFunE hr.depth ho rfl S.co S.gen rfl hc ?_
  rw [hb cl pm (.ref c) ctv us (r.length.symm.trans lv)]
  refine wpAny_pure (wpAny_newFunctionEnv S.nocell (fun ⟨n, _⟩ hy => S.par n (List.of_mem_zip hy).1) (fun h1 hns hsb => ⟨lim.fresh _ hsb, ?_⟩) S.kind)
  show codeAny _ _ (.expr d.body (NdefX.envF (d.nf cl c) f s.heap.objs.size)) _ _
  have kp : ∀ b o, s.heap.get? b = some o → h1.get? b = some o := fun b o e => hsb.extBut b o (Nat.ne_of_lt (Heap.lt_size e)) (Heap.get?_push_of_some _ e)
  have I := NdefX.inv_startN (CX := L2N.CX P w) (P := P) (w := w) (K := K) (mg := mg) (base := base) (F := d.nf cl c) (f := f) (A := A) (E := E) (tk := s.toks + (d.ps.zip us).length) S hr.hd e0 lv r C hns kp
  have ht := body cl c f A outer s H E ⟨hr.deeper _, hg⟩
  refine PySem.W.kla_codeExpr (wpAny_mono (ht.run [] _ _ H Q I ⟨j, _, S0, hs, ER.startF hv hw N, ?_⟩) (fun v s' ⟨w', H', J, rv, q⟩ => ?_) fun e s' hq => hq)
  · unfold mLam at q
    cases e : g (ds.map some ++ (wds.map some ++ List.replicate (N.length - ds.length - wds.length) none)) S0 with
    | ok d' S' => rw [e] at q; exact cut_ok hs q
    | exc C' w' S' => rw [e] at q; exact fun j' H' cls dd e' s' x => cutX_ok hs q j' H' cls dd e' s' x
    | no => rw [e] at q; exact q.elim
  · exact ⟨w', H', J.os, J.bare, J.base, J.hok, rv, q⟩
end

/-! ### a lambda that was handed in is called -/
abbrev LT := LamD → LF
open Classical in
noncomputable def lamOf (d0 : LamD) (m0 : LF) : LT := fun d ws xs S => if d = d0 then m0 ws xs S else .no
@[simp] theorem lamOf_self (d0 : LamD) (m0 : LF) (ws xs : List D) (S : Sto) : lamOf d0 m0 d0 ws xs S = m0 ws xs S := if_pos rfl
def LTOk (P : Program) (w : World) (K : PySem.W.Frag) (mg : Str → Option Value) (base : Heap) (k : Nat) (L : LT) : Prop := ∀ d, LOk P w K mg base k d (L d)
theorem LTOk.of {P : Program} {w : World} {K : PySem.W.Frag} {mg : Str → Option Value} {base : Heap} {k : Nat} {d : LamD} {m : LF} (h : LOk P w K mg base k d m) : LTOk P w K mg base k (lamOf d m) := fun d' => by
  by_cases e : d' = d
  · subst e
    have : lamOf d' m d' = m := by funext ws xs S; exact lamOf_self _ _ _ _ _
    rw [this]; exact h
  · refine ⟨fun A outer s H f c pm ctv cl us vs wvs Q E hr hg e0 ho hc C r ⟨j, S0, ds, wds, hs, hv, hw, hl, q⟩ => ?_⟩
    rw [show lamOf d m d' wds ds S0 = .no from if_neg e] at q
    exact q.elim
theorem LTOk.mono {P : Program} {w : World} {K : PySem.W.Frag} {mg : Str → Option Value} {base : Heap} {i k : Nat} {L : LT} (F : LTOk P w K mg base i L) (h : i ≤ k) : LTOk P w K mg base k L := fun d => (F d).mono h
/-- closures again where they were -/
def backO : Option MO → MO → MO
  | some (.clo d ws), .dead => .clo d ws
  | _, o' => o'
def backS (S0 S : Sto) : Sto := S.mapIdx fun i o' => backO S0[i]? o'
theorem backO_cases (a : Option MO) (o : MO) : backO a o = o ∨ ∃ d ws, a = some (.clo d ws) ∧ backO a o = .clo d ws := by
  unfold backO
  split
  · exact .inr ⟨_, _, rfl, rfl⟩
  · exact .inl rfl
def eClo (i : Nat) (L : LT) (fa : AF) : EF := fun ρ S => match ρ[i]? with
  | some (some (.ref n)) => match S[n]? with
    | some (.clo _ _) => (fa ρ S).bind fun xs S1 => match S1[n]? with
      | some (.clo d ws) => if xs.length = d.ps.length then match L d ws xs (killS S1) with
        | .ok v S' => .ok v (backS S1 S')
        | .exc C w S' => .exc C w (backS S1 S')
        | .no => .no
        else .no
      | _ => .no
    | _ => .no
  | _ => .no
section
variable {K : PySem.W.Frag} {j j' : Pl} {H H' H2 : Hp} {S S0 : Sto} {cs : List Addr}
theorem sub_cut (c : Held H cs) : Sub j H j (cutH H cs) := ⟨⟨[], by simp⟩, fun b o h n => by rw [cutH_out (c.out h n)]; exact h, fun _ _ _ _ z => z⟩
theorem SR.kill (s : SR K j H S) : SR K j H (killS S) := by
  refine ⟨by rw [s.len]; exact (List.length_map ..).symm, s.nd, fun i o a h h' => ?_, s.bb, s.lb, s.tabs⟩
  unfold killS at h
  rw [List.getElem?_map] at h
  cases e : S[i]? with
  | none => rw [e] at h; cases h
  | some o' =>
    rw [e] at h; cases h
    exact (s.objs i o' a e h').killed
theorem tabs_of {T : List (Addr × Str)} (t : LamX.Tabs T H) (k : ∀ b o, H b = some o → NotOwn o → H' b = some o) : LamX.Tabs T H' := fun p hp => by
  obtain ⟨ps, h1, h2, h3⟩ := t p hp
  refine ⟨ps, k _ _ h1 (fun _ _ z => nomatch z), h2, fun pos cv hc => ?_⟩
  obtain ⟨c, e1, e2⟩ := h3 pos cv hc
  exact ⟨c, e1, k _ _ e2 fun q c' z => by unfold LamX.CodeO at z; cases z⟩
/-- the store where no closure is, over the heap without the cells -/
theorem SR.cutS (s : SR K j H S) (c : Held H cs) (n : ∀ b ∈ cs, j.no b) : SR K j (cutH H cs) (killS S) := by
  have sk := s.kill
  refine ⟨sk.len, sk.nd, fun i o a h h' => ?_, fun a h => ?_, s.lb, tabs_of s.tabs (sub_cut (j := j) c).keep⟩
  · have hc : o.clo? = false := by
      unfold killS at h
      rw [List.getElem?_map] at h
      cases e : S[i]? with
      | none => rw [e] at h; cases h
      | some o' => rw [e] at h; cases h; exact kill_clo o'
    have na : a ∉ cs := fun z => (n a z).1 (List.mem_of_getElem? h')
    have r := sk.objs i o a h h'
    obtain ⟨u, hu, nc⟩ := r.some'
    exact r.sub (sub_cut c) hc fun u' h'' => ⟨u, by rw [cutH_out na]; exact hu, nc⟩
  · obtain ⟨o, e, z⟩ := s.bb a h
    exact ⟨o, by rw [cutH_out fun z => (n a z).2 h]; exact e, z⟩
end
end DL

set_option Elab.async false
set_option linter.all false
set_option maxRecDepth 100000
set_option maxHeartbeats 2000000
namespace DL
open PySem PySem.Spec PyProof.Rows L2
variable [Tb]

/-! ### calls of what was handed in -/
def cellsOf (cl : List (Str × Addr)) : List Addr := (cl.map (·.1)).filterMap fun y => cl.lookup y
theorem mem_cellsOf {cl : List (Str × Addr)} {b : Addr} : b ∈ cellsOf cl ↔ ∃ y, cl.lookup y = some b := by
  unfold cellsOf
  rw [List.mem_filterMap]
  refine ⟨fun ⟨y, _, e⟩ => ⟨y, e⟩, fun ⟨y, e⟩ => ⟨y, List.mem_map.mpr ⟨(y, b), PySem.mem_of_lookup e, rfl⟩, e⟩⟩
theorem CellsF.held {j : Pl} {H : Hp} {cl : List (Str × Addr)} {fr : List Str} {vs : List V} (x : CellsF j H cl fr vs) : Held H (cellsOf cl) := fun b hb => by
  obtain ⟨y, e⟩ := mem_cellsOf.mp hb
  obtain ⟨_, o, v, _, h⟩ := x.all y b e
  exact ⟨o, h⟩
theorem CellsF.no {j : Pl} {H : Hp} {cl : List (Str × Addr)} {fr : List Str} {vs : List V} (x : CellsF j H cl fr vs) : ∀ b ∈ cellsOf cl, j.no b := fun b hb => by
  obtain ⟨y, e⟩ := mem_cellsOf.mp hb
  exact (x.all y b e).1
theorem CellsF.at' {P : Program} {w : World} {h : Heap} {j : Pl} {H : Hp} {cl : List (Str × Addr)} {fr : List Str} {vs : List V} (x : CellsF j H cl fr vs) (ok : HOk P w H h) : NdefX.CellsAt cl fr (vs.map some) h (cutH H (cellsOf cl)) := by
  refine ⟨by rw [List.length_map]; exact x.len, fun y c e => ⟨cutH_in (mem_cellsOf.mpr ⟨y, e⟩), ?_⟩, x.inj, fun i y e => ?_⟩
  · obtain ⟨_, o, v, hd, hc⟩ := x.all y c e
    exact ⟨v, o, (ok c _ hc).1, hd⟩
  · obtain ⟨c, o, u, v, hl, hc, hd, hv, r⟩ := x.has i y e
    refine ⟨c, hl, fun v' e' => ⟨u, ?_, o, (ok c _ hc).1, hd⟩⟩
    rw [List.getElem?_map, hv] at e'
    cases e'
    exact r
section
variable {K : PySem.W.Frag} {j j' : Pl} {H H' H2 : Hp} {S S0 S' : Sto} {cs : List Addr}
theorem ext_add (e : Ext j (cutH H2 cs) j' H') (nn : ∀ a ∈ cs, H' a = none) (s : SR K j' H' S') : Ext j H2 j' (addH H' H2 cs) := by
  refine .mk' e.pre e.same (fun b o h n z => ?_) (fun b h h' => ?_) fun b o h => ?_
  · by_cases hb : b ∈ cs
    · rw [addH_in hb]; exact h
    · rw [addH_out hb]; exact e.keep' b o (by rw [cutH_out hb]; exact h) n z
  · have nb : b ∉ cs := fun z => by
      obtain ⟨u, q, _⟩ := s.mem h'
      rw [nn b z] at q; cases q
    have := e.outB b h h'
    rwa [cutH_out nb] at this
  · by_cases hb : b ∈ cs
    · exact ⟨o, by rw [addH_in hb]; exact h⟩
    · rw [addH_out hb]; exact e.there b o (by rw [cutH_out hb]; exact h)
theorem mon_add (nn : ∀ a ∈ cs, H' a = none) : Mon j' H' j' (addH H' H2 cs) :=
  ⟨⟨[], by simp⟩, fun b o h _ _ => by
    rw [addH_out fun z => by rw [nn b z] at h; cases h]; exact h, fun b h h' => absurd h' h.1, fun _ h => .inl h⟩
theorem SR.backS (s0 : SR K j H2 S0) (e : Ext j (cutH H2 cs) j' H') (nn : ∀ a ∈ cs, H' a = none) (s : SR K j' H' S') : SR K j' (addH H' H2 cs) (backS S0 S') := by
  have ex := ext_add e nn s
  have kp : ∀ b u, H' b = some u → addH H' H2 cs b = some u := fun b u h => by
    rw [addH_out fun z => by rw [nn b z] at h; cases h]; exact h
  refine ⟨by rw [s.len]; exact (List.length_mapIdx ..).symm, s.nd, fun i o a h h' => ?_, fun a h => let ⟨o, q, n⟩ := s.bb a h; ⟨o, kp a o q, n⟩, s.lb, s.tabs.ext kp⟩
  unfold DL.backS at h
  rw [List.getElem?_mapIdx] at h
  cases q : S'[i]? with
  | none => rw [q] at h; cases h
  | some o' =>
    rw [q] at h
    have r := s.objs i o' a q h'
    have h : backO S0[i]? o' = o := Option.some.inj h
    rcases backO_cases S0[i]? o' with z | ⟨d, ws, e0, z⟩
    · rw [z] at h
      subst h
      exact r.keep (mon_add nn) (kp a)
    · rw [z] at h
      subst h
      have hi : i < j.l.length := by rw [s0.len]; exact (List.getElem?_eq_some_iff.mp e0).1
      have ha : j.l[i]? = some a := e.beg.get h' hi
      have r0 := s0.objs i _ a e0 ha
      refine r0.keep ex.toMon fun u hu => ?_
      obtain ⟨cl, pm, c, ctv, vs, h1, _⟩ := r0
      rw [hu] at h1; cases h1
      exact ex.keep' a _ hu (.inr trivial) (fun _ z => nomatch z)
end
section
variable {X : Cx} {k i kL : Nat} {W : WX} {x : Str} {p pos : Pos} {e : Expr} {es : List Expr} {fa : AF} {L : LT}
/-- what a call of a closure asks, the arguments told -/
def tClo (X : Cx) (W : WX) (L : LT) (n : Nat) (a : Addr) (xs : List D) (S1 : Sto) (σ : L2.St) (j : Pl) (H : Hp) (vs : List V) (Q : VK) : Prop :=
  SR X.K j H S1 ∧ j.l[n]? = some a ∧ RVs X.K j H xs vs ∧ OK X.K j H W σ Q (match S1[n]? with
      | some (.clo d ws) => if xs.length = d.ps.length then match L d ws xs (killS S1) with
        | .ok v S' => .ok v (backS S1 S')
        | .exc C w S' => .exc C w (backS S1 S')
        | .no => .no
        else .no
      | _ => .no)
theorem run_clo {pins : List (Addr × Obj)} {σ : L2.St} {H : Hp} {s : Shared} {n : Nat} {a : Addr} {xs : List D} {S1 : Sto} {j : Pl} {us : List Value} {vs : List V} {Q : VK} (hL : LTOk X.prog X.w X.K X.mg X.base kL L) (at' : At X k) (hk : kL ≤ k) (tk : L2N.Takes X W)
    (I : Inv X pins σ H s) (r : Vals vs us) (h : tClo X W L n a xs S1 σ j H vs Q) : PySem.W.FnAt a s.heap ∧ wpAny (model X.prog X.w) X.A (call (.ref a) us) (EP X pins σ Q) X.xe s := by
  obtain ⟨sr, hn, rx, q⟩ := h
  split at q
  · rename_i d ws hS
    split at q
    · rename_i hl
      obtain ⟨cl, pm, c, ctv, wvs, h1, h3, nc, hw, cf⟩ := sr.objs n _ a hS hn
      have ob := (I.hok a _ h1).1
      refine ⟨⟨_, _, _, _, ob⟩, ?_⟩
      have hc : Held H (cellsOf cl) := cf.held
      have nf : ∀ b ∈ cellsOf cl, b ∉ frs X.stack := fun b hb z => by
        obtain ⟨o, e⟩ := hc b hb
        rw [I.stkFree b z] at e; cases e
      have e0 : Env0 X.prog X.w X.K X.mg X.base X.A X.stack s (cutH H (cellsOf cl)) := by
        have e := I.env0
        refine ⟨e.frames, e.mod, fun b o q => ⟨(e.bs b o q).1, ?_⟩, e.bsz, e.funs, fun b hb => ?_, HOk.cutC e.hok hc, e.bare⟩
        · rw [cutH_out (hc.out' (e.bs b o q).2)]; exact (e.bs b o q).2
        · rw [cutH_out fun z => nf b z hb]; exact e.frf b hb
      have rc := (hL d).run X.A X.stack s (cutH H (cellsOf cl)) a c pm ctv cl us vs wvs (fun v H' => (∀ b ∈ cellsOf cl, H' b = none) → Q v (addH H' H (cellsOf cl))) (fun cls dd H' => (∀ b ∈ cellsOf cl, H' b = none) → W cls dd σ (addH H' H (cellsOf cl)))
        (at'.room.mono hk) at'.gd e0 ob (NdefX.codeO_at I.hok h3) (cf.at' I.hok) r ⟨j, killS S1, xs, ws, sr.cutS hc cf.no, rx.sub (sub_cut hc), hw.sub (sub_cut hc), hl, by
          cases hm : L d ws xs (killS S1) with
          | ok v S' =>
            rw [hm] at q
            exact fun j' H' u e s' rv nn => q j' _ u (ext_add e nn s') (sr.backS e nn s') (rv.mon (mon_add nn))
          | exc C w' S' =>
            rw [hm] at q
            exact fun j' H' cls dd e s' ⟨hcl, hU, d', v', z1, z2, z3, z4⟩ nn => q j' _ cls dd (ext_add e nn s') (sr.backS e nn s') ⟨hcl, hU, d', v', z1, z2, (mon_add (j' := j') nn).keep _ _ z3 (.inl z2) (fun _ z => nomatch z), z4.mon (mon_add nn)⟩
          | no => rw [hm] at q; exact q⟩
      refine wpAny_call (codeAny_mono rc fun r s' hq => ?_)
      cases r with
      | error e' =>
        obtain ⟨a', B, H', cls, dd, eu, fl, hB, ub, na, os, bare, we⟩ := hq
        obtain ⟨ub', nn, gg⟩ := ub_add ub I.hok hc nf
        have na' : addH H' H (cellsOf cl) a' = none := by
          rw [addH_out fun z => ?_]
          · exact na
          · obtain ⟨o, e⟩ := hc a' z
            have := gg a' z o e
            rw [fl.2.1] at this; cases this
        exact L2N.passAt tk σ pins H s e' s' I ⟨a', B, addH H' H (cellsOf cl), cls, dd, eu, fl, HOk.addC hB hc nn gg, ub', na', os, bare, we nn⟩
      | ok fl =>
        cases fl with
        | ret u =>
          obtain ⟨v, H', os, bare, un, hok, rv, q'⟩ := hq
          obtain ⟨un', nn, gg⟩ := un_add un I.hok hc nf
          exact I.after ⟨v, addH H' H (cellsOf cl), os, bare, un', HOk.addC hok hc nn gg, rv, q' nn⟩
        | next => exact hq
        | brk => exact hq
        | cont => exact hq
    · exact q.elim
  · exact q.elim
theorem ev_clo0 (hL : LTOk X.prog X.w X.K X.mg X.base kL L) (at' : At X k) (hk : kL ≤ k) (tk : L2N.Takes X W) (hp : PE X (.Name x p) (tVar i)) : EV X W (.Call (.Name x p) [] [] pos) (eClo i L aNil) := by
  refine ⟨fun pins s σ H Q I ⟨j, ρ, S, hs, hr, q⟩ => ?_⟩
  unfold eClo at q
  split at q
  · rename_i n hρ
    split at q
    · rename_i d0 ws0 hS
      obtain ⟨v, hσ, rv⟩ := hr.at' i _ hρ
      cases rv with
      | ref hn =>
        rename_i a
        refine wpAny_Call_Name_kw (thn (hp.run pins s σ H (fun v H1 => v = .ref a ∧ H1 = H) I ⟨.ref a, hσ, rfl, rfl⟩) fun u s1 ⟨v, H1, I1, r1, q1⟩ => ?_)
        obtain ⟨ev, eH⟩ := q1
        subst ev; subst eH
        obtain rfl : u = Value.ref a := r1
        obtain ⟨h1, h2⟩ := run_clo (us := []) (vs := []) (xs := []) hL at' hk tk I1 .nil ⟨hs, hn, .nil, q⟩
        exact PySem.W.callWith_F0 (first := []) h1 h2
    · exact q.elim
  · exact q.elim
end
end DL

set_option Elab.async false
set_option linter.all false
set_option maxRecDepth 100000
set_option maxHeartbeats 2000000
namespace DL
open PySem PySem.Spec PyProof.Rows L2
variable [Tb]

/-! ### f(.., lambda ..: ..) -/
def wsOf (ρ : Env) : List Nat → Option (List D)
  | [] => some []
  | i :: is => match ρ[i]?, wsOf ρ is with
    | some (some d), some ds => some (d :: ds)
    | _, _ => none
theorem wsOf_ok {K : PySem.W.Frag} {j : Pl} {H : Hp} {ρ : Env} {σ : L2.St} (r : ER K j H ρ σ) : ∀ {js : List Nat} {ws : List D}, wsOf ρ js = some ws → ∃ vs, js.map (NdefX.slotAt σ) = vs.map some ∧ RVs K j H ws vs
  | [], ws, h => by cases h; exact ⟨[], rfl, .nil⟩
  | i :: is, ws, h => by
    unfold wsOf at h
    split at h
    · rename_i d ds h1 h2
      cases h
      obtain ⟨v, e1, r1⟩ := r.at' i d h1
      obtain ⟨vs, e2, r2⟩ := wsOf_ok r h2
      exact ⟨v :: vs, by rw [List.map_cons, List.map_cons, e2, NdefX.slotAt_of e1], .cons r1 r2⟩
    · cases h
open Classical in
noncomputable def cutL (S0 : Sto) : Out D → Out D
  | .ok v S' => if Drop S0 S' then match frzD S' S0.length v with
    | some d' => .ok d' (killS (S'.take S0.length))
    | none => .no
    else .no
  | .exc C w S' => if Drop S0 S' ∧ w.closed S0.length = true then .exc C w (killS (S'.take S0.length)) else .no
  | .no => .no
open Classical in
theorem cutL_ok {S0 S' : Sto} {v : D} : cutL S0 (.ok v S') = if Drop S0 S' then match frzD S' S0.length v with
    | some d' => .ok d' (killS (S'.take S0.length))
    | none => .no
    else .no := rfl
open Classical in
theorem cutL_exc {S0 S' : Sto} {C : Addr} {w : D} : cutL S0 (.exc C w S') = if Drop S0 S' ∧ w.closed S0.length = true then .exc C w (killS (S'.take S0.length)) else .no := rfl
noncomputable def eFnL (n : Nat) (m : MF) (d : LamD) (js : List Nat) (f : LF2) : EF := fun ρ S => (f ρ S).bind fun p S2 => match wsOf ρ js with
  | some ws => if (p.1 ++ .ref S2.length :: p.2).length = n then cutL S2 (m (p.1 ++ .ref S2.length :: p.2) (killS S2 ++ [.clo d ws])) else .no
  | none => .no
section
variable {K : PySem.W.Frag} {j j' : Pl} {H H' H0 : Hp} {S S0 : Sto} {cs : List Addr}
theorem Beg.get' (e : Beg j j') {n : Nat} {a : Addr} (h : j.l[n]? = some a) : j'.l[n]? = some a := by
  obtain ⟨t, q⟩ := e.l
  rw [q, List.getElem?_append_left (List.getElem?_eq_some_iff.mp h).1]; exact h
theorem SR.backB (s0 : SR K j H0 S0) (e : Beg j j') (s : SR K j' H' S) (d : Drop S0 S) : SR K j H' (S.take S0.length) := by
  refine ⟨by rw [List.length_take, Nat.min_eq_left d.1]; exact s0.len, s0.nd, fun i o a h h' => ?_, fun a h => s.bb a (by rw [e.b]; exact h), s0.lb, s.tabs⟩
  have hi : i < S0.length := by rw [← s0.len]; exact (List.getElem?_eq_some_iff.mp h').1
  rw [List.getElem?_take_of_lt hi] at h
  refine (s.objs i o a h (e.get' h')).beg e ?_
  rw [s0.len]
  rcases d.2 i hi with q | ⟨o', q, c⟩
  · rw [h] at q
    have := (s0.objs i o a q.symm h').clo
    rwa [s0.len] at this
  · rw [h] at q; cases q; exact c
theorem frz_okB (s0 : SR K j H0 S0) (e : Beg j j') (s : SR K j' H' S) {d d' : D} {v : V} (r : RV K j' H' d v) (h : frzD S S0.length d = some d') : RV K j H' d' v := by
  unfold frzD at h
  split at h
  · rename_i k
    split at h
    · rename_i hk
      cases h
      cases r with
      | ref q => exact .ref (e.get q (by rw [s0.len]; exact hk))
    · rename_i hk
      split at h
      · rename_i xs hx
        split at h
        · rename_i hc
          cases h
          cases r with
          | ref q =>
            obtain ⟨vs, h1, r1⟩ := s.objs k _ _ hx q
            refine .lst h1 ⟨fun z => ?_, fun z => s.lb _ (List.mem_of_getElem? q) (by rw [e.b]; exact z)⟩ (r1.beg e (by rw [s0.len]; exact hc))
            obtain ⟨i, hi, ei⟩ := List.getElem_of_mem z
            have h2 : j'.l[i]? = some _ := e.get' (by rw [List.getElem?_eq_getElem hi, ei])
            have : i = k := (List.getElem_inj s.nd).mp ((List.getElem?_eq_some_iff.mp h2).2.trans (List.getElem?_eq_some_iff.mp q).2.symm)
            subst this
            exact hk (by rw [← s0.len]; exact hi)
        · cases h
      · cases h
  · split at h
    · rename_i hc
      cases h
      exact r.beg e (by rw [s0.len]; exact hc)
    · cases h
theorem sub_frz {h : Heap} {f : Addr} {o : Obj} (n : ∀ a ∈ cs, H a = none) (hf : H f = some (.frz o (.own f))) : Sub j H (j.push f) (frzH H h cs) :=
  ⟨⟨[f], rfl⟩, fun b u e _ => by
    rw [frzH_out fun z => by rw [n b z] at e; cases e]; exact e, fun b u e no nb => ⟨fun z => by
      rcases List.mem_append.mp (show b ∈ j.l ++ [f] from z) with z | z
      · exact nb.1 z
      · cases List.mem_singleton.mp z
        rw [hf] at e; cases e
        exact no _ _ rfl, nb.2⟩⟩
end
section
variable {X : Cx} {k i : Nat} {W : WX} {x : Str} {p pos : Pos} {e : Expr} {es : List Expr} {n : Nat} {m : MF} {d : LamD} {js : List Nat} {f2 : LF2}
theorem ev_lamcall (F : DOk X.prog X.w X.K X.mg X.base i x n m) (at' : At X k) (hi : i ≤ k) (tk : L2N.Takes X W) (hg : Gl X x) (hfn : ∀ y, X.fn y = true) (hst : X.stack = X.env :: X.outer)
    (hfree : ∀ y ∈ d.scope.names, y.2 = .free → X.env.scope.names.lookup y.1 = some .cell ∨ X.env.scope.names.lookup y.1 = some .free) (hfr : ∀ y ∈ d.fr, (y, NameKind.free) ∈ d.scope.names) (hjs : js.map (fun j => X.N[j]?) = d.fr.map some)
    (ha : EAL X W d (e :: es) f2) (hdb : (x == ("__debug__" : Str)) = false := by decide)
    (he : starEach (e :: es) X.env = (false, eval e X.env) :: starEach es X.env := by rfl) (hpl : (backTo pos (starEach es X.env)).any (·.1) = false := by rfl) : EV X W (.Call (.Name x p) (e :: es) [] pos) (eFnL n m d js f2) := by
  obtain ⟨f0, fd, ps, hm, hk, hb, G⟩ := F.ex
  refine ⟨fun pins s σ H Q I ⟨j, ρ, S, hs, hr, q⟩ => ?_⟩
  refine wpAny_Call_Name_kw (ld_glob I hg hm ?_ hdb)
  refine PySem.W.callWith_K (h₀ := X.base) I.ok.mod.kin hk (thn (ha.run pos pins s σ H (fun vs H2 => ∃ j2 S2 p, SR X.K j2 H2 S2 ∧ ER X.K j2 H2 ρ σ ∧ RL X.K H d (cloFrom X.env.cells d.scope.names []) j2 H2 p vs ∧ OK X.K j2 H2 W σ Q (match wsOf ρ js with
      | some ws => if (p.1 ++ .ref S2.length :: p.2).length = n then cutL S2 (m (p.1 ++ .ref S2.length :: p.2) (killS S2 ++ [.clo d ws])) else .no
      | none => .no)) I ⟨j, ρ, S, hs, hr, OKg.bind q fun j2 H2 p vs S2 e2 s2 r2 q2 => ⟨j2, S2, p, s2, hr.mono e2, r2, q2⟩⟩) fun us s1 ⟨vs, H1, I1, r, j2, S2, p, s2, r2, rl, q2⟩ => ⟨I1.kIn, ?_⟩) he hpl
  split at q2
  · rename_i ws hw
    split at q2
    · rename_i hn
      obtain ⟨v1, f, v2, rfl, a1, a2, a3, a4, pm, c, ctv, a5, a6, a7⟩ := rl
      obtain ⟨wvs, ew, rw'⟩ := wsOf_ok r2 hw
      have caps := NdefX.Caps.made (X := X) (fr := d.fr) (js := js) I1.ok hfree hfr hjs
      have ca := NdefX.cells_of I1 caps
      have none_c : ∀ b ∈ cellsOf (cloFrom X.env.cells d.scope.names []), H1 b = none := fun b hb => let ⟨y, e⟩ := mem_cellsOf.mp hb; (ca.all y b e).1
      have get_c : ∀ b ∈ cellsOf (cloFrom X.env.cells d.scope.names []), ∃ o, s1.heap.get? b = some o := fun b hb => let ⟨y, e⟩ := mem_cellsOf.mp hb; let ⟨v, o, h, _⟩ := (ca.all y b e).2; ⟨o, h⟩
      have above : ∀ b ∈ cellsOf (cloFrom X.env.cells d.scope.names []), X.s_0.heap.objs.size ≤ b := fun b hb => let ⟨y, e⟩ := mem_cellsOf.mp hb; I1.ok.cab y b (hfn y) (caps.sub y b e)
      have nfs : ∀ b ∈ frs X.stack, b ∉ cellsOf (cloFrom X.env.cells d.scope.names []) := fun b hb z => by
        rcases List.mem_cons.mp (I1.stkSub b hb) with h | h
        · obtain ⟨y, e⟩ := mem_cellsOf.mp z
          exact I1.cne y b (caps.sub y b e) h
        · obtain ⟨_, o, ho, _⟩ := I1.ok.funs.mem h
          exact absurd (Nat.lt_of_lt_of_le (Heap.lt_size ho) (above b z)) (Nat.lt_irrefl _)
      have nj : ∀ b ∈ cellsOf (cloFrom X.env.cells d.scope.names []), j2.no b := fun b hb => s2.free (none_c b hb)
      have nfc : f ∉ cellsOf (cloFrom X.env.cells d.scope.names []) := fun z => by rw [none_c f z] at a5; cases a5
      have kp : ∀ b u, H1 b = some u → frzH H1 s1.heap (cellsOf (cloFrom X.env.cells d.scope.names [])) b = some u := fun b u h => by
        rw [frzH_out fun z => by rw [none_c b z] at h; cases h]; exact h
      have sb := sub_frz (j := j2) (h := s1.heap) none_c a5
      have sk := s2.kill
      have cellF : CellsF (j2.push f) (frzH H1 s1.heap (cellsOf (cloFrom X.env.cells d.scope.names []))) (cloFrom X.env.cells d.scope.names []) d.fr wvs := by
        have cin : ∀ y b, (cloFrom X.env.cells d.scope.names []).lookup y = some b → ∀ o, s1.heap.get? b = some o → frzH H1 s1.heap (cellsOf (cloFrom X.env.cells d.scope.names [])) b = some (.frz o (.own b)) := fun y b e o h => by
          rw [frzH_in (mem_cellsOf.mpr ⟨y, e⟩), h]; rfl
        refine ⟨?_, fun y b e => ⟨⟨fun z => ?_, (nj b (mem_cellsOf.mpr ⟨y, e⟩)).2⟩, ?_⟩, ca.inj, fun i' y e => ?_⟩
        · have := ca.len
          rw [ew] at this
          simpa using this
        · rcases List.mem_append.mp (show b ∈ j2.l ++ [f] from z) with z | z
          · exact (nj b (mem_cellsOf.mpr ⟨y, e⟩)).1 z
          · cases List.mem_singleton.mp z
            exact nfc (mem_cellsOf.mpr ⟨y, e⟩)
        · obtain ⟨v, o, h1, h2⟩ := (ca.all y b e).2
          exact ⟨o, v, h2, cin y b e o h1⟩
        · obtain ⟨b, h1, h2⟩ := ca.has i' y e
          have hl : i' < wvs.length := by
            have := ca.len
            rw [ew, List.length_map] at this
            rw [this]
            exact (List.getElem?_eq_some_iff.mp e).1
          obtain ⟨u, ru, o, ho, hd⟩ := h2 wvs[i'] (by rw [ew, List.getElem?_map, List.getElem?_eq_getElem hl]; rfl)
          exact ⟨b, o, u, wvs[i'], h1, cin y b h1 o ho, hd, List.getElem?_eq_getElem hl, ru⟩
      have nf2 : f ∉ j2.l := a4.1
      have sF : SR X.K (j2.push f) (frzH H1 s1.heap (cellsOf (cloFrom X.env.cells d.scope.names []))) (killS S2 ++ [.clo d ws]) := by
        refine ⟨?_, ?_, fun i' o a h h' => ?_, fun a h => let ⟨o, e, z⟩ := s2.bb a h; ⟨o, kp a o e, z⟩, fun a h z => ?_, s2.tabs.ext kp⟩
        · show (j2.l ++ [f]).length = _
          rw [List.length_append, List.length_append, ← sk.len]; rfl
        · show (j2.l ++ [f]).Nodup
          rw [List.nodup_append]
          refine ⟨s2.nd, by simp, fun a ha b hb => ?_⟩
          cases List.mem_singleton.mp hb
          rintro rfl
          exact nf2 ha
        · have h' : (j2.l ++ [f])[i']? = some a := h'
          by_cases hi' : i' < (killS S2).length
          · rw [List.getElem?_append_left hi'] at h
            rw [List.getElem?_append_left (by rw [sk.len]; exact hi')] at h'
            have hc : o.clo? = false := by
              unfold killS at h
              rw [List.getElem?_map] at h
              cases e : S2[i']? with
              | none => rw [e] at h; cases h
              | some o' => rw [e] at h; cases h; exact kill_clo o'
            have r0 := sk.objs i' o a h h'
            obtain ⟨u, hu, nc⟩ := r0.some'
            exact r0.sub sb hc fun u' h'' => ⟨u, kp _ _ hu, nc⟩
          · have e : i' = (killS S2).length := by
              have := (List.getElem?_eq_some_iff.mp h).1
              simp at this
              omega
            subst e
            rw [List.getElem?_append_right (Nat.le_refl _), Nat.sub_self] at h
            rw [← sk.len, List.getElem?_append_right (Nat.le_refl _), Nat.sub_self] at h'
            cases h; cases h'
            exact ⟨_, pm, c, ctv, wvs, kp _ _ a5, kp _ _ a6, sb.nin _ _ a6 (fun _ _ z => by unfold LamX.CodeO at z; cases z) a7, rw'.sub sb, cellF⟩
        · rcases List.mem_append.mp (show a ∈ j2.l ++ [f] from h) with h | h
          · exact s2.lb a h z
          · cases List.mem_singleton.mp h
            exact a4.2 z
      have rvs : RVs X.K (j2.push f) (frzH H1 s1.heap (cellsOf (cloFrom X.env.cells d.scope.names []))) (p.1 ++ .ref S2.length :: p.2) (v1 ++ .ref f :: v2) := by
        refine (a1.sub sb).append (.cons (.ref ?_) (a2.sub sb))
        show (j2.l ++ [f])[S2.length]? = some f
        rw [← s2.len, List.getElem?_append_right (Nat.le_refl _), Nat.sub_self]; rfl
      have e0 : Env0 X.prog X.w X.K X.mg X.base X.A X.stack s1 (frzH H1 s1.heap (cellsOf (cloFrom X.env.cells d.scope.names []))) := by
        have e := I1.env0
        refine ⟨e.frames, e.mod, fun b o q => ⟨(e.bs b o q).1, ?_⟩, e.bsz, e.funs, fun b hb => ?_, HOk.frzC e.hok none_c, e.bare⟩
        · rw [frzH_out fun z => absurd (Nat.lt_of_lt_of_le (Heap.lt_size q) (Nat.le_trans I1.ok.bsz (above b z))) (Nat.lt_irrefl _)]
          exact (e.bs b o q).2
        · rw [frzH_out (nfs b hb)]; exact e.frf b hb
      have beg : ∀ {j' H'}, Ext (j2.push f) (frzH H1 s1.heap (cellsOf (cloFrom X.env.cells d.scope.names []))) j' H' → Beg j2 j' := fun {j' H'} e => by
        obtain ⟨t, h⟩ := e.pre
        exact ⟨⟨[f] ++ t, by rw [h]; show (j2.l ++ [f]) ++ t = _; rw [List.append_assoc]⟩, e.same⟩
      have ex2 : ∀ {j' H'}, Ext (j2.push f) (frzH H1 s1.heap (cellsOf (cloFrom X.env.cells d.scope.names []))) j' H' → Ext j2 H1 j2 (cutH H' (cellsOf (cloFrom X.env.cells d.scope.names []))) := fun {j' H'} e => by
        have out : ∀ b o, H1 b = some o → b ∉ cellsOf (cloFrom X.env.cells d.scope.names []) := fun b o h z => by rw [none_c b z] at h; cases h
        refine .mk' ⟨[], by simp⟩ rfl (fun b o h nb z => ?_) (fun _ h h' => absurd h' h) fun b o h => ?_
        · rw [cutH_out (out b o h)]
          refine e.keep' b o (kp b o h) ?_ z
          rcases nb with nb | nb
          · by_cases hb : b = f
            · subst hb
              rw [a5] at h; cases h
              exact .inr trivial
            · exact .inl fun z => by
                rcases List.mem_append.mp (show b ∈ j2.l ++ [f] from z) with z | z
                · exact nb z
                · exact hb (List.mem_singleton.mp z)
          · exact .inr nb
        · rw [cutH_out (out b o h)]
          exact e.there b o (kp b o h)
      have sp : spD X.K n m (v1 ++ .ref f :: v2) (frzH H1 s1.heap (cellsOf (cloFrom X.env.cells d.scope.names []))) (fun v H' => Held H' (cellsOf (cloFrom X.env.cells d.scope.names [])) → Q v (cutH H' (cellsOf (cloFrom X.env.cells d.scope.names []))))
          (fun cls dd H' => Held H' (cellsOf (cloFrom X.env.cells d.scope.names [])) → W cls dd σ (cutH H' (cellsOf (cloFrom X.env.cells d.scope.names [])))) := by
        refine ⟨j2.push f, killS S2 ++ [.clo d ws], _, sF, rvs, hn, ?_⟩
        cases hm : m (p.1 ++ .ref S2.length :: p.2) (killS S2 ++ [.clo d ws]) with
        | no => rw [hm] at q2; exact q2
        | ok v S' =>
          rw [hm] at q2
          intro j' H' u e s' rv hh
          rw [cutL_ok] at q2
          split at q2
          · rename_i hd
            split at q2
            · rename_i d' hf
              exact q2 j2 _ u (ex2 e) ((s2.backB (beg e) s' hd).cutS hh nj) ((frz_okB s2 (beg e) s' rv hf).sub (sub_cut hh))
            · exact q2.elim
          · exact q2.elim
        | exc C w' S' =>
          rw [hm] at q2
          intro j' H' cls dd e s' ⟨hcl, hU, d', v', z1, z2, z3, z4⟩ hh
          rw [cutL_exc] at q2
          split at q2
          · rename_i hd
            refine q2 j2 _ cls dd (ex2 e) ((s2.backB (beg e) s' hd.1).cutS hh nj) ⟨hcl, hU, d', v', z1, (beg e).no z2, ?_, (z4.beg (beg e) (by rw [s2.len]; exact hd.2)).sub (sub_cut hh)⟩
            rw [cutH_out (hh.out z3 fun _ _ z => nomatch z)]; exact z3
          · exact q2.elim
      have hl : us.length = ps.length := r.length.symm.trans (G.len _ _ _ _ sp)
      have b := hb s1 us I1.kIn (by simpa using hl)
      rw [List.append_nil] at b
      refine wpAny_call (codeAny_mono (G.run X.A X.stack s1 _ ⟨us, []⟩ us _ _ _ (at'.room.mono hi) at'.gd e0 b r sp) fun r s' hq => ?_)
      cases r with
      | error e' =>
        obtain ⟨a', B, H', cls, dd, eu, fl, hB, ub, na, os, bare, we⟩ := hq
        obtain ⟨ub', hh⟩ := ub_cut ub hB none_c get_c
        have na' : cutH H' (cellsOf (cloFrom X.env.cells d.scope.names [])) a' = none := by
          by_cases z : a' ∈ cellsOf (cloFrom X.env.cells d.scope.names [])
          · exact cutH_in z
          · rw [cutH_out z]; exact na
        exact L2N.passAt tk σ pins H1 s1 e' s' I1 ⟨a', B, _, cls, dd, eu, fl, HOk.cutC hB hh, ub', na', os, bare, we hh⟩
      | ok fl =>
        cases fl with
        | ret u =>
          obtain ⟨v, H', os, bare, un, hok, rv, q'⟩ := hq
          obtain ⟨un', hh⟩ := un_cut un hok none_c get_c
          exact I1.after ⟨v, _, os, bare, un', HOk.cutC hok hh, rv, q' hh⟩
        | next => exact hq
        | brk => exact hq
        | cont => exact hq
    · exact q2.elim
  · exact q2.elim
end
end DL

set_option Elab.async false
set_option linter.all false
set_option maxRecDepth 100000
set_option maxHeartbeats 2000000
namespace DL
open PySem PySem.Spec PyProof.Rows L2
variable [Tb]

/-! ### comprehensions of any number of clauses -/
abbrev lcE (elt : Expr) (gens : List Comprehension) (scope : Scope) (pos : Pos) : Expr := .ListComp elt gens scope pos
/-- what a clause does with an item that its tests let through -/
def codeLast (elt : Expr) (acc : Value) (env : PySem.Env) : Sem Unit := do
  let _ ← call (.builtin "list.append") [acc, ← eval elt env]
def codeMid (e : Expr) (k : Nat) (i1 : Expr) (acc : Value) (env : PySem.Env) : Sem Unit := do
  let x ← eval i1 env
  standAt i1.pos
  let x ← foldedSetIterable i1 env x
  let _ ← runOwn (.compStart e (k + 1) (← holding [x] (pyIter x)) acc env) env
section
variable {elt t0 i0 t1 i1 : Expr} {ifs0 ifs1 : List Expr} {gens : List Comprehension} {scope : Scope} {pos : Pos} {k : Nat} {it acc : Value} {env : PySem.Env}
def turnOf (e : Expr) (k : Nat) (t0 i0 : Expr) (ifs0 : List Expr) (body : Sem Unit) (it acc : Value) (env : PySem.Env) : Sem Fin := do
  standAt i0.pos
  match ← pyNext it with
  | none => pure (.done .next)
  | some v =>
    letOwnedTupleGo t0 it v
    assign t0 env v
    let ok ← forIn ifs0 true fun c r => if r = true then do let ok ← isTrue c env (eval c env); pure (ForInStep.yield ok) else pure (ForInStep.yield r)
    if ok = true then do
      body
      again (.compLoop e k it acc env)
    else again (.compLoop e k it acc env)
end
section
variable {prog : Program} {w : World} {A : Around} {R : Result → Shared → Prop} {s : Shared} {elt t0 i0 : Expr} {ifs0 : List Expr} {gens : List Comprehension} {scope : Scope} {pos : Pos} {k : Nat} {it acc : Value} {env : PySem.Env} {body : Sem Unit}
end

/-! ### clauses over data -/
structure Bld (K : PySem.W.Frag) (j1 : Pl) (H1 : Hp) (p : Addr) (j : Pl) (H : Hp) (S : Sto) (acc : List D) : Prop where
  e : Ext j1 H1 ⟨j.l, j1.b⟩ H
  b : j.b = p :: j1.b
  n : p ∉ j.l
  s : SR K j H S
  a : ∃ vs, H p = some (.lst vs) ∧ RVs K j H acc vs
section
variable {K : PySem.W.Frag} {j1 j j' : Pl} {H1 H H' : Hp} {p : Addr} {S S' : Sto} {acc : List D}
theorem Bld.step (x : Bld K j1 H1 p j H S acc) (e : Ext j H j' H') (s : SR K j' H' S') : Bld K j1 H1 p j' H' S' acc := by
  obtain ⟨vs, hp, ra⟩ := x.a
  have hp' : H' p = some (.lst vs) := e.keepB p _ hp x.n (fun _ z => nomatch z)
  refine ⟨x.e.trans (ext_unb e), e.same.trans x.b, fun z => ?_, s, vs, hp', ra.mono e⟩
  have := e.outB p x.n z
  rw [hp] at this; cases this
theorem Bld.app (x : Bld K j1 H1 p j H S acc) (hp1 : H1 p = none) {vs : List V} (hp : H p = some (.lst vs)) (ra : RVs K j H acc vs) {y : D} {v : V} (r : RV K j H y v) : Bld K j1 H1 p j (upd H p (.lst (vs ++ [v]))) S (acc ++ [y]) := by
  have pb : p ∈ j.b := by rw [x.b]; exact List.mem_cons_self
  exact ⟨ext_beside x.e hp1, x.b, x.n, x.s.wr hp pb x.n (noCode_of (fun _ z => nomatch z) (fun _ z => nomatch z)), _, upd_same, (ra.append (.cons r .nil)).mon (wr_mon hp pb)⟩
theorem Bld.mon (x : Bld K j1 H1 p j H S acc) (hp : H1 p = none) : Mon j1 H1 j H := mon_blk x.e x.b hp
end
/-- .. and nothing that was told is gone -/
structure MonT (j : Pl) (H : Hp) (j' : Pl) (H' : Hp) : Prop extends Mon j H j' H' where
  there : ∀ b o, H b = some o → ∃ o', H' b = some o'
theorem MonT.free {j j' : Pl} {H H' : Hp} (e : MonT j H j' H') {a : Addr} (h : H' a = none) : H a = none := by
  cases q : H a with
  | none => rfl
  | some o =>
    obtain ⟨o', e'⟩ := e.there a o q
    rw [e'] at h; cases h
theorem Ext.monT {j j' : Pl} {H H' : Hp} (e : Ext j H j' H') : MonT j H j' H' := ⟨e.toMon, e.there⟩
theorem MonT.refl (j : Pl) (H : Hp) : MonT j H j H := (Ext.refl j H).monT
theorem MonT.transM {j j1 j2 : Pl} {H H1 H2 : Hp} (a : MonT j H j1 H1) (b : Mon j1 H1 j2 H2) : Mon j H j2 H2 := by
  refine ⟨?_, fun c o h n z => ?_, fun c h h' => ?_, fun c h => ?_⟩
  · obtain ⟨t1, e1⟩ := a.pre
    obtain ⟨t2, e2⟩ := b.pre
    exact ⟨t1 ++ t2, by rw [e2, e1, List.append_assoc]⟩
  · exact b.keep c o (a.keep c o h n z) (n.imp (fun q => a.nin q h) id) z
  · by_cases hb : c ∈ j1.l
    · exact a.out c h hb
    · by_cases hk : c ∈ j1.b
      · exact (a.blk c hk).resolve_left h.2
      · exact a.free (b.out c ⟨hb, hk⟩ h')
  · rcases b.blk c h with q | q
    · exact a.blk c q
    · exact .inr (a.free q)
theorem MonT.trans {j j1 j2 : Pl} {H H1 H2 : Hp} (a : MonT j H j1 H1) (b : MonT j1 H1 j2 H2) : MonT j H j2 H2 :=
  ⟨a.transM b.toMon, fun c o h => let ⟨o1, h1⟩ := a.there c o h; b.there c o1 h1⟩
abbrev AB := Env → List D → Sto → Out (List D)
def fLast (fe : EF) : AB := fun ρ acc S => match fe ρ S with
  | .ok y S3 => if acc.length < 16777216 then .ok (acc ++ [y]) S3 else .no
  | _ => .no
def fLoop (src : Src) (own : List Nat) (c : CT) (t : BF) (f : AB) (ρ : Env) : Nat → Nat → List D → Sto → Out (List D)
  | 0, _, _, _ => .no
  | n + 1, i, acc, S => match src.at' S i with
    | some (some x) => match c.put x (wipeE ρ own) with
      | some ρ2 => match t ρ2 S with
        | .ok true S2 => match f ρ2 acc S2 with
          | .ok acc' S3 => fLoop src own c t f ρ n (i + 1) acc' S3
          | _ => .no
        | .ok false S2 => fLoop src own c t f ρ n (i + 1) acc S2
        | _ => .no
      | none => .no
    | some none => .ok acc S
    | none => .no
def fMid (fi : XF) (own : List Nat) (c : CT) (t : BF) (f : AB) : AB := fun ρ acc S => match fi ρ S with
  | .ok src S1 => fLoop src own c t f ρ (src.len S1 + 1) 0 acc S1
  | _ => .no
/-- what the code does for the list at p, over data -/
def BD (Y : Cx) (code : Addr → Sem Unit) (own : List Nat) (f : AB) : Prop :=
  ∀ (pins : List (Addr × Obj)) (s : Shared) (σ : L2.St) (H : Hp) (Q : Hp → Prop) (j1 : Pl) (H1 : Hp) (p : Addr) (j : Pl) (ρ : Env) (S : Sto) (acc : List D), L2.Inv Y pins σ H s → H1 p = none → Bld Y.K j1 H1 p j H S acc → ER Y.K j H ρ σ →
    (∃ acc' S', f ρ acc S = .ok acc' S' ∧ ∀ j' H', MonT j H j' H' → Bld Y.K j1 H1 p j' H' S' acc' → Q H') →
    wpAny (model Y.prog Y.w) Y.A (code p) (fun _ s' => ∃ σ' H', L2.Inv Y pins σ' H' s' ∧ σ'.length = σ.length ∧ (∀ (i : Nat) v, i ∉ own → σ[i]? = some (some v) → σ'[i]? = some (some v)) ∧ Q H') (fun _ _ => False) s
section
variable {Y : Cx} {e : Expr} {k : Nat} {tg i0 : Expr} {ifs : List Expr} {code : Addr → Sem Unit} {own own' : List Nat} {c : CT} {t : BF} {f : AB} {src : Src} {J : It} {fp : List Addr} {it : Addr} {tn : Nat → Heap → Prop} {elt : Expr} {gens : List Comprehension} {scope : Scope} {pos : Pos}
end

section
variable {Y : Cx} {k : Nat} {tg i1 elt : Expr} {ifs : List Expr} {code : Addr → Sem Unit} {own own' : List Nat} {c : CT} {t : BF} {f : AB} {fi : XF} {gens : List Comprehension} {scope : Scope} {pos : Pos}
end
def fCompN (fi : XF) (own : List Nat) (c : CT) (t : BF) (f : AB) (kfin : List D → Sto → Out D) : EF := fun ρ S => (fi ρ S).bind fun src S1 => (fLoop src own c t f ρ (src.len S1 + 1) 0 [] S1).bind kfin
section
variable {X : Cx} {W : WX} {elt tg iter : Expr} {ifs : List Expr} {rest : List Comprehension} {scope : Scope} {own : List (Str × Nat)} {pos : Pos} {fi : XF} {c : CT} {t : BF} {f : AB} {kfin : List D → Sto → Out D} {code : PySem.Env → Addr → Sem Unit} {own' : List Nat}
end
end DL

set_option Elab.async false
set_option linter.all false
set_option maxRecDepth 100000
set_option maxHeartbeats 2000000
namespace DL
open PySem PySem.Spec PyProof.Rows L2
variable [Tb]

/-! ### range objects -/
def rangeD (xs : List D) (S : Sto) : Out D := match xs with
  | [.int b] => .ok (.rng 0 b) S
  | _ => .no
theorem call_range1 {X : Cx} : CallR X (.type "range") (fun vs H Q => ∃ b, vs = [V.int b] ∧ ∀ p, H p = none → Q (.ref p) (upd H p (.rng 0 b))) := by
  intro pins s σ H vs us Q I r ⟨b, e, q⟩
  subst e
  match us, r with
  | [u], .cons rb .nil =>
    obtain ⟨t, rfl⟩ := rb
    have nf := I.hok.fresh (Nat.le_refl s.heap.objs.size)
    exact call_range_1 ⟨.ref s.heap.objs.size, upd H s.heap.objs.size (.rng 0 b), I.laid (t' := s.toks + 1 + 1) (fun b o e => Heap.get?_push_of_some _ e) (Nat.le_refl _) ⟨_, t, _, Heap.get?_push_size _ rfl⟩, rfl, q _ nf⟩
theorem range_ok {K : PySem.W.Frag} : OpA K rangeD (fun vs H Q => ∃ b, vs = [V.int b] ∧ ∀ p, H p = none → Q (.ref p) (upd H p (.rng 0 b))) := fun j H S W σ Q xs vs s r q => by
  unfold rangeD at q
  split at q
  · obtain ⟨v, rfl, r1⟩ := rv1 r
    cases r1
    exact ⟨_, rfl, fun p hp => q j _ _ (ext_new hp) (s.new hp) (.rng upd_same (s.free hp))⟩
  · exact q.elim
def xRng (fa : EF) : XF := fun ρ S => (fa ρ S).bind fun d S1 => match d with
  | .rng lo hi => if -(2 ^ 62) ≤ lo ∧ lo < 2 ^ 62 ∧ -(2 ^ 62) ≤ hi ∧ hi < 2 ^ 62 then .ok (.its (intsFrom lo (hi - lo).toNat)) S1 else .no
  | _ => .no
theorem pi_rngv {X : Cx} {tg l : Expr} {tl : TE} (hl : PE X l tl) : PI X tg l fun σ H R => tl σ H fun v H1 => ∃ a lo hi, v = .ref a ∧ H1 a = some (.rng lo hi) ∧ (-(2 ^ 62) ≤ lo ∧ lo < 2 ^ 62 ∧ -(2 ^ 62) ≤ hi ∧ hi < 2 ^ 62) ∧ R (Itr lo (hi - lo).toNat) H1 := by
  refine ⟨fun pins s σ H R I h => thn (hl.run pins s σ H _ I h) fun u s1 ⟨v, H1, I1, r1, a, lo, hi, ev, ha, ⟨b1, b2, b3, b4⟩, q⟩ => ?_⟩
  subst ev
  cases r1
  obtain ⟨t, u, w, ob⟩ := I1.hok a _ ha
  refine wpAny_pyIter_range (r := a) (a := lo) (b := hi) (c := 1) (t := t) (u := u) (v := w) ob (small_one b1 b2 b3 b4) ?_
  refine ⟨s1.heap.objs.size, [s1.heap.objs.size], _, _, H1, rfl, I1.kept (t' := s1.toks) fun b o e => Heap.get?_push_of_some _ e, turn_range _ lo (hi - lo).toNat, ?_, fun b hb => ?_, q⟩
  · have e2 : (((hi - lo).toNat : Nat) : Int) - ((0 : Nat) : Int) = Builtin.Range.rangeSize lo hi 1 := by rw [rangeSize_one]; split <;> omega
    show IsRangeIter _ _ (lo + ((0 : Nat) : Int) * 1) ((((hi - lo).toNat : Nat) : Int) - ((0 : Nat) : Int)) 1
    rw [show lo + ((0 : Nat) : Int) * 1 = lo by simp, e2]
    exact Heap.get?_push_size _ rfl
  · cases List.mem_singleton.mp hb
    exact I1.fpOk (Nat.le_refl _) (I1.hok.fresh (Nat.le_refl _))
theorem ei_rng {X : Cx} {W : WX} {tg e : Expr} {fa : EF} (h : EV X W e fa) : EI X W tg e (xRng fa) := pi_imp (pi_rngv h) fun σ H R ⟨j, ρ, S, hs, hr, q⟩ => by
  refine ⟨j, ρ, S, hs, hr, OKi.bind q fun j1 H1 d v S1 e1 s1 r1 q1 => ?_⟩
  cases r1 with
  | rng hr n =>
    simp only at q1
    split at q1
    · rename_i hb
      exact ⟨_, _, _, rfl, hr, hb, q1 j1 H1 _ (.refl _ _) s1 yl_rng⟩
    · exact q1.elim
  | _ => exact q1.elim

def retO : Out D → SO
  | .ok d S => .rt d S
  | _ => .no
/-! ### for the printed walks -/
/-- the class that the module's name x holds -/
def clsOf (mg : Str → Option Value) (x : Str) : Addr := match mg x with
  | some (.ref C) => C
  | _ => 0
/-- a def's code object, its table, and its lambdas' name -/
structure LamAt (base : Heap) (mg : Str → Option Value) (cd : Value) (q : Str) : Prop where
  ex : ∃ c P, cd = .ref c ∧ LamX.TabB base mg c P ∧ (P, q) ∈ Tb.t ∧ ∀ p ∈ Tb.t, p.1 = P → p.2 = q
theorem eal_lamA {X : Cx} {W : WX} {d : LamD} {es : List Expr} {fa : AF} {pos : Pos} (A : LamAt X.base X.mg X.env.code d.qual) (hq : d.qual = X.env.qual ++ "<lambda>") (hdef : defaultsOf d.params X.env = ([], []))
    (hfr : ∀ y ∈ d.scope.names, y.2 = .free → X.env.scope.names.lookup y.1 = some .cell ∨ X.env.scope.names.lookup y.1 = some .free) (hr : EA X W es fa)
    (hs : starEach (.Lambda d.params d.body d.scope pos :: es) X.env = (false, eval (.Lambda d.params d.body d.scope pos) X.env) :: starEach es X.env := by rfl) : EAL X W d (.Lambda d.params d.body d.scope pos :: es) (lLam fa) := by
  obtain ⟨c, P, h1, h2, h3, h4⟩ := A.ex
  exact eal_lam h2 h1 hq h3 h4 hdef (fun ok y hy e => (hfr y hy e).elim (fun z => ok.has _ (.inl z)) fun z => ok.has _ (.inr z)) hr hs
/-- ways into a text -/
def stB (i : Nat) : Stmt → Stmt
  | .If _ b _ p => b.getD i (.Pass p)
  | .For _ _ b _ p => b.getD i (.Pass p)
  | .While _ b _ p => b.getD i (.Pass p)
  | .Try b _ _ _ p => b.getD i (.Pass p)
  | s => s
def stO (i : Nat) : Stmt → Stmt
  | .If _ _ b p => b.getD i (.Pass p)
  | .For _ _ _ b p => b.getD i (.Pass p)
  | .While _ _ b p => b.getD i (.Pass p)
  | s => s
def stE : Stmt → Expr
  | .Return (some e) _ => e
  | .Expr e _ => e
  | .If e _ _ _ => e
  | .While e _ _ _ => e
  | .Assign _ e _ => e
  | .For _ e _ _ _ => e
  | .Pass p => .Name "" p
  | _ => .Name "" ⟨0, 0, 0, 0⟩
def exA (i : Nat) : Expr → Expr
  | .Call _ as _ p => as.getD i (.Name "" p)
  | .UnaryOp _ e _ => e
  | .BoolOp _ es p => es.getD i (.Name "" p)
  | .Tuple es _ p => es.getD i (.Name "" p)
  | .List es p => es.getD i (.Name "" p)
  | .Compare e _ es p => if i = 0 then e else es.getD (i - 1) (.Name "" p)
  | .BinOp l _ r _ => if i = 0 then l else r
  | .IfExp t a b _ => if i = 0 then t else if i = 1 then a else b
  | e => e
def mkLam (e : Expr) (qual : Str) (ps fr : List Str) : LamD := match e with
  | .Lambda p b s _ => ⟨p, b, s, qual, ps, fr⟩
  | e => ⟨{ posonlyargs := [], args := [], vararg := none, kwonlyargs := [], kw_defaults := [], kwarg := none, defaults := [] }, e, { kind := .function, names := [], isGenerator := false, isCoroutine := false }, qual, ps, fr⟩
end DL

set_option Elab.async false
set_option linter.all false
set_option maxRecDepth 100000
set_option maxHeartbeats 2000000
/-! lists walked while an error is handled -/
namespace DL
open PySem PySem.Spec PyProof.Rows L2
section
variable {prog : Program} {w : World} {A : Around} {E : Value → Shared → Prop} {s : Shared}
end
/-- an error is handled whose context is none -/
def HotI (X : Cx) : Prop := ∀ (pins : List (Addr × Obj)) (σ : L2.St) (H : Hp) (s : Shared), L2.Inv X pins σ H s → ∃ x1, HotX.HotAt X.A x1 s.heap
theorem HotI.of {X : Cx} (h : L2H.HotC X) : HotI X := fun _ _ _ _ I => h.at I
/-- a walk's turns while an error is handled -/
structure TurnI (P : Program) (w : World) (K : PySem.W.Frag) (tg : Expr) (J : It) (fp : List Addr) (it : Addr) (tn : Nat → Heap → Prop) : Prop where
  obj : ∀ i h, tn i h → ∀ b ∈ fp, ∃ o, h.get? b = some o ∧ ∀ v, o.data ≠ .cell v
  keep : ∀ i h h', tn i h → (∀ b ∈ fp, ∀ o, h.get? b = some o → h'.get? b = some o) → tn i h'
  item : ∀ (X : Cx), X.prog = P → X.w = w → X.K = K → HotI X → ∀ (i : Nat) (pins : List (Addr × Obj)) (s : Shared) (σ : L2.St) (H : Hp) (Er : Value → Shared → Prop), L2.Inv X pins σ H s → (∀ b ∈ fp, FpOk X pins H b) → tn i s.heap → J.go i H →
    wpAny (model P w) X.A (pyNext (.ref it)) (fun r s1 => ∃ u, r = some u ∧ wpAny (model P w) X.A (letOwnedTupleGo tg (.ref it) u) (fun _ s2 => ∃ x H', L2.Inv X pins σ H' s2 ∧ RelV x u ∧ J.yld i H x H' ∧ tn (i + 1) s2.heap ∧ ∀ b ∈ fp, H' b = none) Er s1) Er s
  done : ∀ (X : Cx), X.prog = P → X.w = w → X.K = K → HotI X → ∀ (i : Nat) (pins : List (Addr × Obj)) (s : Shared) (σ : L2.St) (H : Hp) (Er : Value → Shared → Prop), L2.Inv X pins σ H s → (∀ b ∈ fp, FpOk X pins H b) → tn i s.heap → J.stop i H →
    wpAny (model P w) X.A (pyNext (.ref it)) (fun r s1 => r = none ∧ L2.Inv X pins σ H s1) Er s
  self : ∀ (A : Around) (i : Nat) (s : Shared) (Q : Value → Shared → Prop) (Er : Value → Shared → Prop), tn i s.heap → Q (.ref it) s → wpAny (model P w) A (pyIter (.ref it)) Q Er s
variable [Tb]
/-- what is walked while an error is handled -/
def EIo (X : Cx) (W : WX) (tg iter : Expr) (fi : XF) : Prop := ∀ (pins : List (Addr × Obj)) (s : Shared) (σ : L2.St) (H : Hp) (R : It → Hp → Prop), L2.Inv X pins σ H s → rdI X.K W fi σ H R →
  wpAny (model X.prog X.w) X.A (eval iter X.env) (fun v s1 => wpAny (model X.prog X.w) X.A (pyIter v) (fun itv s2 => ∃ (it : Addr) (fp : List Addr) (tn : Nat → Heap → Prop) (J : It) (H' : Hp), itv = .ref it ∧ L2.Inv X pins σ H' s2 ∧ TurnI X.prog X.w X.K tg J fp it tn ∧ tn 0 s2.heap ∧ (∀ b ∈ fp, FpOk X pins H' b) ∧ R J H') X.xe s1) X.xe s
section
variable {Y : Cx} {e : Expr} {k : Nat} {tg i0 : Expr} {ifs : List Expr} {code : Addr → Sem Unit} {own own' : List Nat} {c : CT} {t : BF} {f : AB} {src : Src} {J : It} {fp : List Addr} {it : Addr} {tn : Nat → Heap → Prop} {elt : Expr} {gens : List Comprehension} {scope : Scope} {pos : Pos}
end

section
variable {X : Cx} {W : WX} {elt tg iter : Expr} {ifs : List Expr} {rest : List Comprehension} {scope : Scope} {own : List (Str × Nat)} {pos : Pos} {fi : XF} {c : CT} {t : BF} {f : AB} {kfin : List D → Sto → Out D} {code : PySem.Env → Addr → Sem Unit} {own' : List Nat}
end
end DL

set_option Elab.async false
set_option linter.all false
set_option maxRecDepth 100000
set_option maxHeartbeats 2000000
/-! what a suite tells does not hang on where its error stands; join -/
namespace DL
open PySem PySem.Spec PyProof.Rows L2
/-! ### the same but for the error's places -/
section
variable {i : Nat} {a dd C : Addr} {w : D}
structure RelE (i : Nat) (a dd C : Addr) (w : D) (ρ ρ' : Env) : Prop where
  ot : ∀ k, k ≠ i → ρ[k]? = ρ'[k]?
  at' : (ρ[i]? = some (some (.exc a dd C w)) ∧ ρ'[i]? = some (some (.exc 0 0 C w))) ∨ (ρ[i]? = none ∧ ρ'[i]? = none)
theorem RelE.begin' (ρ : Env) : RelE i a dd C w (ρ.set i (some (.exc a dd C w))) (ρ.set i (some (.exc 0 0 C w))) := by
  refine ⟨fun k hk => by rw [List.getElem?_set_ne (Ne.symm hk), List.getElem?_set_ne (Ne.symm hk)], ?_⟩
  by_cases h : i < ρ.length
  · exact .inl ⟨List.getElem?_set_self h, List.getElem?_set_self h⟩
  · refine .inr ⟨List.getElem?_eq_none_iff.mpr (by simpa using h), List.getElem?_eq_none_iff.mpr (by simpa using h)⟩
theorem RelE.set {ρ ρ' : Env} (r : RelE i a dd C w ρ ρ') {k : Nat} (hk : k ≠ i) (x : Option D) : RelE i a dd C w (ρ.set k x) (ρ'.set k x) := by
  have hl : ρ[k]? = ρ'[k]? := r.ot k hk
  refine ⟨fun m hm => ?_, ?_⟩
  · by_cases e : k = m
    · subst e
      by_cases h : k < ρ.length
      · have h' : k < ρ'.length := by
          rw [List.getElem?_eq_getElem h] at hl
          exact (List.getElem?_eq_some_iff.mp hl.symm).1
        rw [List.getElem?_set_self h, List.getElem?_set_self h']
      · have h' : ¬ k < ρ'.length := fun z => by
          rw [List.getElem?_eq_none_iff.mpr (Nat.le_of_not_lt h), List.getElem?_eq_getElem z] at hl
          cases hl
        rw [List.getElem?_eq_none_iff.mpr (by simpa using h), List.getElem?_eq_none_iff.mpr (by simpa using h')]
    · rw [List.getElem?_set_ne e, List.getElem?_set_ne e]; exact r.ot m hm
  · rw [List.getElem?_set_ne hk, List.getElem?_set_ne hk]; exact r.at'
theorem RelE.gone {ρ ρ' : Env} (r : RelE i a dd C w ρ ρ') : ρ.set i none = ρ'.set i none := by
  apply List.ext_getElem?
  intro m
  by_cases e : i = m
  · subst e
    rcases r.at' with ⟨h1, h2⟩ | ⟨h1, h2⟩
    · rw [List.getElem?_set_self (List.getElem?_eq_some_iff.mp h1).1, List.getElem?_set_self (List.getElem?_eq_some_iff.mp h2).1]
    · rw [List.getElem?_eq_none_iff.mpr (by simpa using List.getElem?_eq_none_iff.mp h1), List.getElem?_eq_none_iff.mpr (by simpa using List.getElem?_eq_none_iff.mp h2)]
  · rw [List.getElem?_set_ne e, List.getElem?_set_ne e]; exact r.ot m (Ne.symm e)
/-- two readings tell the same -/
def InF {α : Type} (i : Nat) (a dd C : Addr) (w : D) (f f' : Env → Sto → Out α) : Prop := ∀ ρ ρ' S, RelE i a dd C w ρ ρ' → f ρ S = f' ρ' S
inductive RelO (i : Nat) (a dd C : Addr) (w : D) : SO → SO → Prop
  | nx {ρ ρ' S} : RelE i a dd C w ρ ρ' → RelO i a dd C w (.nx ρ S) (.nx ρ' S)
  | rt {d S} : RelO i a dd C w (.rt d S) (.rt d S)
  | ex {C' w' ρ ρ' S} : RelO i a dd C w (.exc C' w' ρ S) (.exc C' w' ρ' S)
  | no : RelO i a dd C w .no .no
def InS (i : Nat) (a dd C : Addr) (w : D) (g g' : SF) : Prop := ∀ ρ ρ' S, RelE i a dd C w ρ ρ' → RelO i a dd C w (g ρ S) (g' ρ' S)
theorem in_fin {h : Addr → Addr → Addr → SF} (x : ∀ a dd C w, InS i a dd C w (h a dd C) (h 0 0 C)) (a dd C : Addr) (w : D) (ρ : Env) (S : Sto) : (h a dd C (ρ.set i (some (.exc a dd C w))) S).gone i = (h 0 0 C (ρ.set i (some (.exc 0 0 C w))) S).gone i := by
  have q := x a dd C w _ _ S (RelE.begin' ρ)
  generalize h a dd C (ρ.set i (some (.exc a dd C w))) S = o1 at q
  generalize h 0 0 C (ρ.set i (some (.exc 0 0 C w))) S = o2 at q
  cases q with
  | nx r => show SO.nx _ _ = SO.nx _ _; rw [r.gone]
  | rt => rfl
  | ex => rfl
  | no => rfl
variable {α : Type} {fa fb fa' fb' : EF} {t t' u u' : BF} {f f' : AF} {g h g' h' : SF}
theorem in_var {k : Nat} (hk : k ≠ i) : InF i a dd C w (eVar k) (eVar k) := fun ρ ρ' S r => by unfold eVar; rw [r.ot k hk]
theorem in_c {d : D} : InF i a dd C w (eC d) (eC d) := fun _ _ _ _ => rfl
theorem in_is {K : PySem.W.Frag} {C2 : Addr} : InF i a dd C w (eUn (isED K a dd C C2) (eVar i)) (eUn (isED K 0 0 C C2) (eVar i)) := fun ρ ρ' S r => by
  unfold eUn eVar
  rcases r.at' with ⟨h1, h2⟩ | ⟨h1, h2⟩
  · rw [h1, h2]; simp only [Out.bind_ok, isED, and_self, if_true]
  · rw [h1, h2]; rfl
theorem in_what : InF i a dd C w (eUn (whatD a dd C) (eVar i)) (eUn (whatD 0 0 C) (eVar i)) := fun ρ ρ' S r => by
  unfold eUn eVar
  rcases r.at' with ⟨h1, h2⟩ | ⟨h1, h2⟩
  · rw [h1, h2]; simp only [Out.bind_ok, whatD, and_self, if_true]
  · rw [h1, h2]; rfl
theorem in_bind {α β : Type} {f f' : Env → Sto → Out α} {k k' : Env → α → Sto → Out β} (x : InF i a dd C w f f') (y : ∀ ρ ρ', RelE i a dd C w ρ ρ' → ∀ v S, k ρ v S = k' ρ' v S) : InF i a dd C w (fun ρ S => (f ρ S).bind (k ρ)) (fun ρ S => (f' ρ S).bind (k' ρ)) := fun ρ ρ' S r => by
  show (f ρ S).bind (k ρ) = (f' ρ' S).bind (k' ρ')
  rw [x ρ ρ' S r]
  cases f' ρ' S with
  | ok v S1 => exact y ρ ρ' r v S1
  | exc C w S1 => rfl
  | no => rfl
theorem in_un {q : D → Sto → Out D} (x : InF i a dd C w fa fa') : InF i a dd C w (eUn q fa) (eUn q fa') := in_bind (k := fun _ => q) (k' := fun _ => q) x fun _ _ _ _ _ => rfl
theorem in_bin {q : D → D → Sto → Out D} (x : InF i a dd C w fa fa') (y : InF i a dd C w fb fb') : InF i a dd C w (eBin q fa fb) (eBin q fa' fb') :=
  in_bind (k := fun ρ x S1 => (fb ρ S1).bind fun y S2 => q x y S2) (k' := fun ρ x S1 => (fb' ρ S1).bind fun y S2 => q x y S2) x fun ρ ρ' r v S => by rw [y ρ ρ' S r]
theorem in_nil : InF i a dd C w aNil aNil := fun _ _ _ _ => rfl
theorem in_cons (x : InF i a dd C w fa fa') (y : InF i a dd C w f f') : InF i a dd C w (aCons fa f) (aCons fa' f') :=
  in_bind (k := fun ρ x S1 => (f ρ S1).bind fun xs S2 => .ok (x :: xs) S2) (k' := fun ρ x S1 => (f' ρ S1).bind fun xs S2 => .ok (x :: xs) S2) x fun ρ ρ' r v S => by rw [y ρ ρ' S r]
theorem in_tup (x : InF i a dd C w f f') : InF i a dd C w (eTup f) (eTup f') := fun ρ ρ' S r => by unfold eTup; rw [x ρ ρ' S r]
theorem in_lst (x : InF i a dd C w f f') : InF i a dd C w (eLst f) (eLst f') := fun ρ ρ' S r => by unfold eLst; rw [x ρ ρ' S r]
theorem in_lstM (x : InF i a dd C w f f') : InF i a dd C w (eLstM f) (eLstM f') := fun ρ ρ' S r => by unfold eLstM; rw [x ρ ρ' S r]
theorem in_call {q : List D → Sto → Out D} (x : InF i a dd C w f f') : InF i a dd C w (eCall q f) (eCall q f') := fun ρ ρ' S r => by unfold eCall; rw [x ρ ρ' S r]
theorem in_and (x : InF i a dd C w fa fa') (y : InF i a dd C w fb fb') : InF i a dd C w (eAnd fa fb) (eAnd fa' fb') := fun ρ ρ' S r => by
  unfold eAnd; rw [x ρ ρ' S r]; congr 1; funext v S1; rw [y ρ ρ' S1 r]
theorem in_or (x : InF i a dd C w fa fa') (y : InF i a dd C w fb fb') : InF i a dd C w (eOr fa fb) (eOr fa' fb') := fun ρ ρ' S r => by
  unfold eOr; rw [x ρ ρ' S r]; congr 1; funext v S1; rw [y ρ ρ' S1 r]
theorem in_not (x : InF i a dd C w fa fa') : InF i a dd C w (eNot fa) (eNot fa') := fun ρ ρ' S r => by unfold eNot; rw [x ρ ρ' S r]
theorem in_val (x : InF i a dd C w fa fa') : InF i a dd C w (bVal fa) (bVal fa') := fun ρ ρ' S r => by unfold bVal; rw [x ρ ρ' S r]
theorem in_bnot (x : InF i a dd C w t t') : InF i a dd C w (bNot t) (bNot t') := fun ρ ρ' S r => by unfold bNot; rw [x ρ ρ' S r]
theorem in_band (x : InF i a dd C w t t') (y : InF i a dd C w u u') : InF i a dd C w (bAnd t u) (bAnd t' u') := fun ρ ρ' S r => by
  unfold bAnd; rw [x ρ ρ' S r]; congr 1; funext v S1; rw [y ρ ρ' S1 r]
theorem in_bor (x : InF i a dd C w t t') (y : InF i a dd C w u u') : InF i a dd C w (bOr t u) (bOr t' u') := fun ρ ρ' S r => by
  unfold bOr; rw [x ρ ρ' S r]; congr 1; funext v S1; rw [y ρ ρ' S1 r]
theorem in_if (x : InF i a dd C w t t') (y : InF i a dd C w fa fa') (z : InF i a dd C w fb fb') : InF i a dd C w (eIf t fa fb) (eIf t' fa' fb') := fun ρ ρ' S r => by
  unfold eIf; rw [x ρ ρ' S r]; congr 1; funext v S1; rw [y ρ ρ' S1 r, z ρ ρ' S1 r]
theorem in_lm {q : Me} (x : InF i a dd C w fa fa') (y : InF i a dd C w f f') : InF i a dd C w (eLM q fa f) (eLM q fa' f') := fun ρ ρ' S r => by
  unfold eLM; rw [x ρ ρ' S r]; congr 1; funext v S1; rw [y ρ ρ' S1 r]
theorem in_fn {n : Nat} {m : MF} (x : InF i a dd C w f f') : InF i a dd C w (eFn n m f) (eFn n m f') := fun ρ ρ' S r => by unfold eFn; rw [x ρ ρ' S r]
theorem in_xLst (x : InF i a dd C w fa fa') : InF i a dd C w (xLst fa) (xLst fa') := fun ρ ρ' S r => by unfold xLst; rw [x ρ ρ' S r]
theorem in_btrue : InF i a dd C w bTrue bTrue := fun _ _ _ _ => rfl
/-! statements -/
theorem in_letE {k k' : D → SF} (x : InF i a dd C w fa fa') (y : ∀ v, InS i a dd C w (k v) (k' v)) : InS i a dd C w (letE fa k) (letE fa' k') := fun ρ ρ' S r => by
  unfold letE; rw [x ρ ρ' S r]
  cases fa' ρ' S with
  | ok v S1 => exact y v ρ ρ' S1 r
  | exc C w S1 => exact .ex
  | no => exact .no
theorem in_ret (x : InF i a dd C w fa fa') : InS i a dd C w (sRet fa) (sRet fa') := in_letE x fun _ _ _ _ _ => .rt
theorem in_expr (x : InF i a dd C w fa fa') : InS i a dd C w (sExpr fa) (sExpr fa') := in_letE x fun _ _ _ _ r => .nx r
theorem in_set {k : Nat} (hk : k ≠ i) (x : InF i a dd C w fa fa') : InS i a dd C w (sSet k fa) (sSet k fa') := in_letE x fun _ _ _ _ r => .nx (r.set hk _)
theorem in_next : InS i a dd C w sNext sNext := fun _ _ _ r => .nx r
theorem in_seq (x : InS i a dd C w g g') (y : InS i a dd C w h h') : InS i a dd C w (sSeq g h) (sSeq g' h') := fun ρ ρ' S r => by
  have q := x ρ ρ' S r
  unfold sSeq
  generalize g ρ S = o1 at q
  generalize g' ρ' S = o2 at q
  cases q with
  | nx r => exact y _ _ _ r
  | rt => exact .rt
  | ex => exact .ex
  | no => exact .no
theorem in_sif (x : InF i a dd C w t t') (y : InS i a dd C w g g') (z : InS i a dd C w h h') : InS i a dd C w (sIf t g h) (sIf t' g' h') := fun ρ ρ' S r => by
  unfold sIf letB; rw [x ρ ρ' S r]
  cases t' ρ' S with
  | ok v S1 =>
    cases v with
    | true => exact y ρ ρ' S1 r
    | false => exact z ρ ρ' S1 r
  | exc C w S1 => exact .ex
  | no => exact .no
/-! comprehensions -/
def InA (i : Nat) (a dd C : Addr) (w : D) (f f' : AB) : Prop := ∀ ρ ρ' acc S, RelE i a dd C w ρ ρ' → f ρ acc S = f' ρ' acc S
theorem in_last (x : InF i a dd C w fa fa') : InA i a dd C w (fLast fa) (fLast fa') := fun ρ ρ' acc S r => by unfold fLast; rw [x ρ ρ' S r]
theorem RelE.wipe : ∀ {own : List Nat} {ρ ρ' : Env}, (∀ k ∈ own, k ≠ i) → RelE i a dd C w ρ ρ' → RelE i a dd C w (wipeE ρ own) (wipeE ρ' own)
  | [], _, _, _, r => r
  | v :: vs, _, _, h, r => (RelE.wipe (fun k hk => h k (List.mem_cons_of_mem _ hk)) r).set (h v List.mem_cons_self) none
theorem in_loop {src : Src} {own : List Nat} {k : Nat} {q q' : AB} (ho : ∀ k ∈ own, k ≠ i) (hk : k ≠ i) (x : InF i a dd C w t t') (y : InA i a dd C w q q') : ∀ (n m : Nat) (acc : List D) (S : Sto) {ρ ρ' : Env}, RelE i a dd C w ρ ρ' →
    fLoop src own (.one k) t q ρ n m acc S = fLoop src own (.one k) t' q' ρ' n m acc S
  | 0, _, _, _, _, _, _ => rfl
  | n + 1, m, acc, S, ρ, ρ', r => by
    unfold fLoop
    cases src.at' S m with
    | none => rfl
    | some o =>
      cases o with
      | none => rfl
      | some v =>
        have r2 : RelE i a dd C w ((wipeE ρ own).set k (some v)) ((wipeE ρ' own).set k (some v)) := (r.wipe ho).set hk _
        simp only [CT.put, x _ _ S r2]
        cases t' ((wipeE ρ' own).set k (some v)) S with
        | no => rfl
        | exc _ _ _ => rfl
        | ok b S2 =>
          cases b with
          | false => exact in_loop ho hk x y n (m + 1) acc S2 r
          | true =>
            simp only [y _ _ acc S2 r2]
            cases q' ((wipeE ρ' own).set k (some v)) acc S2 with
            | no => rfl
            | exc _ _ _ => rfl
            | ok acc' S3 => exact in_loop ho hk x y n (m + 1) acc' S3 r
theorem in_comp {own : List Nat} {k : Nat} {q q' : AB} {fi fi' : XF} {kf : List D → Sto → Out D} (ho : ∀ k ∈ own, k ≠ i) (hk : k ≠ i) (z : InF i a dd C w fi fi') (x : InF i a dd C w t t') (y : InA i a dd C w q q') :
    InF i a dd C w (fCompN fi own (.one k) t q kf) (fCompN fi' own (.one k) t' q' kf) := fun ρ ρ' S r => by
  unfold fCompN; rw [z ρ ρ' S r]; congr 1; funext src S1; rw [in_loop ho hk x y _ _ _ _ r]
end
end DL

set_option Elab.async false
set_option linter.all false
set_option maxRecDepth 100000
/-! texts joined -/
namespace DL
open PySem PySem.Spec PyProof.Rows L2
/-- the texts of data, if it is all texts -/
def txts : List D → Option (List Str)
  | [] => some []
  | .str a :: ds => (txts ds).map (a :: ·)
  | _ => none
def joinD (a : Str) (d : D) (S : Sto) : Out D := match seqOf S d with
  | some xs => match txts xs with
    | some ys => if (ys.map (·.length)).sum + ys.length * a.length ≤ 16777216 then .ok (.str (Txt.join a ys)) S else .no
    | none => .no
  | none => .no
def eJoin (fo fe : EF) : EF := fun ρ S => (fo ρ S).bind fun x S1 => match x with | .str a => (fe ρ S1).bind (joinD a) | _ => .no
section
variable [Tb]
variable {X : Cx} {W : WX} {o e : Expr} {fo fe : EF} {apos pos : Pos}
end
/-! ### comparisons of three, as tests -/
section
variable [Tb]
variable {X : Cx} {W : WX} {a b c : Expr} {fa fb fc : EF} {pos : Pos}
theorem et_chain {op op' : CmpOp} {g g' : D → D → Sto → Out D} {r r' : R2} (ho : OpR X (compareOp op) r) (hi : Op2 X.K g r) (ho' : OpR X (compareOp op') r') (hi' : Op2 X.K g' r') (ha : EV X W a fa) (hb : EV X W b fb) (hc : EV X W c fc)
    (hm : lastMarks [op, op'] [b, c] = false) : ET X W (.Compare a [op, op'] [b, c] pos) (bVal (eChain g g' fa fb fc)) := pt_imp (pt_chain ho ho' ha hb hc hm) fun σ H Q ⟨j, ρ, S, hs, hr, q⟩ => by
  unfold bVal eChain at q
  refine ⟨j, ρ, S, hs, hr, ?_⟩
  have q := OKg.bind (R' := RV X.K) (Q' := fun x H' => ∃ k, x = .bl k ∧ Q k H') q fun j1 H1 d v S1 e1 s1 r1 q1 => by
    cases r1 with
    | bl b => exact ⟨b, rfl, q1 j1 H1 b (.refl _ _) s1 rfl⟩
    | _ => exact q1.elim
  refine OKg.bind q fun j1 H1 x vx S1 e1 s1 r1 q1 => ?_
  refine ⟨j1, ρ, S1, s1, hr.mono e1, OKg.bind q1 fun j2 H2 y vy S2 e2 s2 r2 q2 => ?_⟩
  refine hi j2 H2 S2 W σ _ x y vx vy s2 (r1.mono e2) r2 (OKg.bind q2 fun j3 H3 z vz S3 e3 s3 r3 q3 => ?_)
  cases r3 with
  | bl b =>
    refine ⟨b, rfl, ?_⟩
    cases b with
    | true =>
      refine iteT ⟨j3, ρ, S3, s3, ((hr.mono e1).mono e2).mono e3, OKg.bind q3 fun j4 H4 w vw S4 e4 s4 r4 q4 => ?_⟩
      exact hi' j4 H4 S4 W σ _ y w vy vw s4 ((r2.mono e3).mono e4) r4 q4
    | false => exact iteF (q3 j3 H3 _ (.refl _ _) s3 (.bl false))
  | _ => exact q3.elim
theorem et_lele (ha : EV X W a fa) (hb : EV X W b fb) (hc : EV X W c fc) (hm : lastMarks [CmpOp.LtE, .LtE] [b, c] = false := by with_unfolding_all rfl) : ET X W (.Compare a [.LtE, .LtE] [b, c] pos) (bVal (eChain leD leD fa fb fc)) := et_chain op_le cmp_ok op_le cmp_ok ha hb hc hm
theorem et_lelt (ha : EV X W a fa) (hb : EV X W b fb) (hc : EV X W c fc) (hm : lastMarks [CmpOp.LtE, .Lt] [b, c] = false := by with_unfolding_all rfl) : ET X W (.Compare a [.LtE, .Lt] [b, c] pos) (bVal (eChain leD ltD fa fb fc)) := et_chain op_le cmp_ok op_lt cmp_ok ha hb hc hm
end
/-! ### the same but for an error's places -/
section
variable {i : Nat} {a dd C : Addr} {w : D} {fo fe fo' fe' : EF}
theorem in_join (x : InF i a dd C w fo fo') (y : InF i a dd C w fe fe') : InF i a dd C w (eJoin fo fe) (eJoin fo' fe') := fun ρ ρ' S r => by
  unfold eJoin; rw [x ρ ρ' S r]; congr 1; funext v S1
  cases v <;> first | rfl | (simp only; rw [y ρ ρ' S1 r])
end
end DL

set_option Elab.async false
set_option linter.all false
set_option maxRecDepth 100000
set_option maxHeartbeats 400000
/-! enumerate and zip -/
namespace DL
open PySem PySem.Spec PyProof.Rows L2
section
variable {prog : Program} {w : World} {A : Around} {E : Value → Shared → Prop} {s : Shared}
theorem meets_enum1 {v : Value} {o : Obj} {H : Heap → Prop} (B : Begins v o H) :
    Meets (Builtin.«enumerate.__new__» ⟨[.type "enumerate", v], []⟩) (fun _ R s => H s.heap ∧
      R (.ok (.ret (.ref (s.heap.push o).objs.size))) { s with heap := (s.heap.push o).push { cls := .type "enumerate", data := .fields #[.none, .bool false, .ref s.heap.objs.size, rawInt 0, .none, .none] } }) :=
  .of_wp fun prog w A R s h => by
    obtain ⟨hp, g, d, tk, os⟩ := s; obtain ⟨h1, h⟩ := h
    have hsub := sub_enumerate
    have q1 : ∀ {A' : Around} {E : Value → Shared → Prop} {Q : Value → Shared → Prop}, Q (.ref hp.objs.size) ⟨hp.push o, g, d, tk, os⟩ → wpAny (model prog w) A' (pyIter v) Q E ⟨hp, g, d, tk, os⟩ :=
      fun q => B.iter prog w _ _ ⟨hp, g, d, tk, os⟩ _ h1 q
    wp_walk using q1
    refine wpAny_stack_any fun st => wpAny_pure ?_
    split
    · rename_i c _ _ _ _ _
      cases (c == Value.type "enumerate")
      · wp_walk using q1
        exact ⟨_, rfl, h⟩
      · wp_walk using q1
        exact ⟨_, rfl, h⟩
    · wp_walk using q1
      exact ⟨_, rfl, h⟩
/-- enumerate(v): its two new cells -/
theorem enum1_begins {v : Value} {o : Obj} {H : Heap → Prop} {Q : Value → Shared → Prop} (B : Begins v o H) (h1 : H s.heap)
    (h : ∀ h', IsEnum h' (s.heap.objs.size + 1) s.heap.objs.size 0 .none → h'.get? s.heap.objs.size = some o → h'.objs.size = s.heap.objs.size + 2 →
      (∀ b o, s.heap.get? b = some o → h'.get? b = some o) → Q (.ref (s.heap.objs.size + 1)) { s with heap := h' }) :
    wpAny (model prog w) A (call (.type "enumerate") [v]) Q E s := by
  refine callType_new F.called_enumerate (by decide) (F.typeCall_enumerate_1 _) (F.newCall_enumerate_1 _) (fun obj => F.args_object_init_2 obj _) F.entry_enumerate_new
    (meets_enum1 B) ⟨h1, ?_⟩
  have hz : (s.heap.push o).objs.size = s.heap.objs.size + 1 := Heap.size_push ..
  show _ ∧ _
  rw [hz]
  have he : IsEnum ((s.heap.push o).push { cls := .type "enumerate", data := .fields #[.none, .bool false, .ref s.heap.objs.size, rawInt 0, .none, .none] }) (s.heap.objs.size + 1) s.heap.objs.size 0 .none := by
    have := Heap.get?_push_size (s.heap.push o) (o := { cls := .type "enumerate", data := .fields #[.none, .bool false, .ref s.heap.objs.size, rawInt 0, .none, .none] }) rfl
    rw [hz] at this; exact this
  refine ⟨⟨_, he, rfl⟩, h _ he (Heap.get?_push_of_some _ (Heap.get?_push_size _ B.free)) (by rw [Heap.size_push, hz]) fun b o x => Heap.get?_push_of_some _ (Heap.get?_push_of_some _ x)⟩
end
theorem enum_stopT {prog : Program} {w : World} {A : Around} {E : Value → Shared → Prop} {s : Shared} {e it t : Addr} {i : Nat} {items : Array Value} {old : Value} {Q : Option Value → Shared → Prop} (calm : A.handled = none) (he : IsEnum s.heap e it i old) (hit : s.heap.IsTupleIter it t i)
    (ht : s.heap.IsTuple t items) (hx : items[i]? = none) (q : ∀ h', Heap.ExtBut it s.heap h' → Q none { s with heap := h' }) : wpAny (model prog w) A (pyNext (.ref e)) Q E s := by
  unfold pyNext
  refine wpAny_bind (wpAny_attempt (wpAny_callSpecial?_slot (name := Str.ofString "__next__") (T := "enumerate") ⟨_, he, rfl⟩ F.slot_enumerate_next (wpAny_call_entry F.slot_enumerate_next ⟨_, he, rfl⟩ F.entry_enumerate_next ?go (F.args_enumerate_next_1 _))))
  case go =>
    show wpAny _ _ (field (.ref e) 2 >>= _) _ _ s
    refine wpAny_bind (wpAny_field he rfl (x := .ref it) rfl (wpAny_bind (wpAny_nextOf_tuple_end calm hit ht hx fun h' x he' ⟨o, ho, hc⟩ => ?_)))
    exact wpAny_bind (wpAny_isInstance (T := "StopIteration") (b := true) ⟨o, ho, hc⟩ isSubtype_stop (wpAny_pure (q _ he')))
/-- the tuple at a, each item in a new pair -/
def IteT (K : PySem.W.Frag) (a : Addr) : It :=
  ⟨fun i H => ∃ (xs : List V) (x : V), SqT K H a xs ∧ xs[i]? = some x, fun i H v H' => ∃ T x, v = .ref T ∧ H T = none ∧ H' = upd H T (.tup [.int (i : Nat), x]) ∧ ∀ xs, SqT K H a xs → xs[i]? = some x, fun i H => ∃ xs : List V, SqT K H a xs ∧ xs.length ≤ i⟩
theorem turn_enumT {P : Program} {w : World} {K : PySem.W.Frag} {elts : List Expr} {kk : Nat} {tpos : Pos} (a e it : Addr) :
    Turn P w K (.Tuple elts kk tpos) (IteT K a) [e, it] e (fun i h => (∃ old, IsEnum h e it ((i : Nat) : Int) old) ∧ h.IsTupleIter it a i ∧ e ≠ it) where
  mem := by simp
  obj := fun i h st b hb => by
    obtain ⟨⟨old, he⟩, ⟨o, ho, hc, hd⟩, _⟩ := st
    have e' : b = e ∨ b = it := by simpa using hb
    rcases e' with z | z
    · rw [z]; exact ⟨_, he, fun v q => nomatch q⟩
    · rw [z]; exact ⟨o, ho, fun v q => by rw [hd] at q; cases q⟩
  keep := fun i h h' st k => let ⟨⟨old, he⟩, hi, hne⟩ := st; ⟨⟨old, k e (by simp) _ he⟩, hi.at fun o q => k it (by simp) o q, hne⟩
  item := by
    intro X hP hw hK hc i pins s σ H E I hf st hg
    subst hP hw hK
    obtain ⟨⟨old, he⟩, hit, hne⟩ := st
    obtain ⟨xs, x, hq, hx⟩ := hg
    obtain ⟨its, rv, p, hz⟩ := I.tuple hq
    obtain ⟨u, hu, ru⟩ := rv.get hx
    have hel : e < s.heap.objs.size := Heap.lt_size he
    have hil : it < s.heap.objs.size := by obtain ⟨_, q, _⟩ := hit; exact Heap.lt_size q
    have hea : e ≠ a := by
      rintro rfl
      obtain ⟨o, q1, q2, _⟩ := p
      rw [he] at q1; cases q1; injection q2 with z; exact absurd z (by decide)
    have hia : a ≠ it := by
      rintro rfl
      obtain ⟨o, q1, q2, _⟩ := p
      obtain ⟨o', q3, q4, _⟩ := hit
      rw [q3] at q1; cases q1; rw [q4] at q2; injection q2 with z; exact absurd z (by decide)
    have hlt : i < its.toArray.size := by
      have := (List.getElem?_eq_some_iff.mp hu).1
      simpa using this
    refine wpAny_pyNext_enum_itemD (Draws.tuple (show X.A.in1.handled = none from I.ok.hd hc) it a hia its.toArray) he ⟨hit, p⟩ hlt hne (by simp [hne, hea]) fun x' h' tk hP ho hs' hT hsz hk => ?_
    have ex : x' = u := by
      have : its.toArray[i]? = some u := by simpa using hu
      rw [hP] at this; exact Option.some.inj this
    subst ex
    have hit' := hs'.1
    refine ⟨_, rfl, wpAny_letOwnedTupleGo_enum (s := { s with heap := h', toks := tk + 1 }) ho fun h'' he' sb => ?_⟩
    have hT2 : h''.get? s.heap.objs.size = some { cls := .type "tuple", data := .seq #[.int i tk, x'] } := (sb.2 _ (Nat.ne_of_gt hel)).trans hT
    have new : ObjOk X.prog X.w (upd H s.heap.objs.size (.tup [.int (i : Nat), x])) h'' s.heap.objs.size (.tup [.int (i : Nat), x]) :=
      ⟨by show 2 ≤ sizeLine; decide, [.int i tk, x'], .cons ⟨_, rfl⟩ (.cons ru .nil), ⟨_, hT2, rfl, _, rfl⟩⟩
    have I1 : Inv X pins σ (upd H s.heap.objs.size (.tup [.int (i : Nat), x])) { s with heap := h'', toks := tk + 1 } :=
      I.turnedNew (ch := [e, it]) (fun b ob hb q => (sb.2 b (fun z => hb (by simp [z]))).trans (hk b ob (fun z => hb (by simp [z])) (fun z => hb (by simp [z])) q)) hf (Nat.le_refl _) new
    refine ⟨.ref s.heap.objs.size, _, I1, rfl, ⟨_, x, rfl, I.hok.fresh (Nat.le_refl _), rfl, fun ys hy => by rw [I.tuple_inj hy hq]; exact hx⟩, ⟨⟨x', ?_⟩, hit'.at fun o q => (sb.2 it (Ne.symm hne)).trans q, hne⟩, fun b hb => ?_⟩
    · have e1 : ((i + 1 : Nat) : Int) = (i : Int) + 1 := by omega
      rw [e1]; exact he'
    · have hb' : b < s.heap.objs.size := by
        have e' : b = e ∨ b = it := by simpa using hb
        rcases e' with z | z
        · rw [z]; exact hel
        · rw [z]; exact hil
      rw [upd_ne (Nat.ne_of_lt hb')]
      exact (hf b hb).1
  done := by
    intro X hP hw hK hc i pins s σ H E I hf st hg
    subst hP hw hK
    obtain ⟨⟨old, he⟩, hit, hne⟩ := st
    obtain ⟨xs, hq, hx⟩ := hg
    obtain ⟨its, rv, p, hz⟩ := I.tuple hq
    obtain ⟨f0, f1, f2, f3, f4, f5⟩ := hf it (by simp)
    have hl := rv.length
    exact enum_stopT (I.ok.hd hc) he hit p (by simp; omega) fun h' eb => ⟨rfl, I.turned (t' := s.toks) (fun b o hb q => eb b o hb q) f0 f1 f3 f4 f5⟩
  self := fun A i s Q E st h => let ⟨⟨_, he⟩, _⟩ := st; wpAny_pyIter_enum he h
/-- enumerate, over a list or a tuple -/
def iEnumA (K : PySem.W.Frag) (ta : TA) : TI := fun σ H R => ta σ H fun vs H1 => ∃ a xs, vs = [.ref a] ∧ ((SqL K H1 a xs ∧ R (Ite K a) H1) ∨ (SqT K H1 a xs ∧ R (IteT K a) H1))
theorem pi_enumA {X : Cx} {e : Expr} {ta : TA} {p pos tpos : Pos} {elts : List Expr} {kk : Nat} (hg : Gl X "enumerate") (hm : X.mg "enumerate" = none) (ha : PA X [e] ta) (hs : starEach [e] X.env = [(false, eval e X.env)] := by rfl) :
    PI X (.Tuple elts kk tpos) (.Call (.Name "enumerate" p) [e] [] pos) (iEnumA X.K ta) := by
  refine ⟨fun pn s σ H R J h => ?_⟩
  refine Call_ (ld_blt J hg hm boot_enumerate (PyProof.Rows.callWith_type1 (thn (ha.run pos pn s σ H _ J h) fun us s1 ⟨vs, H1, J1, r1, a, xs, ex, q1⟩ => ?_) hs rfl))
  subst ex
  cases r1 with
  | cons r rr =>
    cases rr
    cases r
    have two : ∀ b, b ∈ [s1.heap.objs.size + 1, s1.heap.objs.size] → FpOk X pn H1 b := fun b hb => by
      have hle : s1.heap.objs.size ≤ b := by
        simp only [List.mem_cons, List.not_mem_nil, or_false] at hb
        omega
      exact J1.fpOk hle (J1.hok.fresh hle)
    rcases q1 with ⟨hq, q⟩ | ⟨hq, q⟩
    · obtain ⟨its, rv, pl, _⟩ := J1.list hq
      refine call_enumerate_list pl.isList fun h' he hit _ hk => wpAny_pyIter_enum he ?_
      have J2 : Inv X pn σ H1 { s1 with heap := h' } := J1.kept (t' := s1.toks) hk
      exact ⟨s1.heap.objs.size + 1, [s1.heap.objs.size + 1, s1.heap.objs.size], _, _, H1, rfl, J2, turn_enum a (s1.heap.objs.size + 1) s1.heap.objs.size, ⟨⟨.none, he⟩, hit, Nat.succ_ne_self _⟩, two, q⟩
    · obtain ⟨its, rv, pl, _⟩ := J1.tuple hq
      refine enum1_begins (begins_tuple a its.toArray) pl fun h' he hit _ hk => wpAny_pyIter_enum he ?_
      have J2 : Inv X pn σ H1 { s1 with heap := h' } := J1.kept (t' := s1.toks) hk
      exact ⟨s1.heap.objs.size + 1, [s1.heap.objs.size + 1, s1.heap.objs.size], _, _, H1, rfl, J2, turn_enumT a (s1.heap.objs.size + 1) s1.heap.objs.size, ⟨⟨.none, he⟩, ⟨_, hit, rfl, rfl⟩, Nat.succ_ne_self _⟩, two, q⟩
theorem pair_at {xs ys : List D} {i : Nat} : pairAt xs ys i = none → xs.length ≤ i ∨ ys.length ≤ i := fun h => by
  unfold pairAt at h
  cases hx : xs[i]? with
  | none => exact .inl (List.getElem?_eq_none_iff.mp hx)
  | some x =>
    cases hy : ys[i]? with
    | none => exact .inr (List.getElem?_eq_none_iff.mp hy)
    | some y => rw [hx, hy] at h; cases h
theorem pair_some {xs ys : List D} {i : Nat} {z : D} (h : pairAt xs ys i = some z) : ∃ x y, xs[i]? = some x ∧ ys[i]? = some y ∧ z = .pr x y := by
  unfold pairAt at h
  cases hx : xs[i]? with
  | none => rw [hx] at h; cases h
  | some x =>
    cases hy : ys[i]? with
    | none => rw [hx, hy] at h; cases h
    | some y => rw [hx, hy] at h; cases h; exact ⟨x, y, rfl, rfl, rfl⟩
section
variable [Tb]
variable {X : Cx} {W : WX} {e e2 : Expr} {f : AF} {p pos tpos : Pos} {elts : List Expr} {kk : Nat}
def xEnum (f : AF) : XF := fun ρ S => (f ρ S).bind fun ds S1 => match ds with
  | [d] => match seqOf S1 d with
    | some _ => .ok (.enm d) S1
    | none => .no
  | _ => .no
def xZip (f : AF) : XF := fun ρ S => (f ρ S).bind fun ds S1 => match ds with
  | [.tup xs, .tup ys] => .ok (.zip (.tup xs) (.tup ys)) S1
  | [d, e] => match lstOf S1 d, lstOf S1 e with
    | some _, some _ => .ok (.zip d e) S1
    | _, _ => .no
  | _ => .no
/-- a new pair -/
theorem pair_new {K : PySem.W.Frag} {j : Pl} {H : Hp} {S : Sto} {x y : D} {vx vy : V} {T : Addr} (s : SR K j H S) (hT : H T = none) (rx : RV K j H x vx) (ry : RV K j H y vy) :
    Ext j H j (upd H T (.tup [vx, vy])) ∧ SR K j (upd H T (.tup [vx, vy])) S ∧ RV K j (upd H T (.tup [vx, vy])) (.pr x y) (.ref T) :=
  ⟨ext_new hT, s.new hT, .pr (.inl (.inl upd_same)) (rx.mono (ext_new hT)) (ry.mono (ext_new hT))⟩
theorem yl_enmL {K : PySem.W.Frag} {j : Pl} {H : Hp} {d : D} {a : Addr} (r : RV K j H d (.ref a)) (hd : ∀ xs, d ≠ .tup xs) : Yl K j H (Ite K a) (.enm d) := by
  intro i j2 H2 S2 e s
  have hsq : seqOf S2 d = lstOf S2 d := by cases d <;> first | rfl | exact absurd rfl (hd _)
  cases h : lstOf S2 d with
  | none => rw [show (Src.enm d).at' S2 i = none by simp only [Src.at', hsq, h, Option.map]]; trivial
  | some xs =>
    rw [show (Src.enm d).at' S2 i = some ((xs[i]?).map fun x => .pr (.int (i : Nat)) x) by simp only [Src.at', hsq, h, Option.map]]
    obtain ⟨b, vs, eb, hq, rs⟩ := lst_of s (r.mon e) h
    cases eb
    cases hx : xs[i]? with
    | none => exact ⟨vs, hq, by rw [← rs.length]; exact List.getElem?_eq_none_iff.mp hx⟩
    | some x =>
      obtain ⟨v, hv, rv⟩ := rs.get hx
      refine ⟨⟨vs, v, hq, hv⟩, fun v' H3 ⟨T, y, e1, e2, e3, hy⟩ => ?_⟩
      subst e1; subst e3
      have := hy vs hq
      rw [hv] at this
      cases this
      exact pair_new s e2 (.int _) rv
theorem yl_enmT {K : PySem.W.Frag} {j : Pl} {H : Hp} {ds : List D} {a : Addr} {vs : List V} (hq : SqT K H a vs) (rs : RVs K j H ds vs) : Yl K j H (IteT K a) (.enm (.tup ds)) := by
  intro i j2 H2 S2 e s
  have hq2 := e.sqt hq
  rw [show (Src.enm (.tup ds)).at' S2 i = some ((ds[i]?).map fun x => .pr (.int (i : Nat)) x) from rfl]
  cases hx : ds[i]? with
  | none => exact ⟨vs, hq2, by rw [← rs.length]; exact List.getElem?_eq_none_iff.mp hx⟩
  | some x =>
    obtain ⟨v, hv, rv⟩ := rs.get hx
    refine ⟨⟨vs, v, hq2, hv⟩, fun v' H3 ⟨T, y, e1, e2, e3, hy⟩ => ?_⟩
    subst e1; subst e3
    have := hy vs hq2
    rw [hv] at this
    cases this
    exact pair_new s e2 (.int _) (rv.mon e)
theorem ei_enum (hm : X.mg "enumerate" = none) (hg : Gl X "enumerate") (ha : EA X W [e] f) (hs : starEach [e] X.env = [(false, eval e X.env)] := by rfl) : EI X W (.Tuple elts kk tpos) (.Call (.Name "enumerate" p) [e] [] pos) (xEnum f) :=
  pi_imp (pi_enumA hg hm ha hs) fun σ H R ⟨j, ρ, S, hs, hr, q⟩ => by
    refine ⟨j, ρ, S, hs, hr, OKi.bind q fun j1 H1 d v S1 e1 s1 r1 q1 => ?_⟩
    match d, v, r1, q1 with
    | [d], _, .cons r .nil, q1 =>
      simp only at q1
      cases hq : seqOf S1 d with
      | none => rw [hq] at q1; exact q1.elim
      | some xs =>
        rw [hq] at q1
        by_cases ht : ∃ xs, d = .tup xs
        · obtain ⟨ys, rfl⟩ := ht
          cases r with
          | tup h r => exact ⟨_, _, rfl, .inr ⟨h.sq, q1 j1 H1 _ (.refl _ _) s1 (yl_enmT h.sq r)⟩⟩
        · have hd : ∀ xs, d ≠ .tup xs := fun xs z => ht ⟨xs, z⟩
          have hl : lstOf S1 d = some xs := by rw [← hq]; cases d <;> first | rfl | exact absurd rfl (hd _)
          obtain ⟨a, vs, rfl, h, _⟩ := lst_of s1 r hl
          exact ⟨a, vs, rfl, .inl ⟨h, q1 j1 H1 _ (.refl _ _) s1 (yl_enmL r hd)⟩⟩
theorem yl_zipT {K : PySem.W.Frag} {j : Pl} {H : Hp} {ds es : List D} {a b : Addr} {vs us : List V} (hq : SqT K H a vs) (rs : RVs K j H ds vs) (hq' : SqT K H b us) (rs' : RVs K j H es us) : Yl K j H (RZ.ItzT K a b) (.zip (.tup ds) (.tup es)) := by
  intro i j2 H2 S2 e s
  have hq2 := e.sqt hq
  have hq2' := e.sqt hq'
  rw [show (Src.zip (.tup ds) (.tup es)).at' S2 i = some (pairAt ds es i) from rfl]
  cases hx : pairAt ds es i with
  | none => exact ⟨vs, us, hq2, hq2', by rw [← rs.length, ← rs'.length]; exact pair_at hx⟩
  | some z =>
    obtain ⟨x, y, h1, h2, rfl⟩ := pair_some hx
    obtain ⟨v, hv, rv⟩ := rs.get h1
    obtain ⟨u, hu, ru⟩ := rs'.get h2
    refine ⟨⟨vs, us, v, u, hq2, hq2', hv, hu⟩, fun v' H3 ⟨T, p, q, e1, e2, e3, hp, hq⟩ => ?_⟩
    subst e1; subst e3
    have c1 := hp vs hq2
    have c2 := hq us hq2'
    rw [hv] at c1; rw [hu] at c2
    cases c1; cases c2
    exact pair_new s e2 (rv.mon e) (ru.mon e)
theorem yl_zipL {K : PySem.W.Frag} {j : Pl} {H : Hp} {d e' : D} {a b : Addr} (r : RV K j H d (.ref a)) (r' : RV K j H e' (.ref b)) (hd : ∀ xs, d ≠ .tup xs) (he : ∀ xs, e' ≠ .tup xs) : Yl K j H (Itz K a b) (.zip d e') := by
  intro i j2 H2 S2 e s
  have s1 : seqOf S2 d = lstOf S2 d := by cases d <;> first | rfl | exact absurd rfl (hd _)
  have s2 : seqOf S2 e' = lstOf S2 e' := by cases e' <;> first | rfl | exact absurd rfl (he _)
  cases h : lstOf S2 d with
  | none => rw [show (Src.zip d e').at' S2 i = none by simp only [Src.at', s1, h]]; trivial
  | some xs =>
    cases h' : lstOf S2 e' with
    | none => rw [show (Src.zip d e').at' S2 i = none by simp only [Src.at', s1, s2, h, h']]; trivial
    | some ys =>
      rw [show (Src.zip d e').at' S2 i = some (pairAt xs ys i) by simp only [Src.at', s1, s2, h, h']]
      obtain ⟨_, vs, eb, hq, rs⟩ := lst_of s (r.mon e) h
      cases eb
      obtain ⟨_, us, eb, hq', rs'⟩ := lst_of s (r'.mon e) h'
      cases eb
      cases hx : pairAt xs ys i with
      | none => exact ⟨vs, us, hq, hq', by rw [← rs.length, ← rs'.length]; exact pair_at hx⟩
      | some z =>
        obtain ⟨x, y, h1, h2, rfl⟩ := pair_some hx
        obtain ⟨v, hv, rv⟩ := rs.get h1
        obtain ⟨u, hu, ru⟩ := rs'.get h2
        refine ⟨⟨vs, us, v, u, hq, hq', hv, hu⟩, fun v' H3 ⟨T, p, q, e1, e2, e3, hp, hqq⟩ => ?_⟩
        subst e1; subst e3
        have c1 := hp vs hq
        have c2 := hqq us hq'
        rw [hv] at c1; rw [hu] at c2
        cases c1; cases c2
        exact pair_new s e2 rv ru
theorem ei_zip (hm : X.mg "zip" = none) (hg : Gl X "zip") (ha : EA X W [e, e2] f) (hs : starEach [e, e2] X.env = (false, eval e X.env) :: starEach [e2] X.env := by rfl) (hpl : (backTo pos (starEach [e2] X.env)).any (·.1) = false := by rfl) :
    EI X W (.Tuple elts kk tpos) (.Call (.Name "zip" p) [e, e2] [] pos) (xZip f) :=
  pi_imp (RZ.pi_zipA hg hm ha hs hpl) fun σ H R ⟨j, ρ, S, hs, hr, q⟩ => by
    refine ⟨j, ρ, S, hs, hr, OKi.bind q fun j1 H1 d v S1 e1 s1 r1 q1 => ?_⟩
    match d, v, r1, q1 with
    | [d, d'], _, .cons r (.cons r' .nil), q1 =>
      by_cases ht : (∃ xs, d = .tup xs) ∧ ∃ ys, d' = .tup ys
      · obtain ⟨⟨xs, rfl⟩, ys, rfl⟩ := ht
        cases r with
        | tup h r => cases r' with
          | tup h' r' => exact ⟨_, _, _, _, rfl, .inr ⟨h.sq, h'.sq, q1 j1 H1 _ (.refl _ _) s1 (yl_zipT h.sq r h'.sq r')⟩⟩
      · have q2 : ∃ xs ys, lstOf S1 d = some xs ∧ lstOf S1 d' = some ys ∧ OKi X.K j1 H1 W σ R (.ok (.zip d d') S1) := by
          clear r r'
          cases d <;> cases d' <;> first
            | exact absurd ⟨⟨_, rfl⟩, _, rfl⟩ ht
            | (dsimp only at q1
               split at q1
               · rename_i h1 h2
                 exact ⟨_, _, h1, h2, q1⟩
               · exact q1.elim)
        obtain ⟨xs, ys, h1, h2, q3⟩ := q2
        obtain ⟨a, vs, rfl, g1, _⟩ := lst_of s1 r h1
        obtain ⟨b, us, rfl, g2, _⟩ := lst_of s1 r' h2
        refine ⟨a, b, vs, us, rfl, .inl ⟨g1, g2, q3 j1 H1 _ (.refl _ _) s1 (yl_zipL r r' (fun xs z => ?_) fun xs z => ?_)⟩⟩
        · subst z; cases h1
        · subst z; cases h2
    | [], _, _, q1 => exact q1.elim
    | [d], _, rr, q1 => clear rr; cases d <;> exact q1.elim
    | d :: d' :: _ :: _, _, rr, q1 => clear rr; cases d <;> first | exact q1.elim | (cases d' <;> exact q1.elim)
end
end DL

set_option Elab.async false
set_option linter.all false
set_option maxRecDepth 100000
set_option maxHeartbeats 1000000
/-! zip of three tuples -/
namespace DL
open PySem PySem.Spec PyProof.Rows L2
/-- three tuples, the items in new plain tuples -/
def Itz3 (K : PySem.W.Frag) (a b c : Addr) (xs ys zs : List V) : It :=
  ⟨fun i H => SqT K H a xs ∧ SqT K H b ys ∧ SqT K H c zs ∧ ∃ x y z, xs[i]? = some x ∧ ys[i]? = some y ∧ zs[i]? = some z,
    fun i H v H' => ∃ (T : Addr) (o : Obj) (x y z : V), v = .ref T ∧ H T = none ∧ TuO o ∧ H' = upd H T (.frz o (.tup [x, y, z])) ∧ xs[i]? = some x ∧ ys[i]? = some y ∧ zs[i]? = some z,
    fun i H => SqT K H a xs ∧ SqT K H b ys ∧ SqT K H c zs ∧ (xs.length ≤ i ∨ ys.length ≤ i ∨ zs.length ≤ i)⟩
theorem z3_ne {x y : Nat} (h : ¬ x = y) : @Ne Addr x y := h
theorem z3_no {x i a : Nat} (h1 : ¬ x = i) (h2 : ¬ x = a) : ¬ (@Membership.mem Addr (List Addr) _ [i, a] x) := fun q => by
  rcases List.mem_cons.mp q with q | q
  · exact h1 q
  · exact h2 (List.mem_singleton.mp q)
theorem z3_sep (I a b c : Nat) (h1 : a < I) (h2 : b < I) (h3 : c < I) : ZipSep3 (I + 5) (I + 3) (I + 4) I (I + 1) (I + 2) [I, a] [I + 1, b] [I + 2, c] := by
  constructor <;> first
    | exact List.mem_cons_self
    | (refine z3_ne ?_; omega)
    | (refine z3_no ?_ ?_ <;> omega)
abbrev St3 (z TI TO i1 i2 i3 a b c : Addr) (xs ys zs : List V) (i : Nat) (h : Heap) : Prop :=
  IsZip h z TI TO .none ∧ IsTupOf3 h TI (.ref i1) (.ref i2) (.ref i3) ∧ (∃ x y w, IsTupOf3 h TO x y w) ∧ (h.IsTupleIter i1 a i ∧ h.IsTupleIter i2 b i ∧ h.IsTupleIter i3 c i) ∧ i ≤ xs.length ∧ i ≤ ys.length ∧ i ≤ zs.length
theorem turn_zip3 {P : Program} {w : World} {K : PySem.W.Frag} {elts : List Expr} {kk : Nat} {tpos : Pos} {a b c z TI TO i1 i2 i3 : Addr} {xs ys zs : List V} (D : ZipSep3 z TI TO i1 i2 i3 [i1, a] [i2, b] [i3, c]) (na : a ≠ i1) (nb : b ≠ i2) (nc : c ≠ i3) :
    Turn P w K (.Tuple elts kk tpos) (Itz3 K a b c xs ys zs) [z, TI, TO, i1, i2, i3] z (St3 z TI TO i1 i2 i3 a b c xs ys zs) where
  mem := by simp
  obj := fun i h st e he => by
    obtain ⟨hz, hTI, ⟨x, y, v, hTO⟩, ⟨⟨o1, e1, _, d1⟩, ⟨o2, e2, _, d2⟩, ⟨o3, e3, _, d3⟩⟩, _⟩ := st
    have e' : e = z ∨ e = TI ∨ e = TO ∨ e = i1 ∨ e = i2 ∨ e = i3 := by simpa using he
    rcases e' with q | q | q | q | q | q
    · rw [q]; exact ⟨_, hz, fun v q => nomatch q⟩
    · rw [q]; exact ⟨_, hTI, fun v q => nomatch q⟩
    · rw [q]; exact ⟨_, hTO, fun v q => nomatch q⟩
    · rw [q]; exact ⟨o1, e1, fun v q => by rw [d1] at q; cases q⟩
    · rw [q]; exact ⟨o2, e2, fun v q => by rw [d2] at q; cases q⟩
    · rw [q]; exact ⟨o3, e3, fun v q => by rw [d3] at q; cases q⟩
  keep := fun i h h' st k => by
    obtain ⟨hz, hTI, ⟨x, y, v, hTO⟩, ⟨h1, h2, h3⟩, l⟩ := st
    exact ⟨k z (by simp) _ hz, k TI (by simp) _ hTI, ⟨x, y, v, k TO (by simp) _ hTO⟩, ⟨h1.at fun o q => k i1 (by simp) o q, h2.at fun o q => k i2 (by simp) o q, h3.at fun o q => k i3 (by simp) o q⟩, l⟩
  item := by
    intro X hP hw hK hc i pins s σ H E I hf st hg
    subst hP hw hK
    obtain ⟨hz, hTI, ⟨x0, y0, w0, hTO⟩, ⟨h1, h2, h3⟩, l1, l2, l3⟩ := st
    obtain ⟨hqx, hqy, hqw, x, y, v, hx, hy, hv⟩ := hg
    obtain ⟨its, rv, p, _⟩ := I.tuple hqx
    obtain ⟨its2, rv2, p2, _⟩ := I.tuple hqy
    obtain ⟨its3, rv3, p3, _⟩ := I.tuple hqw
    obtain ⟨u, hu, ru⟩ := rv.get hx
    obtain ⟨u2, hu2, ru2⟩ := rv2.get hy
    obtain ⟨u3, hu3, ru3⟩ := rv3.get hv
    have hh : X.A.in1.handled = none := (I.ok.hd hc)
    have hzl : z < s.heap.objs.size := Heap.lt_size hz
    have e1 : i < its.toArray.size := by rw [List.size_toArray]; exact (List.getElem?_eq_some_iff.mp hu).1
    have e2 : i < its2.toArray.size := by rw [List.size_toArray]; exact (List.getElem?_eq_some_iff.mp hu2).1
    have e3 : i < its3.toArray.size := by rw [List.size_toArray]; exact (List.getElem?_eq_some_iff.mp hu3).1
    refine wpAny_pyNext_zipD3_item D (Draws.tuple hh i1 a na its.toArray) (Draws.tuple hh i2 b nb its2.toArray) (Draws.tuple hh i3 c nc its3.toArray) hz hTI hTO ⟨h1, p⟩ ⟨h2, p2⟩ ⟨h3, p3⟩ e1 e2 e3
      fun x1 x2 x3 h' tk q1 q2 q3 z' TO' h1' h2' h3' hT hsz hk => ?_
    have q1' : x1 = u := by
      have : its.toArray[i]? = some x1 := q1
      rw [show its.toArray[i]? = its[i]? by simp, hu] at this; cases this; rfl
    have q2' : x2 = u2 := by
      have : its2.toArray[i]? = some x2 := q2
      rw [show its2.toArray[i]? = its2[i]? by simp, hu2] at this; cases this; rfl
    have q3' : x3 = u3 := by
      have : its3.toArray[i]? = some x3 := q3
      rw [show its3.toArray[i]? = its3[i]? by simp, hu3] at this; cases this; rfl
    subst q1' q2' q3'
    refine ⟨_, rfl, wpAny_letOwnedTupleGo_zip (s := { s with heap := h', toks := tk }) z' fun h'' z'' sb => ?_⟩
    have hT2 : h''.get? s.heap.objs.size = some { cls := .type "tuple", data := .seq #[x1, x2, x3] } := (sb.2 _ (Nat.ne_of_gt hzl)).trans hT
    have new : ObjOk X.prog X.w (upd H s.heap.objs.size (.frz { cls := .type "tuple", data := .seq #[x1, x2, x3] } (.tup [x, y, v]))) h'' s.heap.objs.size (.frz { cls := .type "tuple", data := .seq #[x1, x2, x3] } (.tup [x, y, v])) :=
      ⟨hT2, (by show 3 ≤ sizeLine; decide), [x1, x2, x3], .cons ru (.cons ru2 (.cons ru3 .nil)), ⟨_, hT2, rfl, _, rfl⟩⟩
    have I1 : Inv X pins σ (upd H s.heap.objs.size (.frz { cls := .type "tuple", data := .seq #[x1, x2, x3] } (.tup [x, y, v]))) { s with heap := h'', toks := tk } :=
      I.turnedNew (t' := tk) (ch := [z, TI, TO, i1, i2, i3]) (fun e o hb q => (sb.2 e (fun q' => hb (by simp [q']))).trans (hk e o (fun q' => hb (by simp [q'])) (fun q' => hb (by simp [q'])) (fun q' => hb (by simp [q'])) (fun q' => hb (by simp [q'])) (fun q' => hb (by simp [q'])) q)) hf (Nat.le_refl _) new
    refine ⟨.ref s.heap.objs.size, _, I1, rfl, ⟨_, _, x, y, v, rfl, I.hok.fresh (Nat.le_refl _), tuo_new _, rfl, hx, hy, hv⟩, ⟨z'', ?_, ⟨x1, x2, x3, ?_⟩, ⟨?_, ?_, ?_⟩, ?_, ?_, ?_⟩, fun e hcm => ?_⟩
    · exact (sb.2 _ D.TIz).trans (hk _ _ D.TIz D.TITO D.TIi1 D.TIi2 D.TIi3 hTI)
    · exact (sb.2 _ D.TOz).trans TO'
    · exact h1'.1.at fun o q => (sb.2 _ D.zi1.symm).trans q
    · exact h2'.1.at fun o q => (sb.2 _ D.zi2.symm).trans q
    · exact h3'.1.at fun o q => (sb.2 _ D.zi3.symm).trans q
    · exact (List.getElem?_eq_some_iff.mp hx).1
    · exact (List.getElem?_eq_some_iff.mp hy).1
    · exact (List.getElem?_eq_some_iff.mp hv).1
    · have hlt : e < s.heap.objs.size := by
        have e' : e = z ∨ e = TI ∨ e = TO ∨ e = i1 ∨ e = i2 ∨ e = i3 := by simpa using hcm
        rcases e' with q | q | q | q | q | q
        · rw [q]; exact hzl
        · rw [q]; exact Heap.lt_size hTI
        · rw [q]; exact Heap.lt_size hTO
        · rw [q]; obtain ⟨_, e1, _⟩ := h1; exact Heap.lt_size e1
        · rw [q]; obtain ⟨_, e2, _⟩ := h2; exact Heap.lt_size e2
        · rw [q]; obtain ⟨_, e3, _⟩ := h3; exact Heap.lt_size e3
      rw [upd_ne (Nat.ne_of_lt hlt)]
      exact (hf e hcm).1
  done := by
    intro X hP hw hK hc i pins s σ H E I hf st hg
    subst hP hw hK
    obtain ⟨hz, hTI, ⟨x0, y0, w0, hTO⟩, ⟨h1, h2, h3⟩, l1, l2, l3⟩ := st
    obtain ⟨hqx, hqy, hqw, hend⟩ := hg
    obtain ⟨its, rv, p, _⟩ := I.tuple hqx
    obtain ⟨its2, rv2, p2, _⟩ := I.tuple hqy
    obtain ⟨its3, rv3, p3, _⟩ := I.tuple hqw
    have hh : X.A.in1.handled = none := (I.ok.hd hc)
    have m1 : its.toArray.size = xs.length := by rw [List.size_toArray]; exact rv.length.symm
    have m2 : its2.toArray.size = ys.length := by rw [List.size_toArray]; exact rv2.length.symm
    have m3 : its3.toArray.size = zs.length := by rw [List.size_toArray]; exact rv3.length.symm
    exact wpAny_pyNext_zipD3_end D (Draws.tuple hh i1 a na its.toArray) (Draws.tuple hh i2 b nb its2.toArray) (Draws.tuple hh i3 c nc its3.toArray) hz hTI hTO ⟨h1, p⟩ ⟨h2, p2⟩ ⟨h3, p3⟩
      (by omega) (by omega) (by omega) (by omega) fun h' tk hk => ⟨rfl, I.turnedL (t' := tk) (ch := [z, TI, TO, i1, i2, i3]) (fun e o hb q =>
      hk e o (fun q' => hb (by simp [q'])) (fun q' => hb (by simp [q'])) (fun q' => hb (by simp [q'])) (fun q' => hb (by simp [q'])) (fun q' => hb (by simp [q'])) q) hf⟩
  self := fun A i s Q E st h => wpAny_pyIter_zip st.1 h
def iZip3 (K : PySem.W.Frag) (ta : TA) : TI := fun σ H R => ta σ H fun vs H1 => ∃ a b c xs ys zs, vs = [.ref a, .ref b, .ref c] ∧ SqT K H1 a xs ∧ SqT K H1 b ys ∧ SqT K H1 c zs ∧ R (Itz3 K a b c xs ys zs) H1
theorem pi_zip3 {X : Cx} {e e2 e3 : Expr} {ta : TA} {p pos tpos : Pos} {elts : List Expr} {kk : Nat} (hg : Gl X "zip") (hm : X.mg "zip" = none) (ha : PA X [e, e2, e3] ta)
    (hs : starEach [e, e2, e3] X.env = (false, eval e X.env) :: starEach [e2, e3] X.env := by rfl) (hpl : (backTo pos (starEach [e2, e3] X.env)).any (·.1) = false := by rfl) :
    PI X (.Tuple elts kk tpos) (.Call (.Name "zip" p) [e, e2, e3] [] pos) (iZip3 X.K ta) := by
  refine ⟨fun pins s σ H R I h => ?_⟩
  refine Call_ (ld_blt I hg hm PyProof.Rows.boot_zip (PyProof.Rows.callWith_type1 (thn (ha.run pos pins s σ H _ I h) fun us s1 ⟨vs, H1, I1, r1, q1⟩ => ?_) hs hpl))
  obtain ⟨a, b, c, xs, ys, zs, ex, hqx, hqy, hqz, q⟩ := q1
  subst ex
  cases r1 with
  | cons r rr =>
   cases rr with
   | cons r' rr =>
    cases rr with
    | cons r'' rr =>
    cases rr
    cases r
    cases r'
    cases r''
    obtain ⟨its, rv, p1, _⟩ := I1.tuple hqx
    obtain ⟨its2, rv2, p2, _⟩ := I1.tuple hqy
    obtain ⟨its3, rv3, p3, _⟩ := I1.tuple hqz
    obtain ⟨o1, ho1, _⟩ := id p1
    obtain ⟨o2, ho2, _⟩ := id p2
    obtain ⟨o3, ho3, _⟩ := id p3
    have la := Heap.lt_size ho1
    have lb := Heap.lt_size ho2
    have lc := Heap.lt_size ho3
    refine zip_begins3 (begins_tuple a its.toArray) (begins_tuple b its2.toArray) (begins_tuple c its3.toArray) p1 p2 p3 fun h' hz hTI hTO g1 g2 g3 hsz hk => wpAny_pyIter_zip hz ?_
    have I2 : Inv X pins σ H1 { s1 with heap := h' } := I1.kept (t' := s1.toks) hk
    have fresh : ∀ e ∈ [s1.heap.objs.size + 5, s1.heap.objs.size + 3, s1.heap.objs.size + 4, s1.heap.objs.size, s1.heap.objs.size + 1, s1.heap.objs.size + 2], FpOk X pins H1 e := fun e hcm => by
      have hle : s1.heap.objs.size ≤ e := by
        have e' : e = s1.heap.objs.size + 5 ∨ e = s1.heap.objs.size + 3 ∨ e = s1.heap.objs.size + 4 ∨ e = s1.heap.objs.size ∨ e = s1.heap.objs.size + 1 ∨ e = s1.heap.objs.size + 2 := by simpa using hcm
        rcases e' with z | z | z | z | z | z
        · rw [z]; exact Nat.le_add_right _ _
        · rw [z]; exact Nat.le_add_right _ _
        · rw [z]; exact Nat.le_add_right _ _
        · rw [z]; exact Nat.le_refl _
        · rw [z]; exact Nat.le_add_right _ _
        · rw [z]; exact Nat.le_add_right _ _
      exact I1.fpOk hle (I1.hok.fresh hle)
    have sep := z3_sep s1.heap.objs.size a b c la lb lc
    have t1 : h'.IsTupleIter s1.heap.objs.size a 0 := ⟨_, g1, rfl, rfl⟩
    have t2 : h'.IsTupleIter (s1.heap.objs.size + 1) b 0 := ⟨_, g2, rfl, rfl⟩
    have t3 : h'.IsTupleIter (s1.heap.objs.size + 2) c 0 := ⟨_, g3, rfl, rfl⟩
    have st : St3 (s1.heap.objs.size + 5) (s1.heap.objs.size + 3) (s1.heap.objs.size + 4) s1.heap.objs.size (s1.heap.objs.size + 1) (s1.heap.objs.size + 2) a b c xs ys zs 0 h' :=
      ⟨hz, hTI, ⟨_, _, _, hTO⟩, ⟨t1, t2, t3⟩, Nat.zero_le _, Nat.zero_le _, Nat.zero_le _⟩
    have tr : Turn X.prog X.w X.K (.Tuple elts kk tpos) (Itz3 X.K a b c xs ys zs) _ _ _ := turn_zip3 sep (z3_ne (Nat.ne_of_lt la)) (z3_ne (Nat.ne_of_lt (Nat.lt_succ_of_lt lb))) (z3_ne (Nat.ne_of_lt (Nat.lt_succ_of_lt (Nat.lt_succ_of_lt lc))))
    exact ⟨s1.heap.objs.size + 5, _, _, _, H1, rfl, I2, tr, st, fresh, q⟩
def zip3 : List D → List D → List D → List D
  | x :: xs, y :: ys, z :: zs => .tup [x, y, z] :: zip3 xs ys zs
  | _, _, _ => []
theorem zip3_at : ∀ (xs ys zs : List D) (i : Nat), match (zip3 xs ys zs)[i]? with
    | some d => ∃ x y z, d = .tup [x, y, z] ∧ xs[i]? = some x ∧ ys[i]? = some y ∧ zs[i]? = some z
    | none => xs.length ≤ i ∨ ys.length ≤ i ∨ zs.length ≤ i
  | x :: xs, y :: ys, z :: zs, 0 => ⟨x, y, z, rfl, rfl, rfl, rfl⟩
  | x :: xs, y :: ys, z :: zs, i + 1 => by
    have h := zip3_at xs ys zs i
    show match (zip3 xs ys zs)[i]? with
      | some d => ∃ a b c, d = .tup [a, b, c] ∧ xs[i]? = some a ∧ ys[i]? = some b ∧ zs[i]? = some c
      | none => xs.length + 1 ≤ i + 1 ∨ ys.length + 1 ≤ i + 1 ∨ zs.length + 1 ≤ i + 1
    cases e : (zip3 xs ys zs)[i]? with
    | none => rw [e] at h; simp only at h ⊢; omega
    | some d => rw [e] at h; exact h
  | [], ys, zs, i => .inl (Nat.zero_le _)
  | _ :: _, [], zs, i => .inr (.inl (Nat.zero_le _))
  | _ :: _, _ :: _, [], i => .inr (.inr (Nat.zero_le _))
section
variable [Tb]
variable {X : Cx} {W : WX} {e e2 e3 : Expr} {f : AF} {p pos tpos : Pos} {elts : List Expr} {kk : Nat}
def xZip3 (f : AF) : XF := fun ρ S => (f ρ S).bind fun ds S1 => match ds with
  | [.tup xs, .tup ys, .tup zs] => .ok (.its (zip3 xs ys zs)) S1
  | _ => .no
theorem yl_zip3 {K : PySem.W.Frag} {j : Pl} {H : Hp} {ds es fs : List D} {a b c : Addr} {vs us ws : List V} (hq : SqT K H a vs) (rs : RVs K j H ds vs) (hq' : SqT K H b us) (rs' : RVs K j H es us) (hq3 : SqT K H c ws) (rs3 : RVs K j H fs ws) :
    Yl K j H (Itz3 K a b c vs us ws) (.its (zip3 ds es fs)) := by
  intro i j2 H2 S2 e s
  have h1 := e.sqt hq
  have h2 := e.sqt hq'
  have h3 := e.sqt hq3
  rw [show (Src.its (zip3 ds es fs)).at' S2 i = some (zip3 ds es fs)[i]? from rfl]
  have z := zip3_at ds es fs i
  cases hx : (zip3 ds es fs)[i]? with
  | none =>
    rw [hx] at z
    exact ⟨h1, h2, h3, by rw [← rs.length, ← rs'.length, ← rs3.length]; exact z⟩
  | some d =>
    rw [hx] at z
    obtain ⟨x, y, t, rfl, c1, c2, c3⟩ := z
    obtain ⟨v, hv, rv⟩ := rs.get c1
    obtain ⟨u, hu, ru⟩ := rs'.get c2
    obtain ⟨o, ho, ro⟩ := rs3.get c3
    refine ⟨⟨h1, h2, h3, v, u, o, hv, hu, ho⟩, fun v' H3 ⟨T, ob, p, q, r, e1, e2, e3, e4, hp, hq, hr⟩ => ?_⟩
    subst e1; subst e4
    rw [hv] at hp; rw [hu] at hq; rw [ho] at hr
    cases hp; cases hq; cases hr
    exact ⟨ext_new e2, s.new e2, .tup (sqp_new e3) (.cons ((rv.mon e).mono (ext_new e2)) (.cons ((ru.mon e).mono (ext_new e2)) (.cons ((ro.mon e).mono (ext_new e2)) .nil)))⟩
theorem ei_zip3 (hm : X.mg "zip" = none) (hg : Gl X "zip") (ha : EA X W [e, e2, e3] f) (hs : starEach [e, e2, e3] X.env = (false, eval e X.env) :: starEach [e2, e3] X.env := by rfl) (hpl : (backTo pos (starEach [e2, e3] X.env)).any (·.1) = false := by rfl) :
    EI X W (.Tuple elts kk tpos) (.Call (.Name "zip" p) [e, e2, e3] [] pos) (xZip3 f) :=
  pi_imp (pi_zip3 hg hm ha hs hpl) fun σ H R ⟨j, ρ, S, hs, hr, q⟩ => by
    refine ⟨j, ρ, S, hs, hr, OKi.bind q fun j1 H1 d v S1 e1 s1 r1 q1 => ?_⟩
    by_cases ht : ∃ xs ys zs, d = [.tup xs, .tup ys, .tup zs]
    · obtain ⟨xs, ys, zs, rfl⟩ := ht
      match v, r1 with
      | [_, _, _], .cons (.tup h r) (.cons (.tup h' r') (.cons (.tup h'' r'') .nil)) =>
        exact ⟨_, _, _, _, _, _, rfl, h.sq, h'.sq, h''.sq, q1 j1 H1 _ (.refl _ _) s1 (yl_zip3 h.sq r h'.sq r' h''.sq r'')⟩
    · exfalso
      clear r1
      revert q1
      split
      · exact fun _ => ht ⟨_, _, _, rfl⟩
      · exact fun q => q.elim
end
end DL

set_option Elab.async false
set_option linter.all false
set_option maxRecDepth 100000
set_option maxHeartbeats 2000000
namespace DL
open PySem PySem.Spec PyProof.Rows L2

/-! ### the law's end -/
/-- what the law's def is asked: it tells True of the script -/
theorem law_callG {P : Program} {w : World} {K : PySem.W.Frag} {mg mb : Str → Option Value} {k : Nat} {fa a : Addr} {cs : List (Addr × Addr)} {fd : FuncData} {x : Str} {sp : Sp} {s : Shared} {vs : List Value} {ns : List Int}
    (kin : K.In s.heap) (glo : s.heap.Ns mainGlobals mg) (blt : s.heap.Ns builtinsNs mb) (boot : ∀ x : Str, x ≠ "__name__" → mb x = bootBuiltins x) (lim : s.heap.NoLimit) (gens : s.gens = #[])
    (tabs : ∀ p ∈ cs, s.heap.get? p.2 = some { cls := .none, data := .fields #[] }) (notK : ∀ p ∈ cs, K.lookup p.2 = none) (cod : ∀ p ∈ cs, PySem.W.CodeHd s.heap p.1 p.2)
    (bmod : ∃ (bm : Addr) (ob : Obj), mg "__builtins__" = some (.ref bm) ∧ bm ≠ builtinsNs ∧ s.heap.get? bm = some ob ∧ ob.cls = .type "module" ∧ ob.dict = some builtinsNs ∧ ob.data = .plain)
    (scr : s.heap.get? a = some { cls := .type "list", data := .seq vs.toArray }) (isI : IntsAre vs ns) (short : ns.length ≤ sizeLine) (room : Room k callerA)
    (F : ∀ base : Heap, K.In base → base.Ns mainGlobals mg → (∀ p ∈ cs, LamX.TabB base mg p.1 p.2) → FnG P w K mg base k fa fd [x] sp) (bind : ∀ (s : Shared) (u : Value), BindsTo s fd ⟨[u], []⟩ [(x, u)])
    (say : ∀ H : Hp, (∀ b u, H b = some u → (b ∈ cs.map (·.2) ∧ u = .tbl #[]) ∨ ∃ o xs, u = .frz o (.lst xs)) → (∀ p ∈ cs, H p.2 = some (.tbl #[])) → SqL K H a (ns.map V.int) → sp [.ref a] H (fun v _ => v = .bl true) fun _ _ _ => False) :
    codeAny (model P w) callerA (.call (.ref fa) ⟨[.ref a], []⟩) (fun r s' => r = .ok (.ret (.bool true)) ∧ OldK s.heap s'.heap ∧ s'.os = s.os ∧ AllBare s'.gens) s := by
  have vals := vals_ints isI
  have same := isI.length
  have onT : ∀ b ∈ cs.map (·.2), s.heap.get? b = some { cls := .none, data := .fields #[] } := fun b hb => by
    obtain ⟨p, hp, rfl⟩ := List.mem_map.mp hb
    exact tabs p hp
  have inT : ∀ p ∈ cs, p.2 ∈ cs.map (·.2) := fun p hp => List.mem_map.mpr ⟨p, hp, rfl⟩
  have aNotT : a ∉ cs.map (·.2) := fun z => by
    have q := (onT a z).symm.trans scr
    have z2 : Data.fields #[] = Data.seq vs.toArray _ := congrArg Obj.data (Option.some.inj q)
    exact nomatch z2
  obtain ⟨H, hH⟩ : ∃ H : Hp, ∀ b, H b = if b = a ∧ K.lookup a = none then some (.frz { cls := .type "list", data := .seq vs.toArray } (.lst (ns.map V.int))) else if b ∈ cs.map (·.2) then some (.tbl #[]) else none := ⟨_, fun b => rfl⟩
  have tT : ∀ b ∈ cs.map (·.2), H b = some (.tbl #[]) := fun b hb => by
    rw [hH, if_neg (fun z => aNotT (by rw [← z.1]; exact hb)), if_pos hb]
  have what : ∀ b u, H b = some u → (b = a ∧ K.lookup a = none ∧ u = .frz { cls := .type "list", data := .seq vs.toArray } (.lst (ns.map V.int))) ∨ (b ∈ cs.map (·.2) ∧ u = .tbl #[]) := fun b u h => by
    rw [hH] at h
    split at h
    · rename_i z
      cases h
      exact .inl ⟨z.1, z.2, rfl⟩
    · split at h
      · rename_i z
        cases h
        exact .inr ⟨z, rfl⟩
      · cases h
  have seq : SqL K H a (ns.map V.int) := by
    cases hk : K.lookup a with
    | none => exact .inl (.inr ⟨_, by rw [hH, if_pos ⟨rfl, hk⟩]⟩)
    | some o =>
      have e := (kin a o hk).symm.trans scr
      cases e
      exact .inr ⟨_, vs.toArray, _, hk, rfl, rfl, rfl, by rw [List.size_toArray, same]; exact short, by simpa using vals⟩
  have hok : HOk P w H s.heap := fun b u h => by
    rcases what b u h with ⟨rfl, _, rfl⟩ | ⟨hb, rfl⟩
    · exact ⟨scr, by rw [List.length_map]; exact short, vs, _, vals, scr⟩
    · exact onT b hb
  have free : ∀ {b : Addr} {o : Obj}, s.heap.get? b = some o → (∀ v n, o.data ≠ .seq v n) → o.data ≠ .fields #[] → H b = none := fun {b o} e n1 n2 => by
    cases q : H b with
    | none => rfl
    | some u =>
      rcases what b u q with ⟨rfl, _, _⟩ | ⟨hb, _⟩
      · rw [scr] at e; cases e
        exact (n1 _ _ rfl).elim
      · rw [onT b hb] at e; cases e
        exact (n2 rfl).elim
  have keepB : ∀ {b : Addr} {o : Obj}, s.heap.get? b = some o → H b = none → (hidT s.heap H).get? b = some o := fun e n => hidT_get e n
  have keepNs : ∀ {b : Addr} {m : Str → Option Value}, s.heap.Ns b m → (hidT s.heap H).Ns b m := fun {b m} ⟨o, es, ep, e, d, r⟩ =>
    ⟨o, es, ep, keepB e (free e (fun _ _ z => by rw [d] at z; cases z) fun z => by rw [d] at z; cases z), d, r⟩
  have kinB : K.In (hidT s.heap H) := fun b o e => keepB (kin b o e) (by
    cases q : H b with
    | none => rfl
    | some u =>
      rcases what b u q with ⟨rfl, hk, _⟩ | ⟨hb, _⟩
      · rw [hk] at e; cases e
      · obtain ⟨p, hp, rfl⟩ := List.mem_map.mp hb
        rw [notK p hp] at e; cases e)
  have modB : L2.Mod K mg (hidT s.heap H) := ⟨kinB, keepNs glo, ⟨mb, keepNs blt, boot⟩, let ⟨mc, h1, h2⟩ := lim; ⟨mc, keepNs h1, h2⟩⟩
  have notNs : ∀ {b : Addr} {o : Obj}, s.heap.get? b = some o → (∀ es ep, o.data ≠ .dict es ep) → mainGlobals ≠ b := fun {b o} e n z => by
    obtain ⟨o', es, ep, e', d, _⟩ := glo
    rw [z, e] at e'; cases e'
    exact n es ep d
  have TB : ∀ p ∈ cs, LamX.TabB (hidT s.heap H) mg p.1 p.2 := fun p hp => by
    refine ⟨?_, ?_, notNs (tabs p hp) fun _ _ z => nomatch z⟩
    · obtain ⟨o, us, file, tf, flags, tg, inF, text, tt, e1, r1, r2, r3, r4⟩ := cod p hp
      exact ⟨o, us, file, tf, flags, tg, inF, text, tt, keepB e1 (free e1 (fun _ _ z => by rw [r2] at z; cases z) fun z => by rw [r2] at z; cases z; simp at r3), r1, r2, r3, r4⟩
    · obtain ⟨bm, ob, b1, b2, b3, b4, b5, b6⟩ := bmod
      refine ⟨bm, ob, b1, b2, fun z => notNs b3 (fun _ _ q => by rw [b6] at q; cases q) z.symm, fun z => ?_, keepB b3 (free b3 (fun _ _ z => by rw [b6] at z; cases z) fun z => by rw [b6] at z; cases z), b4, b5, b6⟩
      rw [z, tabs p hp] at b3
      cases b3
      cases b6
  have e0 : Env0 P w K mg (hidT s.heap H) callerA [] s H := ⟨rfl, modB, fun b o e => of_hidT e, Nat.le_of_eq (hidT_size _ _), trivial, fun b hb => absurd (show b ∈ ([] : List Addr) from hb) (by simp), hok, .of_eq gens⟩
  refine codeAny_mono ((F _ kinB (keepNs glo) TB).run callerA [] s H ⟨[.ref a], []⟩ [.ref a] [.ref a] _ _ room rfl e0 (bind s (.ref a)) (.cons rfl .nil) (say H (fun b u h => (what b u h).elim (fun z => .inr ⟨_, _, z.2.2⟩) fun z => .inl z) (fun p hp => tT _ (inT p hp)) seq)) fun r s' h => ?_
  match r, h with
  | .error e, ⟨_, _, _, _, _, _, _, _, _, _, _, _, z⟩ => exact z.elim
  | .ok (.ret u), ⟨v, H', os, bare, un, hok', rv, q⟩ =>
    have q : v = .bl true := q
    subst q
    obtain rfl : u = Value.bool true := rv
    have old : ∀ b o, b ∉ cs.map (·.2) → s.heap.get? b = some o → s'.heap.get? b = some o := fun b o nb e => by
      cases q : H b with
      | none => exact un.keep b o e q (fun z => absurd (show b ∈ ([] : List Addr) from z) (by simp)) (by simp)
      | some u =>
        rcases what b u q with ⟨rfl, _, rfl⟩ | ⟨hb, _⟩
        · rw [scr] at e; cases e
          exact (hok' _ _ (un.frzs _ _ _ q)).1
        · exact absurd hb nb
    have grow : ∀ p ∈ cs, ∃ more : Array Value, s'.heap.get? p.2 = some { cls := .none, data := .fields more } := fun p hp => by
      obtain ⟨more, z⟩ := un.tbls p.2 #[] (tT _ (inT p hp))
      exact ⟨_, hok' p.2 _ z⟩
    refine ⟨rfl, ⟨fun b o e => ?_, fun b o e => ?_⟩, os, bare⟩ <;> by_cases hb : b ∈ cs.map (·.2)
    · obtain ⟨p, hp, rfl⟩ := List.mem_map.mp hb
      obtain ⟨more, hm⟩ := grow p hp
      rw [tabs p hp] at e; cases e
      exact .inr (.inl ⟨((cod p hp).tab (tabs p hp)).isCodeTable, rfl, #[], more, rfl, by rw [Array.empty_append]; exact hm⟩)
    · exact .inl (old b o hb e)
    · obtain ⟨p, hp, rfl⟩ := List.mem_map.mp hb
      obtain ⟨more, hm⟩ := grow p hp
      exact ⟨_, hm⟩
    · exact ⟨o, old b o hb e⟩
end DL
namespace DL
open PySem PySem.Spec PyProof.Rows L2
/-- what is told of the law's def at the head's heap h: cs its lambda-making defs' code objects, tables and lambdas' names -/
def LawG (l : PySem.W.OpenLaw) (w : World) (k n : Nat) (x : Str) (mg : Str → Option Value) (fa : Addr) (h : Heap) : Prop :=
  ∃ (K : PySem.W.Frag) (fd : FuncData) (cs : List (Addr × Addr × Str)) (m : MF), K.In h ∧ (∀ p ∈ cs, h.get? p.2.1 = some { cls := .none, data := .fields #[] }) ∧ (∀ p ∈ cs, K.lookup p.2.1 = none) ∧ (∀ p ∈ cs, PySem.W.CodeHd h p.1 p.2.1) ∧
    (∀ (s : Shared) (u : Value), BindsTo s fd ⟨[u], []⟩ [(x, u)]) ∧ (∀ ns : List Int, ns.length ≤ n → ∃ S', m [.frl (ns.map D.int)] [] = .ok (.bl true) S') ∧
    ∀ base : Heap, K.In base → base.Ns mainGlobals mg → (∀ p ∈ cs, LamX.TabB base mg p.1 p.2.1) → FnG l.prog w K mg base k fa fd [x] (@spD ⟨cs.map (·.2)⟩ K 1 m)
theorem rvs_ints [Tb] {K : PySem.W.Frag} {j : Pl} {H : Hp} : ∀ ns : List Int, RVs K j H (ns.map D.int) (ns.map V.int)
  | [] => .nil
  | n :: ns => .cons (.int n) (rvs_ints ns)
theorem walk_ofG {l : PySem.W.OpenLaw} {n k : Nat} {q : Program} {loose : List Str} {XP : (Str → Option Value) → Heap → Prop} {YP : World → Heap → Prop} {d : DefRec} {x : Str} (hn : l.most = some n) (hn2 : n ≤ sizeLine) (hdf : d.params.defaults = []) (hr : Room k callerA)
    (F : ∀ (w : World) (mg : Str → Option Value) (fa : Addr) (h : Heap), YP w h → h.Ns mainGlobals mg → mg d.name = some (.ref fa) →
      (∀ (K : PySem.W.Frag) (x : Str) (e : DefRec) (c P : Addr), K.In h → (recsOf q).find? (fun e => e.name == x) = some e → PySem.W.tabIn K x = some (c, P) → PySem.W.CodeHd h c P ∧ h.get? P = some { cls := .none, data := .fields #[] }) → LawG l w k n x mg fa h) :
    PySem.W.WalkO q loose XP YP l.row.toRowW d [] (fun f vs => PySem.call f vs) := by
  refine Att.attach_callB hn hdf fun w s₀ s₁ mg mb fa o pm cd doc a vs ns G Y ho hd hcd hmg hobj hints hlen hbits hg => ?_
  obtain ⟨K, fd, cs, m, KX, hT, nT, C, hb, hm, hF⟩ := F w mg fa _ Y G.T.g hmg fun K x e c P X hr ht => PySem.W.tab_of G.T X hr ht
  letI : Tb := ⟨cs.map (·.2)⟩
  have mem : ∀ p ∈ cs.map fun p => (p.1, p.2.1), ∃ r ∈ cs, p = (r.1, r.2.1) := fun p hp => by
    obtain ⟨r, h1, h2⟩ := List.mem_map.mp hp
    exact ⟨r, h1, h2.symm⟩
  refine law_callG (cs := cs.map fun p => (p.1, p.2.1)) (sp := spD K 1 m) KX G.T.g G.T.b G.T.builtins G.T.nolimit hg (fun p hp => ?_) (fun p hp => ?_) (fun p hp => ?_) G.T.bmain hobj hints (Nat.le_trans hlen hn2) hr (fun base h1 h2 h3 => hF base h1 h2 fun p hp => h3 (p.1, p.2.1) (List.mem_map.mpr ⟨p, hp, rfl⟩)) hb fun H hO hH hS => ?_
  · obtain ⟨r, h1, rfl⟩ := mem p hp; exact hT r h1
  · obtain ⟨r, h1, rfl⟩ := mem p hp; exact nT r h1
  · obtain ⟨r, h1, rfl⟩ := mem p hp; exact C r h1
  · obtain ⟨S', e⟩ := hm ns hlen
    refine ⟨⟨[], []⟩, [], [.frl (ns.map D.int)], ⟨rfl, List.nodup_nil, fun i o a h _ => absurd h (by simp), fun a h => absurd h (by simp), fun a h => absurd h (by simp), fun p hp => ?_⟩, .cons (.frl (.of hS) (rvs_ints ns)) .nil, rfl, ?_⟩
    · obtain ⟨r, h1, rfl⟩ := List.mem_map.mp hp
      exact LamX.TabS.nil (hH (r.1, r.2.1) (List.mem_map.mpr ⟨r, h1, rfl⟩))
    · rw [e]
      intro j' H' v _ _ rv
      cases rv
      rfl
end DL
namespace DL
open PySem PySem.Spec PyProof.Rows L2
/-! ### facts of the head -/
structure DefK (K : PySem.W.Frag) (x : Str) (st : Stmt) (f : Addr) (fd : FuncData) : Prop where
  a : PySem.W.nsIn K mainGlobals x = some (some (.ref f))
  F : Fun K x x st f fd
/-- .. of a def that makes lambdas: its code object's table is at P -/
structure LamK (K : PySem.W.Frag) (x : Str) (fd : FuncData) (c P : Addr) : Prop where
  cd : fd.code = .ref c
  hd : PySem.W.codeHdIn K c P = true
  no : K.lookup P = none
def tabFld (o : Obj) : Option Value := match o.data with
  | .fields vs => vs[11]?
  | _ => none
theorem LamK.of {K : PySem.W.Frag} {x : Str} {fd : FuncData} {c P : Addr} {o : Obj} (cd : fd.code = .ref c) (_lk : K.lookup c = some o) (_vp : tabFld o = some (.ref P)) (hd : PySem.W.codeHdIn K c P = true) (no : K.lookup P = none) : LamK K x fd c P := ⟨cd, hd, no⟩
/-- .. of a class of errors at C, under D, whose __init__ is at f -/
structure ErrK (K : PySem.W.Frag) (x : Str) (D f C : Addr) : Prop where
  a : PySem.W.nsIn K mainGlobals x = some (some (.ref C))
  cls : ∃ nm q N bs bm sn sub ab col dd k0 k1 k2 k3 k5, K.lookup C = some (excClassObj nm q C N bs bm true sn sub ab col dd k0 k1 k2 k3 k5 "ValueError.__new__") ∧ PySem.HandSPX.refsVE bm = true
  sa : PySem.W.findIn K (.ref C) "__setattr__" = some (some (.builtin "object.__setattr__"))
  exC : PySem.W.subIn K (.ref C) (.type "BaseException") = some true
  tyC : PySem.W.typeIn K (.ref C) = some (.type "type")
  kC : PySem.W.keepIn K (.ref C) = true
  sub : PySem.W.mroIn K C (.ref D) = some true
  su : PySem.W.ks_superIn K C D "__init__" = some (some (.builtin "ValueError.__init__"))
  ve : PySem.W.subIn K (.ref C) (.type "ValueError") = some true
  nw : PySem.W.findIn K (.ref C) "what" = some none
  ga : PySem.W.findIn K (.ref C) "__getattribute__" = some (some (.builtin "BaseException.__getattribute__"))
  gg : PySem.W.findIn K (.ref C) "__getattr__" = some none
  hdC : PySem.W.hasDictIn K C = true
  ha : PySem.W.findIn K (.ref C) "__class__" = some (some (.builtin "object.__class__"))
  hn : PySem.W.specialIn K (.builtin "object.__class__") "__get__" = some (some (.builtin "getset_descriptor.__get__"))
  ht : PySem.W.takesIn K (.builtin "object.__class__") = some true
  hm : PySem.W.mroIn K C (.type "object") = some true
  exm : PySem.W.exmOne K (.ref C) (.ref D) = some true
  ini : PySem.W.findIn K (.ref C) "__init__" = some (some (.ref f))
structure RfK (K : PySem.W.Frag) (prog : Program) (D f : Addr) : Prop where
  a : PySem.W.nsIn K mainGlobals "Refused" = some (some (.ref D))
  i : PySem.W.findIn K (.ref D) "__init__" = some (some (.ref f))
  ty : PySem.W.typeIn K (.ref f) = some (.type "function")
  tx : ∃ q mr, RfTxt K prog D f q mr
theorem RfK.of {K : PySem.W.Frag} {prog : Program} {D f : Addr} {q : Str} {mr : List (Str × Const)} {oc : Value} {od : Option Addr} {doc pm : Value} {an : Option Addr} {cda : Addr} {ct : Value} {cc : Addr} {osl : Array (Option Value)} {pa pb p1 p2 p3 p4 p5 p6 p7 p8 p9 p10 : Pos} {ccl : Value} {cdd : Option Addr} {vs : Array Value} {ccs : Array (Option Value)} {file : Str} {tf : Tok} {cl : Value} {cld : Option Addr} {csl : Array (Option Value)} {cd2 : ClassData}
    (a : PySem.W.nsIn K mainGlobals "Refused" = some (some (.ref D))) (i : PySem.W.findIn K (.ref D) "__init__" = some (some (.ref f))) (ty : PySem.W.typeIn K (.ref f) = some (.type "function"))
    (lk : K.lookup f = some ⟨oc, od, .func (PySem.W.ksFn "__init__" q (rfA pa pb) (rfB p1 p2 p3 p4 p5 p6 p7 p8 p9 p10) (rfS mr) .none .none doc pm an (.ref cda) ct cc), osl⟩) (cd : PySem.W.codeIn K (.ref cda) q = true) (ev : RfEv p1 p2 p3 p4 p5)
    (lk2 : K.lookup cda = some ⟨ccl, cdd, .fields vs, ccs⟩) (v2 : vs[2]? = some (.str file tf)) (pf : ((prog.main.file : Str) == file) = true) (lk3 : K.lookup cc = some ⟨cl, cld, .cell (some (.ref D)), csl⟩)
    (cls : PySem.W.clsIn K D = some cd2) (sup : PySem.W.nsIn K mainGlobals "super" = some none) (tp : PySem.W.nsIn K cStatics "thirdparty.any" = some none) (top : (prog.main.scope.names.lookup ("super" : Str)).isSome = false) : RfK K prog D f :=
  ⟨a, i, ty, q, mr, ⟨oc, od, .none, .none, doc, pm, an, cda, ct, cc, osl, pa, pb, p1, p2, p3, p4, p5, p6, p7, p8, p9, p10, lk, cd, rfl, rfl, ev, ⟨ccl, cdd, vs, ccs, file, tf, lk2, v2, pf⟩, ⟨cl, cld, csl, lk3⟩⟩, ⟨cd2, cls⟩, sup, tp, top⟩
theorem ErrK.of {K : PySem.W.Frag} {x : Str} {D f C : Addr} {nm q : Str} {N : Addr} {bs bm : List Value} {sn : List Str} {sub : List Value} {ab : Bool} {col : Option Bool} {dd : Option Addr} {k0 k1 k2 k3 k5 : Option Value}
    (a : PySem.W.nsIn K mainGlobals x = some (some (.ref C))) (lk : K.lookup C = some (excClassObj nm q C N bs bm true sn sub ab col dd k0 k1 k2 k3 k5 "ValueError.__new__")) (ve0 : PySem.HandSPX.refsVE bm = true)
    (sa : PySem.W.findIn K (.ref C) "__setattr__" = some (some (.builtin "object.__setattr__"))) (exC : PySem.W.subIn K (.ref C) (.type "BaseException") = some true) (tyC : PySem.W.typeIn K (.ref C) = some (.type "type")) (kC : PySem.W.keepIn K (.ref C) = true)
    (sub' : PySem.W.mroIn K C (.ref D) = some true) (su : PySem.W.ks_superIn K C D "__init__" = some (some (.builtin "ValueError.__init__"))) (ve : PySem.W.subIn K (.ref C) (.type "ValueError") = some true) (nw : PySem.W.findIn K (.ref C) "what" = some none)
    (ga : PySem.W.findIn K (.ref C) "__getattribute__" = some (some (.builtin "BaseException.__getattribute__"))) (gg : PySem.W.findIn K (.ref C) "__getattr__" = some none) (hdC : PySem.W.hasDictIn K C = true) (ha : PySem.W.findIn K (.ref C) "__class__" = some (some (.builtin "object.__class__")))
    (hn : PySem.W.specialIn K (.builtin "object.__class__") "__get__" = some (some (.builtin "getset_descriptor.__get__"))) (ht : PySem.W.takesIn K (.builtin "object.__class__") = some true) (hm : PySem.W.mroIn K C (.type "object") = some true) (exm : PySem.W.exmOne K (.ref C) (.ref D) = some true)
    (ini : PySem.W.findIn K (.ref C) "__init__" = some (some (.ref f))) : ErrK K x D f C :=
  ⟨a, ⟨nm, q, N, bs, bm, sn, sub, ab, col, dd, k0, k1, k2, k3, k5, lk, ve0⟩, sa, exC, tyC, kC, sub', su, ve, nw, ga, gg, hdC, ha, hn, ht, hm, exm, ini⟩
section
variable {K : PySem.W.Frag} {h base : Heap} {mg : Str → Option Value} {P : Program} {w : World} {D f C : Addr} {x : Str}
theorem RfK.at (r : RfK K P D f) : refusedOf K = D ∧ initOf K = f := by
  have e : refusedOf K = D := by unfold refusedOf; rw [r.a]
  exact ⟨e, by unfold initOf; rw [e, r.i]⟩
theorem RfK.ok [Tb] (X : K.In h) (G : h.Ns mainGlobals mg) (r : RfK K P D f) : RfOk P w K mg base := by
  obtain ⟨e1, e2⟩ := r.at
  obtain ⟨q, mr, t⟩ := r.tx
  obtain ⟨fd, h1, h2⟩ := rf_init (w := w) (mg := mg) (base := base) t
  exact ⟨⟨fd, by rw [e1, e2]; exact h1, h2⟩, by rw [e2]; exact r.ty, by rw [e1]; exact PySem.W.mg_of X G r.a⟩
theorem ErrK.ok (X : K.In h) (G : h.Ns mainGlobals mg) (r : RfK K P D f) (e : ErrK K x D f C) : ErrC K mg x (clsOf mg x) := by
  obtain ⟨e1, e2⟩ := r.at
  have m := PySem.W.mg_of X G e.a
  have c : clsOf mg x = C := by unfold clsOf; rw [m]
  rw [c]
  refine ⟨m, ?_, by rw [e2]; exact e.ini⟩
  rw [e1]
  exact ⟨⟨e.cls, e.sa, e.exC, e.tyC, e.kC⟩, e.sub, e.su, e.ve, e.nw, ⟨e.ga, e.gg, e.exC, e.hdC⟩, ⟨e.ga, e.gg, e.exC, e.hdC, e.ha, e.hn, e.ht, e.hm⟩, e.exm⟩
theorem LamK.at [Tb] {fd : FuncData} {c T : Addr} {q : Str} {y : Str} (l : LamK K y fd c T) (tb : LamX.TabB base mg c T) (m : (T, q) ∈ Tb.t) (u : ∀ p ∈ Tb.t, p.1 = T → p.2 = q) : LamAt base mg fd.code q := ⟨c, T, l.cd, tb, m, u⟩
end
end DL

set_option Elab.async false
set_option linter.all false
set_option maxRecDepth 100000
namespace DL
open PySem PySem.Spec PyProof.Rows L2

/-! ## plain law: ends of an outcome -/
abbrev PP (α : Type) := α → Sto → Prop
abbrev EE := Addr → D → Sto → Prop
def wO0 {α : Type} (o : Out α) (P : PP α) (E : EE) : Prop := match o with
  | .ok a S => P a S
  | .exc C w S => E C w S
  | .no => False
structure wO {α : Type} (o : Out α) (P : PP α) (E : EE) : Prop where
  h : wO0 o P E
abbrev E0 : EE := fun _ _ _ => False
section
variable {α β : Type} {P : PP α} {E : EE} {S : Sto}
theorem wO_ok {a : α} (h : P a S) : wO (.ok a S) P E := by first | exact h | exact ⟨h⟩ | exact (h).h | exact ⟨(h).h⟩
theorem wO_exc {C : Addr} {w : D} (h : E C w S) : wO (.exc C w S : Out α) P E := by first | exact h | exact ⟨h⟩ | exact (h).h | exact ⟨(h).h⟩
theorem wO_bind {o : Out β} {k : β → Sto → Out α} (h : wO o (fun b S1 => wO (k b S1) P E) E) : wO (o.bind k) P E := by
  cases o with
  | ok b S1 => first | exact h | exact ⟨h⟩ | exact (h).h | exact ⟨(h).h⟩
  | exc C w S1 => first | exact h | exact ⟨h⟩ | exact (h).h | exact ⟨(h).h⟩
  | no => first | exact h | exact ⟨h⟩ | exact (h).h | exact ⟨(h).h⟩
theorem wO_mono {o : Out α} {P' : PP α} {E' : EE} (h : wO o P E) (hp : ∀ a S, P a S → P' a S) (he : ∀ C w S, E C w S → E' C w S) : wO o P' E' := by
  cases o with
  | ok b S1 => exact ⟨hp _ _ h.h⟩
  | exc C w S1 => exact ⟨he _ _ _ h.h⟩
  | no => first | exact h | exact ⟨h⟩ | exact (h).h | exact ⟨(h).h⟩
theorem wO_imp {o : Out α} {P' : PP α} (h : wO o P E) (hp : ∀ a S, P a S → P' a S) : wO o P' E := wO_mono h hp fun _ _ _ z => z
theorem wO_eq {o : Out α} {a : α} (e : o = .ok a S) (h : P a S) : wO o P E := by rw [e]; first | exact h | exact ⟨h⟩ | exact (h).h | exact ⟨(h).h⟩
theorem wO_eqx {o : Out α} {C : Addr} {w : D} (e : o = .exc C w S) (h : E C w S) : wO o P E := by rw [e]; first | exact h | exact ⟨h⟩ | exact (h).h | exact ⟨(h).h⟩
theorem wO_get {o : Out α} (h : wO o P E0) : ∃ a S', o = .ok a S' ∧ P a S' := by
  cases o with
  | ok a S' => exact ⟨a, S', rfl, h.h⟩
  | exc C w S1 => exact (show False from h.h).elim
  | no => exact (show False from h.h).elim
end

/-! ### ends of a statement -/
def wS0 (o : SO) (N : Env → Sto → Prop) (R : D → Sto → Prop) (X : Addr → D → Env → Sto → Prop) (B Ct : Env → Sto → Prop) : Prop := match o with
  | .nx ρ S => N ρ S
  | .rt d S => R d S
  | .exc C w ρ S => X C w ρ S
  | .bk ρ S => B ρ S
  | .ct ρ S => Ct ρ S
  | .no => False
structure wS (o : SO) (N : Env → Sto → Prop) (R : D → Sto → Prop) (X : Addr → D → Env → Sto → Prop) (B Ct : Env → Sto → Prop) : Prop where
  h : wS0 o N R X B Ct
section
variable {N : Env → Sto → Prop} {R : D → Sto → Prop} {X : Addr → D → Env → Sto → Prop} {B Ct : Env → Sto → Prop} {ρ : Env} {S : Sto} {g h : SF} {fa : EF} {t : BF} {i : Nat}
theorem wS_next (h : N ρ S) : wS (sNext ρ S) N R X B Ct := by first | exact h | exact ⟨h⟩ | exact (h).h | exact ⟨(h).h⟩
theorem wS_break (h : B ρ S) : wS (sBreak ρ S) N R X B Ct := by first | exact h | exact ⟨h⟩ | exact (h).h | exact ⟨(h).h⟩
theorem wS_cont (h : Ct ρ S) : wS (sCont ρ S) N R X B Ct := by first | exact h | exact ⟨h⟩ | exact (h).h | exact ⟨(h).h⟩
theorem wS_seq (z : wS (g ρ S) (fun ρ1 S1 => wS (h ρ1 S1) N R X B Ct) R X B Ct) : wS (sSeq g h ρ S) N R X B Ct := by
  unfold sSeq
  cases e : g ρ S with
  | nx ρ1 S1 => rw [e] at z; first | exact z | exact ⟨z⟩ | exact (z).h | exact ⟨(z).h⟩
  | _ => rw [e] at z; first | exact z | exact ⟨z⟩ | exact (z).h | exact ⟨(z).h⟩
theorem wS_letE {k : D → SF} (z : wO (fa ρ S) (fun d S1 => wS (k d ρ S1) N R X B Ct) (fun C w S1 => X C w ρ S1)) : wS (letE fa k ρ S) N R X B Ct := by
  unfold letE
  cases e : fa ρ S with
  | ok d S1 => rw [e] at z; first | exact z | exact ⟨z⟩ | exact (z).h | exact ⟨(z).h⟩
  | _ => rw [e] at z; first | exact z | exact ⟨z⟩ | exact (z).h | exact ⟨(z).h⟩
theorem wS_letB {k : Bool → SF} (z : wO (t ρ S) (fun d S1 => wS (k d ρ S1) N R X B Ct) (fun C w S1 => X C w ρ S1)) : wS (letB t k ρ S) N R X B Ct := by
  unfold letB
  cases e : t ρ S with
  | ok d S1 => rw [e] at z; first | exact z | exact ⟨z⟩ | exact (z).h | exact ⟨(z).h⟩
  | _ => rw [e] at z; first | exact z | exact ⟨z⟩ | exact (z).h | exact ⟨(z).h⟩
theorem wS_ret (z : wO (fa ρ S) R (fun C w S1 => X C w ρ S1)) : wS (sRet fa ρ S) N R X B Ct := wS_letE (wO_imp z fun _ _ z => ⟨z⟩)
theorem wS_retN (z : R .non S) : wS (sRetN ρ S) N R X B Ct := by first | exact z | exact ⟨z⟩ | exact (z).h | exact ⟨(z).h⟩
theorem wS_expr (z : wO (fa ρ S) (fun _ S1 => N ρ S1) (fun C w S1 => X C w ρ S1)) : wS (sExpr fa ρ S) N R X B Ct := wS_letE (wO_imp z fun _ _ z => ⟨z⟩)
theorem wS_set (z : wO (fa ρ S) (fun d S1 => N (ρ.set i (some d)) S1) (fun C w S1 => X C w ρ S1)) : wS (sSet i fa ρ S) N R X B Ct := wS_letE (wO_imp z fun _ _ z => ⟨z⟩)
theorem wS_raise {C : Addr} (z : wO (fa ρ S) (fun d S1 => X C d ρ S1) (fun C w S1 => X C w ρ S1)) : wS (sRaise C fa ρ S) N R X B Ct := wS_letE (wO_imp z fun _ _ z => ⟨z⟩)
theorem wS_if (z : wO (t ρ S) (fun b S1 => (b = true → wS (g ρ S1) N R X B Ct) ∧ (b = false → wS (h ρ S1) N R X B Ct)) (fun C w S1 => X C w ρ S1)) : wS (sIf t g h ρ S) N R X B Ct :=
  wS_letB (wO_imp z fun b S1 ⟨z1, z2⟩ => by
    cases b with
    | true => first | exact z1 rfl | exact ⟨z1 rfl⟩ | exact (z1 rfl).h | exact ⟨(z1 rfl).h⟩
    | false => first | exact z2 rfl | exact ⟨z2 rfl⟩ | exact (z2 rfl).h | exact ⟨(z2 rfl).h⟩)
theorem wS_asg {T : GF} (z : wO (fa ρ S) (fun d S1 => ∃ ρ' S', T d ρ S1 = .nx ρ' S' ∧ N ρ' S') (fun C w S1 => X C w ρ S1)) : wS (sAsg fa T ρ S) N R X B Ct :=
  wS_letE (wO_imp z fun d S1 ⟨ρ', S', e, z⟩ => by rw [e]; first | exact z | exact ⟨z⟩ | exact (z).h | exact ⟨(z).h⟩)
theorem wS_aug {g2 : D → D → Sto → Out D} (z : wO (eBin g2 (eVar i) fa ρ S) (fun d S1 => N (ρ.set i (some d)) S1) (fun C w S1 => X C w ρ S1)) : wS (sAug i g2 fa ρ S) N R X B Ct := wS_letE (wO_imp z fun _ _ z => ⟨z⟩)
theorem wS_mono {o : SO} {N' : Env → Sto → Prop} {R' : D → Sto → Prop} {X' : Addr → D → Env → Sto → Prop} {B' Ct' : Env → Sto → Prop} (h : wS o N R X B Ct) (hn : ∀ ρ S, N ρ S → N' ρ S) (hr : ∀ d S, R d S → R' d S) (he : ∀ C w ρ S, X C w ρ S → X' C w ρ S) (hb : ∀ ρ S, B ρ S → B' ρ S) (hc : ∀ ρ S, Ct ρ S → Ct' ρ S) : wS o N' R' X' B' Ct' := by
  cases o with
  | nx ρ S => exact ⟨hn _ _ h.h⟩
  | rt d S => exact ⟨hr _ _ h.h⟩
  | exc C w ρ S => exact ⟨he _ _ _ _ h.h⟩
  | bk ρ S => exact ⟨hb _ _ h.h⟩
  | ct ρ S => exact ⟨hc _ _ h.h⟩
  | no => first | exact h | exact ⟨h⟩ | exact (h).h | exact ⟨(h).h⟩
theorem wS_par {i k : Nat} {f : AF} (z : wO (f ρ S) (fun ds S1 => ∃ a b, ds = [a, b] ∧ N ((ρ.set i (some a)).set k (some b)) S1) (fun C w S1 => X C w ρ S1)) : wS (sPar i k f ρ S) N R X B Ct := by
  unfold sPar
  cases e : f ρ S with
  | ok d S1 => rw [e] at z; obtain ⟨a, b, rfl, z⟩ := z; first | exact z | exact ⟨z⟩ | exact (z).h | exact ⟨(z).h⟩
  | exc C w S1 => rw [e] at z; first | exact z | exact ⟨z⟩ | exact (z).h | exact ⟨(z).h⟩
  | no => rw [e] at z; first | exact z | exact ⟨z⟩ | exact (z).h | exact ⟨(z).h⟩
theorem wS_par3 {i k l : Nat} {f : AF} (z : wO (f ρ S) (fun ds S1 => ∃ a b c, ds = [a, b, c] ∧ N (((ρ.set i (some a)).set k (some b)).set l (some c)) S1) (fun C w S1 => X C w ρ S1)) : wS (sPar3 i k l f ρ S) N R X B Ct := by
  unfold sPar3
  cases e : f ρ S with
  | ok d S1 => rw [e] at z; obtain ⟨a, b, c, rfl, z⟩ := z; first | exact z | exact ⟨z⟩ | exact (z).h | exact ⟨(z).h⟩
  | exc C w S1 => rw [e] at z; first | exact z | exact ⟨z⟩ | exact (z).h | exact ⟨(z).h⟩
  | no => rw [e] at z; first | exact z | exact ⟨z⟩ | exact (z).h | exact ⟨(z).h⟩
theorem wS_try {h : Addr → Addr → Addr → SF} (z : wS (g ρ S) N R (fun C w ρ1 S1 => wS ((h 0 0 C (ρ1.set i (some (.exc 0 0 C w))) S1).gone i) N R X B Ct) B Ct) : wS (sTry i g h ρ S) N R X B Ct := by
  unfold sTry
  cases e : g ρ S with
  | exc C w ρ1 S1 => rw [e] at z; first | exact z | exact ⟨z⟩ | exact (z).h | exact ⟨(z).h⟩
  | _ => rw [e] at z; first | exact z | exact ⟨z⟩ | exact (z).h | exact ⟨(z).h⟩
theorem wS_gone {o : SO} (z : wS o (fun ρ S => N (ρ.set i none) S) R (fun _ _ _ _ => False) (fun ρ S => B (ρ.set i none) S) (fun ρ S => Ct (ρ.set i none) S)) : wS (o.gone i) N R X B Ct := by
  cases o with
  | nx ρ S => first | exact z | exact ⟨z⟩ | exact (z).h | exact ⟨(z).h⟩
  | rt d S => first | exact z | exact ⟨z⟩ | exact (z).h | exact ⟨(z).h⟩
  | exc C w ρ S => exact (show False from z.h).elim
  | bk ρ S => first | exact z | exact ⟨z⟩ | exact (z).h | exact ⟨(z).h⟩
  | ct ρ S => first | exact z | exact ⟨z⟩ | exact (z).h | exact ⟨(z).h⟩
  | no => first | exact z | exact ⟨z⟩ | exact (z).h | exact ⟨(z).h⟩
end

/-! ### a def's body -/
@[simp] theorem drop_refl (S : Sto) : Drop S S := ⟨Nat.le_refl _, fun _ _ => .inl rfl⟩
theorem drop_app (S T : Sto) : Drop S (S ++ T) := ⟨by simp, fun i h => .inl (List.getElem?_append_left h)⟩
theorem take_app (S T : Sto) : (S ++ T).take S.length = S := by simp
theorem frzD_closed {S : Sto} {n : Nat} {d : D} (h : d.closed n = true) : frzD S n d = some d := by
  unfold frzD
  split
  · simp only [D.closed, decide_eq_true_eq] at h; rw [if_pos h]
  · rw [if_pos h]
/-- what is kept of S0 behind S -/
theorem cut_of {S0 S : Sto} {d : D} (h : Drop S0 S) (c : d.closed S0.length = true) : cut S0 d S = .ok d (S.take S0.length) := by
  unfold cut; rw [if_pos h, frzD_closed c]
theorem cut_app {S T : Sto} {d : D} (c : d.closed S.length = true) : cut S d (S ++ T) = .ok d S := by rw [cut_of (drop_app S T) c, take_app]
theorem cut_same (S : Sto) (d : D) : cut S d S = .ok d S := by
  unfold cut
  rw [if_pos (drop_refl S)]
  cases e : frzD S S.length d with
  | none => rfl
  | some d' =>
    rw [List.take_length]
    unfold frzD at e
    split at e
    · split at e
      · cases e; rfl
      · rename_i k hk
        rw [List.getElem?_eq_none_iff.mpr (Nat.le_of_not_lt hk)] at e; cases e
    · split at e
      · cases e; rfl
      · cases e
/-- a list that is handed back new -/
theorem cut_ref {S T : Sto} {k : Nat} {xs : List D} (hk : T[k]? = some (.lst xs)) (c : D.closeds S.length xs = true) : cut S (.ref (S.length + k)) (S ++ T) = .ok (.lst xs) S := by
  unfold cut
  rw [if_pos (drop_app S T), take_app]
  have : frzD (S ++ T) S.length (.ref (S.length + k)) = some (.lst xs) := by
    unfold frzD
    simp only []
    rw [if_neg (by omega), List.getElem?_append_right (by omega), Nat.add_sub_cancel_left, hk]
    exact if_pos c
  rw [this]
theorem drop_set {S : Sto} {n : Nat} {o : MO} (T : Sto) (c : o.closed S.length = true) : Drop S (S.set n o ++ T) := ⟨by simp, fun i h => by
  rw [List.getElem?_append_left (by simpa using h), List.getElem?_set]
  split
  · subst i; rw [if_pos h]; exact .inr ⟨o, rfl, c⟩
  · exact .inl rfl⟩
theorem cut_set {S T : Sto} {n : Nat} {o : MO} {d : D} (co : o.closed S.length = true) (c : d.closed S.length = true) : cut S d (S.set n o ++ T) = .ok d (S.set n o) := by
  rw [cut_of (drop_set T co) c]; congr 1; rw [List.take_append_of_le_length (by simp), List.take_of_length_le (by simp)]
theorem cut_set_ref {S T : Sto} {n : Nat} {o : MO} {k : Nat} {xs : List D} (co : o.closed S.length = true) (hk : T[k]? = some (.lst xs)) (c : D.closeds S.length xs = true) : cut S (.ref (S.length + k)) (S.set n o ++ T) = .ok (.lst xs) (S.set n o) := by
  unfold cut
  rw [if_pos (drop_set T co)]
  have e : (S.set n o ++ T).take S.length = S.set n o := by rw [List.take_append_of_le_length (by simp), List.take_of_length_le (by simp)]
  have : frzD (S.set n o ++ T) S.length (.ref (S.length + k)) = some (.lst xs) := by
    unfold frzD
    simp only []
    rw [if_neg (by omega), List.getElem?_append_right (by simp), List.length_set, Nat.add_sub_cancel_left, hk]
    exact if_pos c
  rw [this, e]
theorem cutX_of {S0 S : Sto} {C : Addr} {d : D} (h : Drop S0 S) (c : d.closed S0.length = true) : cutX S0 C d S = .exc C d (S.take S0.length) := by
  unfold cutX; rw [if_pos ⟨h, c⟩]
theorem cutX_same {S : Sto} {C : Addr} {d : D} : cutX S C d S = .exc C d S := by
  unfold cutX; rw [List.take_length]; split <;> rfl
theorem cutX_set {S T : Sto} {n : Nat} {o : MO} {C : Addr} {d : D} (co : o.closed S.length = true) (c : d.closed S.length = true) : cutX S C d (S.set n o ++ T) = .exc C d (S.set n o) := by
  rw [cutX_of (drop_set T co) c]; congr 1; rw [List.take_append_of_le_length (by simp), List.take_of_length_le (by simp)]

section
theorem wO_body {n : Nat} {g : SF} {ds : List D} {S : Sto} {P : PP D} {E : EE}
    (z : wS (g (ds.map some ++ List.replicate (n - ds.length) none) S) (fun _ S1 => wO (cut S .non S1) P E) (fun d S1 => wO (cut S d S1) P E) (fun C w _ S1 => wO (cutX S C w S1) P E) (fun _ _ => False) (fun _ _ => False)) : wO (mBody n g ds S) P E := by
  unfold mBody
  cases e : g (ds.map some ++ List.replicate (n - ds.length) none) S with
  | nx ρ S' => rw [e] at z; first | exact z | exact ⟨z⟩ | exact (z).h | exact ⟨(z).h⟩
  | rt d S' => rw [e] at z; first | exact z | exact ⟨z⟩ | exact (z).h | exact ⟨(z).h⟩
  | exc C w ρ S' => rw [e] at z; first | exact z | exact ⟨z⟩ | exact (z).h | exact ⟨(z).h⟩
  | _ => rw [e] at z; exact (show False from z.h).elim
theorem wO_bodyM {n : Nat} {g : SF} {ds : List D} {S : Sto} {P : PP D} {E : EE}
    (z : wS (g (ds.map some ++ List.replicate (n - ds.length) none) S) (fun _ S1 => wO (cutM S .non S1) P E) (fun d S1 => wO (cutM S d S1) P E) (fun C w _ S1 => wO (cutX S C w S1) P E) (fun _ _ => False) (fun _ _ => False)) : wO (mBodyM n g ds S) P E := by
  unfold mBodyM
  cases e : g (ds.map some ++ List.replicate (n - ds.length) none) S with
  | nx ρ S' => rw [e] at z; first | exact z | exact ⟨z⟩ | exact (z).h | exact ⟨(z).h⟩
  | rt d S' => rw [e] at z; first | exact z | exact ⟨z⟩ | exact (z).h | exact ⟨(z).h⟩
  | exc C w ρ S' => rw [e] at z; first | exact z | exact ⟨z⟩ | exact (z).h | exact ⟨(z).h⟩
  | _ => rw [e] at z; exact (show False from z.h).elim
end
theorem cutM_new {S T : Sto} {k : Nat} {xs : List D} (hk : T[k]? = some (.lst xs)) (c : D.closeds S.length xs = true) : cutM S (.ref (S.length + k)) (S ++ T) = .ok (.ref S.length) (S ++ [.lst xs]) := by
  unfold cutM
  rw [if_pos (drop_app S T), take_app]
  simp only []
  rw [if_neg (by omega), List.getElem?_append_right (by omega), Nat.add_sub_cancel_left, hk]
  exact if_pos c

/-! ### expressions -/
section
variable {P : PP D} {PB : PP Bool} {PA : PP (List D)} {E : EE} {ρ : Env} {S : Sto} {fa fb fc : EF} {t u : BF} {f : AF} {i : Nat} {d : D}
theorem wO_var (e : ρ[i]? = some (some d)) (h : P d S) : wO (eVar i ρ S) P E := by unfold eVar; rw [e]; first | exact h | exact ⟨h⟩ | exact (h).h | exact ⟨(h).h⟩
theorem wO_c (h : P d S) : wO (eC d ρ S) P E := by first | exact h | exact ⟨h⟩ | exact (h).h | exact ⟨(h).h⟩
theorem wO_un {g : D → Sto → Out D} (h : wO (fa ρ S) (fun x S1 => wO (g x S1) P E) E) : wO (eUn g fa ρ S) P E := by first | exact wO_bind h | exact ⟨wO_bind h⟩ | exact (wO_bind h).h | exact ⟨(wO_bind h).h⟩
theorem wO_bin {g : D → D → Sto → Out D} (h : wO (fa ρ S) (fun x S1 => wO (fb ρ S1) (fun y S2 => wO (g x y S2) P E) E) E) : wO (eBin g fa fb ρ S) P E := wO_bind (wO_imp h fun _ _ z => wO_bind z)
theorem wO_chain {g g' : D → D → Sto → Out D} (h : wO (fa ρ S) (fun x S1 => wO (fb ρ S1) (fun y S2 => wO (g x y S2) (fun z S3 => ∃ b, z = .bl b ∧ (b = true → wO (fc ρ S3) (fun w S4 => wO (g' y w S4) P E) E) ∧ (b = false → P (.bl false) S3)) E) E) E) : wO (eChain g g' fa fb fc ρ S) P E :=
  wO_bind (wO_imp h fun x S1 z => wO_bind (wO_imp z fun y S2 z => wO_bind (wO_imp z fun w S3 ⟨b, e, z1, z2⟩ => by
    subst e
    cases b with
    | true => exact wO_bind (z1 rfl)
    | false => first | exact z2 rfl | exact ⟨z2 rfl⟩ | exact (z2 rfl).h | exact ⟨(z2 rfl).h⟩)))
theorem wO_and (h : wO (fa ρ S) (fun x S1 => ∃ b, x = .bl b ∧ (b = true → wO (fb ρ S1) P E) ∧ (b = false → P (.bl false) S1)) E) : wO (eAnd fa fb ρ S) P E :=
  wO_bind (wO_imp h fun x S1 ⟨b, e, z1, z2⟩ => by
    subst e
    cases b with
    | true => first | exact z1 rfl | exact ⟨z1 rfl⟩ | exact (z1 rfl).h | exact ⟨(z1 rfl).h⟩
    | false => first | exact z2 rfl | exact ⟨z2 rfl⟩ | exact (z2 rfl).h | exact ⟨(z2 rfl).h⟩)
theorem wO_or (h : wO (fa ρ S) (fun x S1 => ∃ b, x = .bl b ∧ (b = false → wO (fb ρ S1) P E) ∧ (b = true → P (.bl true) S1)) E) : wO (eOr fa fb ρ S) P E :=
  wO_bind (wO_imp h fun x S1 ⟨b, e, z1, z2⟩ => by
    subst e
    cases b with
    | false => first | exact z1 rfl | exact ⟨z1 rfl⟩ | exact (z1 rfl).h | exact ⟨(z1 rfl).h⟩
    | true => first | exact z2 rfl | exact ⟨z2 rfl⟩ | exact (z2 rfl).h | exact ⟨(z2 rfl).h⟩)
theorem wO_not (h : wO (fa ρ S) (fun x S1 => ∃ b, x = .bl b ∧ P (.bl (!b)) S1) E) : wO (eNot fa ρ S) P E :=
  wO_bind (wO_imp h fun x S1 ⟨b, e, z⟩ => by subst e; first | exact z | exact ⟨z⟩ | exact (z).h | exact ⟨(z).h⟩)
theorem wO_if (h : wO (t ρ S) (fun b S1 => (b = true → wO (fa ρ S1) P E) ∧ (b = false → wO (fb ρ S1) P E)) E) : wO (eIf t fa fb ρ S) P E :=
  wO_bind (wO_imp h fun b S1 ⟨z1, z2⟩ => by
    cases b with
    | true => first | exact z1 rfl | exact ⟨z1 rfl⟩ | exact (z1 rfl).h | exact ⟨(z1 rfl).h⟩
    | false => first | exact z2 rfl | exact ⟨z2 rfl⟩ | exact (z2 rfl).h | exact ⟨(z2 rfl).h⟩)
theorem wO_nil (h : PA [] S) : wO (aNil ρ S) PA E := by first | exact h | exact ⟨h⟩ | exact (h).h | exact ⟨(h).h⟩
theorem wO_cons (h : wO (fa ρ S) (fun x S1 => wO (f ρ S1) (fun xs S2 => PA (x :: xs) S2) E) E) : wO (aCons fa f ρ S) PA E := wO_bind (wO_imp h fun _ _ z => wO_bind (wO_imp z fun _ _ z => ⟨z⟩))
theorem wO_tup (h : wO (f ρ S) (fun xs S1 => xs.length ≤ 16777216 ∧ P (.tup xs) S1) E) : wO (eTup f ρ S) P E := wO_bind (wO_imp h fun xs S1 ⟨z1, z2⟩ => by simp only [if_pos z1]; first | exact z2 | exact ⟨z2⟩ | exact (z2).h | exact ⟨(z2).h⟩)
theorem wO_lst (h : wO (f ρ S) (fun xs S1 => xs.length ≤ 16777216 ∧ P (.lst xs) S1) E) : wO (eLst f ρ S) P E := wO_bind (wO_imp h fun xs S1 ⟨z1, z2⟩ => by simp only [if_pos z1]; first | exact z2 | exact ⟨z2⟩ | exact (z2).h | exact ⟨(z2).h⟩)
theorem wO_lstM (h : wO (f ρ S) (fun xs S1 => xs.length ≤ 16777216 ∧ P (.ref S1.length) (S1 ++ [.lst xs])) E) : wO (eLstM f ρ S) P E := wO_bind (wO_imp h fun xs S1 ⟨z1, z2⟩ => by simp only [if_pos z1]; first | exact z2 | exact ⟨z2⟩ | exact (z2).h | exact ⟨(z2).h⟩)
theorem wO_call {g : List D → Sto → Out D} (h : wO (f ρ S) (fun xs S1 => wO (g xs S1) P E) E) : wO (eCall g f ρ S) P E := by first | exact wO_bind h | exact ⟨wO_bind h⟩ | exact (wO_bind h).h | exact ⟨(wO_bind h).h⟩
theorem wO_fn {n : Nat} {m : MF} (h : wO (f ρ S) (fun xs S1 => xs.length = n ∧ wO (m xs S1) P E) E) : wO (eFn n m f ρ S) P E := wO_bind (wO_imp h fun xs S1 ⟨z1, z2⟩ => by simp only [if_pos z1]; first | exact z2 | exact ⟨z2⟩ | exact (z2).h | exact ⟨(z2).h⟩)
theorem wO_val (h : wO (fa ρ S) (fun x S1 => ∃ b, x = .bl b ∧ PB b S1) E) : wO (bVal fa ρ S) PB E :=
  wO_bind (wO_imp h fun x S1 ⟨b, e, z⟩ => by subst e; first | exact z | exact ⟨z⟩ | exact (z).h | exact ⟨(z).h⟩)
theorem wO_bnot (h : wO (t ρ S) (fun b S1 => PB (!b) S1) E) : wO (bNot t ρ S) PB E := wO_bind (wO_imp h fun _ _ z => ⟨z⟩)
theorem wO_band (h : wO (t ρ S) (fun b S1 => (b = true → wO (u ρ S1) PB E) ∧ (b = false → PB false S1)) E) : wO (bAnd t u ρ S) PB E :=
  wO_bind (wO_imp h fun b S1 ⟨z1, z2⟩ => by
    cases b with
    | true => first | exact z1 rfl | exact ⟨z1 rfl⟩ | exact (z1 rfl).h | exact ⟨(z1 rfl).h⟩
    | false => first | exact z2 rfl | exact ⟨z2 rfl⟩ | exact (z2 rfl).h | exact ⟨(z2 rfl).h⟩)
theorem wO_bor (h : wO (t ρ S) (fun b S1 => (b = true → PB true S1) ∧ (b = false → wO (u ρ S1) PB E)) E) : wO (bOr t u ρ S) PB E :=
  wO_bind (wO_imp h fun b S1 ⟨z1, z2⟩ => by
    cases b with
    | true => first | exact z1 rfl | exact ⟨z1 rfl⟩ | exact (z1 rfl).h | exact ⟨(z1 rfl).h⟩
    | false => first | exact z2 rfl | exact ⟨z2 rfl⟩ | exact (z2 rfl).h | exact ⟨(z2 rfl).h⟩)
theorem wO_btrue (h : PB true S) : wO (bTrue ρ S) PB E := by first | exact h | exact ⟨h⟩ | exact (h).h | exact ⟨(h).h⟩
theorem wO_lm {g : Me} {fo : EF} (h : wO (fo ρ S) (fun o S1 => (lstOf S1 o).isSome ∧ wO (f ρ S1) (fun xs S2 => wO (g o xs S2) P E) E) E) : wO (eLM g fo f ρ S) P E := wO_bind (wO_imp h fun o S1 ⟨z1, z2⟩ => by
  cases e : lstOf S1 o with
  | none => rw [e] at z1; cases z1
  | some xs => exact wO_bind z2)
theorem wO_oNone {PO : PP (Option Int)} (h : PO none S) : wO (oNone ρ S) PO E := by first | exact h | exact ⟨h⟩ | exact (h).h | exact ⟨(h).h⟩
theorem wO_oSome {PO : PP (Option Int)} (h : wO (fa ρ S) (fun d S1 => ∃ i, d = .int i ∧ PO (some i) S1) E) : wO (oSome fa ρ S) PO E := wO_bind (wO_imp h fun d S1 ⟨i, e, z⟩ => by subst e; first | exact z | exact ⟨z⟩ | exact (z).h | exact ⟨(z).h⟩)
theorem wO_sl {fl fh : OF} (h : wO (fa ρ S) (fun d S1 => wO (fl ρ S1) (fun lo S2 => wO (fh ρ S2) (fun hi S3 => (∃ xs, d = .tup xs ∧ P (.tup (cutD xs lo hi)) S3) ∨ ((∀ xs, d ≠ .tup xs) ∧ ∃ xs, lstOf S3 d = some xs ∧ P (.lst (cutD xs lo hi)) S3)) E) E) E) : wO (eSl fa fl fh ρ S) P E :=
  wO_bind (wO_imp h fun d S1 z => wO_bind (wO_imp z fun lo S2 z => wO_bind (wO_imp z fun hi S3 z => by
    rcases z with ⟨xs, rfl, z5⟩ | ⟨nt, xs, e, z5⟩
    · first | exact z5 | exact ⟨z5⟩ | exact (z5).h | exact ⟨(z5).h⟩
    · have q5 : wO (Out.ok (D.lst (cutD xs lo hi)) S3) P E := ⟨z5⟩
      cases d with
      | tup ys => exact absurd rfl (nt ys)
      | _ => simp only [e]; first | exact q5 | exact ⟨q5⟩ | exact (q5).h | exact ⟨(q5).h⟩)))
end
end DL

set_option Elab.async false
set_option linter.all false
set_option maxRecDepth 100000
namespace DL
open PySem PySem.Spec PyProof.Rows L2
section

/-! ### loops -/
section
variable {N : Env → Sto → Prop} {R : D → Sto → Prop} {X : Addr → D → Env → Sto → Prop} {B Ct : Env → Sto → Prop} {ρ : Env} {S : Sto} {T : GF} {body : SF} {fi : XF} {E : EE}
theorem wS_turn {o : SO} {k : SF} (h : wS o (fun ρ S => wS (k ρ S) N R X B Ct) R X (N) (fun ρ S => wS (k ρ S) N R X B Ct)) : wS (o.turn k) N R X B Ct := by
  cases o with
  | nx ρ S => first | exact h | exact ⟨h⟩ | exact (h).h | exact ⟨(h).h⟩
  | rt d S => first | exact h | exact ⟨h⟩ | exact (h).h | exact ⟨(h).h⟩
  | exc C w ρ S => first | exact h | exact ⟨h⟩ | exact (h).h | exact ⟨(h).h⟩
  | bk ρ S => first | exact h | exact ⟨h⟩ | exact (h).h | exact ⟨(h).h⟩
  | ct ρ S => first | exact h | exact ⟨h⟩ | exact (h).h | exact ⟨(h).h⟩
  | no => first | exact h | exact ⟨h⟩ | exact (h).h | exact ⟨(h).h⟩
theorem wS_forL {src : DL.Src} (xs : List D) (I : List D → Env → Sto → Prop) (hs : ∀ done ρ S, I done ρ S → ∀ i, src.at' S i = some xs[i]?)
    (step : ∀ done x rest ρ S, xs = done ++ x :: rest → I done ρ S → ∃ ρ1 S1, T x ρ S = .nx ρ1 S1 ∧ wS (body ρ1 S1) (I (done ++ [x])) R X (N) (I (done ++ [x]))) (fin : ∀ ρ S, I xs ρ S → N ρ S) :
    ∀ (rest done : List D) (ρ : Env) (S : Sto), xs = done ++ rest → I done ρ S → wS (forL src T body (rest.length + 1) done.length ρ S) N R X B Ct
  | [], done, ρ, S, e, h => by
    have e' : xs = done := by simpa using e
    simp only [forL, hs done ρ S h, e', List.getElem?_eq_none_iff.mpr (Nat.le_refl _)]
    exact ⟨fin ρ S (e' ▸ h)⟩
  | x :: rest, done, ρ, S, e, h => by
    have ex : xs[done.length]? = some x := by rw [e, List.getElem?_append_right (Nat.le_refl _), Nat.sub_self]; rfl
    rw [List.length_cons]
    unfold forL
    simp only [hs done ρ S h, ex]
    obtain ⟨ρ1, S1, eT, z⟩ := step done x rest ρ S e h
    rw [eT]
    refine wS_turn (wS_mono z ?_ (fun _ _ z => z) (fun _ _ _ _ z => z) (fun _ _ z => z) ?_) <;>
    · intro ρ2 S2 z2
      have := wS_forL xs I hs step fin rest (done ++ [x]) ρ2 S2 (by rw [e]; simp) z2
      rwa [List.length_append] at this
theorem wS_for (h : wO (fi ρ S) (fun src S1 => wS (forL src T body (src.len S1 + 1) 0 ρ S1) N R X B Ct) (fun C w S1 => X C w ρ S1)) : wS (sFor fi T body ρ S) N R X B Ct := by
  unfold sFor
  cases e : fi ρ S with
  | ok src S1 => rw [e] at h; first | exact h | exact ⟨h⟩ | exact (h).h | exact ⟨(h).h⟩
  | exc C w S1 => rw [e] at h; first | exact h | exact ⟨h⟩ | exact (h).h | exact ⟨(h).h⟩
  | no => rw [e] at h; first | exact h | exact ⟨h⟩ | exact (h).h | exact ⟨(h).h⟩
/-- a for over what does not change -/
theorem wS_forS {src : DL.Src} (xs : List D) (hs : ∀ S i, src.at' S i = some xs[i]?) (hl : src.len S = xs.length) (I : List D → Env → Sto → Prop) (h0 : I [] ρ S)
    (step : ∀ done x rest ρ S, xs = done ++ x :: rest → I done ρ S → ∃ ρ1 S1, T x ρ S = .nx ρ1 S1 ∧ wS (body ρ1 S1) (I (done ++ [x])) R X (N) (I (done ++ [x]))) (fin : ∀ ρ S, I xs ρ S → N ρ S) :
    wS (forL src T body (src.len S + 1) 0 ρ S) N R X B Ct := by
  rw [hl]
  exact wS_forL xs I (fun _ _ S _ i => hs S i) step fin xs [] ρ S rfl h0
theorem wS_forTup (xs : List D) (I : List D → Env → Sto → Prop) (h0 : I [] ρ S)
    (step : ∀ done x rest ρ S, xs = done ++ x :: rest → I done ρ S → ∃ ρ1 S1, T x ρ S = .nx ρ1 S1 ∧ wS (body ρ1 S1) (I (done ++ [x])) R X (N) (I (done ++ [x]))) (fin : ∀ ρ S, I xs ρ S → N ρ S) :
    wS (forL (.tup xs) T body ((Src.tup xs).len S + 1) 0 ρ S) N R X B Ct := wS_forS xs (fun _ _ => rfl) rfl I h0 step fin
theorem wS_forLst (xs : List D) (I : List D → Env → Sto → Prop) (h0 : I [] ρ S)
    (step : ∀ done x rest ρ S, xs = done ++ x :: rest → I done ρ S → ∃ ρ1 S1, T x ρ S = .nx ρ1 S1 ∧ wS (body ρ1 S1) (I (done ++ [x])) R X (N) (I (done ++ [x]))) (fin : ∀ ρ S, I xs ρ S → N ρ S) :
    wS (forL (.lst (.lst xs)) T body ((Src.lst (.lst xs)).len S + 1) 0 ρ S) N R X B Ct := wS_forS xs (fun _ _ => rfl) rfl I h0 step fin
theorem intsFrom_len (lo : Int) (n : Nat) : (intsFrom lo n).length = n := by simp [intsFrom]
theorem intsFrom_get (lo : Int) (n i : Nat) (h : i < n) : (intsFrom lo n)[i]? = some (.int (lo + i)) := by
  unfold intsFrom; rw [List.getElem?_map, List.getElem?_range h]; rfl
theorem intsFrom_split {lo : Int} {n : Nat} {done rest : List D} {x : D} (e : intsFrom lo n = done ++ x :: rest) : done.length < n ∧ x = .int (lo + done.length) := by
  have h1 : done.length < n := by
    have := congrArg List.length e
    simp [intsFrom_len] at this; omega
  refine ⟨h1, ?_⟩
  have h2 := intsFrom_get lo n done.length h1
  rw [e, List.getElem?_append_right (Nat.le_refl _), Nat.sub_self] at h2
  simpa using h2
/-- a for over the ints from lo on -/
theorem wS_forRng {lo : Int} {n : Nat} (I : Nat → Env → Sto → Prop) (h0 : I 0 ρ S)
    (step : ∀ k ρ S, k < n → I k ρ S → ∃ ρ1 S1, T (.int (lo + k)) ρ S = .nx ρ1 S1 ∧ wS (body ρ1 S1) (I (k + 1)) R X (N) (I (k + 1))) (fin : ∀ ρ S, I n ρ S → N ρ S) :
    wS (forL (.its (intsFrom lo n)) T body ((Src.its (intsFrom lo n)).len S + 1) 0 ρ S) N R X B Ct :=
  wS_forS (intsFrom lo n) (fun _ _ => rfl) rfl (fun done => I done.length) h0 (fun done x rest ρ S e h => by
    obtain ⟨h1, rfl⟩ := intsFrom_split e
    obtain ⟨ρ1, S1, z1, z2⟩ := step done.length ρ S h1 h
    exact ⟨ρ1, S1, z1, by rw [List.length_append]; exact z2⟩) fun ρ S h => fin ρ S (by rwa [intsFrom_len] at h)
/-! ### what is walked -/
variable {PX : PP DL.Src} {fa : EF} {f : AF}
theorem wO_xLst (h : wO (fa ρ S) (fun d S1 => (lstOf S1 d).isSome ∧ PX (.lst d) S1) E) : wO (xLst fa ρ S) PX E := wO_bind (wO_imp h fun d S1 ⟨z1, z2⟩ => by
  cases e : lstOf S1 d with
  | none => rw [e] at z1; cases z1
  | some xs => first | exact z2 | exact ⟨z2⟩ | exact (z2).h | exact ⟨(z2).h⟩)
theorem wO_xTup (h : wO (fa ρ S) (fun d S1 => ∃ xs, d = .tup xs ∧ PX (.tup xs) S1) E) : wO (xTup fa ρ S) PX E := wO_bind (wO_imp h fun d S1 ⟨xs, e, z⟩ => by subst e; first | exact z | exact ⟨z⟩ | exact (z).h | exact ⟨(z).h⟩)
theorem wO_xRng1 (h : wO (f ρ S) (fun ds S1 => ∃ b, ds = [.int b] ∧ (-(2 ^ 62) ≤ b ∧ b < 2 ^ 62) ∧ PX (.its (intsFrom 0 b.toNat)) S1) E) : wO (xRng1 f ρ S) PX E := wO_bind (wO_imp h fun d S1 ⟨b, e, z1, z⟩ => by subst e; simp only [if_pos z1]; first | exact z | exact ⟨z⟩ | exact (z).h | exact ⟨(z).h⟩)
theorem wO_xRng2 (h : wO (f ρ S) (fun ds S1 => ∃ a b, ds = [.int a, .int b] ∧ (-(2 ^ 62) ≤ a ∧ a < 2 ^ 62 ∧ -(2 ^ 62) ≤ b ∧ b < 2 ^ 62) ∧ PX (.its (intsFrom a (b - a).toNat)) S1) E) : wO (xRng2 f ρ S) PX E := wO_bind (wO_imp h fun d S1 ⟨a, b, e, z1, z⟩ => by subst e; simp only [if_pos z1]; first | exact z | exact ⟨z⟩ | exact (z).h | exact ⟨(z).h⟩)
theorem wO_xRng (h : wO (fa ρ S) (fun d S1 => ∃ lo hi, d = .rng lo hi ∧ (-(2 ^ 62) ≤ lo ∧ lo < 2 ^ 62 ∧ -(2 ^ 62) ≤ hi ∧ hi < 2 ^ 62) ∧ PX (.its (intsFrom lo (hi - lo).toNat)) S1) E) : wO (xRng fa ρ S) PX E := wO_bind (wO_imp h fun d S1 ⟨a, b, e, z1, z⟩ => by subst e; simp only [if_pos z1]; first | exact z | exact ⟨z⟩ | exact (z).h | exact ⟨(z).h⟩)
end

/-! ### comprehensions -/
section
variable {ρ : Env} {S : Sto} {E : EE} {P : PP D} {PA : PP (List D)} {own : List Nat} {c : CT} {t : BF} {fe : EF} {fi : XF} {kfin : List D → Sto → Out D} {f : AB}
theorem wO_comp (h : wO (fi ρ S) (fun src S1 => wO (compL src own c t fe ρ (src.len S1 + 1) 0 [] S1) (fun ds S2 => wO (kfin ds S2) P E) E) E) : wO (fComp fi own c t fe kfin ρ S) P E :=
  wO_bind (wO_imp h fun _ _ z => wO_bind z)
theorem wO_compN (h : wO (fi ρ S) (fun src S1 => wO (fLoop src own c t f ρ (src.len S1 + 1) 0 [] S1) (fun ds S2 => wO (kfin ds S2) P E) E) E) : wO (fCompN fi own c t f kfin ρ S) P E :=
  wO_bind (wO_imp h fun _ _ z => wO_bind z)
theorem wO_compL {src : DL.Src} (xs : List D) (I : List D → List D → Sto → Prop) (hx : xs.length ≤ 16777216) (hs : ∀ done acc S, I done acc S → ∀ i, src.at' S i = some xs[i]?)
    (step : ∀ done x rest acc S, xs = done ++ x :: rest → I done acc S → ∃ ρ2, c.put x (wipeE ρ own) = some ρ2 ∧ wO (t ρ2 S) (fun b S2 => (b = true → wO (fe ρ2 S2) (fun y S3 => I (done ++ [x]) (acc ++ [y]) S3) E0) ∧ (b = false → I (done ++ [x]) acc S2)) E0)
    (fin : ∀ acc S, I xs acc S → PA acc S) :
    ∀ (rest done acc : List D) (S : Sto), xs = done ++ rest → acc.length ≤ done.length → I done acc S → wO (compL src own c t fe ρ (rest.length + 1) done.length acc S) PA E
  | [], done, acc, S, e, hl, h => by
    have e' : xs = done := by simpa using e
    simp only [compL, hs done acc S h, e', List.getElem?_eq_none_iff.mpr (Nat.le_refl _)]
    exact ⟨fin acc S (e' ▸ h)⟩
  | x :: rest, done, acc, S, e, hl, h => by
    have ex : xs[done.length]? = some x := by rw [e, List.getElem?_append_right (Nat.le_refl _), Nat.sub_self]; rfl
    have hd : done.length < 16777216 := by
      have := congrArg List.length e
      simp at this; omega
    rw [List.length_cons]
    unfold compL
    simp only [hs done acc S h, ex]
    obtain ⟨ρ2, ep, z⟩ := step done x rest acc S e h
    simp only [ep]
    obtain ⟨b, S2, et, z1, z2⟩ := wO_get z
    simp only [et]
    cases b with
    | true =>
      obtain ⟨y, S3, ef, z3⟩ := wO_get (z1 rfl)
      simp only [ef]
      rw [if_pos (by omega)]
      have := wO_compL xs I hx hs step fin rest (done ++ [x]) (acc ++ [y]) S3 (by rw [e]; simp) (by simp; exact hl) z3
      rwa [List.length_append] at this
    | false =>
      have := wO_compL xs I hx hs step fin rest (done ++ [x]) acc S2 (by rw [e]; simp) (by simp; omega) (z2 rfl)
      rwa [List.length_append] at this
theorem wO_compS {src : DL.Src} (xs : List D) (I : List D → List D → Sto → Prop) (hs : ∀ S i, src.at' S i = some xs[i]?) (hl : src.len S = xs.length) (hx : xs.length ≤ 16777216) (h0 : I [] [] S)
    (step : ∀ done x rest acc S, xs = done ++ x :: rest → I done acc S → ∃ ρ2, c.put x (wipeE ρ own) = some ρ2 ∧ wO (t ρ2 S) (fun b S2 => (b = true → wO (fe ρ2 S2) (fun y S3 => I (done ++ [x]) (acc ++ [y]) S3) E0) ∧ (b = false → I (done ++ [x]) acc S2)) E0)
    (fin : ∀ acc S, I xs acc S → PA acc S) : wO (compL src own c t fe ρ (src.len S + 1) 0 [] S) PA E := by
  rw [hl]
  exact wO_compL xs I hx (fun _ _ S _ i => hs S i) step fin xs [] [] S rfl (Nat.le_refl _) h0
/-- that changes nothing, without a test: the items, one by one -/
theorem wO_compMap {src : DL.Src} (xs : List D) (g : D → D) (hs : ∀ S i, src.at' S i = some xs[i]?) (hl : src.len S = xs.length) (hx : xs.length ≤ 16777216)
    (step : ∀ x ∈ xs, ∃ ρ2, c.put x (wipeE ρ own) = some ρ2 ∧ wO (t ρ2 S) (fun b S2 => b = true ∧ S2 = S) E0 ∧ wO (fe ρ2 S) (fun y S3 => y = g x ∧ S3 = S) E0)
    (fin : PA (xs.map g) S) : wO (compL src own c t fe ρ (src.len S + 1) 0 [] S) PA E :=
  wO_compS xs (fun done acc S' => acc = done.map g ∧ S' = S) hs hl hx ⟨rfl, rfl⟩ (fun done x rest acc S' e ⟨h1, h2⟩ => by
    subst h1; subst h2
    obtain ⟨ρ2, ep, et, ef⟩ := step x (by rw [e]; simp)
    refine ⟨ρ2, ep, wO_imp et fun b S2 ⟨e1, e2⟩ => ?_⟩
    subst e1; subst e2
    exact ⟨fun _ => wO_imp ef fun y S3 ⟨e1, e2⟩ => by subst e1; subst e2; simp, fun z => nomatch z⟩) fun acc S' ⟨h1, h2⟩ => by subst h1; subst h2; first | exact fin | exact ⟨fin⟩ | exact (fin).h | exact ⟨(fin).h⟩
end
end
end DL

set_option Elab.async false
set_option linter.all false
set_option maxRecDepth 100000
namespace DL
open PySem PySem.Spec PyProof.Rows L2

/-! ### plain data -/
theorem strOk_append (x y : Str) : PyData.strOk (x ++ y) = (PyData.strOk x && PyData.strOk y) := by
  show (x.cps ++ y.cps).all _ = _
  rw [Array.all_append]; rfl
theorem strOk_ofString (s : String) : PyData.strOk (Str.ofString s) = true := by
  rw [Str.ofString_eq_toList]
  show ((s.toList.map Char.toNat).toArray).all _ = true
  simp only [List.all_toArray, List.all_map, List.all_eq_true, Function.comp]
  intro c _
  refine decide_eq_true ?_
  have := c.valid
  rcases this with h | ⟨_, h⟩
  · exact Nat.lt_of_lt_of_le h (by decide)
  · exact h
theorem strOk_join : ∀ (ts : List Str), (∀ t ∈ ts, PyData.strOk t = true) → PyData.strOk (Str.join ", " ts) = true
  | [], _ => by decide +kernel
  | [x], h => h x (by simp)
  | x :: y :: r, h => by
    show PyData.strOk (x ++ ", " ++ Str.join ", " (y :: r)) = true
    rw [strOk_append, strOk_append, h x (by simp), strOk_join (y :: r) fun t ht => h t (List.mem_cons_of_mem _ ht)]
    decide +kernel
/-- data that can be shown in N signs, k deep -/
structure Gd (k N : Nat) (d : D) : Prop where
  pu : d.pure = true
  cl : d.P.canLay0 = true
  dp : d.P.depth ≤ k
  sh : d.P.showable = true
  so : PyData.strOk d.P.shown = true
  ln : d.P.shown.length ≤ N
theorem Gd.mono {k N k' N' : Nat} {d : D} (g : Gd k N d) (h : k ≤ k') (h' : N ≤ N') : Gd k' N' d := ⟨g.pu, g.cl, Nat.le_trans g.dp h, g.sh, g.so, Nat.le_trans g.ln h'⟩
theorem gd_non : Gd 0 4 .non := ⟨rfl, rfl, Nat.le_refl _, rfl, by decide +kernel, by decide +kernel⟩
theorem gd_bl (b : Bool) : Gd 0 5 (.bl b) := ⟨rfl, rfl, Nat.le_refl _, rfl, by cases b <;> decide +kernel, by cases b <;> decide +kernel⟩
theorem log2_small {n k : Nat} (hk : k ≤ 500) (h : n < 10 ^ k) : n.log2 < 1920 := by
  by_cases h0 : n = 0
  · subst h0; decide
  · rw [Nat.log2_lt h0]
    have h1 : 10 ^ k ≤ 10 ^ 500 := Nat.pow_le_pow_right (by decide) hk
    have h2 : (10 : Nat) ^ 500 ≤ 2 ^ 1920 := by decide +kernel
    omega
theorem gd_int {i : Int} (k : Nat) (hk : 0 < k) (hk2 : k ≤ 500) (h : i.natAbs < 10 ^ k) : Gd 0 (k + 1) (.int i) := by
  refine ⟨rfl, rfl, Nat.le_refl _, ?_, ?_, ?_⟩
  · show decide (i.natAbs.log2 < 1920) = true
    exact decide_eq_true (log2_small hk2 h)
  · exact strOk_ofString _
  · show (Str.ofString (toString i)).length ≤ k + 1
    rw [PySem.ofString_length]
    exact int_text_length_le10 hk h
theorem gd_str (x : Str) {N : Nat} (h1 : PyData.strOk x = true) (h2 : PyData.strOk (reprText x) = true) (h3 : (reprText x).length ≤ N) : Gd 0 N (.str x) := ⟨rfl, h1, Nat.le_refl _, rfl, h2, h3⟩
theorem ps_map : ∀ xs : List D, D.Ps xs = xs.map D.P
  | [] => rfl
  | x :: xs => by rw [D.Ps, ps_map xs]; rfl
theorem pures_all : ∀ xs : List D, D.pures xs = xs.all D.pure
  | [] => rfl
  | x :: xs => by rw [D.pures, pures_all xs]; rfl
mutual
theorem closed_of_pure (n : Nat) : ∀ d : D, d.pure = true → d.closed n = true
  | .non, _ => rfl
  | .bl _, _ => rfl
  | .int _, _ => rfl
  | .str _, _ => rfl
  | .tup xs, h => by simp only [D.closed]; exact closeds_of_pures n xs (by simpa only [D.pure] using h)
  | .lst xs, h => by simp only [D.closed]; exact closeds_of_pures n xs (by simpa only [D.pure] using h)
  | .frl xs, h => by simp only [D.closed]; exact closeds_of_pures n xs (by simpa only [D.pure] using h)
  | .ref _, h => by simp only [D.pure] at h; cases h
  | .ty _, _ => rfl
  | .rng _ _, _ => rfl
  | .exc _ _ _ _, h => by simp only [D.pure] at h; cases h
theorem closeds_of_pures (n : Nat) : ∀ xs : List D, D.pures xs = true → D.closeds n xs = true
  | [], _ => rfl
  | x :: xs, h => by
    simp only [D.pures, Bool.and_eq_true] at h
    simp only [D.closeds, Bool.and_eq_true]
    exact ⟨closed_of_pure n x h.1, closeds_of_pures n xs h.2⟩
end
theorem closeds_mem {n : Nat} {xs : List D} (h : ∀ x ∈ xs, x.pure = true) : D.closeds n xs = true := closeds_of_pures n xs (by rw [pures_all]; exact List.all_eq_true.mpr h)
theorem Gd.clo {k N : Nat} {d : D} (g : Gd k N d) (n : Nat) : d.closed n = true := closed_of_pure n d g.pu
theorem canLayAll_of : ∀ {xs : List D}, (∀ x ∈ xs, x.P.canLay0 = true) → PyData.canLayAll0 (D.Ps xs) = true
  | [], _ => rfl
  | x :: xs, h => by
    simp only [D.Ps, PyData.canLayAll0, Bool.and_eq_true]
    exact ⟨h x (by simp), canLayAll_of fun y hy => h y (by simp [hy])⟩
theorem depthAll_of {k : Nat} : ∀ {xs : List D}, (∀ x ∈ xs, x.P.depth ≤ k) → PyData.depthAll (D.Ps xs) ≤ k
  | [], _ => Nat.zero_le _
  | x :: xs, h => by
    simp only [D.Ps, PyData.depthAll]
    exact Nat.max_le.mpr ⟨h x (by simp), depthAll_of fun y hy => h y (by simp [hy])⟩
theorem showAll_of : ∀ {xs : List D}, (∀ x ∈ xs, x.P.showable = true) → PyData.showableAll (D.Ps xs) = true
  | [], _ => rfl
  | x :: xs, h => by
    simp only [D.Ps, PyData.showableAll, Bool.and_eq_true]
    exact ⟨h x (by simp), showAll_of fun y hy => h y (by simp [hy])⟩
theorem shownAll_of : ∀ xs : List D, PyData.shownAll (D.Ps xs) = xs.map fun x => x.P.shown
  | [] => rfl
  | x :: xs => by simp only [D.Ps, PyData.shownAll, List.map_cons, shownAll_of xs]
theorem piled_le {N : Nat} : ∀ {ts : List Str}, (∀ t ∈ ts, t.length ≤ N) → piled ts ≤ ts.length * (N + 2)
  | [], _ => Nat.zero_le _
  | t :: ts, h => by
    rw [piled_cons, List.length_cons, Nat.add_mul, Nat.one_mul]
    have := h t (by simp)
    have := piled_le (ts := ts) fun y hy => h y (by simp [hy])
    omega
theorem join_le {N : Nat} {ts : List Str} (h : ∀ t ∈ ts, t.length ≤ N) : (Str.join ", " ts).length ≤ ts.length * (N + 2) := by
  by_cases e : ts = []
  · subst e; exact Nat.zero_le _
  · have := join_length_add ts e
    have := piled_le h
    omega
theorem tupleText_len {N : Nat} {ts : List Str} (h : ∀ t ∈ ts, t.length ≤ N) : (tupleText ts).length ≤ ts.length * (N + 2) + 3 := by
  unfold tupleText
  have h1 := join_le h
  rw [strLen_append, strLen_append]
  have h2 : ((if ts.length == 1 then ",)" else ")" : String) : Str).length ≤ 2 := by split <;> decide +kernel
  have h3 : (("(" : Str)).length = 1 := by decide +kernel
  omega
theorem tupleText_ok {ts : List Str} (h : ∀ t ∈ ts, PyData.strOk t = true) : PyData.strOk (tupleText ts) = true := by
  unfold tupleText
  rw [strOk_append, strOk_append, strOk_join ts h]
  split <;> decide +kernel
theorem gd_tup {k N M : Nat} {xs : List D} (h : ∀ x ∈ xs, Gd k N x) (hM : xs.length * (N + 2) + 3 ≤ M) : Gd (k + 1) M (.tup xs) := by
  refine ⟨?_, ?_, ?_, ?_, ?_, ?_⟩
  · simp only [D.pure]; rw [pures_all]; exact List.all_eq_true.mpr fun x hx => (h x hx).pu
  · show PyData.canLayAll0 (D.Ps xs) = true; exact canLayAll_of fun x hx => (h x hx).cl
  · show PyData.depthAll (D.Ps xs) + 1 ≤ k + 1; have := depthAll_of fun x hx => (h x hx).dp; omega
  · show PyData.showableAll (D.Ps xs) = true; exact showAll_of fun x hx => (h x hx).sh
  · show PyData.strOk (tupleText (PyData.shownAll (D.Ps xs))) = true
    rw [shownAll_of]; exact tupleText_ok (by simp only [List.mem_map]; rintro t ⟨x, hx, rfl⟩; exact (h x hx).so)
  · show (tupleText (PyData.shownAll (D.Ps xs))).length ≤ M
    rw [shownAll_of]
    have := tupleText_len (N := N) (ts := xs.map fun x => x.P.shown) (by simp only [List.mem_map]; rintro t ⟨x, hx, rfl⟩; exact (h x hx).ln)
    rw [List.length_map] at this
    omega
theorem top_pure {S : Sto} {d : D} (h : d.pure = true) : top S d = d := by
  cases d with
  | ref n => simp only [D.pure] at h; cases h
  | _ => rfl
theorem Gd.okD {k N : Nat} {d : D} (g : Gd k N d) (h : k ≤ 64) : okD d = true := by
  unfold DL.okD SeqAt.shaped
  rw [g.pu, g.cl]
  simp only [Bool.true_and, decide_eq_true_eq]
  exact Nat.le_trans g.dp h
theorem okD_str {x : Str} (h : PyData.strOk x = true) : okD (.str x) = true := by
  unfold DL.okD SeqAt.shaped
  rw [show (D.str x).P.canLay0 = true from h]
  rfl

/-! ### operations -/
section
variable {P : PP D} {E : EE} {S : Sto} {x y d : D} {i j : Int}
theorem wO_repr {k N : Nat} (g : Gd k N d) (h : P (.str d.P.shown) S) (hk : k ≤ 64 := by decide) (hN : N ≤ 16777216 := by decide) : wO (reprD [d] S) P E := by
  unfold reprD
  simp only [top_pure g.pu]
  rw [if_pos ⟨g.okD hk, g.sh, Nat.le_trans g.ln hN⟩]
  first | exact h | exact ⟨h⟩ | exact (h).h | exact ⟨(h).h⟩
theorem eqB_ok (hx : okD x = true) (hy : okD y = true) : eqB S x y = some (PyData.eqv x.P y.P) := by
  have px : x.pure = true := (Bool.and_eq_true_iff.mp hx).1
  have py : y.pure = true := (Bool.and_eq_true_iff.mp hy).1
  unfold eqB; rw [top_pure px, top_pure py, if_pos ⟨hx, hy⟩]
theorem wO_eqD (hx : okD x = true) (hy : okD y = true) (h : P (.bl (PyData.eqv x.P y.P)) S) : wO (eqD x y S) P E := by
  unfold eqD; rw [eqB_ok hx hy]; first | exact h | exact ⟨h⟩ | exact (h).h | exact ⟨(h).h⟩
theorem wO_neD (hx : okD x = true) (hy : okD y = true) (h : P (.bl (!PyData.eqv x.P y.P)) S) : wO (neD x y S) P E := by
  unfold neD; rw [eqB_ok hx hy]; first | exact h | exact ⟨h⟩ | exact (h).h | exact ⟨(h).h⟩
theorem eqv_okD (h : okD d = true) : PyData.eqv d.P d.P = true := SeqAt.eqv_refl _ (SeqAt.canLay_of_shaped (Bool.and_eq_true_iff.mp h).2)
theorem wO_eqI (h : P (.bl (decide (i = j))) S) : wO (eqD (.int i) (.int j) S) P E := wO_eqD rfl rfl (by
  rwa [show PyData.eqv (D.int i).P (D.int j).P = decide (i = j) by show (i == j) = _; by_cases e : i = j <;> simp [e]])
theorem wO_neI (h : P (.bl (!decide (i = j))) S) : wO (neD (.int i) (.int j) S) P E := wO_neD rfl rfl (by
  rwa [show PyData.eqv (D.int i).P (D.int j).P = decide (i = j) by show (i == j) = _; by_cases e : i = j <;> simp [e]])
/-- the same -/
theorem wO_neSame (hx : okD x = true) (h : P (.bl false) S) : wO (neD x x S) P E := wO_neD hx hx (by rw [eqv_okD hx]; first | exact h | exact ⟨h⟩ | exact (h).h | exact ⟨(h).h⟩)
theorem wO_eqSame (hx : okD x = true) (h : P (.bl true) S) : wO (eqD x x S) P E := wO_eqD hx hx (by rw [eqv_okD hx]; first | exact h | exact ⟨h⟩ | exact (h).h | exact ⟨(h).h⟩)
theorem wO_add (h : P (.int (i + j)) S) : wO (addD (.int i) (.int j) S) P E := by first | exact h | exact ⟨h⟩ | exact (h).h | exact ⟨(h).h⟩
theorem wO_sub (h : P (.int (i - j)) S) : wO (subD (.int i) (.int j) S) P E := by first | exact h | exact ⟨h⟩ | exact (h).h | exact ⟨(h).h⟩
theorem wO_neg (h : P (.int (-i)) S) : wO (negD (.int i) S) P E := by first | exact h | exact ⟨h⟩ | exact (h).h | exact ⟨(h).h⟩
theorem wO_augAdd (h : P (.int (i + j)) S) : wO (augAddD (.int i) (.int j) S) P E := by first | exact h | exact ⟨h⟩ | exact (h).h | exact ⟨(h).h⟩
theorem wO_mul (hb : (-(2 ^ 64) < i ∧ i < 2 ^ 64) ∨ (-(2 ^ 64) < j ∧ j < 2 ^ 64)) (h : P (.int (i * j)) S) : wO (mulD (.int i) (.int j) S) P E := by unfold mulD; simp only [if_pos hb]; first | exact h | exact ⟨h⟩ | exact (h).h | exact ⟨(h).h⟩
theorem wO_mod (hb : 0 < j) (h : P (.int (i % j)) S) : wO (modD (.int i) (.int j) S) P E := by unfold modD; simp only [if_pos hb]; first | exact h | exact ⟨h⟩ | exact (h).h | exact ⟨(h).h⟩
theorem wO_fdiv (hb : 0 < j) (hb2 : j < 2 ^ 64) (h : P (.int (i / j)) S) : wO (fdivD (.int i) (.int j) S) P E := by
  have : j.natAbs.log2 < 9000 := by
    have e : j.natAbs ≠ 0 := by omega
    rw [Nat.log2_lt e]
    have : (2 : Nat) ^ 64 ≤ 2 ^ 9000 := Nat.pow_le_pow_right (by decide) (by decide)
    omega
  unfold fdivD; simp only [if_pos (And.intro hb this)]; first | exact h | exact ⟨h⟩ | exact (h).h | exact ⟨(h).h⟩
theorem wO_pow (hb : 0 ≤ j ∧ j ≤ 1000000 ∧ i.natAbs < 2 ^ 64) (h : P (.int (i ^ j.toNat)) S) : wO (powD (.int i) (.int j) S) P E := by unfold powD; simp only [if_pos hb]; first | exact h | exact ⟨h⟩ | exact (h).h | exact ⟨(h).h⟩
theorem wO_lt (h : P (.bl (decide (i < j))) S) : wO (ltD (.int i) (.int j) S) P E := by first | exact h | exact ⟨h⟩ | exact (h).h | exact ⟨(h).h⟩
theorem wO_le (h : P (.bl (decide (i ≤ j))) S) : wO (leD (.int i) (.int j) S) P E := by first | exact h | exact ⟨h⟩ | exact (h).h | exact ⟨(h).h⟩
theorem wO_gt (h : P (.bl (decide (j < i))) S) : wO (gtD (.int i) (.int j) S) P E := by first | exact h | exact ⟨h⟩ | exact (h).h | exact ⟨(h).h⟩
theorem wO_ge (h : P (.bl (decide (j ≤ i))) S) : wO (geD (.int i) (.int j) S) P E := by first | exact h | exact ⟨h⟩ | exact (h).h | exact ⟨(h).h⟩
def D.isNon : D → Bool
  | .non => true
  | _ => false
theorem wO_isNon (h : P (.bl x.isNon) S) : wO (isD x .non S) P E := by cases x <;> first | exact h | exact ⟨h⟩ | exact (h).h | exact ⟨(h).h⟩
theorem wO_isNotNon (h : P (.bl (!x.isNon)) S) : wO (isNotD x .non S) P E := by cases x <;> first | exact h | exact ⟨h⟩ | exact (h).h | exact ⟨(h).h⟩
theorem wO_isNotB {a b : Bool} (h : P (.bl (!decide (a = b))) S) : wO (isNotD (.bl a) (.bl b) S) P E := by first | exact h | exact ⟨h⟩ | exact (h).h | exact ⟨(h).h⟩
theorem wO_isB {a b : Bool} (h : P (.bl (decide (a = b))) S) : wO (isD (.bl a) (.bl b) S) P E := by first | exact h | exact ⟨h⟩ | exact (h).h | exact ⟨(h).h⟩
theorem wO_ix {xs : List D} (h1 : seqOf S x = some xs) (h2 : atI xs i = some d) (h : P d S) : wO (ixD x (.int i) S) P E := by unfold ixD; simp only [h1, h2]; first | exact h | exact ⟨h⟩ | exact (h).h | exact ⟨(h).h⟩
theorem seqOf_ref {n : Nat} {xs : List D} (h : S[n]? = some (.lst xs)) : seqOf S (.ref n) = some xs := by unfold seqOf lstOf; simp only [h]
theorem tSub_ok {fo fi : EF} {ρ : Env} {n m : Nat} {k : Int} {xs : List D} (h1 : fo ρ S = .ok (.ref n) S) (h2 : fi ρ S = .ok (.int k) S) (h3 : S[n]? = some (.lst xs)) (h4 : ixN xs.length k = some m) : tSub fo fi d ρ S = .nx ρ (S.set n (.lst (xs.set m d))) := by
  unfold tSub letE
  rw [h1]; simp only []
  rw [h2]; simp only [setD, h3, h4]
theorem atI_nat {α : Type} {xs : List α} {k : Nat} {a : α} (h : xs[k]? = some a) : atI xs (k : Int) = some a := by
  have hk : k < xs.length := (List.getElem?_eq_some_iff.mp h).1
  unfold atI ixN
  rw [if_pos (by omega), if_pos (by omega)]
  first | exact h | exact ⟨h⟩ | exact (h).h | exact ⟨(h).h⟩
theorem wO_len {xs : List D} (h1 : seqOf S x = some xs) (h : P (.int xs.length) S) : wO (lenD [x] S) P E := by unfold lenD; simp only [h1]; first | exact h | exact ⟨h⟩ | exact (h).h | exact ⟨(h).h⟩
theorem wO_int (h : P (.int i) S) : wO (intD [.int i] S) P E := by first | exact h | exact ⟨h⟩ | exact (h).h | exact ⟨(h).h⟩
theorem wO_intB {b : Bool} (h : P (.int (if b then 1 else 0)) S) : wO (intD [.bl b] S) P E := by first | exact h | exact ⟨h⟩ | exact (h).h | exact ⟨(h).h⟩
theorem wO_max2 (h : P (.int (if j > i then j else i)) S) : wO (max2D [.int i, .int j] S) P E := by first | exact h | exact ⟨h⟩ | exact (h).h | exact ⟨(h).h⟩
theorem wO_min2 (h : P (.int (if j < i then j else i)) S) : wO (min2D [.int i, .int j] S) P E := by first | exact h | exact ⟨h⟩ | exact (h).h | exact ⟨(h).h⟩
theorem wO_tuple {xs : List D} (h1 : seqOf S x = some xs) (h : P (.tup xs) S) : wO (tupleD [x] S) P E := by unfold tupleD; simp only [h1]; first | exact h | exact ⟨h⟩ | exact (h).h | exact ⟨(h).h⟩
theorem wO_list {xs : List D} (h1 : seqOf S x = some xs) (h : P (.lst xs) S) : wO (listD [x] S) P E := by unfold listD; simp only [h1]; first | exact h | exact ⟨h⟩ | exact (h).h | exact ⟨(h).h⟩
theorem wO_listM {xs : List D} (h1 : seqOf S x = some xs) (h : P (.ref S.length) (S ++ [.lst xs])) : wO (listM [x] S) P E := by unfold listM; simp only [h1]; first | exact h | exact ⟨h⟩ | exact (h).h | exact ⟨(h).h⟩
theorem wO_addL {xs ys : List D} (hb : xs.length + ys.length ≤ 16777216) (h : P (.lst (xs ++ ys)) S) : wO (addD (.lst xs) (.lst ys) S) P E := by unfold addD; simp only [if_pos hb]; first | exact h | exact ⟨h⟩ | exact (h).h | exact ⟨(h).h⟩
theorem wO_addT {xs ys : List D} (hb : xs.length + ys.length ≤ 16777216) (h : P (.tup (xs ++ ys)) S) : wO (addD (.tup xs) (.tup ys) S) P E := by unfold addD; simp only [if_pos hb]; first | exact h | exact ⟨h⟩ | exact (h).h | exact ⟨(h).h⟩
theorem wO_mulL {xs : List D} {k : Int} (hb : -(2 ^ 63) ≤ k ∧ k < 2 ^ 63 ∧ xs.length * k.toNat ≤ 16777216) (h : P (.lst (List.replicate k.toNat xs).flatten) S) : wO (mulD (.lst xs) (.int k) S) P E := by unfold mulD; simp only [if_pos hb]; first | exact h | exact ⟨h⟩ | exact (h).h | exact ⟨(h).h⟩
theorem blsOf_map : ∀ bs : List Bool, blsOf (bs.map D.bl) = some bs
  | [] => rfl
  | b :: bs => by rw [List.map_cons, blsOf, blsOf_map bs]; rfl
theorem blsOf_mapf {α : Type} (g : α → Bool) (xs : List α) : blsOf (xs.map fun x => D.bl (g x)) = some (xs.map g) := by
  rw [show (xs.map fun x => D.bl (g x)) = (xs.map g).map D.bl by rw [List.map_map]; rfl, blsOf_map]
theorem wO_all {xs : List D} {bs : List Bool} (h1 : lstOf S x = some xs) (h2 : blsOf xs = some bs) (h : P (.bl (bs.all id)) S) : wO (allD [x] S) P E := by unfold allD; simp only [h1, Option.bind, h2]; first | exact h | exact ⟨h⟩ | exact (h).h | exact ⟨(h).h⟩
theorem wO_range (h : P (.rng 0 i) S) : wO (rangeD [.int i] S) P E := by first | exact h | exact ⟨h⟩ | exact (h).h | exact ⟨(h).h⟩
def D.tn : D → String
  | .non => "NoneType" | .bl _ => "bool" | .int _ => "int" | .str _ => "str" | .tup _ => "tuple" | .lst _ => "list" | .frl _ => "list" | _ => ""
def kits (t T : String) : Bool := t == T || (t == "bool" && T == "int")
theorem kitB_ok {t T : String} (h : t ∈ ["NoneType", "bool", "int", "str", "tuple", "list"]) (h' : T ∈ ["int", "bool", "tuple", "str", "list"]) : kitB t T = some (kits t T) := by
  revert h h'
  have : ∀ t ∈ ["NoneType", "bool", "int", "str", "tuple", "list"], ∀ T ∈ ["int", "bool", "tuple", "str", "list"], kitB t T = some (kits t T) := by decide +kernel
  exact fun h h' => this t h T h'
theorem wO_isi {T : String} (hd : d.pure = true) (hT : T ∈ ["int", "bool", "tuple", "str", "list"]) (h : P (.bl (kits d.tn T)) S) : wO (isiD [d, .ty T] S) P E := by
  have e : tyOf S d = some d.tn := by cases d <;> first | rfl | (simp only [D.pure] at hd; cases hd)
  have m : d.tn ∈ ["NoneType", "bool", "int", "str", "tuple", "list"] := by cases d <;> first | (simp [D.tn]; done) | (simp only [D.pure] at hd; cases hd)
  unfold isiD
  simp only [e, kitB_ok m hT]
  first | exact h | exact ⟨h⟩ | exact (h).h | exact ⟨(h).h⟩
end
end DL

set_option Elab.async false
set_option linter.all false
set_option maxRecDepth 100000
namespace DL
open PySem PySem.Spec PyProof.Rows L2

local macro_rules | `(tactic| walk_at "dl1") => `(tactic| first
  | with_reducible refine wS_seq ?_
  | with_reducible refine wS_set ?_
  | with_reducible refine wS_ret ?_
  | with_reducible refine wS_expr ?_
  | with_reducible refine wS_if ?_
  | with_reducible refine wS_next ?_
  | with_reducible refine wS_raise ?_
  | with_reducible refine wS_asg ?_
  | with_reducible refine wS_par ?_
  | with_reducible refine wS_par3 ?_
  | with_reducible refine wS_aug ?_
  | with_reducible refine wS_retN ?_
  | with_reducible refine wS_for ?_
  | with_reducible refine wS_break ?_
  | with_reducible refine wS_cont ?_
  | ((with_reducible refine' wO_var ?he_ ?_); (case he_ => exact rfl))
  | with_reducible refine wO_c ?_
  | with_reducible refine wO_ok ?_
  | with_reducible refine wO_bin ?_
  | with_reducible refine wO_cons ?_
  | with_reducible refine wO_nil ?_
  | with_reducible refine wO_call ?_
  | with_reducible refine wO_fn ?_
  | with_reducible refine wO_val ?_
  | with_reducible refine wO_bnot ?_
  | with_reducible refine wO_un ?_
  | with_reducible refine wO_and ?_
  | with_reducible refine wO_or ?_
  | with_reducible refine wO_not ?_
  | with_reducible refine wO_if ?_
  | with_reducible refine wO_tup ?_
  | with_reducible refine wO_lst ?_
  | with_reducible refine wO_lstM ?_
  | with_reducible refine wO_band ?_
  | with_reducible refine wO_bor ?_
  | with_reducible refine wO_btrue ?_
  | with_reducible refine wO_chain ?_
  | with_reducible refine wO_lm ?_
  | with_reducible refine wO_sl ?_
  | with_reducible refine wO_oNone ?_
  | with_reducible refine wO_oSome ?_
  | with_reducible refine wO_comp ?_
  | with_reducible refine wO_compN ?_
  | with_reducible refine wO_xLst ?_
  | with_reducible refine wO_xTup ?_
  | with_reducible refine wO_xRng1 ?_
  | with_reducible refine wO_xRng2 ?_
  | with_reducible refine wO_xRng ?_
  | with_reducible refine wO_add ?_
  | with_reducible refine wO_sub ?_
  | with_reducible refine wO_neg ?_
  | with_reducible refine wO_lt ?_
  | with_reducible refine wO_le ?_
  | with_reducible refine wO_gt ?_
  | with_reducible refine wO_ge ?_
  | with_reducible refine wO_eqI ?_
  | with_reducible refine wO_neI ?_
  | with_reducible refine wO_isNon ?_
  | with_reducible refine wO_isNotNon ?_
  | with_reducible refine wO_isB ?_
  | with_reducible refine wO_isNotB ?_
  | with_reducible refine wO_int ?_
  | with_reducible refine wO_intB ?_
  | with_reducible refine wO_max2 ?_
  | with_reducible refine wO_min2 ?_
  | with_reducible refine wO_range ?_
  | with_reducible refine wO_augAdd ?_
  | ((with_reducible refine' wO_len ?he_ ?_); (case he_ => exact rfl))
  | ((with_reducible refine' wO_tuple ?he_ ?_); (case he_ => exact rfl))
  | ((with_reducible refine' wO_list ?he_ ?_); (case he_ => exact rfl))
  | ((with_reducible refine' wO_isi ?he_ ?hm_ ?_); (case he_ => first | rfl | assumption); (case hm_ => decide))
  | ((with_reducible refine' wO_ix ?he_ ?h2_ ?_); (case he_ => first | exact rfl | exact seqOf_ref (by assumption)); (case h2_ => exact rfl))
  | ((with_reducible refine' Exists.intro _ (And.intro ?hr_ ?_)); (case hr_ => exact rfl))
  | ((with_reducible refine' And.intro ?hr_ ?_); (case hr_ => first | exact rfl | exact Nat.le_of_ble_eq_true rfl))
  | ((with_reducible refine' Exists.intro _ (Exists.intro _ (And.intro ?hr_ ?_))); (case hr_ => exact rfl))
  | ((with_reducible refine' Exists.intro _ (Exists.intro _ (Exists.intro _ (And.intro ?hr_ ?_)))); (case hr_ => exact rfl))
  | with_reducible rfl)
local macro_rules | `(tactic| walk_at "dl") => `(tactic| repeat (walk_at "dl1"))
/-! ### the source of draws -/
def drw (a b : Int) : MO := .lst [.int a, .int b]
theorem drw_clo (a b : Int) (n : Nat) : (drw a b).closed n = true := rfl
/-- at n stands a source of draws -/
def Sr (S : Sto) (n : Nat) : Prop := ∃ a b, S[n]? = some (drw a b) ∧ 0 ≤ b ∧ b < 2147483647
/-- S' is S with the source at n moved on -/
def St (n : Nat) (S S' : Sto) : Prop := ∃ a b, S' = S.set n (drw a b) ∧ 0 ≤ b ∧ b < 2147483647
section
variable {n k : Nat} {S S1 S2 S' T T' : Sto} {o : MO}
theorem Sr.lt (h : Sr S n) : n < S.length := by
  obtain ⟨a, b, e, _⟩ := h
  exact (List.getElem?_eq_some_iff.mp e).1
theorem Sr.st (h : Sr S n) : St n S S := by
  obtain ⟨a, b, e, h1, h2⟩ := h
  refine ⟨a, b, ?_, h1, h2⟩
  obtain ⟨hl, e⟩ := List.getElem?_eq_some_iff.mp e
  rw [← e, List.set_getElem_self]
theorem St.trans (h : St n S S1) (h' : St n S1 S2) : St n S S2 := by
  obtain ⟨a, b, rfl, _⟩ := h
  obtain ⟨a', b', rfl, h1, h2⟩ := h'
  exact ⟨a', b', List.set_set .., h1, h2⟩
theorem St.len (h : St n S S') : S'.length = S.length := by obtain ⟨a, b, rfl, _⟩ := h; simp
theorem St.src (h : St n S S') (hl : n < S.length) : Sr S' n := by
  obtain ⟨a, b, rfl, h1, h2⟩ := h
  exact ⟨a, b, List.getElem?_set_self hl, h1, h2⟩
theorem St.ne (h : St n S S') (hk : k ≠ n) : S'[k]? = S[k]? := by
  obtain ⟨a, b, rfl, _⟩ := h
  exact List.getElem?_set_ne (fun z => hk z.symm)
/-- S' is S with the source at n moved on, and with T behind -/
def Dr (n : Nat) (S T S' : Sto) : Prop := ∃ a b, S' = S.set n (drw a b) ++ T ∧ 0 ≤ b ∧ b < 2147483647
theorem Dr.mk (h : Sr S n) : Dr n S [] S := by
  obtain ⟨a, b, e, h1, h2⟩ := h.st
  exact ⟨a, b, by rw [List.append_nil]; exact e, h1, h2⟩
theorem Dr.len (h : Dr n S T S') : S'.length = S.length + T.length := by obtain ⟨a, b, rfl, _⟩ := h; simp
theorem Dr.src (h : Dr n S T S') (hl : n < S.length) : Sr S' n := by
  obtain ⟨a, b, rfl, h1, h2⟩ := h
  exact ⟨a, b, by rw [List.getElem?_append_left (by simpa using hl)]; exact List.getElem?_set_self hl, h1, h2⟩
theorem Dr.st (h : Dr n S T S1) (h' : St n S1 S2) (hl : n < S.length) : Dr n S T S2 := by
  obtain ⟨a, b, rfl, _⟩ := h
  obtain ⟨a', b', rfl, h1, h2⟩ := h'
  exact ⟨a', b', by rw [List.set_append_left _ _ (by simpa using hl), List.set_set], h1, h2⟩
theorem Dr.push (h : Dr n S T S') (o : MO) : Dr n S (T ++ [o]) (S' ++ [o]) := by
  obtain ⟨a, b, rfl, h1, h2⟩ := h
  exact ⟨a, b, by rw [List.append_assoc], h1, h2⟩
theorem Dr.get (h : Dr n S T S') (k : Nat) : S'[S.length + k]? = T[k]? := by
  obtain ⟨a, b, rfl, _⟩ := h
  rw [List.getElem?_append_right (by simp), List.length_set, Nat.add_sub_cancel_left]
theorem Dr.set (h : Dr n S T S') (k : Nat) (o : MO) : Dr n S (T.set k o) (S'.set (S.length + k) o) := by
  obtain ⟨a, b, rfl, h1, h2⟩ := h
  exact ⟨a, b, by rw [List.set_append_right _ _ (by simp), List.length_set, Nat.add_sub_cancel_left], h1, h2⟩
theorem Dr.cut {d : D} (h : Dr n S T S') (hd : d.pure = true) {P : PP D} {E : EE} (q : ∀ S'', St n S S'' → P d S'') : wO (DL.cut S d S') P E := by
  obtain ⟨a, b, rfl, h1, h2⟩ := h
  exact wO_eq (cut_set (drw_clo a b _) (closed_of_pure _ d hd)) (q _ ⟨a, b, rfl, h1, h2⟩)
theorem Dr.cutRef {xs : List D} {k : Nat} (h : Dr n S T S') (hk : T[k]? = some (.lst xs)) (hd : ∀ x ∈ xs, x.pure = true) {P : PP D} {E : EE} (q : ∀ S'', St n S S'' → P (.lst xs) S'') : wO (DL.cut S (.ref (S.length + k)) S') P E := by
  obtain ⟨a, b, rfl, h1, h2⟩ := h
  exact wO_eq (cut_set_ref (drw_clo a b _) hk (closeds_mem hd)) (q _ ⟨a, b, rfl, h1, h2⟩)
theorem Dr.cutX {C : Addr} {d : D} (h : Dr n S T S') (hd : d.pure = true) {P : PP D} {E : EE} (q : ∀ S'', St n S S'' → E C d S'') : wO (DL.cutX S C d S') P E := by
  obtain ⟨a, b, rfl, h1, h2⟩ := h
  exact wO_eqx (cutX_set (drw_clo a b _) (closed_of_pure _ d hd)) (q _ ⟨a, b, rfl, h1, h2⟩)
end
/-- .. without a source -/
theorem cut_tmp {S T : Sto} {d : D} (hd : d.pure = true) {P : PP D} {E : EE} (q : P d S) : wO (DL.cut S d (S ++ T)) P E := wO_eq (cut_app (closed_of_pure _ d hd)) q
theorem cut_self {S : Sto} {d : D} {P : PP D} {E : EE} (q : P d S) : wO (DL.cut S d S) P E := wO_eq (cut_same S d) q
theorem cutX_self {S : Sto} {C : Addr} {d : D} {P : PP D} {E : EE} (q : E C d S) : wO (DL.cutX S C d S) P E := wO_eqx cutX_same q

/-! ### the laws' own helpers -/
def takeG : SF := sSeq (sIf (bVal (eBin gtD (eBin ixD (eVar 0) (eC (.int 0))) (eC (.int 0)))) (sSeq (sSet 2 (eBin modD (eCall intD (aCons (eBin ixD (eVar 0) (eC (.int 0))) (aNil))) (eVar 1)))
    (sSeq (sAsg (eBin fdivD (eBin ixD (eVar 0) (eC (.int 0))) (eVar 1)) (tSub (eVar 0) (eC (.int 0))))
    (sRet (eVar 2))))
    (sNext))
    (sSeq (sAsg (eBin modD (eCall intD (aCons (eBin addD (eBin mulD (eBin ixD (eVar 0) (eC (.int 1))) (eC (.int 39373))) (eC (.int 7))) (aNil))) (eC (.int 2147483647))) (tSub (eVar 0) (eC (.int 1))))
    (sRet (eBin modD (eCall intD (aCons (eBin fdivD (eBin modD (eCall intD (aCons (eBin mulD (eBin ixD (eVar 0) (eC (.int 1))) (eBin ixD (eVar 0) (eC (.int 1)))) (aNil))) (eC (.int 2147483629))) (eC (.int 32))) (aNil))) (eVar 1))))
theorem take_ok {S : Sto} {n : Nat} {t : Int} {P : PP D} {E : EE} (h : Sr S n) (h0 : 0 < t) (h1 : t < 2 ^ 64) (q : ∀ (v : Int) S', 0 ≤ v → v < t → St n S S' → P (.int v) S') : wO (mBody 3 takeG [.ref n, .int t] S) P E := by
  obtain ⟨a, b, e, b0, b1⟩ := h
  have e' : S[n]? = some (.lst [.int a, .int b]) := e
  have hl : n < S.length := (List.getElem?_eq_some_iff.mp e).1
  refine wO_body ?_
  show wS (takeG [some (.ref n), some (.int t), none] S) _ _ _ _ _
  unfold takeG
  walk_at "dl"
  refine ⟨fun hb => ?_, fun hb => ?_⟩
  · walk_at "dl"
    refine wO_mod h0 ?_
    walk_at "dl"
    refine wO_fdiv h0 h1 ?_
    refine ⟨_, _, tSub_ok rfl rfl e' rfl, ?_⟩
    walk_at "dl"
    refine Dr.cut (n := n) (T := []) ⟨a / t, b, by rw [List.append_nil]; rfl, b0, b1⟩ rfl fun S' hs => q _ _ (Int.emod_nonneg _ (by omega)) (Int.emod_lt_of_pos _ h0) hs
  · walk_at "dl"
    refine wO_mul (.inr (by decide)) ?_
    walk_at "dl"
    refine wO_mod (by decide) ?_
    refine ⟨_, _, tSub_ok rfl rfl e' rfl, ?_⟩
    have e2 : (S.set n (.lst ([D.int a, D.int b].set 1 (.int ((b * 39373 + 7) % 2147483647)))))[n]? = some (.lst [.int a, .int ((b * 39373 + 7) % 2147483647)]) := by rw [List.getElem?_set_self hl]; rfl
    have l1 : 0 ≤ (b * 39373 + 7) % 2147483647 := Int.emod_nonneg _ (by decide)
    have l2 : (b * 39373 + 7) % 2147483647 < 2147483647 := Int.emod_lt_of_pos _ (by decide)
    generalize (b * 39373 + 7) % 2147483647 = c at *
    walk_at "dl"
    refine wO_mul (.inl (by omega)) ?_
    walk_at "dl"
    refine wO_mod (by decide) ?_
    walk_at "dl"
    refine wO_fdiv (by decide) (by decide) ?_
    walk_at "dl"
    refine wO_mod h0 ?_
    refine Dr.cut (n := n) (T := []) ⟨a, c, by rw [List.append_nil]; rfl, l1, l2⟩ rfl fun S' hs => q _ _ (Int.emod_nonneg _ (by omega)) (Int.emod_lt_of_pos _ h0) hs
end DL

set_option Elab.async false
set_option linter.all false
set_option maxRecDepth 100000
namespace DL
open PySem PySem.Spec PyProof.Rows L2
local macro_rules | `(tactic| walk_at "dl1") => `(tactic| first
  | with_reducible refine wS_seq ?_
  | with_reducible refine wS_set ?_
  | with_reducible refine wS_ret ?_
  | with_reducible refine wS_expr ?_
  | with_reducible refine wS_if ?_
  | with_reducible refine wS_next ?_
  | with_reducible refine wS_raise ?_
  | with_reducible refine wS_asg ?_
  | with_reducible refine wS_par ?_
  | with_reducible refine wS_par3 ?_
  | with_reducible refine wS_aug ?_
  | with_reducible refine wS_retN ?_
  | with_reducible refine wS_for ?_
  | with_reducible refine wS_break ?_
  | with_reducible refine wS_cont ?_
  | ((with_reducible refine' wO_var ?he_ ?_); (case he_ => exact rfl))
  | with_reducible refine wO_c ?_
  | with_reducible refine wO_ok ?_
  | with_reducible refine wO_bin ?_
  | with_reducible refine wO_cons ?_
  | with_reducible refine wO_nil ?_
  | with_reducible refine wO_call ?_
  | with_reducible refine wO_fn ?_
  | with_reducible refine wO_val ?_
  | with_reducible refine wO_bnot ?_
  | with_reducible refine wO_un ?_
  | with_reducible refine wO_and ?_
  | with_reducible refine wO_or ?_
  | with_reducible refine wO_not ?_
  | with_reducible refine wO_if ?_
  | with_reducible refine wO_tup ?_
  | with_reducible refine wO_lst ?_
  | with_reducible refine wO_lstM ?_
  | with_reducible refine wO_band ?_
  | with_reducible refine wO_bor ?_
  | with_reducible refine wO_btrue ?_
  | with_reducible refine wO_chain ?_
  | with_reducible refine wO_lm ?_
  | with_reducible refine wO_sl ?_
  | with_reducible refine wO_oNone ?_
  | with_reducible refine wO_oSome ?_
  | with_reducible refine wO_comp ?_
  | with_reducible refine wO_compN ?_
  | with_reducible refine wO_xLst ?_
  | with_reducible refine wO_xTup ?_
  | with_reducible refine wO_xRng1 ?_
  | with_reducible refine wO_xRng2 ?_
  | with_reducible refine wO_xRng ?_
  | with_reducible refine wO_add ?_
  | with_reducible refine wO_sub ?_
  | with_reducible refine wO_neg ?_
  | with_reducible refine wO_lt ?_
  | with_reducible refine wO_le ?_
  | with_reducible refine wO_gt ?_
  | with_reducible refine wO_ge ?_
  | with_reducible refine wO_eqI ?_
  | with_reducible refine wO_neI ?_
  | with_reducible refine wO_isNon ?_
  | with_reducible refine wO_isNotNon ?_
  | with_reducible refine wO_isB ?_
  | with_reducible refine wO_isNotB ?_
  | with_reducible refine wO_int ?_
  | with_reducible refine wO_intB ?_
  | with_reducible refine wO_max2 ?_
  | with_reducible refine wO_min2 ?_
  | with_reducible refine wO_range ?_
  | with_reducible refine wO_augAdd ?_
  | ((with_reducible refine' wO_len ?he_ ?_); (case he_ => exact rfl))
  | ((with_reducible refine' wO_tuple ?he_ ?_); (case he_ => exact rfl))
  | ((with_reducible refine' wO_list ?he_ ?_); (case he_ => exact rfl))
  | ((with_reducible refine' wO_isi ?he_ ?hm_ ?_); (case he_ => first | rfl | assumption); (case hm_ => decide))
  | ((with_reducible refine' wO_ix ?he_ ?h2_ ?_); (case he_ => first | exact rfl | exact seqOf_ref (by assumption)); (case h2_ => exact rfl))
  | ((with_reducible refine' Exists.intro _ (And.intro ?hr_ ?_)); (case hr_ => exact rfl))
  | ((with_reducible refine' And.intro ?hr_ ?_); (case hr_ => first | exact rfl | exact Nat.le_of_ble_eq_true rfl))
  | ((with_reducible refine' Exists.intro _ (Exists.intro _ (And.intro ?hr_ ?_))); (case hr_ => exact rfl))
  | ((with_reducible refine' Exists.intro _ (Exists.intro _ (Exists.intro _ (And.intro ?hr_ ?_)))); (case hr_ => exact rfl))
  | with_reducible rfl)
local macro_rules | `(tactic| walk_at "dl") => `(tactic| repeat (walk_at "dl1"))
/-! ### values -/
def D.isW : D → Bool
  | .int _ => true
  | _ => false
def D.btw (lo hi : Int) : D → Bool
  | .int i => decide (lo ≤ i) && decide (i ≤ hi)
  | _ => false
def D.isT : D → Bool
  | .tup _ => true
  | _ => false
def D.its : D → List D
  | .tup xs => xs
  | _ => []
theorem kits_tup (d : D) : kits d.tn "tuple" = d.isT := by cases d <;> rfl
theorem kits_whole {d : D} : (kits d.tn "int" && !kits d.tn "bool") = d.isW := by cases d <;> rfl
theorem isT_ex {d : D} (h : d.isT = true) : d = .tup d.its := by cases d <;> first | rfl | cases h
theorem pure_its {d x : D} (h : d.pure = true) (hx : x ∈ d.its) : x.pure = true := by
  cases d with
  | tup xs => simp only [D.pure, pures_all] at h; exact List.all_eq_true.mp h x hx
  | _ => simp only [D.its, List.not_mem_nil] at hx
theorem btw_int {i lo hi : Int} (h1 : lo ≤ i) (h2 : i ≤ hi) : (D.int i).btw lo hi = true := by simp [D.btw, h1, h2]
/-! ### over ranges -/
theorem intsFrom0 (n : Nat) : intsFrom 0 n = (List.range n).map fun (k : Nat) => D.int (k : Int) := by
  unfold intsFrom; congr 1; funext k; rw [Int.zero_add]
section
variable {ρ : Env} {S : Sto} {E : EE} {PA : PP (List D)} {own : List Nat} {c : CT} {t : BF} {fe : EF} {f : AB}
/-- a comprehension over range(n) that changes nothing -/
theorem wO_compRng {n : Nat} (g : Nat → D) (hx : n ≤ 16777216)
    (step : ∀ k, k < n → ∃ ρ2, c.put (.int (k : Int)) (wipeE ρ own) = some ρ2 ∧ wO (t ρ2 S) (fun b S2 => b = true ∧ S2 = S) E0 ∧ wO (fe ρ2 S) (fun y S3 => y = g k ∧ S3 = S) E0)
    (fin : PA ((List.range n).map g) S) : wO (compL (.its (intsFrom 0 n)) own c t fe ρ ((Src.its (intsFrom 0 n)).len S + 1) 0 [] S) PA E := by
  rw [intsFrom0]
  refine wO_compS _ (fun done acc S' => acc = (List.range done.length).map g ∧ S' = S) (fun _ _ => rfl) rfl (by simpa using hx) ⟨rfl, rfl⟩ (fun done x rest acc S' e ⟨h1, h2⟩ => ?_) fun acc S' ⟨h1, h2⟩ => ?_
  · have e' : intsFrom 0 n = done ++ x :: rest := by rw [intsFrom0]; exact e
    obtain ⟨hl, rfl⟩ := intsFrom_split e'
    subst h1; subst h2
    rw [Int.zero_add]
    obtain ⟨ρ2, ep, et, ef⟩ := step done.length hl
    refine ⟨ρ2, ep, wO_imp et fun b S2 ⟨e1, e2⟩ => ?_⟩
    subst e1; subst e2
    exact ⟨fun _ => wO_imp ef fun y S3 ⟨e1, e2⟩ => by subst e1; subst e2; simp [List.range_succ], fun z => nomatch z⟩
  · subst h1; subst h2
    simpa using fin
/-- .. that draws: G tells what the items are, n is the source -/
theorem wO_compRngI {n : Nat} (I : Nat → List D → Sto → Prop) (hx : n ≤ 16777216) (h0 : I 0 [] S)
    (step : ∀ k acc S', k < n → I k acc S' → ∃ ρ2, c.put (.int (k : Int)) (wipeE ρ own) = some ρ2 ∧ wO (t ρ2 S') (fun b S2 => (b = true → wO (fe ρ2 S2) (fun y S3 => I (k + 1) (acc ++ [y]) S3) E0) ∧ (b = false → I (k + 1) acc S2)) E0)
    (fin : ∀ acc S', I n acc S' → PA acc S') : wO (compL (.its (intsFrom 0 n)) own c t fe ρ ((Src.its (intsFrom 0 n)).len S + 1) 0 [] S) PA E := by
  rw [intsFrom0]
  refine wO_compS _ (fun done acc S' => I done.length acc S') (fun _ _ => rfl) rfl (by simpa using hx) h0 (fun done x rest acc S' e h1 => ?_) fun acc S' h1 => fin acc S' (by simpa using h1)
  have e' : intsFrom 0 n = done ++ x :: rest := by rw [intsFrom0]; exact e
  obtain ⟨hl, rfl⟩ := intsFrom_split e'
  rw [Int.zero_add, List.length_append]
  exact step done.length acc S' hl h1
end
section
variable {N : Env → Sto → Prop} {R : D → Sto → Prop} {X : Addr → D → Env → Sto → Prop} {B Ct : Env → Sto → Prop} {ρ : Env} {S : Sto} {T : GF} {body : SF}
theorem wS_forRng0 {n : Nat} (I : Nat → Env → Sto → Prop) (h0 : I 0 ρ S)
    (step : ∀ k ρ S, k < n → I k ρ S → ∃ ρ1 S1, T (.int (k : Int)) ρ S = .nx ρ1 S1 ∧ wS (body ρ1 S1) (I (k + 1)) R X N (I (k + 1))) (fin : ∀ ρ S, I n ρ S → N ρ S) :
    wS (forL (.its (intsFrom 0 n)) T body ((Src.its (intsFrom 0 n)).len S + 1) 0 ρ S) N R X B Ct :=
  wS_forRng I h0 (fun k ρ S hk h => by rw [Int.zero_add]; exact step k ρ S hk h) fin
end

section
variable {α : Type} {N : Env → Sto → Prop} {R : D → Sto → Prop} {X : Addr → D → Env → Sto → Prop} {B Ct : Env → Sto → Prop} {ρ : Env} {S : Sto} {T : GF} {body : SF}
/-- a for over what is told by a list -/
theorem wS_forM {src : DL.Src} (g : α → D) (xs : List α) (hs : ∀ S i, src.at' S i = some (xs.map g)[i]?) (hl : src.len S = xs.length) (I : List α → Env → Sto → Prop) (h0 : I [] ρ S)
    (step : ∀ done x rest ρ S, xs = done ++ x :: rest → I done ρ S → ∃ ρ1 S1, T (g x) ρ S = .nx ρ1 S1 ∧ wS (body ρ1 S1) (I (done ++ [x])) R X N (I (done ++ [x]))) (fin : ∀ ρ S, I xs ρ S → N ρ S) :
    wS (forL src T body (src.len S + 1) 0 ρ S) N R X B Ct := by
  refine wS_forS (xs.map g) hs (by rw [List.length_map]; exact hl) (fun done ρ S => ∃ done', done = done'.map g ∧ done' = xs.take done.length ∧ I done' ρ S) ⟨[], rfl, rfl, h0⟩ (fun done x rest ρ S e h => ?_) fun ρ S ⟨d', e1, e2, h⟩ => ?_
  · obtain ⟨d', e1, e2, h⟩ := h
    have hlen : done.length < xs.length := by
      have := congrArg List.length e
      simp at this; omega
    have ed : d'.length = done.length := by rw [e1, List.length_map]
    obtain ⟨y, hy⟩ : ∃ y, xs[done.length]? = some y := ⟨_, List.getElem?_eq_getElem hlen⟩
    have es : xs = d' ++ y :: xs.drop (done.length + 1) := by
      obtain ⟨_, e3⟩ := List.getElem?_eq_some_iff.mp hy
      rw [e2, ← e3, List.getElem_cons_drop, List.take_append_drop]
    have ex : x = g y := by
      have h1 : (xs.map g)[done.length]? = some x := by rw [e, List.getElem?_append_right (Nat.le_refl _), Nat.sub_self]; rfl
      rw [List.getElem?_map, hy] at h1
      exact (Option.some.inj h1).symm
    subst ex
    obtain ⟨ρ1, S1, z1, z2⟩ := step d' _ _ ρ S es h
    refine ⟨ρ1, S1, z1, wS_mono z2 ?_ (fun _ _ z => z) (fun _ _ _ _ z => z) (fun _ _ z => z) ?_⟩ <;>
    · intro ρ2 S2 z
      refine ⟨d' ++ [y], by rw [List.map_append, ← e1]; rfl, ?_, z⟩
      rw [List.length_append, List.length_singleton, List.take_add_one, hy, ← e2]
      rfl
  · have : d' = xs := by
      rw [e2, List.length_map, List.take_length]
    exact fin ρ S (this ▸ h)
end

section
variable {ρ : Env} {S : Sto} {E : EE} {PA : PP (List D)} {own : List Nat} {c : CT} {t : BF} {fe : EF}
end
theorem sto_get (S T : Sto) (o : MO) : (S ++ o :: T)[S.length]? = some o := by rw [List.getElem?_append_right (Nat.le_refl _), Nat.sub_self]; rfl
theorem sto_set (S T : Sto) (o o' : MO) : (S ++ o :: T).set S.length o' = S ++ o' :: T := by rw [List.set_append_right _ _ (Nat.le_refl _), Nat.sub_self]; rfl
theorem lstOf_some {S : Sto} {n : Nat} {xs : List D} (h : S[n]? = some (.lst xs)) : (lstOf S (.ref n)).isSome = true := by unfold lstOf; simp only [h]; rfl
theorem wO_append {S : Sto} {n : Nat} {xs : List D} {d : D} {P : PP D} {E : EE} (h : S[n]? = some (.lst xs)) (hl : xs.length < 16777216) (q : P .non (S.set n (.lst (xs ++ [d])))) : wO (appendD (.ref n) [d] S) P E := by
  unfold appendD; simp only [h]; rw [if_pos hl]; exact wO_ok q
theorem wO_eqS {x y : Str} {b : Bool} {S : Sto} {P : PP D} {E : EE} (hx : PyData.strOk x = true) (hy : PyData.strOk y = true) (hb : (x == y) = b) (h : P (.bl b) S) : wO (eqD (.str x) (.str y) S) P E := wO_eqD (okD_str hx) (okD_str hy) (by rw [show PyData.eqv (D.str x).P (D.str y).P = b from hb]; exact h)
theorem St.dr {n : Nat} {S S' : Sto} (h : St n S S') : Dr n S [] S' := by
  obtain ⟨a, b, e, h1, h2⟩ := h
  exact ⟨a, b, by rw [List.append_nil]; exact e, h1, h2⟩
theorem St.cut {n : Nat} {S S' : Sto} {d : D} (h : St n S S') (hd : d.pure = true) {P : PP D} {E : EE} (q : ∀ S'', St n S S'' → P d S'') : wO (DL.cut S d S') P E := h.dr.cut hd q
theorem gd_lst {k : Nat} {xs : List D} (h : ∀ x ∈ xs, okD x = true ∧ x.P.depth ≤ k) (hk : k < 64) : okD (.lst xs) = true ∧ okD (.frl xs) = true := by
  have hp : D.pures xs = true := by rw [pures_all]; exact List.all_eq_true.mpr fun x hx => (Bool.and_eq_true_iff.mp (h x hx).1).1
  have hc : PyData.canLayAll0 (D.Ps xs) = true := canLayAll_of fun x hx => SeqAt.canLay_of_shaped (Bool.and_eq_true_iff.mp (h x hx).1).2
  have hd : PyData.depthAll (D.Ps xs) ≤ k := depthAll_of fun x hx => (h x hx).2
  have hs : SeqAt.shaped (.list (D.Ps xs)) = true := by
    unfold SeqAt.shaped
    rw [show (PyData.list (D.Ps xs)).canLay0 = true from hc]
    simp only [Bool.true_and, decide_eq_true_eq]
    show PyData.depthAll (D.Ps xs) + 1 ≤ 64
    omega
  constructor
  · show (D.pures xs && SeqAt.shaped (.list (D.Ps xs))) = true
    rw [hp, hs]; rfl
  · show (D.pures xs && SeqAt.shaped (.list (D.Ps xs))) = true
    rw [hp, hs]; rfl
theorem okD_ints (ns : List Int) : okD (.frl (ns.map D.int)) = true := (gd_lst (k := 0) (fun x hx => by
  obtain ⟨i, _, rfl⟩ := List.mem_map.mp hx
  exact ⟨rfl, Nat.le_refl _⟩) (by decide)).2
/-- a store that holds a source alone -/
def L1 (S : Sto) : Prop := ∃ a b, S = [drw a b] ∧ 0 ≤ b ∧ b < 2147483647
theorem L1.src {S : Sto} (h : L1 S) : Sr S 0 := by
  obtain ⟨a, b, rfl, h1, h2⟩ := h
  exact ⟨a, b, rfl, h1, h2⟩
theorem L1.st {S S' : Sto} (h : L1 S) (h' : St 0 S S') : L1 S' := by
  obtain ⟨a, b, rfl, _⟩ := h
  obtain ⟨a', b', rfl, h1, h2⟩ := h'
  exact ⟨a', b', rfl, h1, h2⟩
theorem L1.kill {S : Sto} (h : L1 S) : killS S = S := by
  obtain ⟨a, b, rfl, _⟩ := h
  rfl
/-! ### what a suite asks of its error -/
theorem wO_isE {K : PySem.W.Frag} {a dd C : Addr} {w : D} {S : Sto} {P : PP D} {E : EE} (h : P (.bl true) S) : wO (isED K a dd C C (.exc a dd C w) S) P E := by
  have e : PySem.W.kitOne K (.ref C) (.ref C) = some true := by
    unfold PySem.W.kitOne
    exact if_pos (beq_self_eq_true _)
  unfold isED
  simp only [and_self, if_true, e]
  exact wO_ok h
theorem wO_what {a dd C : Addr} {w : D} {S : Sto} {P : PP D} {E : EE} (h : P w S) : wO (whatD a dd C (.exc a dd C w) S) P E := by
  unfold whatD
  simp only [and_self, if_true]
  exact wO_ok h
/-! ### closures -/
theorem kill_app (S T : Sto) : killS (S ++ T) = killS S ++ killS T := by simp [killS]
theorem back_kill (S : Sto) : backS S (killS S) = S := by
  unfold backS killS
  apply List.ext_getElem?
  intro i
  rw [List.getElem?_mapIdx, List.getElem?_map]
  cases e : S[i]? with
  | none => rfl
  | some o => cases o <;> rfl
section
/-- a lambda's body -/
theorem wO_mLam {P : PP D} {E : EE} {n : Nat} {g : EF} {ws ds : List D} {S : Sto}
    (h : wO (g (ds.map some ++ (ws.map some ++ List.replicate (n - ds.length - ws.length) none)) S) (fun v S1 => wO (cut S v S1) P E) (fun C w S1 => wO (cutX S C w S1) P E)) : wO (mLam n g ws ds S) P E := by
  unfold mLam
  cases e : g (ds.map some ++ (ws.map some ++ List.replicate (n - ds.length - ws.length) none)) S with
  | ok d S' => rw [e] at h; first | exact h | exact ⟨h⟩ | exact (h).h | exact ⟨(h).h⟩
  | exc C w S' => rw [e] at h; first | exact h | exact ⟨h⟩ | exact (h).h | exact ⟨(h).h⟩
  | no => rw [e] at h; exact (show False from h.h).elim
theorem wO_cutL {P : PP D} {E : EE} {S : Sto} {o : Out D} (h : wO o (fun v S' => v.pure = true ∧ Drop S S' ∧ P v (killS (S'.take S.length))) (fun C w S' => w.pure = true ∧ Drop S S' ∧ E C w (killS (S'.take S.length)))) : wO (cutL S o) P E := by
  cases o with
  | ok v S' =>
    obtain ⟨hv, hd, z⟩ := h.h
    unfold cutL
    simp only [if_pos hd, frzD_closed (closed_of_pure _ v hv)]
    first | exact z | exact ⟨z⟩ | exact (z).h | exact ⟨(z).h⟩
  | exc C w S' =>
    obtain ⟨hv, hd, z⟩ := h.h
    unfold cutL
    simp only [if_pos (And.intro hd (closed_of_pure _ w hv))]
    first | exact z | exact ⟨z⟩ | exact (z).h | exact ⟨(z).h⟩
  | no => exact (show False from h.h).elim
/-- .. that changes nothing -/
theorem wO_cutL0 {P : PP D} {E : EE} {S T : Sto} {o : Out D} (hk : killS S = S) (h : wO o (fun v S' => S' = S ++ T ∧ v.pure = true ∧ P v S) (fun C w S' => S' = S ++ T ∧ w.pure = true ∧ E C w S)) : wO (cutL S o) P E :=
  wO_cutL (wO_mono h (fun v S' ⟨e, hv, z⟩ => by subst e; exact ⟨hv, drop_app S T, by rw [take_app, hk]; exact z⟩) fun C w S' ⟨e, hv, z⟩ => by subst e; exact ⟨hv, drop_app S T, by rw [take_app, hk]; exact z⟩)
theorem wO_fnL {P : PP D} {E : EE} {n : Nat} {m : MF} {d : LamD} {js : List Nat} {f : LF2} {ρ : Env} {S : Sto} {ws : List D} (h1 : wsOf ρ js = some ws)
    (h : wO (f ρ S) (fun p S2 => (p.1 ++ .ref S2.length :: p.2).length = n ∧ wO (cutL S2 (m (p.1 ++ .ref S2.length :: p.2) (killS S2 ++ [.clo d ws]))) P E) E) : wO (eFnL n m d js f ρ S) P E :=
  wO_bind (wO_imp h fun p S2 ⟨z1, z2⟩ => by simp only [h1]; rw [if_pos z1]; first | exact z2 | exact ⟨z2⟩ | exact (z2).h | exact ⟨(z2).h⟩)
theorem wO_lCons {f0 : EF} {f : LF2} {ρ : Env} {S : Sto} {E : EE} {P : PP (List D × List D)} (h : wO (f0 ρ S) (fun x S1 => wO (f ρ S1) (fun p S2 => P (x :: p.1, p.2) S2) E) E) : wO (lCons f0 f ρ S) P E := wO_bind (wO_imp h fun _ _ z => wO_bind (wO_imp z fun _ _ z => ⟨z⟩))
theorem wO_lLam {f : AF} {ρ : Env} {S : Sto} {E : EE} {P : PP (List D × List D)} (h : wO (f ρ S) (fun ys S1 => P ([], ys) S1) E) : wO (lLam f ρ S) P E := wO_bind (wO_imp h fun _ _ z => ⟨z⟩)
end
theorem lamOf_same (d0 : LamD) (m0 : LF) (ws xs : List D) (S : Sto) : lamOf d0 m0 d0 ws xs S = m0 ws xs S := if_pos rfl
/-! ### tables -/
def tableD (n : Nat) (f : Nat → Nat → Nat → D) : D := .tup ((List.range n).map fun o => .tup ((List.range n).map fun a => .tup ((List.range n).map fun b => f o a b)))
theorem flatMap_len {α β : Type} {k : Nat} {g : α → List β} : ∀ {xs : List α}, (∀ x ∈ xs, (g x).length = k) → (xs.flatMap g).length = xs.length * k
  | [], _ => by simp
  | x :: xs, h => by rw [List.flatMap_cons, List.length_append, h x (by simp), flatMap_len fun y hy => h y (by simp [hy]), List.length_cons, Nat.add_mul, Nat.one_mul, Nat.add_comm]
def placesN (n : Nat) : List (Nat × Nat × Nat) := (List.range n).flatMap fun o => (List.range n).flatMap fun a => (List.range n).map fun b => (o, a, b)
def pD (p : Nat × Nat × Nat) : D := .tup [.int (p.1 : Int), .int (p.2.1 : Int), .int (p.2.2 : Int)]
/-- the first place with p, as data -/
def firstP (n : Nat) (p : Nat → Nat → Nat → Bool) : D := match (placesN n).find? fun q => p q.1 q.2.1 q.2.2 with
  | some q => pD q
  | none => .non
def cubeB (d : D) : Bool := d.isT && (decide (1 ≤ d.its.length) && decide (d.its.length ≤ 12)) && (d.its.all fun p => p.isT && p.its.length == d.its.length) && (d.its.all fun p => p.its.all fun r => r.isT && r.its.length == d.its.length)
/-- the entry of what has the form of a table -/
def entD (d : D) (o a b : Nat) : D := ((((d.its[o]?.getD .non).its)[a]?.getD .non).its)[b]?.getD .non
theorem cube_table {d : D} (h : cubeB d = true) : d = tableD d.its.length (entD d) := by
  unfold cubeB at h
  simp only [Bool.and_eq_true, decide_eq_true_eq, List.all_eq_true, beq_iff_eq] at h
  obtain ⟨⟨⟨h1, _⟩, h3⟩, h4⟩ := h
  have ex : ∀ {x : D} {n : Nat} (g : Nat → D), x.isT = true → x.its.length = n → (∀ i, i < n → x.its[i]?.getD .non = g i) → x = .tup ((List.range n).map g) := by
    intro x n g hx hn hg
    rw [isT_ex hx]
    congr 1
    apply List.ext_getElem?
    intro i
    by_cases hi : i < n
    · have e := hg i hi
      rw [List.getElem?_map, List.getElem?_range hi, List.getElem?_eq_getElem (by omega)]
      rw [List.getElem?_eq_getElem (by omega)] at e
      simpa using e
    · rw [List.getElem?_eq_none_iff.mpr (by omega), List.getElem?_eq_none_iff.mpr (by simpa using hi)]
  unfold tableD
  refine ex _ h1 rfl fun o ho => ?_
  have mo : (d.its[o]?.getD .non) ∈ d.its := by rw [List.getElem?_eq_getElem ho]; exact List.getElem_mem ho
  obtain ⟨p1, p2⟩ := h3 _ mo
  refine ex _ p1 p2 fun a ha => ?_
  have ma : ((d.its[o]?.getD .non).its[a]?.getD .non) ∈ (d.its[o]?.getD .non).its := by
    have hl : a < (d.its[o]?.getD .non).its.length := by omega
    rw [List.getElem?_eq_getElem hl]; exact List.getElem_mem _
  obtain ⟨q1, q2⟩ := h4 _ mo _ ma
  exact ex _ q1 q2 fun b hb => rfl
theorem pure_tup {xs : List D} (h : ∀ x ∈ xs, x.pure = true) : (D.tup xs).pure = true := by simp only [D.pure, pures_all]; exact List.all_eq_true.mpr h
/-- what may stand in a right table of n states -/
def okEnt (n : Nat) (d : D) : Bool := d.isNon || d.btw 0 ((n : Int) - 1)
/-- what is no table, and why -/
def wrongT (d : D) : Option D := if cubeB d = true then match (placesN d.its.length).find? fun q => !okEnt d.its.length (entD d q.1 q.2.1 q.2.2) with
    | some q => some (pD q)
    | none => none
  else some (.int (-1))
/-- a tuple of n things with Q -/
def TupQ (n : Nat) (Q : D → Prop) (d : D) : Prop := ∃ xs, d = .tup xs ∧ xs.length = n ∧ ∀ x ∈ xs, Q x
theorem table_of {n : Nat} {d : D} (h1 : 1 ≤ n) (h2 : n ≤ 12) (h : TupQ n (TupQ n (TupQ n fun x => okEnt n x = true)) d) : ∃ f, d = tableD n f ∧ ∀ o a b, o < n → a < n → b < n → okEnt n (f o a b) = true := by
  obtain ⟨ps, rfl, lp, hp⟩ := h
  have hc : cubeB (.tup ps) = true := by
    unfold cubeB
    simp only [D.its, D.isT, lp, Bool.true_and, Bool.and_eq_true, decide_eq_true_eq, List.all_eq_true, beq_iff_eq]
    refine ⟨⟨⟨h1, h2⟩, fun p hpp => ?_⟩, fun p hpp r hr => ?_⟩
    · obtain ⟨rs, rfl, lr, _⟩ := hp p hpp; exact ⟨rfl, lr⟩
    · obtain ⟨rs, rfl, lr, hrs⟩ := hp p hpp
      obtain ⟨es, rfl, le, _⟩ := hrs r hr; exact ⟨rfl, le⟩
  have e := cube_table hc
  refine ⟨entD (.tup ps), by have := e; rwa [show (D.tup ps).its.length = n from lp] at this, fun o a b ho ha hb => ?_⟩
  unfold entD
  have m1 : (ps[o]?.getD .non) ∈ ps := by rw [List.getElem?_eq_getElem (by omega)]; exact List.getElem_mem _
  obtain ⟨rs, e1, lr, hrs⟩ := hp _ m1
  have m2 : (rs[a]?.getD .non) ∈ rs := by rw [List.getElem?_eq_getElem (by omega)]; exact List.getElem_mem _
  obtain ⟨es, e2, le, hes⟩ := hrs _ m2
  have m3 : (es[b]?.getD .non) ∈ es := by rw [List.getElem?_eq_getElem (by omega)]; exact List.getElem_mem _
  show okEnt n ((((ps[o]?.getD .non).its)[a]?.getD .non).its[b]?.getD .non) = true
  rw [e1]; show okEnt n (((rs[a]?.getD .non).its)[b]?.getD .non) = true
  rw [e2]; exact hes _ m3
end DL

set_option Elab.async false
set_option linter.all false
set_option maxRecDepth 100000
namespace DL
open PySem PySem.Spec PyProof.Rows L2
/-! ### an error's class, asked of another class -/
/-! ### several clauses, or one of them in a suite -/
section
variable {P : PP D} {PA : PP (List D)} {E : EE} {ρ : Env} {S : Sto} {own : List Nat} {c : CT} {t : BF} {f : AB} {fo fe : EF}
/-! ### texts joined -/
theorem txts_str : ∀ ys : List Str, txts (ys.map D.str) = some ys
  | [] => rfl
  | y :: ys => by rw [List.map_cons, txts, txts_str ys]; rfl
theorem wO_join (h : wO (fo ρ S) (fun x S1 => ∃ a, x = .str a ∧ wO (fe ρ S1) (fun y S2 => ∃ ys : List Str, seqOf S2 y = some (ys.map D.str) ∧ (ys.map (·.length)).sum + ys.length * a.length ≤ 16777216 ∧ P (.str (Txt.join a ys)) S2) E) E) : wO (eJoin fo fe ρ S) P E := by
  unfold eJoin
  refine wO_bind (wO_imp h fun x S1 ⟨a, e, z⟩ => ?_)
  subst e
  refine wO_bind (wO_imp z fun y S2 ⟨ys, e1, e2, z⟩ => ?_)
  unfold joinD
  simp only [e1, txts_str]
  rw [if_pos e2]
  exact wO_ok z
end
/-! ### lists -/
section
variable {P : PP D} {E : EE} {S : Sto} {x y d : D}
theorem wO_extend {n : Nat} {xs ys : List D} (h : S[n]? = some (.lst xs)) (h2 : ownOf S d = some ys) (hl : xs.length + ys.length ≤ 16777216) (q : P .non (S.set n (.lst (xs ++ ys)))) : wO (extendD (.ref n) [d] S) P E := by
  unfold extendD
  simp only [h, h2]
  rw [if_pos hl]
  exact wO_ok q
theorem listText_len {N : Nat} {ts : List Str} (h : ∀ t ∈ ts, t.length ≤ N) : (listText ts).length ≤ ts.length * (N + 2) + 3 := by
  rw [listText_eq_join]
  have h1 := join_le h
  rw [strLen_append, strLen_append]
  have h2 : (("]" : Str)).length = 1 := by decide +kernel
  have h3 : (("[" : Str)).length = 1 := by decide +kernel
  omega
theorem listText_ok {ts : List Str} (h : ∀ t ∈ ts, PyData.strOk t = true) : PyData.strOk (listText ts) = true := by
  rw [listText_eq_join, strOk_append, strOk_append, strOk_join ts h]
  decide +kernel
theorem gd_list {k N M : Nat} {xs : List D} (h : ∀ x ∈ xs, Gd k N x) (hM : xs.length * (N + 2) + 3 ≤ M) : Gd (k + 1) M (.lst xs) := by
  refine ⟨?_, ?_, ?_, ?_, ?_, ?_⟩
  · simp only [D.pure]; rw [pures_all]; exact List.all_eq_true.mpr fun x hx => (h x hx).pu
  · show PyData.canLayAll0 (D.Ps xs) = true; exact canLayAll_of fun x hx => (h x hx).cl
  · show PyData.depthAll (D.Ps xs) + 1 ≤ k + 1; have := depthAll_of fun x hx => (h x hx).dp; omega
  · show PyData.showableAll (D.Ps xs) = true; exact showAll_of fun x hx => (h x hx).sh
  · show PyData.strOk (listText (PyData.shownAll (D.Ps xs))) = true
    rw [shownAll_of]; exact listText_ok (by simp only [List.mem_map]; rintro t ⟨x, hx, rfl⟩; exact (h x hx).so)
  · show (listText (PyData.shownAll (D.Ps xs))).length ≤ M
    rw [shownAll_of]
    have := listText_len (N := N) (ts := xs.map fun x => x.P.shown) (by simp only [List.mem_map]; rintro t ⟨x, hx, rfl⟩; exact (h x hx).ln)
    rw [List.length_map] at this
    omega
/-- what stands in data is data -/
theorem okD_its {xs : List D} (h : okD (.tup xs) = true) : ∀ x ∈ xs, okD x = true ∧ x.P.depth ≤ 63 := by
  intro x hx
  unfold okD SeqAt.shaped at h ⊢
  simp only [Bool.and_eq_true, decide_eq_true_eq] at h ⊢
  obtain ⟨h1, h2, h3⟩ := h
  have a1 : x.pure = true := by
    simp only [D.pure] at h1; rw [pures_all] at h1; exact List.all_eq_true.mp h1 x hx
  have a2 : ∀ {ys : List D}, PyData.canLayAll0 (D.Ps ys) = true → ∀ y ∈ ys, y.P.canLay0 = true := by
    intro ys
    induction ys with
    | nil => intro _ y hy; cases hy
    | cons z zs ih =>
      intro hh y hy
      simp only [D.Ps, PyData.canLayAll0, Bool.and_eq_true] at hh
      rcases List.mem_cons.mp hy with rfl | hy
      · exact hh.1
      · exact ih hh.2 y hy
  have a3 : ∀ {ys : List D}, ∀ y ∈ ys, y.P.depth ≤ PyData.depthAll (D.Ps ys) := by
    intro ys
    induction ys with
    | nil => intro y hy; cases hy
    | cons z zs ih =>
      intro y hy
      simp only [D.Ps, PyData.depthAll]
      rcases List.mem_cons.mp hy with rfl | hy
      · exact Nat.le_max_left _ _
      · exact Nat.le_trans (ih y hy) (Nat.le_max_right _ _)
  have h3' : PyData.depthAll (D.Ps xs) + 1 ≤ 64 := h3
  have := a3 x hx
  exact ⟨⟨a1, a2 h2 x hx, by omega⟩, by omega⟩
end
/-! ### slices -/
def sliD (d : D) (lo hi : Option Int) : Option D := match d with
  | .tup xs => some (.tup (cutD xs lo hi))
  | .lst xs => some (.lst (cutD xs lo hi))
  | _ => none
theorem wO_slA {fa : EF} {fl fh : OF} {ρ : Env} {S : Sto} {P : PP D} {E : EE} (h : wO (fa ρ S) (fun d S1 => wO (fl ρ S1) (fun lo S2 => wO (fh ρ S2) (fun hi S3 => ∃ y, sliD d lo hi = some y ∧ P y S3) E) E) E) : wO (eSl fa fl fh ρ S) P E :=
  wO_sl (wO_imp h fun d S1 z => wO_imp z fun lo S2 z => wO_imp z fun hi S3 ⟨y, e, z⟩ => by
    cases d with
    | tup xs => cases e; exact .inl ⟨xs, rfl, z⟩
    | lst xs => cases e; exact .inr ⟨(fun _ q => nomatch q), xs, rfl, z⟩
    | _ => cases e)
theorem cutD_take (xs : List D) (k : Nat) : cutD xs none (some (k : Int)) = xs.take k := by
  unfold cutD
  rw [HT.sIx_none, HT.sIx_nat, List.drop_zero, Nat.sub_zero]
  rcases Nat.le_total k xs.length with h | h
  · rw [Nat.min_eq_left h]
  · rw [Nat.min_eq_right h, List.take_of_length_le (Nat.le_refl _), List.take_of_length_le h]
theorem cutD_drop (xs : List D) (k : Nat) : cutD xs (some (k : Int)) none = xs.drop k := by
  unfold cutD
  rw [HT.sIx_none, HT.sIx_nat]
  rcases Nat.le_total k xs.length with h | h
  · rw [Nat.min_eq_left h, List.take_of_length_le (by rw [List.length_drop]; omega)]
  · rw [Nat.min_eq_right h, List.drop_eq_nil_of_le (Nat.le_refl _), List.drop_eq_nil_of_le h, List.take_nil]
theorem wO_mulT {xs : List D} {k : Int} {S : Sto} {P : PP D} {E : EE} (hb : xs ≠ [] ∧ -1000 ≤ k ∧ k ≤ 1000 ∧ xs.length ≤ 1000) (h : P (.tup (List.replicate k.toNat xs).flatten) S) : wO (mulD (.tup xs) (.int k) S) P E := by
  have hb' : xs ≠ [] ∧ -1000 ≤ k ∧ k ≤ 100000 ∧ xs.length * k.toNat ≤ 1000000 := ⟨hb.1, hb.2.1, by omega, Nat.le_trans (Nat.mul_le_mul hb.2.2.2 (by omega : k.toNat ≤ 1000)) (by decide)⟩
  unfold mulD; simp only [if_pos hb']; exact wO_ok h
theorem Dr.dr {n : Nat} {S S1 S2 T T' : Sto} (h : Dr n S T S1) (h' : Dr n S1 T' S2) (hl : n < S.length) : Dr n S (T ++ T') S2 := by
  obtain ⟨a, b, rfl, _⟩ := h
  obtain ⟨a', b', rfl, h1, h2⟩ := h'
  exact ⟨a', b', by rw [List.set_append_left _ _ (by simpa using hl), List.set_set, List.append_assoc], h1, h2⟩
end DL

set_option Elab.async false
set_option linter.all false
set_option maxRecDepth 100000
namespace DL
open PySem PySem.Spec PyProof.Rows L2
/-! ### enumerate and zip, walked -/
/-- the items with their places, from k on -/
def numL (k : Nat) : List D → List D
  | [] => []
  | x :: xs => .pr (.int (k : Nat)) x :: numL (k + 1) xs
theorem numL_get : ∀ (xs : List D) (k i : Nat), (numL k xs)[i]? = (xs[i]?).map fun x => .pr (.int ((k + i : Nat) : Int)) x
  | [], _, _ => by simp [numL]
  | x :: xs, k, 0 => by simp [numL]
  | x :: xs, k, i + 1 => by
    rw [numL, List.getElem?_cons_succ, numL_get xs (k + 1) i, List.getElem?_cons_succ, Nat.add_right_comm, Nat.add_assoc]
theorem numL_len : ∀ (xs : List D) (k : Nat), (numL k xs).length = xs.length
  | [], _ => rfl
  | x :: xs, k => by rw [numL, List.length_cons, numL_len xs (k + 1), List.length_cons]
def zipL (xs ys : List D) : List D := List.zipWith (fun x y => .pr x y) xs ys
theorem zipL_get (xs ys : List D) (i : Nat) : (zipL xs ys)[i]? = pairAt xs ys i := by
  unfold zipL pairAt
  rw [List.getElem?_zipWith]
  cases xs[i]? <;> cases ys[i]? <;> rfl
theorem zipL_len (xs ys : List D) : (zipL xs ys).length = min xs.length ys.length := List.length_zipWith
theorem enm_at (xs : List D) (S : Sto) (i : Nat) : (DL.Src.enm (.tup xs)).at' S i = some (numL 0 xs)[i]? := by
  rw [numL_get]
  simp only [Nat.zero_add]
  rfl
theorem enm_len (xs : List D) (S : Sto) : (DL.Src.enm (.tup xs)).len S = (numL 0 xs).length := (numL_len xs 0).symm
theorem zip_at (xs ys : List D) (S : Sto) (i : Nat) : (DL.Src.zip (.tup xs) (.tup ys)).at' S i = some (zipL xs ys)[i]? := by rw [zipL_get]; rfl
theorem zip_len (xs ys : List D) (S : Sto) : (DL.Src.zip (.tup xs) (.tup ys)).len S = (zipL xs ys).length := (zipL_len xs ys).symm
theorem mem_numL {xs : List D} {k : Nat} {d : D} (h : d ∈ numL k xs) : ∃ (i : Nat) (x : D), xs[i]? = some x ∧ d = .pr (.int ((k + i : Nat) : Int)) x := by
  obtain ⟨i, hi⟩ := List.getElem?_of_mem h
  rw [numL_get] at hi
  cases hx : xs[i]? with
  | none => rw [hx] at hi; cases hi
  | some x => rw [hx] at hi; cases hi; exact ⟨i, x, hx, rfl⟩
theorem mem_zipL {xs ys : List D} {d : D} (h : d ∈ zipL xs ys) : ∃ (i : Nat) (x y : D), xs[i]? = some x ∧ ys[i]? = some y ∧ d = .pr x y := by
  obtain ⟨i, hi⟩ := List.getElem?_of_mem h
  rw [zipL_get] at hi
  obtain ⟨x, y, h1, h2, h3⟩ := pair_some hi
  exact ⟨i, x, y, h1, h2, h3⟩
section
variable {ρ : Env} {S : Sto} {E : EE} {PX : PP DL.Src} {f : AF}
theorem wO_xEnum (h : wO (f ρ S) (fun ds S1 => ∃ d, ds = [d] ∧ (seqOf S1 d).isSome = true ∧ PX (.enm d) S1) E) : wO (xEnum f ρ S) PX E := wO_bind (wO_imp h fun ds S1 ⟨d, e, z1, z2⟩ => by
  subst e
  simp only
  cases hq : seqOf S1 d with
  | none => rw [hq] at z1; cases z1
  | some xs => exact wO_ok z2)
theorem wO_xZip (h : wO (f ρ S) (fun ds S1 => ∃ xs ys, ds = [.tup xs, .tup ys] ∧ PX (.zip (.tup xs) (.tup ys)) S1) E) : wO (xZip f ρ S) PX E := wO_bind (wO_imp h fun ds S1 ⟨xs, ys, e, z⟩ => by
  subst e
  exact wO_ok z)
end
/-! ### in a tuple -/
section
variable {P : PP D} {E : EE} {S : Sto} {x : D} {ys : List D}
theorem inB_tup (hx : okD x = true) (hy : okD (.tup ys) = true) : inB S x (.tup ys) = some ((D.Ps ys).any fun z => PyData.eqv z x.P) := by
  have px : x.pure = true := (Bool.and_eq_true_iff.mp hx).1
  unfold inB
  rw [top_pure px, show top S (.tup ys) = .tup ys from rfl, if_pos ⟨hx, hy⟩]
theorem wO_inT (hx : okD x = true) (hy : okD (.tup ys) = true) (h : P (.bl ((D.Ps ys).any fun z => PyData.eqv z x.P)) S) : wO (inD x (.tup ys) S) P E := by
  unfold inD
  rw [inB_tup hx hy]
  exact wO_ok h
theorem wO_notInT (hx : okD x = true) (hy : okD (.tup ys) = true) (h : P (.bl (!(D.Ps ys).any fun z => PyData.eqv z x.P)) S) : wO (notInD x (.tup ys) S) P E := by
  unfold notInD
  rw [inB_tup hx hy]
  exact wO_ok h
end
/-! ### a for over enumerate of a tuple -/
section
variable {N : Env → Sto → Prop} {R : D → Sto → Prop} {X : Addr → D → Env → Sto → Prop} {B Ct : Env → Sto → Prop} {ρ : Env} {S : Sto} {T : GF} {body : SF}
end
/-! ### a comprehension over a range, with a test -/
/-! ### an item taken out of a list -/
theorem wO_pop {P : PP D} {E : EE} {S : Sto} {n k : Nat} {ys : List D} {d : D} (h : S[n]? = some (.lst ys)) (hk : ys[k]? = some d) (hl : ys.length < 2 ^ 62) (q : P d (S.set n (.lst (ys.eraseIdx k)))) : wO (popD (.ref n) [.int (k : Int)] S) P E := by
  have hk' := (List.getElem?_eq_some_iff.mp hk).1
  have e : seqIndex? (k : Int) ys.length = some k := by
    unfold seqIndex?
    have h0 : ¬ ((k : Int) < 0) := by omega
    simp only [if_neg h0]
    have h1 : (decide (0 ≤ (k : Int)) && decide ((k : Int) < (ys.length : Int))) = true := by
      rw [decide_eq_true (by omega), decide_eq_true (by omega)]; rfl
    rw [h1]
    rfl
  unfold popD
  simp only [h]
  rw [if_pos (by omega)]
  simp only [e, hk]
  exact wO_ok q
theorem wO_bif {PB : PP Bool} {E : EE} {ρ : Env} {S : Sto} {t u v : BF} (h : wO (t ρ S) (fun b S1 => (b = true → wO (u ρ S1) PB E) ∧ (b = false → wO (v ρ S1) PB E)) E) : wO (bIf t u v ρ S) PB E :=
  wO_bind (wO_imp h fun b S1 ⟨z1, z2⟩ => by
    cases b with
    | true => exact z1 rfl
    | false => exact z2 rfl)
end DL

set_option Elab.async false
set_option linter.all false
set_option maxRecDepth 100000
namespace DL
open PySem PySem.Spec PyProof.Rows L2
section
variable {P : PP D} {E : EE} {ρ : Env} {S : Sto}
end
section
variable {α : Type} {N : Env → Sto → Prop} {R : D → Sto → Prop} {X : Addr → D → Env → Sto → Prop} {B Ct : Env → Sto → Prop} {ρ : Env} {S : Sto} {T : GF} {body : SF}
end
end DL

set_option Elab.async false
set_option linter.all false
set_option maxRecDepth 100000
namespace DL
open PySem PySem.Spec PyProof.Rows L2
section
variable {K : PySem.W.Frag} {N : Env → Sto → Prop} {R : D → Sto → Prop} {X : Addr → D → Env → Sto → Prop} {B Ct : Env → Sto → Prop} {ρ : Env} {S : Sto} {g : SF} {l : List (Addr × Option Nat × HF)}
theorem wS_tryC (z : wS (g ρ S) N R (fun C w ρ1 S1 => wS (clsGo K C w ρ1 S1 l) N R X B Ct) B Ct) : wS (sTryC K g l ρ S) N R X B Ct := by
  unfold sTryC
  cases e : g ρ S with
  | exc C w ρ1 S1 => rw [e] at z; exact z.h
  | _ => rw [e] at z; exact ⟨z.h⟩
theorem wS_clsNo {C C2 : Addr} {w : D} {o : Option Nat} {h : HF} (he : PySem.W.exmOne K (.ref C) (.ref C2) = some false) (z : wS (clsGo K C w ρ S l) N R X B Ct) : wS (clsGo K C w ρ S ((C2, o, h) :: l)) N R X B Ct := by
  unfold clsGo
  rw [he]
  exact z
theorem wS_clsYes {C C2 : Addr} {w : D} {i : Nat} {h : HF} (he : PySem.W.exmOne K (.ref C) (.ref C2) = some true) (z : wS ((h 0 0 C (ρ.set i (some (.exc 0 0 C w))) S).gone i) N R X B Ct) : wS (clsGo K C w ρ S ((C2, some i, h) :: l)) N R X B Ct := by
  unfold clsGo
  rw [he]
  exact z
end
end DL

set_option Elab.async false
set_option linter.all false
set_option maxRecDepth 100000
namespace K23
open PySem PySem.Spec PyProof.Rows L2 DL
def topS (i : Nat) : Stmt := PySem.Challenge.pw_editlots_k23_kinds_and_amounts.main.body.getD i (.Pass ⟨0, 0, 0, 0⟩)
/-- what the names of the module hold, as far as the walk asks -/
structure Bi (K : PySem.W.Frag) (mg : Str → Option Value) : Prop where
  b_all : mg "all" = none
  b_bool : mg "bool" = none
  b_enumerate : mg "enumerate" = none
  b_int : mg "int" = none
  b_isinstance : mg "isinstance" = none
  b_len : mg "len" = none
  b_list : mg "list" = none
  b_max : mg "max" = none
  b_min : mg "min" = none
  b_range : mg "range" = none
  b_repr : mg "repr" = none
  b_tuple : mg "tuple" = none
  b_zip : mg "zip" = none
  c_MOST_SIZES : ∃ t, mg "MOST_SIZES" = some (.int 12 t)
  c_LEAST_SIZE : ∃ t, mg "LEAST_SIZE" = some (.int 2 t)
  c_MOST_STATES : ∃ t, mg "MOST_STATES" = some (.int 12 t)
  e_BadAmount : ErrC K mg "BadAmount" (clsOf mg "BadAmount")
  e_BadKind : ErrC K mg "BadKind" (clsOf mg "BadKind")
  e_BadState : ErrC K mg "BadState" (clsOf mg "BadState")
section
variable [Tb]
variable {P : Program} {w : World} {K : PySem.W.Frag} {mg : Str → Option Value} {base : Heap}
/-! ### _law_pool -/
abbrev s__law_pool : Stmt := topS 33
theorem sc__law_pool : FnScope ["_law_script", "_law_k", "_law_cell", "_law_big", "_law_mixed_here"] ["_law_script", "_law_k"] (defScope s__law_pool) := ⟨rfl, rfl, rfl, by decide +kernel, rfl, by decide +kernel, by decide +kernel⟩
noncomputable def g__law_pool (K : PySem.W.Frag) (mg : Str → Option Value) : SF := sSeq (sSet 2 (eC (.int 0)))
    (sSeq (sIf (bVal (eBin ltD (eVar 1) (eCall lenD (aCons (eVar 0) (aNil))))) (sSet 2 (eBin ixD (eVar 0) (eVar 1)))
    (sIf (bVal (eBin neD (eVar 0) (eLst (aNil)))) (sSet 2 (eBin ixD (eVar 0) (eC (.int 0))))
    (sNext)))
    (sSeq (sSet 3 (eCall max2D (aCons (eCall intD (aCons (eVar 2) (aNil))) (aCons (eCall intD (aCons (eBin subD (eUn negD (eC (.int 1))) (eVar 2)) (aNil))) (aNil)))))
    (sSeq (sSet 4 (eBin modD (eCall intD (aCons (eBin mulD (eBin addD (eBin addD (eBin addD (eBin modD (eCall intD (aCons (eVar 3) (aNil))) (eC (.int 2147483629))) (eBin mulD (eBin mulD (eC (.int 7919)) (eVar 1)) (eVar 1))) (eBin mulD (eC (.int 31)) (eVar 1))) (eC (.int 17))) (eC (.int 48271))) (aNil))) (eC (.int 2147483647))))
    (sRet (eLstM (aCons (eBin mulD (eVar 3) (eCall intD (aCons (eAnd (eBin geD (eVar 3) (eBin powD (eC (.int 10)) (eC (.int 18)))) (eBin ltD (eVar 1) (eCall lenD (aCons (eVar 0) (aNil))))) (aNil)))) (aCons (eVar 4) (aNil))))))))
noncomputable def m__law_pool (K : PySem.W.Frag) (mg : Str → Option Value) : MF := mBodyM 5 (g__law_pool K mg)
theorem ok__law_pool {f : Addr} {fd : FuncData} (B : Bi K mg) (F : Fun K "_law_pool" "_law_pool" s__law_pool f fd) (gf : mg "_law_pool" = some (.ref f)) : DOk P w K mg base 1 "_law_pool" 2 (m__law_pool K mg) := by
  refine dok_ofM (n := 2) F sc__law_pool (F.binds (ps := ["_law_script", "_law_k"]) fun _ _ _ _ _ _ us hl => match us, hl with | [_, _], _ => rfl) gf rfl fun cdv A outer s H E hcd at' => ?_
  have ar := at'.room
  have ag := at'.gd
  have au := at'.u.un
  have nd := sc__law_pool.nd
  have tk := L2N.takes_of (X := cxOf (L2N.CX P w) P w K mg base ["_law_script", "_law_k", "_law_cell", "_law_big", "_law_mixed_here"] "_law_pool" (defScope s__law_pool) f cdv A outer s H E) rfl rfl rfl rfl
  have pown := passes_of (X := cxOf (L2N.CX P w) P w K mg base ["_law_script", "_law_k", "_law_cell", "_law_big", "_law_mixed_here"] "_law_pool" (defScope s__law_pool) f cdv A outer s H E) rfl
  exact ess_cons (es_set 2 nd rfl (.inl rfl) (ev_int))
    (ess_cons (es_if (et_lt (ev_var 1 (pv 1)) (ev_callB call_len len_ok B.b_len (by decide +kernel) rfl (ea_cons (ev_var 0 (pv 0)) (ea_nil)))) (ess_one (es_set 2 nd rfl (.inl rfl) (ev_at (ev_var 0 (pv 0)) (ev_var 1 (pv 1)))))
    (ess_one (es_if (et_ne ⟨au, ag⟩ (ev_var 0 (pv 0)) (ev_lst (ea_nil))) (ess_one (es_set 2 nd rfl (.inl rfl) (ev_at (ev_var 0 (pv 0)) (ev_int))))
    (ess_nil))))
    (ess_cons (es_set 3 nd rfl (.inl rfl) (ev_callB (call_max2 rfl) max2_ok B.b_max (by decide +kernel) rfl (ea_cons (ev_callTy call_int1 int_ok B.b_int (by decide +kernel) rfl (ea_cons (ev_var 2 (pv 2)) (ea_nil))) (ea_cons (ev_callTy call_int1 int_ok B.b_int (by decide +kernel) rfl (ea_cons (ev_sub (ev_neg (ev_int)) (ev_var 2 (pv 2))) (ea_nil))) (ea_nil)))))
    (ess_cons (es_set 4 nd rfl (.inl rfl) (ev_mod (ev_callTy call_int1 int_ok B.b_int (by decide +kernel) rfl (ea_cons (ev_mul (ev_add (ev_add (ev_add (ev_mod (ev_callTy call_int1 int_ok B.b_int (by decide +kernel) rfl (ea_cons (ev_var 3 (pv 3)) (ea_nil))) (ev_int)) (ev_mul (ev_mul (ev_int) (ev_var 1 (pv 1))) (ev_var 1 (pv 1)))) (ev_mul (ev_int) (ev_var 1 (pv 1)))) (ev_int)) (ev_int)) (ea_nil))) (ev_int)))
    (ess_one (es_ret (ev_lstM (ea_cons (ev_mul (ev_var 3 (pv 3)) (ev_callTy call_int1 int_ok B.b_int (by decide +kernel) rfl (ea_cons (ev_and (ev_ge (ev_var 3 (pv 3)) (ev_pow (ev_int) (ev_int))) (ev_one (ev_lt (ev_var 1 (pv 1)) (ev_callB call_len len_ok B.b_len (by decide +kernel) rfl (ea_cons (ev_var 0 (pv 0)) (ea_nil)))))) (ea_nil)))) (ea_cons (ev_var 4 (pv 4)) (ea_nil)))))))))
/-! ### _law_take -/
abbrev s__law_take : Stmt := topS 34
theorem sc__law_take : FnScope ["_law_source", "_law_top", "_law_drawn"] ["_law_source", "_law_top"] (defScope s__law_take) := ⟨rfl, rfl, rfl, by decide +kernel, rfl, by decide +kernel, by decide +kernel⟩
noncomputable def g__law_take (K : PySem.W.Frag) (mg : Str → Option Value) : SF := sSeq (sIf (bVal (eBin gtD (eBin ixD (eVar 0) (eC (.int 0))) (eC (.int 0)))) (sSeq (sSet 2 (eBin modD (eCall intD (aCons (eBin ixD (eVar 0) (eC (.int 0))) (aNil))) (eVar 1)))
    (sSeq (sAsg (eBin fdivD (eBin ixD (eVar 0) (eC (.int 0))) (eVar 1)) (tSub (eVar 0) (eC (.int 0))))
    (sRet (eVar 2))))
    (sNext))
    (sSeq (sAsg (eBin modD (eCall intD (aCons (eBin addD (eBin mulD (eBin ixD (eVar 0) (eC (.int 1))) (eC (.int 39373))) (eC (.int 7))) (aNil))) (eC (.int 2147483647))) (tSub (eVar 0) (eC (.int 1))))
    (sRet (eBin modD (eCall intD (aCons (eBin fdivD (eBin modD (eCall intD (aCons (eBin mulD (eBin ixD (eVar 0) (eC (.int 1))) (eBin ixD (eVar 0) (eC (.int 1)))) (aNil))) (eC (.int 2147483629))) (eC (.int 32))) (aNil))) (eVar 1))))
noncomputable def m__law_take (K : PySem.W.Frag) (mg : Str → Option Value) : MF := mBody 3 (g__law_take K mg)
theorem ok__law_take {f : Addr} {fd : FuncData} (B : Bi K mg) (F : Fun K "_law_take" "_law_take" s__law_take f fd) (gf : mg "_law_take" = some (.ref f)) : DOk P w K mg base 1 "_law_take" 2 (m__law_take K mg) := by
  refine dok_of (n := 2) F sc__law_take (F.binds (ps := ["_law_source", "_law_top"]) fun _ _ _ _ _ _ us hl => match us, hl with | [_, _], _ => rfl) gf rfl fun cdv A outer s H E hcd at' => ?_
  have ar := at'.room
  have ag := at'.gd
  have au := at'.u.un
  have nd := sc__law_take.nd
  have tk := L2N.takes_of (X := cxOf (L2N.CX P w) P w K mg base ["_law_source", "_law_top", "_law_drawn"] "_law_take" (defScope s__law_take) f cdv A outer s H E) rfl rfl rfl rfl
  have pown := passes_of (X := cxOf (L2N.CX P w) P w K mg base ["_law_source", "_law_top", "_law_drawn"] "_law_take" (defScope s__law_take) f cdv A outer s H E) rfl
  exact ess_cons (es_if (et_gt (ev_at (ev_var 0 (pv 0)) (ev_int)) (ev_int)) (ess_cons (es_set 2 nd rfl (.inl rfl) (ev_mod (ev_callTy call_int1 int_ok B.b_int (by decide +kernel) rfl (ea_cons (ev_at (ev_var 0 (pv 0)) (ev_int)) (ea_nil))) (ev_var 1 (pv 1))))
    (ess_cons (es_asg (ev_fdiv (ev_at (ev_var 0 (pv 0)) (ev_int)) (ev_var 1 (pv 1))) (eg_sub (ev_var 0 (pv 0)) (ev_int)))
    (ess_one (es_ret (ev_var 2 (pv 2))))))
    (ess_nil))
    (ess_cons (es_asg (ev_mod (ev_callTy call_int1 int_ok B.b_int (by decide +kernel) rfl (ea_cons (ev_add (ev_mul (ev_at (ev_var 0 (pv 0)) (ev_int)) (ev_int)) (ev_int)) (ea_nil))) (ev_int)) (eg_sub (ev_var 0 (pv 0)) (ev_int)))
    (ess_one (es_ret (ev_mod (ev_callTy call_int1 int_ok B.b_int (by decide +kernel) rfl (ea_cons (ev_fdiv (ev_mod (ev_callTy call_int1 int_ok B.b_int (by decide +kernel) rfl (ea_cons (ev_mul (ev_at (ev_var 0 (pv 0)) (ev_int)) (ev_at (ev_var 0 (pv 0)) (ev_int))) (ea_nil))) (ev_int)) (ev_int)) (ea_nil))) (ev_var 1 (pv 1))))))
/-! ### _law_great_kind -/
abbrev s__law_great_kind : Stmt := topS 45
theorem sc__law_great_kind : FnScope ["_law_source", "_law_sizes", "_law_hands", "_law_turn", "_law_here", "_law_k", "_law_size"] ["_law_source"] (defScope s__law_great_kind) := ⟨rfl, rfl, rfl, by decide +kernel, rfl, by decide +kernel, by decide +kernel⟩
noncomputable def g__law_great_kind (K : PySem.W.Frag) (mg : Str → Option Value) : SF := sSeq (sSet 1 (eCall tupleD (aCons (fComp (xRng1 (aCons (eBin addD (eC (.int 1)) (eFn 2 (m__law_take K mg) (aCons (eVar 0) (aCons (eC (.int 4)) (aNil))))) (aNil))) [5] (.one 5) (bTrue) (eBin addD (eC (.int 2)) (eFn 2 (m__law_take K mg) (aCons (eVar 0) (aCons (eBin powD (eC (.int 10)) (eC (.int 6))) (aNil))))) (fun ds S => .ok (.lst ds) S)) (aNil))))
    (sSeq (sSet 2 (eLst (aNil)))
    (sSeq (sFor (xRng1 (aCons (eBin addD (eC (.int 1)) (eFn 2 (m__law_take K mg) (aCons (eVar 0) (aCons (eC (.int 6)) (aNil))))) (aNil))) (tName 3)
    (sSeq (sSet 4 (eCall tupleD (aCons (fComp (xTup (eVar 1)) [6] (.one 6) (bTrue) (eFn 2 (m__law_take K mg) (aCons (eVar 0) (aCons (eVar 6) (aNil)))) (fun ds S => .ok (.lst ds) S)) (aNil))))
    (sSet 2 (eBin addD (eVar 2) (eBin mulD (eLst (aCons (eVar 4) (aNil))) (eCall intD (aCons (eBin notInD (eVar 4) (eVar 2)) (aNil))))))))
    (sRet (eTup (aCons (eVar 1) (aCons (eCall tupleD (aCons (eVar 2) (aNil))) (aNil)))))))
noncomputable def m__law_great_kind (K : PySem.W.Frag) (mg : Str → Option Value) : MF := mBody 7 (g__law_great_kind K mg)
theorem ok__law_great_kind {f : Addr} {fd : FuncData} (B : Bi K mg) (F : Fun K "_law_great_kind" "_law_great_kind" s__law_great_kind f fd) (gf : mg "_law_great_kind" = some (.ref f)) (h__law_take : DOk P w K mg base 1 "_law_take" 2 (m__law_take K mg)) : DOk P w K mg base 2 "_law_great_kind" 1 (m__law_great_kind K mg) := by
  refine dok_of (n := 1) F sc__law_great_kind (F.binds (ps := ["_law_source"]) fun _ _ _ _ _ _ us hl => match us, hl with | [_], _ => rfl) gf rfl fun cdv A outer s H E hcd at' => ?_
  have ar := at'.room
  have ag := at'.gd
  have au := at'.u.un
  have nd := sc__law_great_kind.nd
  have tk := L2N.takes_of (X := cxOf (L2N.CX P w) P w K mg base ["_law_source", "_law_sizes", "_law_hands", "_law_turn", "_law_here", "_law_k", "_law_size"] "_law_great_kind" (defScope s__law_great_kind) f cdv A outer s H E) rfl rfl rfl rfl
  have pown := passes_of (X := cxOf (L2N.CX P w) P w K mg base ["_law_source", "_law_sizes", "_law_hands", "_law_turn", "_law_here", "_law_k", "_law_size"] "_law_great_kind" (defScope s__law_great_kind) f cdv A outer s H E) rfl
  exact ess_cons (es_set 1 nd rfl (.inl rfl) (ev_callTy cr_tupP tuple_ok B.b_tuple (by decide +kernel) rfl (ea_cons (ev_lc [("_law_k", 5)] (.one 5) fin_v rfl nd (blkOk_by (by kernel_rfl)) (ei_rng1 B.b_range rfl (ea_cons (ev_add (ev_int) (ev_fn h__law_take ⟨ar, ag⟩ (by decide) tk rfl (ea_cons (ev_var 0 (pv 0)) (ea_cons (ev_int) (ea_nil))))) (ea_nil))) (fun s_ H_ C_ cl_ fp_ => ct_one (pg_name (i := 5) nd rfl (.inl rfl))) (by decide) (fun s_ H_ C_ cl_ fp_ => ets_nil) (fun s_ H_ C_ cl_ fp_ => ev_add (ev_int) (ev_fn h__law_take ⟨ar, ag⟩ (by decide) takesN0 rfl (ea_cons (ev_var 0 (pv 0)) (ea_cons (ev_pow (ev_int) (ev_int)) (ea_nil)))))) (ea_nil))))
    (ess_cons (es_set 2 nd rfl (.inl rfl) (ev_lst (ea_nil)))
    (ess_cons (es_for pown rfl (ei_rng1 B.b_range rfl (ea_cons (ev_add (ev_int) (ev_fn h__law_take ⟨ar, ag⟩ (by decide) tk rfl (ea_cons (ev_var 0 (pv 0)) (ea_cons (ev_int) (ea_nil))))) (ea_nil))) (eg_name 3 nd rfl (.inl rfl))
    (ess_cons (es_set 4 nd rfl (.inl rfl) (ev_callTy cr_tupP tuple_ok B.b_tuple (by decide +kernel) rfl (ea_cons (ev_lc [("_law_size", 6)] (.one 6) fin_v rfl nd (blkOk_by (by kernel_rfl)) (ei_tup (ev_var 1 (pv 1))) (fun s_ H_ C_ cl_ fp_ => ct_one (pg_name (i := 6) nd rfl (.inl rfl))) (by decide) (fun s_ H_ C_ cl_ fp_ => ets_nil) (fun s_ H_ C_ cl_ fp_ => ev_fn h__law_take ⟨ar, ag⟩ (by decide) takesN0 rfl (ea_cons (ev_var 0 (pv 0)) (ea_cons (ev_var 6 (pv 6)) (ea_nil))))) (ea_nil))))
    (ess_one (es_set 2 nd rfl (.inl rfl) (ev_add (ev_var 2 (pv 2)) (ev_mul (ev_lst (ea_cons (ev_var 4 (pv 4)) (ea_nil))) (ev_callTy call_int1 int_ok B.b_int (by decide +kernel) rfl (ea_cons (ev_notIn ⟨au, ag⟩ (ev_var 4 (pv 4)) (ev_var 2 (pv 2))) (ea_nil)))))))))
    (ess_one (es_ret (ev_tup (ea_cons (ev_var 1 (pv 1)) (ea_cons (ev_callTy cr_tupP tuple_ok B.b_tuple (by decide +kernel) rfl (ea_cons (ev_var 2 (pv 2)) (ea_nil))) (ea_nil))))))))
/-! ### _law_one -/
abbrev s__law_one : Stmt := topS 35
theorem sc__law_one : FnScope ["_law_source", "_law_things"] ["_law_source", "_law_things"] (defScope s__law_one) := ⟨rfl, rfl, rfl, by decide +kernel, rfl, by decide +kernel, by decide +kernel⟩
noncomputable def g__law_one (K : PySem.W.Frag) (mg : Str → Option Value) : SF := sRet (eBin ixD (eVar 1) (eFn 2 (m__law_take K mg) (aCons (eVar 0) (aCons (eCall lenD (aCons (eVar 1) (aNil))) (aNil)))))
noncomputable def m__law_one (K : PySem.W.Frag) (mg : Str → Option Value) : MF := mBody 2 (g__law_one K mg)
theorem ok__law_one {f : Addr} {fd : FuncData} (B : Bi K mg) (F : Fun K "_law_one" "_law_one" s__law_one f fd) (gf : mg "_law_one" = some (.ref f)) (h__law_take : DOk P w K mg base 1 "_law_take" 2 (m__law_take K mg)) : DOk P w K mg base 2 "_law_one" 2 (m__law_one K mg) := by
  refine dok_of (n := 2) F sc__law_one (F.binds (ps := ["_law_source", "_law_things"]) fun _ _ _ _ _ _ us hl => match us, hl with | [_, _], _ => rfl) gf rfl fun cdv A outer s H E hcd at' => ?_
  have ar := at'.room
  have ag := at'.gd
  have au := at'.u.un
  have nd := sc__law_one.nd
  have tk := L2N.takes_of (X := cxOf (L2N.CX P w) P w K mg base ["_law_source", "_law_things"] "_law_one" (defScope s__law_one) f cdv A outer s H E) rfl rfl rfl rfl
  have pown := passes_of (X := cxOf (L2N.CX P w) P w K mg base ["_law_source", "_law_things"] "_law_one" (defScope s__law_one) f cdv A outer s H E) rfl
  exact ess_one (es_ret (ev_at (ev_var 1 (pv 1)) (ev_fn h__law_take ⟨ar, ag⟩ (by decide) tk rfl (ea_cons (ev_var 0 (pv 0)) (ea_cons (ev_callB call_len len_ok B.b_len (by decide +kernel) rfl (ea_cons (ev_var 1 (pv 1)) (ea_nil))) (ea_nil))))))
/-! ### _law_v_sizes -/
abbrev s__law_v_sizes : Stmt := topS 38
theorem sc__law_v_sizes : FnScope ["_law_source", "_law_place"] ["_law_source"] (defScope s__law_v_sizes) := ⟨rfl, rfl, rfl, by decide +kernel, rfl, by decide +kernel, by decide +kernel⟩
noncomputable def g__law_v_sizes (K : PySem.W.Frag) (mg : Str → Option Value) : SF := sRet (eCall tupleD (aCons (fComp (xRng1 (aCons (eFn 2 (m__law_one K mg) (aCons (eVar 0) (aCons (eLst (aCons (eC (.int 1)) (aCons (eC (.int 2)) (aCons (eC (.int 1)) (aCons (eC (.int 2)) (aCons (eC (.int 0)) (aNil))))))) (aNil)))) (aNil))) [1] (.one 1) (bTrue) (eFn 2 (m__law_one K mg) (aCons (eVar 0) (aCons (eLst (aCons (eC (.int 2)) (aCons (eC (.int 3)) (aCons (eC (.int 2)) (aCons (eC (.int 4)) (aCons (eC (.int 5)) (aCons (eC (.int 6)) (aNil)))))))) (aNil)))) (fun ds S => .ok (.lst ds) S)) (aNil)))
noncomputable def m__law_v_sizes (K : PySem.W.Frag) (mg : Str → Option Value) : MF := mBody 2 (g__law_v_sizes K mg)
theorem ok__law_v_sizes {f : Addr} {fd : FuncData} (B : Bi K mg) (F : Fun K "_law_v_sizes" "_law_v_sizes" s__law_v_sizes f fd) (gf : mg "_law_v_sizes" = some (.ref f)) (h__law_one : DOk P w K mg base 2 "_law_one" 2 (m__law_one K mg)) : DOk P w K mg base 3 "_law_v_sizes" 1 (m__law_v_sizes K mg) := by
  refine dok_of (n := 1) F sc__law_v_sizes (F.binds (ps := ["_law_source"]) fun _ _ _ _ _ _ us hl => match us, hl with | [_], _ => rfl) gf rfl fun cdv A outer s H E hcd at' => ?_
  have ar := at'.room
  have ag := at'.gd
  have au := at'.u.un
  have nd := sc__law_v_sizes.nd
  have tk := L2N.takes_of (X := cxOf (L2N.CX P w) P w K mg base ["_law_source", "_law_place"] "_law_v_sizes" (defScope s__law_v_sizes) f cdv A outer s H E) rfl rfl rfl rfl
  have pown := passes_of (X := cxOf (L2N.CX P w) P w K mg base ["_law_source", "_law_place"] "_law_v_sizes" (defScope s__law_v_sizes) f cdv A outer s H E) rfl
  exact ess_one (es_ret (ev_callTy cr_tupP tuple_ok B.b_tuple (by decide +kernel) rfl (ea_cons (ev_lc [("_law_place", 1)] (.one 1) fin_v rfl nd (blkOk_by (by kernel_rfl)) (ei_rng1 B.b_range rfl (ea_cons (ev_fn h__law_one ⟨ar, ag⟩ (by decide) tk rfl (ea_cons (ev_var 0 (pv 0)) (ea_cons (ev_lst (ea_cons (ev_int) (ea_cons (ev_int) (ea_cons (ev_int) (ea_cons (ev_int) (ea_cons (ev_int) (ea_nil))))))) (ea_nil)))) (ea_nil))) (fun s_ H_ C_ cl_ fp_ => ct_one (pg_name (i := 1) nd rfl (.inl rfl))) (by decide) (fun s_ H_ C_ cl_ fp_ => ets_nil) (fun s_ H_ C_ cl_ fp_ => ev_fn h__law_one ⟨ar, ag⟩ (by decide) takesN0 rfl (ea_cons (ev_var 0 (pv 0)) (ea_cons (ev_lst (ea_cons (ev_int) (ea_cons (ev_int) (ea_cons (ev_int) (ea_cons (ev_int) (ea_cons (ev_int) (ea_cons (ev_int) (ea_nil)))))))) (ea_nil))))) (ea_nil))))
/-! ### _law_v_all_amounts -/
abbrev s__law_v_all_amounts : Stmt := topS 37
theorem sc__law_v_all_amounts : FnScope ["_law_sizes", "_law_found", "_law_size", "_law_longer", "_law_one_here", "_law_number"] ["_law_sizes"] (defScope s__law_v_all_amounts) := ⟨rfl, rfl, rfl, by decide +kernel, rfl, by decide +kernel, by decide +kernel⟩
noncomputable def g__law_v_all_amounts (K : PySem.W.Frag) (mg : Str → Option Value) : SF := sSeq (sSet 1 (eLst (aCons (eTup (aNil)) (aNil))))
    (sSeq (sFor (xTup (eVar 0)) (tName 2)
    (sSeq (sSet 3 (eLstM (aNil)))
    (sSeq (sFor (xLst (eVar 1)) (tName 4)
    (sExpr (eLM extendD (eVar 3) (aCons (fComp (xRng1 (aCons (eVar 2) (aNil))) [5] (.one 5) (bTrue) (eBin addD (eVar 4) (eTup (aCons (eVar 5) (aNil)))) (fun ds S => .ok (.lst ds) S)) (aNil)))))
    (sSet 1 (eVar 3)))))
    (sRet (eVar 1)))
noncomputable def m__law_v_all_amounts (K : PySem.W.Frag) (mg : Str → Option Value) : MF := mBody 6 (g__law_v_all_amounts K mg)
theorem ok__law_v_all_amounts {f : Addr} {fd : FuncData} (B : Bi K mg) (F : Fun K "_law_v_all_amounts" "_law_v_all_amounts" s__law_v_all_amounts f fd) (gf : mg "_law_v_all_amounts" = some (.ref f)) : DOk P w K mg base 1 "_law_v_all_amounts" 1 (m__law_v_all_amounts K mg) := by
  refine dok_of (n := 1) F sc__law_v_all_amounts (F.binds (ps := ["_law_sizes"]) fun _ _ _ _ _ _ us hl => match us, hl with | [_], _ => rfl) gf rfl fun cdv A outer s H E hcd at' => ?_
  have ar := at'.room
  have ag := at'.gd
  have au := at'.u.un
  have nd := sc__law_v_all_amounts.nd
  have tk := L2N.takes_of (X := cxOf (L2N.CX P w) P w K mg base ["_law_sizes", "_law_found", "_law_size", "_law_longer", "_law_one_here", "_law_number"] "_law_v_all_amounts" (defScope s__law_v_all_amounts) f cdv A outer s H E) rfl rfl rfl rfl
  have pown := passes_of (X := cxOf (L2N.CX P w) P w K mg base ["_law_sizes", "_law_found", "_law_size", "_law_longer", "_law_one_here", "_law_number"] "_law_v_all_amounts" (defScope s__law_v_all_amounts) f cdv A outer s H E) rfl
  exact ess_cons (es_set 1 nd rfl (.inl rfl) (ev_lst (ea_cons (ev_tup (ea_nil)) (ea_nil))))
    (ess_cons (es_for pown rfl (ei_tup (ev_var 0 (pv 0))) (eg_name 2 nd rfl (.inl rfl))
    (ess_cons (es_set 3 nd rfl (.inl rfl) (ev_lstM (ea_nil)))
    (ess_cons (es_for pown rfl (ei_lst (ev_var 1 (pv 1))) (eg_name 4 nd rfl (.inr rfl))
    (ess_one (es_expr (ev_lm PySem.F.slot_list_extend PySem.F.type_list_extend mt_extend extend_ok (ev_var 3 (pv 3)) (ea_cons (ev_lc [("_law_number", 5)] (.one 5) fin_v rfl nd (blkOk_by (by kernel_rfl)) (ei_rng1 B.b_range rfl (ea_cons (ev_var 2 (pv 2)) (ea_nil))) (fun s_ H_ C_ cl_ fp_ => ct_one (pg_name (i := 5) nd rfl (.inl rfl))) (by decide) (fun s_ H_ C_ cl_ fp_ => ets_nil) (fun s_ H_ C_ cl_ fp_ => ev_add (ev_var 4 (pv 4)) (ev_tup (ea_cons (ev_var 5 (pv 5)) (ea_nil))))) (ea_nil))))))
    (ess_one (es_set 1 nd rfl (.inl rfl) (ev_var 3 (pv 3)))))))
    (ess_one (es_ret (ev_var 1 (pv 1)))))
/-! ### _law_mixed -/
abbrev s__law_mixed : Stmt := topS 36
theorem sc__law_mixed : FnScope ["_law_source", "_law_things", "_law_rest", "_law_found", "_law_at"] ["_law_source", "_law_things"] (defScope s__law_mixed) := ⟨rfl, rfl, rfl, by decide +kernel, rfl, by decide +kernel, by decide +kernel⟩
noncomputable def g__law_mixed (K : PySem.W.Frag) (mg : Str → Option Value) : SF := sSeq (sPar 2 3 (aCons (eCall listM (aCons (eVar 1) (aNil))) (aCons (eLstM (aNil)) (aNil))))
    (sSeq (sFor (xRng1 (aCons (eCall lenD (aCons (eVar 1) (aNil))) (aNil))) (tName 4)
    (sExpr (eLM appendD (eVar 3) (aCons (eLM popD (eVar 2) (aCons (eFn 2 (m__law_take K mg) (aCons (eVar 0) (aCons (eCall lenD (aCons (eVar 2) (aNil))) (aNil)))) (aNil))) (aNil)))))
    (sRet (eVar 3)))
noncomputable def m__law_mixed (K : PySem.W.Frag) (mg : Str → Option Value) : MF := mBody 5 (g__law_mixed K mg)
theorem ok__law_mixed {f : Addr} {fd : FuncData} (B : Bi K mg) (F : Fun K "_law_mixed" "_law_mixed" s__law_mixed f fd) (gf : mg "_law_mixed" = some (.ref f)) (h__law_take : DOk P w K mg base 1 "_law_take" 2 (m__law_take K mg)) : DOk P w K mg base 2 "_law_mixed" 2 (m__law_mixed K mg) := by
  refine dok_of (n := 2) F sc__law_mixed (F.binds (ps := ["_law_source", "_law_things"]) fun _ _ _ _ _ _ us hl => match us, hl with | [_, _], _ => rfl) gf rfl fun cdv A outer s H E hcd at' => ?_
  have ar := at'.room
  have ag := at'.gd
  have au := at'.u.un
  have nd := sc__law_mixed.nd
  have tk := L2N.takes_of (X := cxOf (L2N.CX P w) P w K mg base ["_law_source", "_law_things", "_law_rest", "_law_found", "_law_at"] "_law_mixed" (defScope s__law_mixed) f cdv A outer s H E) rfl rfl rfl rfl
  have pown := passes_of (X := cxOf (L2N.CX P w) P w K mg base ["_law_source", "_law_things", "_law_rest", "_law_found", "_law_at"] "_law_mixed" (defScope s__law_mixed) f cdv A outer s H E) rfl
  exact ess_cons (es_par 2 3 rfl nd rfl rfl (by decide) rfl rfl (ea_cons (ev_callTy call_list_of listM_ok B.b_list (by decide +kernel) rfl (ea_cons (ev_var 1 (pv 1)) (ea_nil))) (ea_cons (ev_lstM (ea_nil)) (ea_nil))) (by rfl))
    (ess_cons (es_for pown rfl (ei_rng1 B.b_range rfl (ea_cons (ev_callB call_len len_ok B.b_len (by decide +kernel) rfl (ea_cons (ev_var 1 (pv 1)) (ea_nil))) (ea_nil))) (eg_name 4 nd rfl (.inl rfl))
    (ess_one (es_expr (ev_lm PySem.F.slot_list_append PySem.F.type_list_append mt_append append_ok (ev_var 3 (pv 3)) (ea_cons (ev_lm PySem.F.slot_list_pop PySem.F.type_list_pop (DL.MtR.or mt_pop mt_popAt) pop_ok (ev_var 2 (pv 2)) (ea_cons (ev_fn h__law_take ⟨ar, ag⟩ (by decide) tk rfl (ea_cons (ev_var 0 (pv 0)) (ea_cons (ev_callB call_len len_ok B.b_len (by decide +kernel) rfl (ea_cons (ev_var 2 (pv 2)) (ea_nil))) (ea_nil)))) (ea_nil))) (ea_nil))))))
    (ess_one (es_ret (ev_var 3 (pv 3)))))
/-! ### _law_v_kind -/
abbrev s__law_v_kind : Stmt := topS 39
theorem sc__law_v_kind : FnScope ["_law_source", "_law_top", "_law_sizes", "_law_every", "_law_held"] ["_law_source", "_law_top"] (defScope s__law_v_kind) := ⟨rfl, rfl, rfl, by decide +kernel, rfl, by decide +kernel, by decide +kernel⟩
noncomputable def g__law_v_kind (K : PySem.W.Frag) (mg : Str → Option Value) : SF := sSeq (sSet 2 (eFn 1 (m__law_v_sizes K mg) (aCons (eVar 0) (aNil))))
    (sSeq (sSet 3 (eFn 1 (m__law_v_all_amounts K mg) (aCons (eVar 2) (aNil))))
    (sSeq (sSet 4 (eSl (eFn 2 (m__law_mixed K mg) (aCons (eVar 0) (aCons (eVar 3) (aNil)))) (oNone) (oSome (eBin addD (eC (.int 1)) (eFn 2 (m__law_take K mg) (aCons (eVar 0) (aCons (eCall min2D (aCons (eVar 1) (aCons (eCall lenD (aCons (eVar 3) (aNil))) (aNil)))) (aNil))))))))
    (sSeq (sIf (bAnd (bVal (eBin leD (eCall lenD (aCons (eVar 3) (aNil))) (eVar 1))) (bVal (eBin eqD (eFn 2 (m__law_take K mg) (aCons (eVar 0) (aCons (eC (.int 2)) (aNil)))) (eC (.int 0))))) (sSet 4 (eFn 2 (m__law_mixed K mg) (aCons (eVar 0) (aCons (eVar 3) (aNil)))))
    (sNext))
    (sRet (eTup (aCons (eVar 2) (aCons (eCall tupleD (aCons (eVar 4) (aNil))) (aNil))))))))
noncomputable def m__law_v_kind (K : PySem.W.Frag) (mg : Str → Option Value) : MF := mBody 5 (g__law_v_kind K mg)
theorem ok__law_v_kind {f : Addr} {fd : FuncData} (B : Bi K mg) (F : Fun K "_law_v_kind" "_law_v_kind" s__law_v_kind f fd) (gf : mg "_law_v_kind" = some (.ref f)) (h__law_v_sizes : DOk P w K mg base 3 "_law_v_sizes" 1 (m__law_v_sizes K mg)) (h__law_v_all_amounts : DOk P w K mg base 1 "_law_v_all_amounts" 1 (m__law_v_all_amounts K mg)) (h__law_mixed : DOk P w K mg base 2 "_law_mixed" 2 (m__law_mixed K mg)) (h__law_take : DOk P w K mg base 1 "_law_take" 2 (m__law_take K mg)) : DOk P w K mg base 4 "_law_v_kind" 2 (m__law_v_kind K mg) := by
  refine dok_of (n := 2) F sc__law_v_kind (F.binds (ps := ["_law_source", "_law_top"]) fun _ _ _ _ _ _ us hl => match us, hl with | [_, _], _ => rfl) gf rfl fun cdv A outer s H E hcd at' => ?_
  have ar := at'.room
  have ag := at'.gd
  have au := at'.u.un
  have nd := sc__law_v_kind.nd
  have tk := L2N.takes_of (X := cxOf (L2N.CX P w) P w K mg base ["_law_source", "_law_top", "_law_sizes", "_law_every", "_law_held"] "_law_v_kind" (defScope s__law_v_kind) f cdv A outer s H E) rfl rfl rfl rfl
  have pown := passes_of (X := cxOf (L2N.CX P w) P w K mg base ["_law_source", "_law_top", "_law_sizes", "_law_every", "_law_held"] "_law_v_kind" (defScope s__law_v_kind) f cdv A outer s H E) rfl
  exact ess_cons (es_set 2 nd rfl (.inl rfl) (ev_fn h__law_v_sizes ⟨ar, ag⟩ (by decide) tk rfl (ea_cons (ev_var 0 (pv 0)) (ea_nil))))
    (ess_cons (es_set 3 nd rfl (.inl rfl) (ev_fn h__law_v_all_amounts ⟨ar, ag⟩ (by decide) tk rfl (ea_cons (ev_var 2 (pv 2)) (ea_nil))))
    (ess_cons (es_set 4 nd rfl (.inl rfl) (ev_sl (ev_fn h__law_mixed ⟨ar, ag⟩ (by decide) tk rfl (ea_cons (ev_var 0 (pv 0)) (ea_cons (ev_var 3 (pv 3)) (ea_nil)))) (eo_none) (eo_some (ev_add (ev_int) (ev_fn h__law_take ⟨ar, ag⟩ (by decide) tk rfl (ea_cons (ev_var 0 (pv 0)) (ea_cons (ev_callB (call_min2 rfl) min2_ok B.b_min (by decide +kernel) rfl (ea_cons (ev_var 1 (pv 1)) (ea_cons (ev_callB call_len len_ok B.b_len (by decide +kernel) rfl (ea_cons (ev_var 3 (pv 3)) (ea_nil))) (ea_nil)))) (ea_nil))))))))
    (ess_cons (es_if (et_w (ew_and (et_le (ev_callB call_len len_ok B.b_len (by decide +kernel) rfl (ea_cons (ev_var 3 (pv 3)) (ea_nil))) (ev_var 1 (pv 1))) (ew_and1 (et_eq ⟨au, ag⟩ (ev_fn h__law_take ⟨ar, ag⟩ (by decide) tk rfl (ea_cons (ev_var 0 (pv 0)) (ea_cons (ev_int) (ea_nil)))) (ev_int))))) (ess_one (es_set 4 nd rfl (.inl rfl) (ev_fn h__law_mixed ⟨ar, ag⟩ (by decide) tk rfl (ea_cons (ev_var 0 (pv 0)) (ea_cons (ev_var 3 (pv 3)) (ea_nil))))))
    (ess_nil))
    (ess_one (es_ret (ev_tup (ea_cons (ev_var 2 (pv 2)) (ea_cons (ev_callTy cr_tupP tuple_ok B.b_tuple (by decide +kernel) rfl (ea_cons (ev_var 4 (pv 4)) (ea_nil))) (ea_nil)))))))))
/-! ### _law_is_amount -/
abbrev s__law_is_amount : Stmt := topS 47
theorem sc__law_is_amount : FnScope ["_law_sizes", "_law_thing", "_law_k"] ["_law_sizes", "_law_thing"] (defScope s__law_is_amount) := ⟨rfl, rfl, rfl, by decide +kernel, rfl, by decide +kernel, by decide +kernel⟩
noncomputable def g__law_is_amount (K : PySem.W.Frag) (mg : Str → Option Value) : SF := sSeq (sIf (bOr (bNot (bVal (eCall isiD (aCons (eVar 1) (aCons (eC (.ty "tuple")) (aNil)))))) (bVal (eBin neD (eCall lenD (aCons (eVar 1) (aNil))) (eCall lenD (aCons (eVar 0) (aNil)))))) (sRet (eC (.bl false)))
    (sNext))
    (sSeq (sFor (xRng1 (aCons (eCall lenD (aCons (eVar 0) (aNil))) (aNil))) (tName 2)
    (sIf (bOr (bNot (bVal (eCall isiD (aCons (eBin ixD (eVar 1) (eVar 2)) (aCons (eC (.ty "int")) (aNil)))))) (bOr (bVal (eCall isiD (aCons (eBin ixD (eVar 1) (eVar 2)) (aCons (eC (.ty "bool")) (aNil))))) (bNot (bVal (eChain leD ltD (eC (.int 0)) (eBin ixD (eVar 1) (eVar 2)) (eBin ixD (eVar 0) (eVar 2))))))) (sRet (eC (.bl false)))
    (sNext)))
    (sRet (eC (.bl true))))
noncomputable def m__law_is_amount (K : PySem.W.Frag) (mg : Str → Option Value) : MF := mBody 3 (g__law_is_amount K mg)
theorem ok__law_is_amount {f : Addr} {fd : FuncData} (B : Bi K mg) (F : Fun K "_law_is_amount" "_law_is_amount" s__law_is_amount f fd) (gf : mg "_law_is_amount" = some (.ref f)) : DOk P w K mg base 1 "_law_is_amount" 2 (m__law_is_amount K mg) := by
  refine dok_of (n := 2) F sc__law_is_amount (F.binds (ps := ["_law_sizes", "_law_thing"]) fun _ _ _ _ _ _ us hl => match us, hl with | [_, _], _ => rfl) gf rfl fun cdv A outer s H E hcd at' => ?_
  have ar := at'.room
  have ag := at'.gd
  have au := at'.u.un
  have nd := sc__law_is_amount.nd
  have tk := L2N.takes_of (X := cxOf (L2N.CX P w) P w K mg base ["_law_sizes", "_law_thing", "_law_k"] "_law_is_amount" (defScope s__law_is_amount) f cdv A outer s H E) rfl rfl rfl rfl
  have pown := passes_of (X := cxOf (L2N.CX P w) P w K mg base ["_law_sizes", "_law_thing", "_law_k"] "_law_is_amount" (defScope s__law_is_amount) f cdv A outer s H E) rfl
  exact ess_cons (es_if (et_w (ew_or (et_not (et_val (ev_callB call_isi isi_ok B.b_isinstance (by decide +kernel) rfl (ea_cons (ev_var 1 (pv 1)) (ea_cons (ev_ty B.b_tuple (by decide +kernel) rfl) (ea_nil)))))) (ew_or1 (et_ne ⟨au, ag⟩ (ev_callB call_len len_ok B.b_len (by decide +kernel) rfl (ea_cons (ev_var 1 (pv 1)) (ea_nil))) (ev_callB call_len len_ok B.b_len (by decide +kernel) rfl (ea_cons (ev_var 0 (pv 0)) (ea_nil))))))) (ess_one (es_ret (ev_bl)))
    (ess_nil))
    (ess_cons (es_for pown rfl (ei_rng1 B.b_range rfl (ea_cons (ev_callB call_len len_ok B.b_len (by decide +kernel) rfl (ea_cons (ev_var 0 (pv 0)) (ea_nil))) (ea_nil))) (eg_name 2 nd rfl (.inl rfl))
    (ess_one (es_if (et_w (ew_or (et_not (et_val (ev_callB call_isi isi_ok B.b_isinstance (by decide +kernel) rfl (ea_cons (ev_at (ev_var 1 (pv 1)) (ev_var 2 (pv 2))) (ea_cons (ev_ty B.b_int (by decide +kernel) rfl) (ea_nil)))))) (ew_or (et_val (ev_callB call_isi isi_ok B.b_isinstance (by decide +kernel) rfl (ea_cons (ev_at (ev_var 1 (pv 1)) (ev_var 2 (pv 2))) (ea_cons (ev_ty B.b_bool (by decide +kernel) rfl) (ea_nil))))) (ew_or1 (et_not (et_lelt (ev_int) (ev_at (ev_var 1 (pv 1)) (ev_var 2 (pv 2))) (ev_at (ev_var 0 (pv 0)) (ev_var 2 (pv 2))))))))) (ess_one (es_ret (ev_bl)))
    (ess_nil))))
    (ess_one (es_ret (ev_bl))))
/-! ### _law_wrong_kind -/
abbrev s__law_wrong_kind : Stmt := topS 46
theorem sc__law_wrong_kind : FnScope ["_law_thing", "_law_sizes", "_law_hands", "_law_size", "_law_at"] ["_law_thing"] (defScope s__law_wrong_kind) := ⟨rfl, rfl, rfl, by decide +kernel, rfl, by decide +kernel, by decide +kernel⟩
noncomputable def g__law_wrong_kind (K : PySem.W.Frag) (mg : Str → Option Value) : SF := sSeq (sIf (bOr (bNot (bVal (eCall isiD (aCons (eVar 0) (aCons (eC (.ty "tuple")) (aNil)))))) (bVal (eBin neD (eCall lenD (aCons (eVar 0) (aNil))) (eC (.int 2))))) (sRet (eUn negD (eC (.int 1))))
    (sNext))
    (sSeq (sAsg (eVar 0) (tTuple [tName 1, tName 2]))
    (sSeq (sIf (bOr (bNot (bVal (eCall isiD (aCons (eVar 1) (aCons (eC (.ty "tuple")) (aNil)))))) (bVal (eBin gtD (eCall lenD (aCons (eVar 1) (aNil))) (eC (.int 12))))) (sRet (eC (.int 0)))
    (sNext))
    (sSeq (sFor (xTup (eVar 1)) (tName 3)
    (sIf (bOr (bNot (bVal (eCall isiD (aCons (eVar 3) (aCons (eC (.ty "int")) (aNil)))))) (bOr (bVal (eCall isiD (aCons (eVar 3) (aCons (eC (.ty "bool")) (aNil))))) (bVal (eBin ltD (eVar 3) (eC (.int 2)))))) (sRet (eC (.int 0)))
    (sNext)))
    (sSeq (sIf (bOr (bNot (bVal (eCall isiD (aCons (eVar 2) (aCons (eC (.ty "tuple")) (aNil)))))) (bNot (bVal (eChain leD leD (eC (.int 1)) (eCall lenD (aCons (eVar 2) (aNil))) (eC (.int 12)))))) (sRet (eC (.int 1)))
    (sNext))
    (sSeq (sFor (xRng1 (aCons (eCall lenD (aCons (eVar 2) (aNil))) (aNil))) (tName 4)
    (sIf (bOr (bNot (bVal (eFn 2 (m__law_is_amount K mg) (aCons (eVar 1) (aCons (eBin ixD (eVar 2) (eVar 4)) (aNil)))))) (bVal (eBin inD (eBin ixD (eVar 2) (eVar 4)) (eSl (eVar 2) (oNone) (oSome (eVar 4)))))) (sRet (eC (.int 1)))
    (sNext)))
    (sRet (eC .non)))))))
noncomputable def m__law_wrong_kind (K : PySem.W.Frag) (mg : Str → Option Value) : MF := mBody 5 (g__law_wrong_kind K mg)
theorem ok__law_wrong_kind {f : Addr} {fd : FuncData} (B : Bi K mg) (F : Fun K "_law_wrong_kind" "_law_wrong_kind" s__law_wrong_kind f fd) (gf : mg "_law_wrong_kind" = some (.ref f)) (h__law_is_amount : DOk P w K mg base 1 "_law_is_amount" 2 (m__law_is_amount K mg)) : DOk P w K mg base 2 "_law_wrong_kind" 1 (m__law_wrong_kind K mg) := by
  refine dok_of (n := 1) F sc__law_wrong_kind (F.binds (ps := ["_law_thing"]) fun _ _ _ _ _ _ us hl => match us, hl with | [_], _ => rfl) gf rfl fun cdv A outer s H E hcd at' => ?_
  have ar := at'.room
  have ag := at'.gd
  have au := at'.u.un
  have nd := sc__law_wrong_kind.nd
  have tk := L2N.takes_of (X := cxOf (L2N.CX P w) P w K mg base ["_law_thing", "_law_sizes", "_law_hands", "_law_size", "_law_at"] "_law_wrong_kind" (defScope s__law_wrong_kind) f cdv A outer s H E) rfl rfl rfl rfl
  have pown := passes_of (X := cxOf (L2N.CX P w) P w K mg base ["_law_thing", "_law_sizes", "_law_hands", "_law_size", "_law_at"] "_law_wrong_kind" (defScope s__law_wrong_kind) f cdv A outer s H E) rfl
  exact ess_cons (es_if (et_w (ew_or (et_not (et_val (ev_callB call_isi isi_ok B.b_isinstance (by decide +kernel) rfl (ea_cons (ev_var 0 (pv 0)) (ea_cons (ev_ty B.b_tuple (by decide +kernel) rfl) (ea_nil)))))) (ew_or1 (et_ne ⟨au, ag⟩ (ev_callB call_len len_ok B.b_len (by decide +kernel) rfl (ea_cons (ev_var 0 (pv 0)) (ea_nil))) (ev_int))))) (ess_one (es_ret (ev_neg (ev_int))))
    (ess_nil))
    (ess_cons (es_asg (ev_var 0 (pv 0)) (eg_tup rfl (egs_cons (eg_name 1 nd rfl (.inl rfl)) (egs_cons (eg_name 2 nd rfl (.inl rfl)) (egs_nil)))))
    (ess_cons (es_if (et_w (ew_or (et_not (et_val (ev_callB call_isi isi_ok B.b_isinstance (by decide +kernel) rfl (ea_cons (ev_var 1 (pv 1)) (ea_cons (ev_ty B.b_tuple (by decide +kernel) rfl) (ea_nil)))))) (ew_or1 (et_gt (ev_callB call_len len_ok B.b_len (by decide +kernel) rfl (ea_cons (ev_var 1 (pv 1)) (ea_nil))) (ev_int))))) (ess_one (es_ret (ev_int)))
    (ess_nil))
    (ess_cons (es_for pown rfl (ei_tup (ev_var 1 (pv 1))) (eg_name 3 nd rfl (.inl rfl))
    (ess_one (es_if (et_w (ew_or (et_not (et_val (ev_callB call_isi isi_ok B.b_isinstance (by decide +kernel) rfl (ea_cons (ev_var 3 (pv 3)) (ea_cons (ev_ty B.b_int (by decide +kernel) rfl) (ea_nil)))))) (ew_or (et_val (ev_callB call_isi isi_ok B.b_isinstance (by decide +kernel) rfl (ea_cons (ev_var 3 (pv 3)) (ea_cons (ev_ty B.b_bool (by decide +kernel) rfl) (ea_nil))))) (ew_or1 (et_lt (ev_var 3 (pv 3)) (ev_int)))))) (ess_one (es_ret (ev_int)))
    (ess_nil))))
    (ess_cons (es_if (et_w (ew_or (et_not (et_val (ev_callB call_isi isi_ok B.b_isinstance (by decide +kernel) rfl (ea_cons (ev_var 2 (pv 2)) (ea_cons (ev_ty B.b_tuple (by decide +kernel) rfl) (ea_nil)))))) (ew_or1 (et_not (et_lele (ev_int) (ev_callB call_len len_ok B.b_len (by decide +kernel) rfl (ea_cons (ev_var 2 (pv 2)) (ea_nil))) (ev_int)))))) (ess_one (es_ret (ev_int)))
    (ess_nil))
    (ess_cons (es_for pown rfl (ei_rng1 B.b_range rfl (ea_cons (ev_callB call_len len_ok B.b_len (by decide +kernel) rfl (ea_cons (ev_var 2 (pv 2)) (ea_nil))) (ea_nil))) (eg_name 4 nd rfl (.inl rfl))
    (ess_one (es_if (et_w (ew_or (et_not (et_val (ev_fn h__law_is_amount ⟨ar, ag⟩ (by decide) tk rfl (ea_cons (ev_var 1 (pv 1)) (ea_cons (ev_at (ev_var 2 (pv 2)) (ev_var 4 (pv 4))) (ea_nil)))))) (ew_or1 (et_in ⟨au, ag⟩ (ev_at (ev_var 2 (pv 2)) (ev_var 4 (pv 4))) (ev_sl (ev_var 2 (pv 2)) (eo_none) (eo_some (ev_var 4 (pv 4)))))))) (ess_one (es_ret (ev_int)))
    (ess_nil))))
    (ess_one (es_ret (ev_non))))))))
/-! ### is_whole -/
abbrev s_is_whole : Stmt := topS 6
theorem sc_is_whole : FnScope ["thing"] ["thing"] (defScope s_is_whole) := ⟨rfl, rfl, rfl, by decide +kernel, rfl, by decide +kernel, by decide +kernel⟩
noncomputable def g_is_whole (K : PySem.W.Frag) (mg : Str → Option Value) : SF := sRet (eAnd (eCall isiD (aCons (eVar 0) (aCons (eC (.ty "int")) (aNil)))) (eNot (eCall isiD (aCons (eVar 0) (aCons (eC (.ty "bool")) (aNil))))))
noncomputable def m_is_whole (K : PySem.W.Frag) (mg : Str → Option Value) : MF := mBody 1 (g_is_whole K mg)
theorem ok_is_whole {f : Addr} {fd : FuncData} (B : Bi K mg) (F : Fun K "is_whole" "is_whole" s_is_whole f fd) (gf : mg "is_whole" = some (.ref f)) : DOk P w K mg base 1 "is_whole" 1 (m_is_whole K mg) := by
  refine dok_of (n := 1) F sc_is_whole (F.binds (ps := ["thing"]) fun _ _ _ _ _ _ us hl => match us, hl with | [_], _ => rfl) gf rfl fun cdv A outer s H E hcd at' => ?_
  have ar := at'.room
  have ag := at'.gd
  have au := at'.u.un
  have nd := sc_is_whole.nd
  have tk := L2N.takes_of (X := cxOf (L2N.CX P w) P w K mg base ["thing"] "is_whole" (defScope s_is_whole) f cdv A outer s H E) rfl rfl rfl rfl
  have pown := passes_of (X := cxOf (L2N.CX P w) P w K mg base ["thing"] "is_whole" (defScope s_is_whole) f cdv A outer s H E) rfl
  exact ess_one (es_ret (ev_and (ev_callB call_isi isi_ok B.b_isinstance (by decide +kernel) rfl (ea_cons (ev_var 0 (pv 0)) (ea_cons (ev_ty B.b_int (by decide +kernel) rfl) (ea_nil)))) (ev_one (ev_not (ev_callB call_isi isi_ok B.b_isinstance (by decide +kernel) rfl (ea_cons (ev_var 0 (pv 0)) (ea_cons (ev_ty B.b_bool (by decide +kernel) rfl) (ea_nil))))))))
/-! ### is_sizes -/
abbrev s_is_sizes : Stmt := topS 13
theorem sc_is_sizes : FnScope ["thing", "size"] ["thing"] (defScope s_is_sizes) := ⟨rfl, rfl, rfl, by decide +kernel, rfl, by decide +kernel, by decide +kernel⟩
noncomputable def g_is_sizes (K : PySem.W.Frag) (mg : Str → Option Value) : SF := sSeq (sIf (bOr (bNot (bVal (eCall isiD (aCons (eVar 0) (aCons (eC (.ty "tuple")) (aNil)))))) (bVal (eBin gtD (eCall lenD (aCons (eVar 0) (aNil))) (eC (.int 12))))) (sRet (eC (.bl false)))
    (sNext))
    (sRet (eCall allD (aCons (fComp (xTup (eVar 0)) [1] (.one 1) (bTrue) (eAnd (eFn 1 (m_is_whole K mg) (aCons (eVar 1) (aNil))) (eBin geD (eVar 1) (eC (.int 2)))) (fun ds S => .ok (.lst ds) S)) (aNil))))
noncomputable def m_is_sizes (K : PySem.W.Frag) (mg : Str → Option Value) : MF := mBody 2 (g_is_sizes K mg)
theorem ok_is_sizes {f : Addr} {fd : FuncData} (B : Bi K mg) (F : Fun K "is_sizes" "is_sizes" s_is_sizes f fd) (gf : mg "is_sizes" = some (.ref f)) (h_is_whole : DOk P w K mg base 1 "is_whole" 1 (m_is_whole K mg)) : DOk P w K mg base 2 "is_sizes" 1 (m_is_sizes K mg) := by
  refine dok_of (n := 1) F sc_is_sizes (F.binds (ps := ["thing"]) fun _ _ _ _ _ _ us hl => match us, hl with | [_], _ => rfl) gf rfl fun cdv A outer s H E hcd at' => ?_
  have ar := at'.room
  have ag := at'.gd
  have au := at'.u.un
  have nd := sc_is_sizes.nd
  have tk := L2N.takes_of (X := cxOf (L2N.CX P w) P w K mg base ["thing", "size"] "is_sizes" (defScope s_is_sizes) f cdv A outer s H E) rfl rfl rfl rfl
  have pown := passes_of (X := cxOf (L2N.CX P w) P w K mg base ["thing", "size"] "is_sizes" (defScope s_is_sizes) f cdv A outer s H E) rfl
  exact ess_cons (es_if (et_w (ew_or (et_not (et_val (ev_callB call_isi isi_ok B.b_isinstance (by decide +kernel) rfl (ea_cons (ev_var 0 (pv 0)) (ea_cons (ev_ty B.b_tuple (by decide +kernel) rfl) (ea_nil)))))) (ew_or1 (et_gt (ev_callB call_len len_ok B.b_len (by decide +kernel) rfl (ea_cons (ev_var 0 (pv 0)) (ea_nil))) (ev_gint B.c_MOST_SIZES rfl))))) (ess_one (es_ret (ev_bl)))
    (ess_nil))
    (ess_one (es_ret (ev_callB (cr_all rfl) all_ok B.b_all (by decide +kernel) rfl (ea_cons (ev_lc [("size", 1)] (.one 1) fin_v rfl nd (blkOk_by (by kernel_rfl)) (ei_tup (ev_var 0 (pv 0))) (fun s_ H_ C_ cl_ fp_ => ct_one (pg_name (i := 1) nd rfl (.inl rfl))) (by decide) (fun s_ H_ C_ cl_ fp_ => ets_nil) (fun s_ H_ C_ cl_ fp_ => ev_and (ev_fn h_is_whole ⟨ar, ag⟩ (by decide) takesN0 rfl (ea_cons (ev_var 1 (pv 1)) (ea_nil))) (ev_one (ev_ge (ev_var 1 (pv 1)) (ev_gint B.c_LEAST_SIZE rfl))))) (ea_nil)))))
/-! ### is_between -/
abbrev s_is_between : Stmt := topS 7
theorem sc_is_between : FnScope ["thing", "least", "most"] ["thing", "least", "most"] (defScope s_is_between) := ⟨rfl, rfl, rfl, by decide +kernel, rfl, by decide +kernel, by decide +kernel⟩
noncomputable def g_is_between (K : PySem.W.Frag) (mg : Str → Option Value) : SF := sRet (eAnd (eFn 1 (m_is_whole K mg) (aCons (eVar 0) (aNil))) (eChain leD leD (eVar 1) (eVar 0) (eVar 2)))
noncomputable def m_is_between (K : PySem.W.Frag) (mg : Str → Option Value) : MF := mBody 3 (g_is_between K mg)
theorem ok_is_between {f : Addr} {fd : FuncData} (B : Bi K mg) (F : Fun K "is_between" "is_between" s_is_between f fd) (gf : mg "is_between" = some (.ref f)) (h_is_whole : DOk P w K mg base 1 "is_whole" 1 (m_is_whole K mg)) : DOk P w K mg base 2 "is_between" 3 (m_is_between K mg) := by
  refine dok_of (n := 3) F sc_is_between (F.binds (ps := ["thing", "least", "most"]) fun _ _ _ _ _ _ us hl => match us, hl with | [_, _, _], _ => rfl) gf rfl fun cdv A outer s H E hcd at' => ?_
  have ar := at'.room
  have ag := at'.gd
  have au := at'.u.un
  have nd := sc_is_between.nd
  have tk := L2N.takes_of (X := cxOf (L2N.CX P w) P w K mg base ["thing", "least", "most"] "is_between" (defScope s_is_between) f cdv A outer s H E) rfl rfl rfl rfl
  have pown := passes_of (X := cxOf (L2N.CX P w) P w K mg base ["thing", "least", "most"] "is_between" (defScope s_is_between) f cdv A outer s H E) rfl
  exact ess_one (es_ret (ev_and (ev_fn h_is_whole ⟨ar, ag⟩ (by decide) tk rfl (ea_cons (ev_var 0 (pv 0)) (ea_nil))) (ev_one (ev_lele (ev_var 1 (pv 1)) (ev_var 0 (pv 0)) (ev_var 2 (pv 2))))))
/-! ### is_below -/
abbrev s_is_below : Stmt := topS 8
theorem sc_is_below : FnScope ["thing", "bound"] ["thing", "bound"] (defScope s_is_below) := ⟨rfl, rfl, rfl, by decide +kernel, rfl, by decide +kernel, by decide +kernel⟩
noncomputable def g_is_below (K : PySem.W.Frag) (mg : Str → Option Value) : SF := sRet (eFn 3 (m_is_between K mg) (aCons (eVar 0) (aCons (eC (.int 0)) (aCons (eBin subD (eVar 1) (eC (.int 1))) (aNil)))))
noncomputable def m_is_below (K : PySem.W.Frag) (mg : Str → Option Value) : MF := mBody 2 (g_is_below K mg)
theorem ok_is_below {f : Addr} {fd : FuncData} (B : Bi K mg) (F : Fun K "is_below" "is_below" s_is_below f fd) (gf : mg "is_below" = some (.ref f)) (h_is_between : DOk P w K mg base 2 "is_between" 3 (m_is_between K mg)) : DOk P w K mg base 3 "is_below" 2 (m_is_below K mg) := by
  refine dok_of (n := 2) F sc_is_below (F.binds (ps := ["thing", "bound"]) fun _ _ _ _ _ _ us hl => match us, hl with | [_, _], _ => rfl) gf rfl fun cdv A outer s H E hcd at' => ?_
  have ar := at'.room
  have ag := at'.gd
  have au := at'.u.un
  have nd := sc_is_below.nd
  have tk := L2N.takes_of (X := cxOf (L2N.CX P w) P w K mg base ["thing", "bound"] "is_below" (defScope s_is_below) f cdv A outer s H E) rfl rfl rfl rfl
  have pown := passes_of (X := cxOf (L2N.CX P w) P w K mg base ["thing", "bound"] "is_below" (defScope s_is_below) f cdv A outer s H E) rfl
  exact ess_one (es_ret (ev_fn h_is_between ⟨ar, ag⟩ (by decide) tk rfl (ea_cons (ev_var 0 (pv 0)) (ea_cons (ev_int) (ea_cons (ev_sub (ev_var 1 (pv 1)) (ev_int)) (ea_nil))))))
/-! ### is_hands -/
abbrev s_is_hands : Stmt := topS 14
theorem sc_is_hands : FnScope ["sizes", "thing", "hand", "size"] ["sizes", "thing"] (defScope s_is_hands) := ⟨rfl, rfl, rfl, by decide +kernel, rfl, by decide +kernel, by decide +kernel⟩
noncomputable def g_is_hands (K : PySem.W.Frag) (mg : Str → Option Value) : SF := sSeq (sIf (bOr (bNot (bVal (eCall isiD (aCons (eVar 1) (aCons (eC (.ty "tuple")) (aNil)))))) (bVal (eBin neD (eCall lenD (aCons (eVar 1) (aNil))) (eCall lenD (aCons (eVar 0) (aNil)))))) (sRet (eC (.bl false)))
    (sNext))
    (sRet (eCall allD (aCons (fComp (xZip (aCons (eVar 1) (aCons (eVar 0) (aNil)))) [2, 3] (.tup [2, 3]) (bTrue) (eFn 2 (m_is_below K mg) (aCons (eVar 2) (aCons (eVar 3) (aNil)))) (fun ds S => .ok (.lst ds) S)) (aNil))))
noncomputable def m_is_hands (K : PySem.W.Frag) (mg : Str → Option Value) : MF := mBody 4 (g_is_hands K mg)
theorem ok_is_hands {f : Addr} {fd : FuncData} (B : Bi K mg) (F : Fun K "is_hands" "is_hands" s_is_hands f fd) (gf : mg "is_hands" = some (.ref f)) (h_is_below : DOk P w K mg base 3 "is_below" 2 (m_is_below K mg)) : DOk P w K mg base 4 "is_hands" 2 (m_is_hands K mg) := by
  refine dok_of (n := 2) F sc_is_hands (F.binds (ps := ["sizes", "thing"]) fun _ _ _ _ _ _ us hl => match us, hl with | [_, _], _ => rfl) gf rfl fun cdv A outer s H E hcd at' => ?_
  have ar := at'.room
  have ag := at'.gd
  have au := at'.u.un
  have nd := sc_is_hands.nd
  have tk := L2N.takes_of (X := cxOf (L2N.CX P w) P w K mg base ["sizes", "thing", "hand", "size"] "is_hands" (defScope s_is_hands) f cdv A outer s H E) rfl rfl rfl rfl
  have pown := passes_of (X := cxOf (L2N.CX P w) P w K mg base ["sizes", "thing", "hand", "size"] "is_hands" (defScope s_is_hands) f cdv A outer s H E) rfl
  exact ess_cons (es_if (et_w (ew_or (et_not (et_val (ev_callB call_isi isi_ok B.b_isinstance (by decide +kernel) rfl (ea_cons (ev_var 1 (pv 1)) (ea_cons (ev_ty B.b_tuple (by decide +kernel) rfl) (ea_nil)))))) (ew_or1 (et_ne ⟨au, ag⟩ (ev_callB call_len len_ok B.b_len (by decide +kernel) rfl (ea_cons (ev_var 1 (pv 1)) (ea_nil))) (ev_callB call_len len_ok B.b_len (by decide +kernel) rfl (ea_cons (ev_var 0 (pv 0)) (ea_nil))))))) (ess_one (es_ret (ev_bl)))
    (ess_nil))
    (ess_one (es_ret (ev_callB (cr_all rfl) all_ok B.b_all (by decide +kernel) rfl (ea_cons (ev_lc [("hand", 2), ("size", 3)] (.tup [2, 3]) fin_v rfl nd (blkOk_by (by kernel_rfl)) (ei_zip B.b_zip rfl (ea_cons (ev_var 1 (pv 1)) (ea_cons (ev_var 0 (pv 0)) (ea_nil)))) (fun s_ H_ C_ cl_ fp_ => ct_tup rfl (pgs_names (pg_name (i := 2) nd rfl (.inl rfl)) (pgs_names (pg_name (i := 3) nd rfl (.inl rfl)) (pgs_nil)))) (by decide) (fun s_ H_ C_ cl_ fp_ => ets_nil) (fun s_ H_ C_ cl_ fp_ => ev_fn h_is_below ⟨ar, ag⟩ (by decide) takesN0 rfl (ea_cons (ev_var 2 (pv 2)) (ea_cons (ev_var 3 (pv 3)) (ea_nil))))) (ea_nil)))))
/-! ### are_hands -/
abbrev s_are_hands : Stmt := topS 15
theorem sc_are_hands : FnScope ["sizes", "thing", "state", "hands"] ["sizes", "thing"] (defScope s_are_hands) := ⟨rfl, rfl, rfl, by decide +kernel, rfl, by decide +kernel, by decide +kernel⟩
noncomputable def g_are_hands (K : PySem.W.Frag) (mg : Str → Option Value) : SF := sSeq (sIf (bOr (bNot (bVal (eCall isiD (aCons (eVar 1) (aCons (eC (.ty "tuple")) (aNil)))))) (bNot (bVal (eChain leD leD (eC (.int 1)) (eCall lenD (aCons (eVar 1) (aNil))) (eC (.int 12)))))) (sRet (eC (.bl false)))
    (sNext))
    (sSeq (sIf (bNot (bVal (eCall allD (aCons (fComp (xTup (eVar 1)) [3] (.one 3) (bTrue) (eFn 2 (m_is_hands K mg) (aCons (eVar 0) (aCons (eVar 3) (aNil)))) (fun ds S => .ok (.lst ds) S)) (aNil))))) (sRet (eC (.bl false)))
    (sNext))
    (sRet (eCall allD (aCons (fComp (xEnum (aCons (eVar 1) (aNil))) [2, 3] (.tup [2, 3]) (bTrue) (eBin notInD (eVar 3) (eSl (eVar 1) (oNone) (oSome (eVar 2)))) (fun ds S => .ok (.lst ds) S)) (aNil)))))
noncomputable def m_are_hands (K : PySem.W.Frag) (mg : Str → Option Value) : MF := mBody 4 (g_are_hands K mg)
theorem ok_are_hands {f : Addr} {fd : FuncData} (B : Bi K mg) (F : Fun K "are_hands" "are_hands" s_are_hands f fd) (gf : mg "are_hands" = some (.ref f)) (h_is_hands : DOk P w K mg base 4 "is_hands" 2 (m_is_hands K mg)) : DOk P w K mg base 5 "are_hands" 2 (m_are_hands K mg) := by
  refine dok_of (n := 2) F sc_are_hands (F.binds (ps := ["sizes", "thing"]) fun _ _ _ _ _ _ us hl => match us, hl with | [_, _], _ => rfl) gf rfl fun cdv A outer s H E hcd at' => ?_
  have ar := at'.room
  have ag := at'.gd
  have au := at'.u.un
  have nd := sc_are_hands.nd
  have tk := L2N.takes_of (X := cxOf (L2N.CX P w) P w K mg base ["sizes", "thing", "state", "hands"] "are_hands" (defScope s_are_hands) f cdv A outer s H E) rfl rfl rfl rfl
  have pown := passes_of (X := cxOf (L2N.CX P w) P w K mg base ["sizes", "thing", "state", "hands"] "are_hands" (defScope s_are_hands) f cdv A outer s H E) rfl
  exact ess_cons (es_if (et_w (ew_or (et_not (et_val (ev_callB call_isi isi_ok B.b_isinstance (by decide +kernel) rfl (ea_cons (ev_var 1 (pv 1)) (ea_cons (ev_ty B.b_tuple (by decide +kernel) rfl) (ea_nil)))))) (ew_or1 (et_not (et_lele (ev_int) (ev_callB call_len len_ok B.b_len (by decide +kernel) rfl (ea_cons (ev_var 1 (pv 1)) (ea_nil))) (ev_gint B.c_MOST_STATES rfl)))))) (ess_one (es_ret (ev_bl)))
    (ess_nil))
    (ess_cons (es_if (et_not (et_val (ev_callB (cr_all rfl) all_ok B.b_all (by decide +kernel) rfl (ea_cons (ev_lc [("hands", 3)] (.one 3) fin_v rfl nd (blkOk_by (by kernel_rfl)) (ei_tup (ev_var 1 (pv 1))) (fun s_ H_ C_ cl_ fp_ => ct_one (pg_name (i := 3) nd rfl (.inl rfl))) (by decide) (fun s_ H_ C_ cl_ fp_ => ets_nil) (fun s_ H_ C_ cl_ fp_ => ev_fn h_is_hands ⟨ar, ag⟩ (by decide) takesN0 rfl (ea_cons (ev_var 0 (pv 0)) (ea_cons (ev_var 3 (pv 3)) (ea_nil))))) (ea_nil))))) (ess_one (es_ret (ev_bl)))
    (ess_nil))
    (ess_one (es_ret (ev_callB (cr_all rfl) all_ok B.b_all (by decide +kernel) rfl (ea_cons (ev_lc [("state", 2), ("hands", 3)] (.tup [2, 3]) fin_v rfl nd (blkOk_by (by kernel_rfl)) (ei_enum B.b_enumerate rfl (ea_cons (ev_var 1 (pv 1)) (ea_nil))) (fun s_ H_ C_ cl_ fp_ => ct_tup rfl (pgs_names (pg_name (i := 2) nd rfl (.inl rfl)) (pgs_names (pg_name (i := 3) nd rfl (.inl rfl)) (pgs_nil)))) (by decide) (fun s_ H_ C_ cl_ fp_ => ets_nil) (fun s_ H_ C_ cl_ fp_ => ev_notIn ⟨au, ag⟩ (ev_var 3 (pv 3)) (ev_sl (ev_var 1 (pv 1)) (eo_none) (eo_some (ev_var 2 (pv 2)))))) (ea_nil))))))
/-! ### wrong_part -/
abbrev s_wrong_part : Stmt := topS 16
theorem sc_wrong_part : FnScope ["thing"] ["thing"] (defScope s_wrong_part) := ⟨rfl, rfl, rfl, by decide +kernel, rfl, by decide +kernel, by decide +kernel⟩
noncomputable def g_wrong_part (K : PySem.W.Frag) (mg : Str → Option Value) : SF := sSeq (sIf (bOr (bNot (bVal (eCall isiD (aCons (eVar 0) (aCons (eC (.ty "tuple")) (aNil)))))) (bVal (eBin neD (eCall lenD (aCons (eVar 0) (aNil))) (eC (.int 2))))) (sRet (eUn negD (eC (.int 1))))
    (sNext))
    (sSeq (sIf (bNot (bVal (eFn 1 (m_is_sizes K mg) (aCons (eBin ixD (eVar 0) (eC (.int 0))) (aNil))))) (sRet (eC (.int 0)))
    (sNext))
    (sRet (eIf (bVal (eFn 2 (m_are_hands K mg) (aCons (eBin ixD (eVar 0) (eC (.int 0))) (aCons (eBin ixD (eVar 0) (eC (.int 1))) (aNil))))) (eC .non) (eC (.int 1)))))
noncomputable def m_wrong_part (K : PySem.W.Frag) (mg : Str → Option Value) : MF := mBody 1 (g_wrong_part K mg)
theorem ok_wrong_part {f : Addr} {fd : FuncData} (B : Bi K mg) (F : Fun K "wrong_part" "wrong_part" s_wrong_part f fd) (gf : mg "wrong_part" = some (.ref f)) (h_is_sizes : DOk P w K mg base 2 "is_sizes" 1 (m_is_sizes K mg)) (h_are_hands : DOk P w K mg base 5 "are_hands" 2 (m_are_hands K mg)) : DOk P w K mg base 6 "wrong_part" 1 (m_wrong_part K mg) := by
  refine dok_of (n := 1) F sc_wrong_part (F.binds (ps := ["thing"]) fun _ _ _ _ _ _ us hl => match us, hl with | [_], _ => rfl) gf rfl fun cdv A outer s H E hcd at' => ?_
  have ar := at'.room
  have ag := at'.gd
  have au := at'.u.un
  have nd := sc_wrong_part.nd
  have tk := L2N.takes_of (X := cxOf (L2N.CX P w) P w K mg base ["thing"] "wrong_part" (defScope s_wrong_part) f cdv A outer s H E) rfl rfl rfl rfl
  have pown := passes_of (X := cxOf (L2N.CX P w) P w K mg base ["thing"] "wrong_part" (defScope s_wrong_part) f cdv A outer s H E) rfl
  exact ess_cons (es_if (et_w (ew_or (et_not (et_val (ev_callB call_isi isi_ok B.b_isinstance (by decide +kernel) rfl (ea_cons (ev_var 0 (pv 0)) (ea_cons (ev_ty B.b_tuple (by decide +kernel) rfl) (ea_nil)))))) (ew_or1 (et_ne ⟨au, ag⟩ (ev_callB call_len len_ok B.b_len (by decide +kernel) rfl (ea_cons (ev_var 0 (pv 0)) (ea_nil))) (ev_int))))) (ess_one (es_ret (ev_neg (ev_int))))
    (ess_nil))
    (ess_cons (es_if (et_not (et_val (ev_fn h_is_sizes ⟨ar, ag⟩ (by decide) tk rfl (ea_cons (ev_at (ev_var 0 (pv 0)) (ev_int)) (ea_nil))))) (ess_one (es_ret (ev_int)))
    (ess_nil))
    (ess_one (es_ret (ev_if (et_val (ev_fn h_are_hands ⟨ar, ag⟩ (by decide) tk rfl (ea_cons (ev_at (ev_var 0 (pv 0)) (ev_int)) (ea_cons (ev_at (ev_var 0 (pv 0)) (ev_int)) (ea_nil))))) (ev_non) (ev_int)))))
/-! ### made_kind -/
abbrev s_made_kind : Stmt := topS 17
theorem sc_made_kind : FnScope ["thing", "wrong"] ["thing"] (defScope s_made_kind) := ⟨rfl, rfl, rfl, by decide +kernel, rfl, by decide +kernel, by decide +kernel⟩
noncomputable def g_made_kind (K : PySem.W.Frag) (mg : Str → Option Value) : SF := sSeq (sSet 1 (eFn 1 (m_wrong_part K mg) (aCons (eVar 0) (aNil))))
    (sSeq (sIf (bVal (eBin isNotD (eVar 1) (eC .non))) (sRaise (clsOf mg "BadKind") (eVar 1))
    (sNext))
    (sRet (eVar 0)))
noncomputable def m_made_kind (K : PySem.W.Frag) (mg : Str → Option Value) : MF := mBody 2 (g_made_kind K mg)
theorem ok_made_kind {f : Addr} {fd : FuncData} (B : Bi K mg) (F : Fun K "made_kind" "made_kind" s_made_kind f fd) (gf : mg "made_kind" = some (.ref f)) (R : RfOk P w K mg base) (h_wrong_part : DOk P w K mg base 6 "wrong_part" 1 (m_wrong_part K mg)) : DOk P w K mg base 7 "made_kind" 1 (m_made_kind K mg) := by
  refine dok_of (n := 1) F sc_made_kind (F.binds (ps := ["thing"]) fun _ _ _ _ _ _ us hl => match us, hl with | [_], _ => rfl) gf rfl fun cdv A outer s H E hcd at' => ?_
  have ar := at'.room
  have ag := at'.gd
  have au := at'.u.un
  have nd := sc_made_kind.nd
  have tk := L2N.takes_of (X := cxOf (L2N.CX P w) P w K mg base ["thing", "wrong"] "made_kind" (defScope s_made_kind) f cdv A outer s H E) rfl rfl rfl rfl
  have pown := passes_of (X := cxOf (L2N.CX P w) P w K mg base ["thing", "wrong"] "made_kind" (defScope s_made_kind) f cdv A outer s H E) rfl
  exact ess_cons (es_set 1 nd rfl (.inl rfl) (ev_fn h_wrong_part ⟨ar, ag⟩ (by decide) tk rfl (ea_cons (ev_var 0 (pv 0)) (ea_nil))))
    (ess_cons (es_if (et_isNot (ev_var 1 (pv 1)) (ev_non)) (ess_one (es_raise R B.e_BadKind tk ⟨ar, ag⟩ (by decide) rfl rfl (ev_var 1 (pv 1))))
    (ess_nil))
    (ess_one (es_ret (ev_var 0 (pv 0)))))
/-! ### state_of -/
abbrev s_state_of : Stmt := topS 24
theorem sc_state_of : FnScope ["kind", "hands"] ["kind", "hands"] (defScope s_state_of) := ⟨rfl, rfl, rfl, by decide +kernel, rfl, by decide +kernel, by decide +kernel⟩
noncomputable def g_state_of (K : PySem.W.Frag) (mg : Str → Option Value) : SF := sRet (eIf (bVal (eBin inD (eVar 1) (eBin ixD (eVar 0) (eC (.int 1))))) (eTM tindexD (eBin ixD (eVar 0) (eC (.int 1))) (aCons (eVar 1) (aNil))) (eC .non))
noncomputable def m_state_of (K : PySem.W.Frag) (mg : Str → Option Value) : MF := mBody 2 (g_state_of K mg)
theorem ok_state_of {f : Addr} {fd : FuncData} (B : Bi K mg) (F : Fun K "state_of" "state_of" s_state_of f fd) (gf : mg "state_of" = some (.ref f)) : DOk P w K mg base 1 "state_of" 2 (m_state_of K mg) := by
  refine dok_of (n := 2) F sc_state_of (F.binds (ps := ["kind", "hands"]) fun _ _ _ _ _ _ us hl => match us, hl with | [_, _], _ => rfl) gf rfl fun cdv A outer s H E hcd at' => ?_
  have ar := at'.room
  have ag := at'.gd
  have au := at'.u.un
  have nd := sc_state_of.nd
  have tk := L2N.takes_of (X := cxOf (L2N.CX P w) P w K mg base ["kind", "hands"] "state_of" (defScope s_state_of) f cdv A outer s H E) rfl rfl rfl rfl
  have pown := passes_of (X := cxOf (L2N.CX P w) P w K mg base ["kind", "hands"] "state_of" (defScope s_state_of) f cdv A outer s H E) rfl
  exact ess_one (es_ret (ev_if (et_in ⟨au, ag⟩ (ev_var 1 (pv 1)) (ev_at (ev_var 0 (pv 0)) (ev_int))) (ev_tindex ⟨au, ag⟩ (ev_at (ev_var 0 (pv 0)) (ev_int)) (ea_cons (ev_var 1 (pv 1)) (ea_nil))) (ev_non)))
/-! ### moved_by -/
abbrev s_moved_by : Stmt := topS 26
theorem sc_moved_by : FnScope ["kind", "hands", "step", "hand", "more", "size"] ["kind", "hands", "step"] (defScope s_moved_by) := ⟨rfl, rfl, rfl, by decide +kernel, rfl, by decide +kernel, by decide +kernel⟩
noncomputable def g_moved_by (K : PySem.W.Frag) (mg : Str → Option Value) : SF := sRet (eCall tupleD (aCons (fComp (xZip3 (aCons (eVar 1) (aCons (eVar 2) (aCons (eBin ixD (eVar 0) (eC (.int 0))) (aNil))))) [3, 4, 5] (.tup [3, 4, 5]) (bTrue) (eBin modD (eBin addD (eVar 3) (eVar 4)) (eVar 5)) (fun ds S => .ok (.lst ds) S)) (aNil)))
noncomputable def m_moved_by (K : PySem.W.Frag) (mg : Str → Option Value) : MF := mBody 6 (g_moved_by K mg)
theorem ok_moved_by {f : Addr} {fd : FuncData} (B : Bi K mg) (F : Fun K "moved_by" "moved_by" s_moved_by f fd) (gf : mg "moved_by" = some (.ref f)) : DOk P w K mg base 1 "moved_by" 3 (m_moved_by K mg) := by
  refine dok_of (n := 3) F sc_moved_by (F.binds (ps := ["kind", "hands", "step"]) fun _ _ _ _ _ _ us hl => match us, hl with | [_, _, _], _ => rfl) gf rfl fun cdv A outer s H E hcd at' => ?_
  have ar := at'.room
  have ag := at'.gd
  have au := at'.u.un
  have nd := sc_moved_by.nd
  have tk := L2N.takes_of (X := cxOf (L2N.CX P w) P w K mg base ["kind", "hands", "step", "hand", "more", "size"] "moved_by" (defScope s_moved_by) f cdv A outer s H E) rfl rfl rfl rfl
  have pown := passes_of (X := cxOf (L2N.CX P w) P w K mg base ["kind", "hands", "step", "hand", "more", "size"] "moved_by" (defScope s_moved_by) f cdv A outer s H E) rfl
  exact ess_one (es_ret (ev_callTy cr_tupP tuple_ok B.b_tuple (by decide +kernel) rfl (ea_cons (ev_lc [("hand", 3), ("more", 4), ("size", 5)] (.tup [3, 4, 5]) fin_v rfl nd (blkOk_by (by kernel_rfl)) (ei_zip3 B.b_zip rfl (ea_cons (ev_var 1 (pv 1)) (ea_cons (ev_var 2 (pv 2)) (ea_cons (ev_at (ev_var 0 (pv 0)) (ev_int)) (ea_nil))))) (fun s_ H_ C_ cl_ fp_ => ct_tup rfl (pgs_names (pg_name (i := 3) nd rfl (.inl rfl)) (pgs_names (pg_name (i := 4) nd rfl (.inl rfl)) (pgs_names (pg_name (i := 5) nd rfl (.inl rfl)) (pgs_nil))))) (by decide) (fun s_ H_ C_ cl_ fp_ => ets_nil) (fun s_ H_ C_ cl_ fp_ => ev_mod (ev_add (ev_var 3 (pv 3)) (ev_var 4 (pv 4))) (ev_var 5 (pv 5)))) (ea_nil))))
/-! ### step_of -/
abbrev s_step_of : Stmt := topS 28
theorem sc_step_of : FnScope ["kind", "one", "two", "here", "there", "size"] ["kind", "one", "two"] (defScope s_step_of) := ⟨rfl, rfl, rfl, by decide +kernel, rfl, by decide +kernel, by decide +kernel⟩
noncomputable def g_step_of (K : PySem.W.Frag) (mg : Str → Option Value) : SF := sRet (eCall tupleD (aCons (fComp (xZip3 (aCons (eVar 1) (aCons (eVar 2) (aCons (eBin ixD (eVar 0) (eC (.int 0))) (aNil))))) [3, 4, 5] (.tup [3, 4, 5]) (bTrue) (eBin modD (eBin subD (eVar 4) (eVar 3)) (eVar 5)) (fun ds S => .ok (.lst ds) S)) (aNil)))
noncomputable def m_step_of (K : PySem.W.Frag) (mg : Str → Option Value) : MF := mBody 6 (g_step_of K mg)
theorem ok_step_of {f : Addr} {fd : FuncData} (B : Bi K mg) (F : Fun K "step_of" "step_of" s_step_of f fd) (gf : mg "step_of" = some (.ref f)) : DOk P w K mg base 1 "step_of" 3 (m_step_of K mg) := by
  refine dok_of (n := 3) F sc_step_of (F.binds (ps := ["kind", "one", "two"]) fun _ _ _ _ _ _ us hl => match us, hl with | [_, _, _], _ => rfl) gf rfl fun cdv A outer s H E hcd at' => ?_
  have ar := at'.room
  have ag := at'.gd
  have au := at'.u.un
  have nd := sc_step_of.nd
  have tk := L2N.takes_of (X := cxOf (L2N.CX P w) P w K mg base ["kind", "one", "two", "here", "there", "size"] "step_of" (defScope s_step_of) f cdv A outer s H E) rfl rfl rfl rfl
  have pown := passes_of (X := cxOf (L2N.CX P w) P w K mg base ["kind", "one", "two", "here", "there", "size"] "step_of" (defScope s_step_of) f cdv A outer s H E) rfl
  exact ess_one (es_ret (ev_callTy cr_tupP tuple_ok B.b_tuple (by decide +kernel) rfl (ea_cons (ev_lc [("here", 3), ("there", 4), ("size", 5)] (.tup [3, 4, 5]) fin_v rfl nd (blkOk_by (by kernel_rfl)) (ei_zip3 B.b_zip rfl (ea_cons (ev_var 1 (pv 1)) (ea_cons (ev_var 2 (pv 2)) (ea_cons (ev_at (ev_var 0 (pv 0)) (ev_int)) (ea_nil))))) (fun s_ H_ C_ cl_ fp_ => ct_tup rfl (pgs_names (pg_name (i := 3) nd rfl (.inl rfl)) (pgs_names (pg_name (i := 4) nd rfl (.inl rfl)) (pgs_names (pg_name (i := 5) nd rfl (.inl rfl)) (pgs_nil))))) (by decide) (fun s_ H_ C_ cl_ fp_ => ets_nil) (fun s_ H_ C_ cl_ fp_ => ev_mod (ev_sub (ev_var 4 (pv 4)) (ev_var 3 (pv 3))) (ev_var 5 (pv 5)))) (ea_nil))))
/-! ### merged_state -/
abbrev s_merged_state : Stmt := topS 30
theorem sc_merged_state : FnScope ["kind", "o", "a", "b", "hands"] ["kind", "o", "a", "b"] (defScope s_merged_state) := ⟨rfl, rfl, rfl, by decide +kernel, rfl, by decide +kernel, by decide +kernel⟩
noncomputable def g_merged_state (K : PySem.W.Frag) (mg : Str → Option Value) : SF := sSeq (sSet 4 (eBin ixD (eVar 0) (eC (.int 1))))
    (sRet (eFn 2 (m_state_of K mg) (aCons (eVar 0) (aCons (eFn 3 (m_moved_by K mg) (aCons (eVar 0) (aCons (eBin ixD (eVar 4) (eVar 2)) (aCons (eFn 3 (m_step_of K mg) (aCons (eVar 0) (aCons (eBin ixD (eVar 4) (eVar 1)) (aCons (eBin ixD (eVar 4) (eVar 3)) (aNil))))) (aNil))))) (aNil)))))
noncomputable def m_merged_state (K : PySem.W.Frag) (mg : Str → Option Value) : MF := mBody 5 (g_merged_state K mg)
theorem ok_merged_state {f : Addr} {fd : FuncData} (B : Bi K mg) (F : Fun K "merged_state" "merged_state" s_merged_state f fd) (gf : mg "merged_state" = some (.ref f)) (h_state_of : DOk P w K mg base 1 "state_of" 2 (m_state_of K mg)) (h_moved_by : DOk P w K mg base 1 "moved_by" 3 (m_moved_by K mg)) (h_step_of : DOk P w K mg base 1 "step_of" 3 (m_step_of K mg)) : DOk P w K mg base 2 "merged_state" 4 (m_merged_state K mg) := by
  refine dok_of (n := 4) F sc_merged_state (F.binds (ps := ["kind", "o", "a", "b"]) fun _ _ _ _ _ _ us hl => match us, hl with | [_, _, _, _], _ => rfl) gf rfl fun cdv A outer s H E hcd at' => ?_
  have ar := at'.room
  have ag := at'.gd
  have au := at'.u.un
  have nd := sc_merged_state.nd
  have tk := L2N.takes_of (X := cxOf (L2N.CX P w) P w K mg base ["kind", "o", "a", "b", "hands"] "merged_state" (defScope s_merged_state) f cdv A outer s H E) rfl rfl rfl rfl
  have pown := passes_of (X := cxOf (L2N.CX P w) P w K mg base ["kind", "o", "a", "b", "hands"] "merged_state" (defScope s_merged_state) f cdv A outer s H E) rfl
  exact ess_cons (es_set 4 nd rfl (.inl rfl) (ev_at (ev_var 0 (pv 0)) (ev_int)))
    (ess_one (es_ret (ev_fn h_state_of ⟨ar, ag⟩ (by decide) tk rfl (ea_cons (ev_var 0 (pv 0)) (ea_cons (ev_fn h_moved_by ⟨ar, ag⟩ (by decide) tk rfl (ea_cons (ev_var 0 (pv 0)) (ea_cons (ev_at (ev_var 4 (pv 4)) (ev_var 2 (pv 2))) (ea_cons (ev_fn h_step_of ⟨ar, ag⟩ (by decide) tk rfl (ea_cons (ev_var 0 (pv 0)) (ea_cons (ev_at (ev_var 4 (pv 4)) (ev_var 1 (pv 1))) (ea_cons (ev_at (ev_var 4 (pv 4)) (ev_var 3 (pv 3))) (ea_nil))))) (ea_nil))))) (ea_nil))))))
/-! ### table_of -/
abbrev s_table_of : Stmt := topS 31
theorem sc_table_of : FnScope ["kind", "states", "o", "a", "b"] ["kind"] (defScope s_table_of) := ⟨rfl, rfl, rfl, by decide +kernel, rfl, by decide +kernel, by decide +kernel⟩
noncomputable def g_table_of (K : PySem.W.Frag) (mg : Str → Option Value) : SF := sSeq (sSet 0 (eFn 1 (m_made_kind K mg) (aCons (eVar 0) (aNil))))
    (sSeq (sSet 1 (eCall rangeD (aCons (eCall lenD (aCons (eBin ixD (eVar 0) (eC (.int 1))) (aNil))) (aNil))))
    (sRet (eCall tupleD (aCons (fComp (xRng (eVar 1)) [2] (.one 2) (bTrue) (eCall tupleD (aCons (fComp (xRng (eVar 1)) [3] (.one 3) (bTrue) (eCall tupleD (aCons (fComp (xRng (eVar 1)) [4] (.one 4) (bTrue) (eFn 4 (m_merged_state K mg) (aCons (eVar 0) (aCons (eVar 2) (aCons (eVar 3) (aCons (eVar 4) (aNil)))))) (fun ds S => .ok (.lst ds) S)) (aNil))) (fun ds S => .ok (.lst ds) S)) (aNil))) (fun ds S => .ok (.lst ds) S)) (aNil)))))
noncomputable def m_table_of (K : PySem.W.Frag) (mg : Str → Option Value) : MF := mBody 5 (g_table_of K mg)
theorem ok_table_of {f : Addr} {fd : FuncData} (B : Bi K mg) (F : Fun K "table_of" "table_of" s_table_of f fd) (gf : mg "table_of" = some (.ref f)) (h_made_kind : DOk P w K mg base 7 "made_kind" 1 (m_made_kind K mg)) (h_merged_state : DOk P w K mg base 2 "merged_state" 4 (m_merged_state K mg)) : DOk P w K mg base 8 "table_of" 1 (m_table_of K mg) := by
  refine dok_of (n := 1) F sc_table_of (F.binds (ps := ["kind"]) fun _ _ _ _ _ _ us hl => match us, hl with | [_], _ => rfl) gf rfl fun cdv A outer s H E hcd at' => ?_
  have ar := at'.room
  have ag := at'.gd
  have au := at'.u.un
  have nd := sc_table_of.nd
  have tk := L2N.takes_of (X := cxOf (L2N.CX P w) P w K mg base ["kind", "states", "o", "a", "b"] "table_of" (defScope s_table_of) f cdv A outer s H E) rfl rfl rfl rfl
  have pown := passes_of (X := cxOf (L2N.CX P w) P w K mg base ["kind", "states", "o", "a", "b"] "table_of" (defScope s_table_of) f cdv A outer s H E) rfl
  exact ess_cons (es_set 0 nd rfl (.inr rfl) (ev_fn h_made_kind ⟨ar, ag⟩ (by decide) tk rfl (ea_cons (ev_var 0 (pv 0)) (ea_nil))))
    (ess_cons (es_set 1 nd rfl (.inr rfl) (ev_callTy call_range1 range_ok B.b_range (by decide +kernel) rfl (ea_cons (ev_callB call_len len_ok B.b_len (by decide +kernel) rfl (ea_cons (ev_at (ev_var 0 (pv 0)) (ev_int)) (ea_nil))) (ea_nil))))
    (ess_one (es_ret (ev_callTy cr_tupP tuple_ok B.b_tuple (by decide +kernel) rfl (ea_cons (ev_lc [("o", 2)] (.one 2) fin_v rfl nd (blkOk_by (by kernel_rfl)) (ei_rng (ev_var 1 (pv 1))) (fun s_ H_ C_ cl_ fp_ => ct_one (pg_name (i := 2) nd rfl (.inr rfl))) (by decide) (fun s_ H_ C_ cl_ fp_ => ets_nil) (fun s_ H_ C_ cl_ fp_ => ev_callTy cr_tupP tuple_ok B.b_tuple (by decide +kernel) rfl (ea_cons (ev_lc [("a", 3)] (.one 3) fin_v rfl nd (blkOk_by (by kernel_rfl)) (ei_rng (ev_var 1 (pv 1))) (fun s_ H_ C_ cl_ fp_ => ct_one (pg_name (i := 3) nd rfl (.inr rfl))) (by decide) (fun s_ H_ C_ cl_ fp_ => ets_nil) (fun s_ H_ C_ cl_ fp_ => ev_callTy cr_tupP tuple_ok B.b_tuple (by decide +kernel) rfl (ea_cons (ev_lc [("b", 4)] (.one 4) fin_v rfl nd (blkOk_by (by kernel_rfl)) (ei_rng (ev_var 1 (pv 1))) (fun s_ H_ C_ cl_ fp_ => ct_one (pg_name (i := 4) nd rfl (.inl rfl))) (by decide) (fun s_ H_ C_ cl_ fp_ => ets_nil) (fun s_ H_ C_ cl_ fp_ => ev_fn h_merged_state ⟨ar, ag⟩ (by decide) takesN0 rfl (ea_cons (ev_var 0 (pv 0)) (ea_cons (ev_var 2 (pv 2)) (ea_cons (ev_var 3 (pv 3)) (ea_cons (ev_var 4 (pv 4)) (ea_nil))))))) (ea_nil)))) (ea_nil)))) (ea_nil))))))
/-! ### _law_v_state -/
abbrev s__law_v_state : Stmt := topS 42
theorem sc__law_v_state : FnScope ["_law_kind", "_law_here"] ["_law_kind", "_law_here"] (defScope s__law_v_state) := ⟨rfl, rfl, rfl, by decide +kernel, rfl, by decide +kernel, by decide +kernel⟩
noncomputable def g__law_v_state (K : PySem.W.Frag) (mg : Str → Option Value) : SF := sRet (eIf (bVal (eBin inD (eVar 1) (eBin ixD (eVar 0) (eC (.int 1))))) (eTM tindexD (eBin ixD (eVar 0) (eC (.int 1))) (aCons (eVar 1) (aNil))) (eC .non))
noncomputable def m__law_v_state (K : PySem.W.Frag) (mg : Str → Option Value) : MF := mBody 2 (g__law_v_state K mg)
theorem ok__law_v_state {f : Addr} {fd : FuncData} (B : Bi K mg) (F : Fun K "_law_v_state" "_law_v_state" s__law_v_state f fd) (gf : mg "_law_v_state" = some (.ref f)) : DOk P w K mg base 1 "_law_v_state" 2 (m__law_v_state K mg) := by
  refine dok_of (n := 2) F sc__law_v_state (F.binds (ps := ["_law_kind", "_law_here"]) fun _ _ _ _ _ _ us hl => match us, hl with | [_, _], _ => rfl) gf rfl fun cdv A outer s H E hcd at' => ?_
  have ar := at'.room
  have ag := at'.gd
  have au := at'.u.un
  have nd := sc__law_v_state.nd
  have tk := L2N.takes_of (X := cxOf (L2N.CX P w) P w K mg base ["_law_kind", "_law_here"] "_law_v_state" (defScope s__law_v_state) f cdv A outer s H E) rfl rfl rfl rfl
  have pown := passes_of (X := cxOf (L2N.CX P w) P w K mg base ["_law_kind", "_law_here"] "_law_v_state" (defScope s__law_v_state) f cdv A outer s H E) rfl
  exact ess_one (es_ret (ev_if (et_in ⟨au, ag⟩ (ev_var 1 (pv 1)) (ev_at (ev_var 0 (pv 0)) (ev_int))) (ev_tindex ⟨au, ag⟩ (ev_at (ev_var 0 (pv 0)) (ev_int)) (ea_cons (ev_var 1 (pv 1)) (ea_nil))) (ev_non)))
/-! ### _law_v_put -/
abbrev s__law_v_put : Stmt := topS 40
theorem sc__law_v_put : FnScope ["_law_sizes", "_law_one_here", "_law_two", "_law_k"] ["_law_sizes", "_law_one_here", "_law_two"] (defScope s__law_v_put) := ⟨rfl, rfl, rfl, by decide +kernel, rfl, by decide +kernel, by decide +kernel⟩
noncomputable def g__law_v_put (K : PySem.W.Frag) (mg : Str → Option Value) : SF := sRet (eCall tupleD (aCons (fComp (xRng1 (aCons (eCall lenD (aCons (eVar 0) (aNil))) (aNil))) [3] (.one 3) (bTrue) (eBin modD (eCall intD (aCons (eBin addD (eBin ixD (eVar 1) (eVar 3)) (eBin ixD (eVar 2) (eVar 3))) (aNil))) (eBin ixD (eVar 0) (eVar 3))) (fun ds S => .ok (.lst ds) S)) (aNil)))
noncomputable def m__law_v_put (K : PySem.W.Frag) (mg : Str → Option Value) : MF := mBody 4 (g__law_v_put K mg)
theorem ok__law_v_put {f : Addr} {fd : FuncData} (B : Bi K mg) (F : Fun K "_law_v_put" "_law_v_put" s__law_v_put f fd) (gf : mg "_law_v_put" = some (.ref f)) : DOk P w K mg base 1 "_law_v_put" 3 (m__law_v_put K mg) := by
  refine dok_of (n := 3) F sc__law_v_put (F.binds (ps := ["_law_sizes", "_law_one_here", "_law_two"]) fun _ _ _ _ _ _ us hl => match us, hl with | [_, _, _], _ => rfl) gf rfl fun cdv A outer s H E hcd at' => ?_
  have ar := at'.room
  have ag := at'.gd
  have au := at'.u.un
  have nd := sc__law_v_put.nd
  have tk := L2N.takes_of (X := cxOf (L2N.CX P w) P w K mg base ["_law_sizes", "_law_one_here", "_law_two", "_law_k"] "_law_v_put" (defScope s__law_v_put) f cdv A outer s H E) rfl rfl rfl rfl
  have pown := passes_of (X := cxOf (L2N.CX P w) P w K mg base ["_law_sizes", "_law_one_here", "_law_two", "_law_k"] "_law_v_put" (defScope s__law_v_put) f cdv A outer s H E) rfl
  exact ess_one (es_ret (ev_callTy cr_tupP tuple_ok B.b_tuple (by decide +kernel) rfl (ea_cons (ev_lc [("_law_k", 3)] (.one 3) fin_v rfl nd (blkOk_by (by kernel_rfl)) (ei_rng1 B.b_range rfl (ea_cons (ev_callB call_len len_ok B.b_len (by decide +kernel) rfl (ea_cons (ev_var 0 (pv 0)) (ea_nil))) (ea_nil))) (fun s_ H_ C_ cl_ fp_ => ct_one (pg_name (i := 3) nd rfl (.inl rfl))) (by decide) (fun s_ H_ C_ cl_ fp_ => ets_nil) (fun s_ H_ C_ cl_ fp_ => ev_mod (ev_callTy call_int1 int_ok B.b_int (by decide +kernel) rfl (ea_cons (ev_add (ev_at (ev_var 1 (pv 1)) (ev_var 3 (pv 3))) (ev_at (ev_var 2 (pv 2)) (ev_var 3 (pv 3)))) (ea_nil))) (ev_at (ev_var 0 (pv 0)) (ev_var 3 (pv 3))))) (ea_nil))))
/-! ### _law_v_from_to -/
abbrev s__law_v_from_to : Stmt := topS 41
theorem sc__law_v_from_to : FnScope ["_law_sizes", "_law_one_here", "_law_two", "_law_k"] ["_law_sizes", "_law_one_here", "_law_two"] (defScope s__law_v_from_to) := ⟨rfl, rfl, rfl, by decide +kernel, rfl, by decide +kernel, by decide +kernel⟩
noncomputable def g__law_v_from_to (K : PySem.W.Frag) (mg : Str → Option Value) : SF := sRet (eCall tupleD (aCons (fComp (xRng1 (aCons (eCall lenD (aCons (eVar 0) (aNil))) (aNil))) [3] (.one 3) (bTrue) (eBin modD (eCall intD (aCons (eBin subD (eBin ixD (eVar 2) (eVar 3)) (eBin ixD (eVar 1) (eVar 3))) (aNil))) (eBin ixD (eVar 0) (eVar 3))) (fun ds S => .ok (.lst ds) S)) (aNil)))
noncomputable def m__law_v_from_to (K : PySem.W.Frag) (mg : Str → Option Value) : MF := mBody 4 (g__law_v_from_to K mg)
theorem ok__law_v_from_to {f : Addr} {fd : FuncData} (B : Bi K mg) (F : Fun K "_law_v_from_to" "_law_v_from_to" s__law_v_from_to f fd) (gf : mg "_law_v_from_to" = some (.ref f)) : DOk P w K mg base 1 "_law_v_from_to" 3 (m__law_v_from_to K mg) := by
  refine dok_of (n := 3) F sc__law_v_from_to (F.binds (ps := ["_law_sizes", "_law_one_here", "_law_two"]) fun _ _ _ _ _ _ us hl => match us, hl with | [_, _, _], _ => rfl) gf rfl fun cdv A outer s H E hcd at' => ?_
  have ar := at'.room
  have ag := at'.gd
  have au := at'.u.un
  have nd := sc__law_v_from_to.nd
  have tk := L2N.takes_of (X := cxOf (L2N.CX P w) P w K mg base ["_law_sizes", "_law_one_here", "_law_two", "_law_k"] "_law_v_from_to" (defScope s__law_v_from_to) f cdv A outer s H E) rfl rfl rfl rfl
  have pown := passes_of (X := cxOf (L2N.CX P w) P w K mg base ["_law_sizes", "_law_one_here", "_law_two", "_law_k"] "_law_v_from_to" (defScope s__law_v_from_to) f cdv A outer s H E) rfl
  exact ess_one (es_ret (ev_callTy cr_tupP tuple_ok B.b_tuple (by decide +kernel) rfl (ea_cons (ev_lc [("_law_k", 3)] (.one 3) fin_v rfl nd (blkOk_by (by kernel_rfl)) (ei_rng1 B.b_range rfl (ea_cons (ev_callB call_len len_ok B.b_len (by decide +kernel) rfl (ea_cons (ev_var 0 (pv 0)) (ea_nil))) (ea_nil))) (fun s_ H_ C_ cl_ fp_ => ct_one (pg_name (i := 3) nd rfl (.inl rfl))) (by decide) (fun s_ H_ C_ cl_ fp_ => ets_nil) (fun s_ H_ C_ cl_ fp_ => ev_mod (ev_callTy call_int1 int_ok B.b_int (by decide +kernel) rfl (ea_cons (ev_sub (ev_at (ev_var 2 (pv 2)) (ev_var 3 (pv 3))) (ev_at (ev_var 1 (pv 1)) (ev_var 3 (pv 3)))) (ea_nil))) (ev_at (ev_var 0 (pv 0)) (ev_var 3 (pv 3))))) (ea_nil))))
/-! ### _law_v_entry -/
abbrev s__law_v_entry : Stmt := topS 43
theorem sc__law_v_entry : FnScope ["_law_kind", "_law_o", "_law_a", "_law_b", "_law_hands"] ["_law_kind", "_law_o", "_law_a", "_law_b"] (defScope s__law_v_entry) := ⟨rfl, rfl, rfl, by decide +kernel, rfl, by decide +kernel, by decide +kernel⟩
noncomputable def g__law_v_entry (K : PySem.W.Frag) (mg : Str → Option Value) : SF := sSeq (sSet 4 (eBin ixD (eVar 0) (eC (.int 1))))
    (sRet (eFn 2 (m__law_v_state K mg) (aCons (eVar 0) (aCons (eFn 3 (m__law_v_put K mg) (aCons (eBin ixD (eVar 0) (eC (.int 0))) (aCons (eBin ixD (eVar 4) (eVar 2)) (aCons (eFn 3 (m__law_v_from_to K mg) (aCons (eBin ixD (eVar 0) (eC (.int 0))) (aCons (eBin ixD (eVar 4) (eVar 1)) (aCons (eBin ixD (eVar 4) (eVar 3)) (aNil))))) (aNil))))) (aNil)))))
noncomputable def m__law_v_entry (K : PySem.W.Frag) (mg : Str → Option Value) : MF := mBody 5 (g__law_v_entry K mg)
theorem ok__law_v_entry {f : Addr} {fd : FuncData} (B : Bi K mg) (F : Fun K "_law_v_entry" "_law_v_entry" s__law_v_entry f fd) (gf : mg "_law_v_entry" = some (.ref f)) (h__law_v_state : DOk P w K mg base 1 "_law_v_state" 2 (m__law_v_state K mg)) (h__law_v_put : DOk P w K mg base 1 "_law_v_put" 3 (m__law_v_put K mg)) (h__law_v_from_to : DOk P w K mg base 1 "_law_v_from_to" 3 (m__law_v_from_to K mg)) : DOk P w K mg base 2 "_law_v_entry" 4 (m__law_v_entry K mg) := by
  refine dok_of (n := 4) F sc__law_v_entry (F.binds (ps := ["_law_kind", "_law_o", "_law_a", "_law_b"]) fun _ _ _ _ _ _ us hl => match us, hl with | [_, _, _, _], _ => rfl) gf rfl fun cdv A outer s H E hcd at' => ?_
  have ar := at'.room
  have ag := at'.gd
  have au := at'.u.un
  have nd := sc__law_v_entry.nd
  have tk := L2N.takes_of (X := cxOf (L2N.CX P w) P w K mg base ["_law_kind", "_law_o", "_law_a", "_law_b", "_law_hands"] "_law_v_entry" (defScope s__law_v_entry) f cdv A outer s H E) rfl rfl rfl rfl
  have pown := passes_of (X := cxOf (L2N.CX P w) P w K mg base ["_law_kind", "_law_o", "_law_a", "_law_b", "_law_hands"] "_law_v_entry" (defScope s__law_v_entry) f cdv A outer s H E) rfl
  exact ess_cons (es_set 4 nd rfl (.inl rfl) (ev_at (ev_var 0 (pv 0)) (ev_int)))
    (ess_one (es_ret (ev_fn h__law_v_state ⟨ar, ag⟩ (by decide) tk rfl (ea_cons (ev_var 0 (pv 0)) (ea_cons (ev_fn h__law_v_put ⟨ar, ag⟩ (by decide) tk rfl (ea_cons (ev_at (ev_var 0 (pv 0)) (ev_int)) (ea_cons (ev_at (ev_var 4 (pv 4)) (ev_var 2 (pv 2))) (ea_cons (ev_fn h__law_v_from_to ⟨ar, ag⟩ (by decide) tk rfl (ea_cons (ev_at (ev_var 0 (pv 0)) (ev_int)) (ea_cons (ev_at (ev_var 4 (pv 4)) (ev_var 1 (pv 1))) (ea_cons (ev_at (ev_var 4 (pv 4)) (ev_var 3 (pv 3))) (ea_nil))))) (ea_nil))))) (ea_nil))))))
/-! ### _law_v_table -/
abbrev s__law_v_table : Stmt := topS 44
theorem sc__law_v_table : FnScope ["_law_kind", "_law_held", "_law_found", "_law_o", "_law_x", "_law_a", "_law_b"] ["_law_kind"] (defScope s__law_v_table) := ⟨rfl, rfl, rfl, by decide +kernel, rfl, by decide +kernel, by decide +kernel⟩
noncomputable def g__law_v_table (K : PySem.W.Frag) (mg : Str → Option Value) : SF := sSeq (sAsg (eTup (aCons (fComp (xRng1 (aCons (eCall lenD (aCons (eBin ixD (eVar 0) (eC (.int 1))) (aNil))) (aNil))) [4] (.one 4) (bTrue) (eVar 4) (fun ds S => .ok (.lst ds) S)) (aCons (eLstM (aNil)) (aNil)))) (tTuple [tName 1, tName 2]))
    (sSeq (sFor (xLst (eVar 1)) (tName 3)
    (sExpr (eLM appendD (eVar 2) (aCons (eCall tupleD (aCons (fComp (xLst (eVar 1)) [5] (.one 5) (bTrue) (eCall tupleD (aCons (fComp (xLst (eVar 1)) [6] (.one 6) (bTrue) (eFn 4 (m__law_v_entry K mg) (aCons (eVar 0) (aCons (eVar 3) (aCons (eVar 5) (aCons (eVar 6) (aNil)))))) (fun ds S => .ok (.lst ds) S)) (aNil))) (fun ds S => .ok (.lst ds) S)) (aNil))) (aNil)))))
    (sRet (eCall tupleD (aCons (eVar 2) (aNil)))))
noncomputable def m__law_v_table (K : PySem.W.Frag) (mg : Str → Option Value) : MF := mBody 7 (g__law_v_table K mg)
theorem ok__law_v_table {f : Addr} {fd : FuncData} (B : Bi K mg) (F : Fun K "_law_v_table" "_law_v_table" s__law_v_table f fd) (gf : mg "_law_v_table" = some (.ref f)) (h__law_v_entry : DOk P w K mg base 2 "_law_v_entry" 4 (m__law_v_entry K mg)) : DOk P w K mg base 3 "_law_v_table" 1 (m__law_v_table K mg) := by
  refine dok_of (n := 1) F sc__law_v_table (F.binds (ps := ["_law_kind"]) fun _ _ _ _ _ _ us hl => match us, hl with | [_], _ => rfl) gf rfl fun cdv A outer s H E hcd at' => ?_
  have ar := at'.room
  have ag := at'.gd
  have au := at'.u.un
  have nd := sc__law_v_table.nd
  have tk := L2N.takes_of (X := cxOf (L2N.CX P w) P w K mg base ["_law_kind", "_law_held", "_law_found", "_law_o", "_law_x", "_law_a", "_law_b"] "_law_v_table" (defScope s__law_v_table) f cdv A outer s H E) rfl rfl rfl rfl
  have pown := passes_of (X := cxOf (L2N.CX P w) P w K mg base ["_law_kind", "_law_held", "_law_found", "_law_o", "_law_x", "_law_a", "_law_b"] "_law_v_table" (defScope s__law_v_table) f cdv A outer s H E) rfl
  exact ess_cons (es_asg (ev_tup (ea_cons (ev_lc [("_law_x", 4)] (.one 4) fin_v rfl nd (blkOk_by (by kernel_rfl)) (ei_rng1 B.b_range rfl (ea_cons (ev_callB call_len len_ok B.b_len (by decide +kernel) rfl (ea_cons (ev_at (ev_var 0 (pv 0)) (ev_int)) (ea_nil))) (ea_nil))) (fun s_ H_ C_ cl_ fp_ => ct_one (pg_name (i := 4) nd rfl (.inl rfl))) (by decide) (fun s_ H_ C_ cl_ fp_ => ets_nil) (fun s_ H_ C_ cl_ fp_ => ev_var 4 (pv 4))) (ea_cons (ev_lstM (ea_nil)) (ea_nil)))) (eg_tup rfl (egs_cons (eg_name 1 nd rfl (.inr rfl)) (egs_cons (eg_name 2 nd rfl (.inl rfl)) (egs_nil)))))
    (ess_cons (es_for pown rfl (ei_lst (ev_var 1 (pv 1))) (eg_name 3 nd rfl (.inr rfl))
    (ess_one (es_expr (ev_lm PySem.F.slot_list_append PySem.F.type_list_append mt_append append_ok (ev_var 2 (pv 2)) (ea_cons (ev_callTy cr_tupP tuple_ok B.b_tuple (by decide +kernel) rfl (ea_cons (ev_lc [("_law_a", 5)] (.one 5) fin_v rfl nd (blkOk_by (by kernel_rfl)) (ei_lst (ev_var 1 (pv 1))) (fun s_ H_ C_ cl_ fp_ => ct_one (pg_name (i := 5) nd rfl (.inr rfl))) (by decide) (fun s_ H_ C_ cl_ fp_ => ets_nil) (fun s_ H_ C_ cl_ fp_ => ev_callTy cr_tupP tuple_ok B.b_tuple (by decide +kernel) rfl (ea_cons (ev_lc [("_law_b", 6)] (.one 6) fin_v rfl nd (blkOk_by (by kernel_rfl)) (ei_lst (ev_var 1 (pv 1))) (fun s_ H_ C_ cl_ fp_ => ct_one (pg_name (i := 6) nd rfl (.inl rfl))) (by decide) (fun s_ H_ C_ cl_ fp_ => ets_nil) (fun s_ H_ C_ cl_ fp_ => ev_fn h__law_v_entry ⟨ar, ag⟩ (by decide) takesN0 rfl (ea_cons (ev_var 0 (pv 0)) (ea_cons (ev_var 3 (pv 3)) (ea_cons (ev_var 5 (pv 5)) (ea_cons (ev_var 6 (pv 6)) (ea_nil))))))) (ea_nil)))) (ea_nil))) (ea_nil))))))
    (ess_one (es_ret (ev_callTy cr_tupP tuple_ok B.b_tuple (by decide +kernel) rfl (ea_cons (ev_var 2 (pv 2)) (ea_nil))))))
/-! ### is_amount -/
abbrev s_is_amount : Stmt := topS 19
theorem sc_is_amount : FnScope ["kind", "thing"] ["kind", "thing"] (defScope s_is_amount) := ⟨rfl, rfl, rfl, by decide +kernel, rfl, by decide +kernel, by decide +kernel⟩
noncomputable def g_is_amount (K : PySem.W.Frag) (mg : Str → Option Value) : SF := sRet (eFn 2 (m_is_hands K mg) (aCons (eBin ixD (eVar 0) (eC (.int 0))) (aCons (eVar 1) (aNil))))
noncomputable def m_is_amount (K : PySem.W.Frag) (mg : Str → Option Value) : MF := mBody 2 (g_is_amount K mg)
theorem ok_is_amount {f : Addr} {fd : FuncData} (B : Bi K mg) (F : Fun K "is_amount" "is_amount" s_is_amount f fd) (gf : mg "is_amount" = some (.ref f)) (h_is_hands : DOk P w K mg base 4 "is_hands" 2 (m_is_hands K mg)) : DOk P w K mg base 5 "is_amount" 2 (m_is_amount K mg) := by
  refine dok_of (n := 2) F sc_is_amount (F.binds (ps := ["kind", "thing"]) fun _ _ _ _ _ _ us hl => match us, hl with | [_, _], _ => rfl) gf rfl fun cdv A outer s H E hcd at' => ?_
  have ar := at'.room
  have ag := at'.gd
  have au := at'.u.un
  have nd := sc_is_amount.nd
  have tk := L2N.takes_of (X := cxOf (L2N.CX P w) P w K mg base ["kind", "thing"] "is_amount" (defScope s_is_amount) f cdv A outer s H E) rfl rfl rfl rfl
  have pown := passes_of (X := cxOf (L2N.CX P w) P w K mg base ["kind", "thing"] "is_amount" (defScope s_is_amount) f cdv A outer s H E) rfl
  exact ess_one (es_ret (ev_fn h_is_hands ⟨ar, ag⟩ (by decide) tk rfl (ea_cons (ev_at (ev_var 0 (pv 0)) (ev_int)) (ea_cons (ev_var 1 (pv 1)) (ea_nil)))))
/-! ### want_amount -/
abbrev s_want_amount : Stmt := topS 20
theorem sc_want_amount : FnScope ["kind", "thing"] ["kind", "thing"] (defScope s_want_amount) := ⟨rfl, rfl, rfl, by decide +kernel, rfl, by decide +kernel, by decide +kernel⟩
noncomputable def g_want_amount (K : PySem.W.Frag) (mg : Str → Option Value) : SF := sIf (bNot (bVal (eFn 2 (m_is_amount K mg) (aCons (eVar 0) (aCons (eVar 1) (aNil)))))) (sRaise (clsOf mg "BadAmount") (eUn negD (eC (.int 1))))
    (sNext)
noncomputable def m_want_amount (K : PySem.W.Frag) (mg : Str → Option Value) : MF := mBody 2 (g_want_amount K mg)
theorem ok_want_amount {f : Addr} {fd : FuncData} (B : Bi K mg) (F : Fun K "want_amount" "want_amount" s_want_amount f fd) (gf : mg "want_amount" = some (.ref f)) (R : RfOk P w K mg base) (h_is_amount : DOk P w K mg base 5 "is_amount" 2 (m_is_amount K mg)) : DOk P w K mg base 6 "want_amount" 2 (m_want_amount K mg) := by
  refine dok_of (n := 2) F sc_want_amount (F.binds (ps := ["kind", "thing"]) fun _ _ _ _ _ _ us hl => match us, hl with | [_, _], _ => rfl) gf rfl fun cdv A outer s H E hcd at' => ?_
  have ar := at'.room
  have ag := at'.gd
  have au := at'.u.un
  have nd := sc_want_amount.nd
  have tk := L2N.takes_of (X := cxOf (L2N.CX P w) P w K mg base ["kind", "thing"] "want_amount" (defScope s_want_amount) f cdv A outer s H E) rfl rfl rfl rfl
  have pown := passes_of (X := cxOf (L2N.CX P w) P w K mg base ["kind", "thing"] "want_amount" (defScope s_want_amount) f cdv A outer s H E) rfl
  exact ess_one (es_if (et_not (et_val (ev_fn h_is_amount ⟨ar, ag⟩ (by decide) tk rfl (ea_cons (ev_var 0 (pv 0)) (ea_cons (ev_var 1 (pv 1)) (ea_nil)))))) (ess_one (es_raise R B.e_BadAmount tk ⟨ar, ag⟩ (by decide) rfl rfl (ev_neg (ev_int))))
    (ess_nil))
/-! ### step -/
abbrev s_step : Stmt := topS 29
theorem sc_step : FnScope ["kind", "one", "two"] ["kind", "one", "two"] (defScope s_step) := ⟨rfl, rfl, rfl, by decide +kernel, rfl, by decide +kernel, by decide +kernel⟩
noncomputable def g_step (K : PySem.W.Frag) (mg : Str → Option Value) : SF := sSeq (sSet 0 (eFn 1 (m_made_kind K mg) (aCons (eVar 0) (aNil))))
    (sSeq (sExpr (eFn 2 (m_want_amount K mg) (aCons (eVar 0) (aCons (eVar 1) (aNil)))))
    (sSeq (sExpr (eFn 2 (m_want_amount K mg) (aCons (eVar 0) (aCons (eVar 2) (aNil)))))
    (sRet (eFn 3 (m_step_of K mg) (aCons (eVar 0) (aCons (eVar 1) (aCons (eVar 2) (aNil))))))))
noncomputable def m_step (K : PySem.W.Frag) (mg : Str → Option Value) : MF := mBody 3 (g_step K mg)
theorem ok_step {f : Addr} {fd : FuncData} (B : Bi K mg) (F : Fun K "step" "step" s_step f fd) (gf : mg "step" = some (.ref f)) (h_made_kind : DOk P w K mg base 7 "made_kind" 1 (m_made_kind K mg)) (h_want_amount : DOk P w K mg base 6 "want_amount" 2 (m_want_amount K mg)) (h_step_of : DOk P w K mg base 1 "step_of" 3 (m_step_of K mg)) : DOk P w K mg base 8 "step" 3 (m_step K mg) := by
  refine dok_of (n := 3) F sc_step (F.binds (ps := ["kind", "one", "two"]) fun _ _ _ _ _ _ us hl => match us, hl with | [_, _, _], _ => rfl) gf rfl fun cdv A outer s H E hcd at' => ?_
  have ar := at'.room
  have ag := at'.gd
  have au := at'.u.un
  have nd := sc_step.nd
  have tk := L2N.takes_of (X := cxOf (L2N.CX P w) P w K mg base ["kind", "one", "two"] "step" (defScope s_step) f cdv A outer s H E) rfl rfl rfl rfl
  have pown := passes_of (X := cxOf (L2N.CX P w) P w K mg base ["kind", "one", "two"] "step" (defScope s_step) f cdv A outer s H E) rfl
  exact ess_cons (es_set 0 nd rfl (.inl rfl) (ev_fn h_made_kind ⟨ar, ag⟩ (by decide) tk rfl (ea_cons (ev_var 0 (pv 0)) (ea_nil))))
    (ess_cons (es_expr (ev_fn h_want_amount ⟨ar, ag⟩ (by decide) tk rfl (ea_cons (ev_var 0 (pv 0)) (ea_cons (ev_var 1 (pv 1)) (ea_nil)))))
    (ess_cons (es_expr (ev_fn h_want_amount ⟨ar, ag⟩ (by decide) tk rfl (ea_cons (ev_var 0 (pv 0)) (ea_cons (ev_var 2 (pv 2)) (ea_nil)))))
    (ess_one (es_ret (ev_fn h_step_of ⟨ar, ag⟩ (by decide) tk rfl (ea_cons (ev_var 0 (pv 0)) (ea_cons (ev_var 1 (pv 1)) (ea_cons (ev_var 2 (pv 2)) (ea_nil)))))))))
/-! ### is_state -/
abbrev s_is_state : Stmt := topS 22
theorem sc_is_state : FnScope ["kind", "thing"] ["kind", "thing"] (defScope s_is_state) := ⟨rfl, rfl, rfl, by decide +kernel, rfl, by decide +kernel, by decide +kernel⟩
noncomputable def g_is_state (K : PySem.W.Frag) (mg : Str → Option Value) : SF := sRet (eFn 2 (m_is_below K mg) (aCons (eVar 1) (aCons (eCall lenD (aCons (eBin ixD (eVar 0) (eC (.int 1))) (aNil))) (aNil))))
noncomputable def m_is_state (K : PySem.W.Frag) (mg : Str → Option Value) : MF := mBody 2 (g_is_state K mg)
theorem ok_is_state {f : Addr} {fd : FuncData} (B : Bi K mg) (F : Fun K "is_state" "is_state" s_is_state f fd) (gf : mg "is_state" = some (.ref f)) (h_is_below : DOk P w K mg base 3 "is_below" 2 (m_is_below K mg)) : DOk P w K mg base 4 "is_state" 2 (m_is_state K mg) := by
  refine dok_of (n := 2) F sc_is_state (F.binds (ps := ["kind", "thing"]) fun _ _ _ _ _ _ us hl => match us, hl with | [_, _], _ => rfl) gf rfl fun cdv A outer s H E hcd at' => ?_
  have ar := at'.room
  have ag := at'.gd
  have au := at'.u.un
  have nd := sc_is_state.nd
  have tk := L2N.takes_of (X := cxOf (L2N.CX P w) P w K mg base ["kind", "thing"] "is_state" (defScope s_is_state) f cdv A outer s H E) rfl rfl rfl rfl
  have pown := passes_of (X := cxOf (L2N.CX P w) P w K mg base ["kind", "thing"] "is_state" (defScope s_is_state) f cdv A outer s H E) rfl
  exact ess_one (es_ret (ev_fn h_is_below ⟨ar, ag⟩ (by decide) tk rfl (ea_cons (ev_var 1 (pv 1)) (ea_cons (ev_callB call_len len_ok B.b_len (by decide +kernel) rfl (ea_cons (ev_at (ev_var 0 (pv 0)) (ev_int)) (ea_nil))) (ea_nil)))))
/-! ### amount -/
abbrev s_amount : Stmt := topS 23
theorem sc_amount : FnScope ["kind", "state"] ["kind", "state"] (defScope s_amount) := ⟨rfl, rfl, rfl, by decide +kernel, rfl, by decide +kernel, by decide +kernel⟩
noncomputable def g_amount (K : PySem.W.Frag) (mg : Str → Option Value) : SF := sSeq (sSet 0 (eFn 1 (m_made_kind K mg) (aCons (eVar 0) (aNil))))
    (sSeq (sIf (bNot (bVal (eFn 2 (m_is_state K mg) (aCons (eVar 0) (aCons (eVar 1) (aNil)))))) (sRaise (clsOf mg "BadState") (eVar 1))
    (sNext))
    (sRet (eBin ixD (eBin ixD (eVar 0) (eC (.int 1))) (eVar 1))))
noncomputable def m_amount (K : PySem.W.Frag) (mg : Str → Option Value) : MF := mBody 2 (g_amount K mg)
theorem ok_amount {f : Addr} {fd : FuncData} (B : Bi K mg) (F : Fun K "amount" "amount" s_amount f fd) (gf : mg "amount" = some (.ref f)) (R : RfOk P w K mg base) (h_made_kind : DOk P w K mg base 7 "made_kind" 1 (m_made_kind K mg)) (h_is_state : DOk P w K mg base 4 "is_state" 2 (m_is_state K mg)) : DOk P w K mg base 8 "amount" 2 (m_amount K mg) := by
  refine dok_of (n := 2) F sc_amount (F.binds (ps := ["kind", "state"]) fun _ _ _ _ _ _ us hl => match us, hl with | [_, _], _ => rfl) gf rfl fun cdv A outer s H E hcd at' => ?_
  have ar := at'.room
  have ag := at'.gd
  have au := at'.u.un
  have nd := sc_amount.nd
  have tk := L2N.takes_of (X := cxOf (L2N.CX P w) P w K mg base ["kind", "state"] "amount" (defScope s_amount) f cdv A outer s H E) rfl rfl rfl rfl
  have pown := passes_of (X := cxOf (L2N.CX P w) P w K mg base ["kind", "state"] "amount" (defScope s_amount) f cdv A outer s H E) rfl
  exact ess_cons (es_set 0 nd rfl (.inl rfl) (ev_fn h_made_kind ⟨ar, ag⟩ (by decide) tk rfl (ea_cons (ev_var 0 (pv 0)) (ea_nil))))
    (ess_cons (es_if (et_not (et_val (ev_fn h_is_state ⟨ar, ag⟩ (by decide) tk rfl (ea_cons (ev_var 0 (pv 0)) (ea_cons (ev_var 1 (pv 1)) (ea_nil)))))) (ess_one (es_raise R B.e_BadState tk ⟨ar, ag⟩ (by decide) rfl rfl (ev_var 1 (pv 1))))
    (ess_nil))
    (ess_one (es_ret (ev_at (ev_at (ev_var 0 (pv 0)) (ev_int)) (ev_var 1 (pv 1))))))
/-! ### state_at -/
abbrev s_state_at : Stmt := topS 25
theorem sc_state_at : FnScope ["kind", "amount"] ["kind", "amount"] (defScope s_state_at) := ⟨rfl, rfl, rfl, by decide +kernel, rfl, by decide +kernel, by decide +kernel⟩
noncomputable def g_state_at (K : PySem.W.Frag) (mg : Str → Option Value) : SF := sSeq (sSet 0 (eFn 1 (m_made_kind K mg) (aCons (eVar 0) (aNil))))
    (sSeq (sExpr (eFn 2 (m_want_amount K mg) (aCons (eVar 0) (aCons (eVar 1) (aNil)))))
    (sRet (eFn 2 (m_state_of K mg) (aCons (eVar 0) (aCons (eVar 1) (aNil))))))
noncomputable def m_state_at (K : PySem.W.Frag) (mg : Str → Option Value) : MF := mBody 2 (g_state_at K mg)
theorem ok_state_at {f : Addr} {fd : FuncData} (B : Bi K mg) (F : Fun K "state_at" "state_at" s_state_at f fd) (gf : mg "state_at" = some (.ref f)) (h_made_kind : DOk P w K mg base 7 "made_kind" 1 (m_made_kind K mg)) (h_want_amount : DOk P w K mg base 6 "want_amount" 2 (m_want_amount K mg)) (h_state_of : DOk P w K mg base 1 "state_of" 2 (m_state_of K mg)) : DOk P w K mg base 8 "state_at" 2 (m_state_at K mg) := by
  refine dok_of (n := 2) F sc_state_at (F.binds (ps := ["kind", "amount"]) fun _ _ _ _ _ _ us hl => match us, hl with | [_, _], _ => rfl) gf rfl fun cdv A outer s H E hcd at' => ?_
  have ar := at'.room
  have ag := at'.gd
  have au := at'.u.un
  have nd := sc_state_at.nd
  have tk := L2N.takes_of (X := cxOf (L2N.CX P w) P w K mg base ["kind", "amount"] "state_at" (defScope s_state_at) f cdv A outer s H E) rfl rfl rfl rfl
  have pown := passes_of (X := cxOf (L2N.CX P w) P w K mg base ["kind", "amount"] "state_at" (defScope s_state_at) f cdv A outer s H E) rfl
  exact ess_cons (es_set 0 nd rfl (.inl rfl) (ev_fn h_made_kind ⟨ar, ag⟩ (by decide) tk rfl (ea_cons (ev_var 0 (pv 0)) (ea_nil))))
    (ess_cons (es_expr (ev_fn h_want_amount ⟨ar, ag⟩ (by decide) tk rfl (ea_cons (ev_var 0 (pv 0)) (ea_cons (ev_var 1 (pv 1)) (ea_nil)))))
    (ess_one (es_ret (ev_fn h_state_of ⟨ar, ag⟩ (by decide) tk rfl (ea_cons (ev_var 0 (pv 0)) (ea_cons (ev_var 1 (pv 1)) (ea_nil)))))))
/-! ### moved -/
abbrev s_moved : Stmt := topS 27
theorem sc_moved : FnScope ["kind", "amount", "step"] ["kind", "amount", "step"] (defScope s_moved) := ⟨rfl, rfl, rfl, by decide +kernel, rfl, by decide +kernel, by decide +kernel⟩
noncomputable def g_moved (K : PySem.W.Frag) (mg : Str → Option Value) : SF := sSeq (sSet 0 (eFn 1 (m_made_kind K mg) (aCons (eVar 0) (aNil))))
    (sSeq (sExpr (eFn 2 (m_want_amount K mg) (aCons (eVar 0) (aCons (eVar 1) (aNil)))))
    (sSeq (sExpr (eFn 2 (m_want_amount K mg) (aCons (eVar 0) (aCons (eVar 2) (aNil)))))
    (sRet (eFn 3 (m_moved_by K mg) (aCons (eVar 0) (aCons (eVar 1) (aCons (eVar 2) (aNil))))))))
noncomputable def m_moved (K : PySem.W.Frag) (mg : Str → Option Value) : MF := mBody 3 (g_moved K mg)
theorem ok_moved {f : Addr} {fd : FuncData} (B : Bi K mg) (F : Fun K "moved" "moved" s_moved f fd) (gf : mg "moved" = some (.ref f)) (h_made_kind : DOk P w K mg base 7 "made_kind" 1 (m_made_kind K mg)) (h_want_amount : DOk P w K mg base 6 "want_amount" 2 (m_want_amount K mg)) (h_moved_by : DOk P w K mg base 1 "moved_by" 3 (m_moved_by K mg)) : DOk P w K mg base 8 "moved" 3 (m_moved K mg) := by
  refine dok_of (n := 3) F sc_moved (F.binds (ps := ["kind", "amount", "step"]) fun _ _ _ _ _ _ us hl => match us, hl with | [_, _, _], _ => rfl) gf rfl fun cdv A outer s H E hcd at' => ?_
  have ar := at'.room
  have ag := at'.gd
  have au := at'.u.un
  have nd := sc_moved.nd
  have tk := L2N.takes_of (X := cxOf (L2N.CX P w) P w K mg base ["kind", "amount", "step"] "moved" (defScope s_moved) f cdv A outer s H E) rfl rfl rfl rfl
  have pown := passes_of (X := cxOf (L2N.CX P w) P w K mg base ["kind", "amount", "step"] "moved" (defScope s_moved) f cdv A outer s H E) rfl
  exact ess_cons (es_set 0 nd rfl (.inl rfl) (ev_fn h_made_kind ⟨ar, ag⟩ (by decide) tk rfl (ea_cons (ev_var 0 (pv 0)) (ea_nil))))
    (ess_cons (es_expr (ev_fn h_want_amount ⟨ar, ag⟩ (by decide) tk rfl (ea_cons (ev_var 0 (pv 0)) (ea_cons (ev_var 1 (pv 1)) (ea_nil)))))
    (ess_cons (es_expr (ev_fn h_want_amount ⟨ar, ag⟩ (by decide) tk rfl (ea_cons (ev_var 0 (pv 0)) (ea_cons (ev_var 2 (pv 2)) (ea_nil)))))
    (ess_one (es_ret (ev_fn h_moved_by ⟨ar, ag⟩ (by decide) tk rfl (ea_cons (ev_var 0 (pv 0)) (ea_cons (ev_var 1 (pv 1)) (ea_cons (ev_var 2 (pv 2)) (ea_nil)))))))))
/-! ### made_amount -/
abbrev s_made_amount : Stmt := topS 21
theorem sc_made_amount : FnScope ["kind", "thing"] ["kind", "thing"] (defScope s_made_amount) := ⟨rfl, rfl, rfl, by decide +kernel, rfl, by decide +kernel, by decide +kernel⟩
noncomputable def g_made_amount (K : PySem.W.Frag) (mg : Str → Option Value) : SF := sSeq (sSet 0 (eFn 1 (m_made_kind K mg) (aCons (eVar 0) (aNil))))
    (sSeq (sExpr (eFn 2 (m_want_amount K mg) (aCons (eVar 0) (aCons (eVar 1) (aNil)))))
    (sRet (eVar 1)))
noncomputable def m_made_amount (K : PySem.W.Frag) (mg : Str → Option Value) : MF := mBody 2 (g_made_amount K mg)
theorem ok_made_amount {f : Addr} {fd : FuncData} (B : Bi K mg) (F : Fun K "made_amount" "made_amount" s_made_amount f fd) (gf : mg "made_amount" = some (.ref f)) (h_made_kind : DOk P w K mg base 7 "made_kind" 1 (m_made_kind K mg)) (h_want_amount : DOk P w K mg base 6 "want_amount" 2 (m_want_amount K mg)) : DOk P w K mg base 8 "made_amount" 2 (m_made_amount K mg) := by
  refine dok_of (n := 2) F sc_made_amount (F.binds (ps := ["kind", "thing"]) fun _ _ _ _ _ _ us hl => match us, hl with | [_, _], _ => rfl) gf rfl fun cdv A outer s H E hcd at' => ?_
  have ar := at'.room
  have ag := at'.gd
  have au := at'.u.un
  have nd := sc_made_amount.nd
  have tk := L2N.takes_of (X := cxOf (L2N.CX P w) P w K mg base ["kind", "thing"] "made_amount" (defScope s_made_amount) f cdv A outer s H E) rfl rfl rfl rfl
  have pown := passes_of (X := cxOf (L2N.CX P w) P w K mg base ["kind", "thing"] "made_amount" (defScope s_made_amount) f cdv A outer s H E) rfl
  exact ess_cons (es_set 0 nd rfl (.inl rfl) (ev_fn h_made_kind ⟨ar, ag⟩ (by decide) tk rfl (ea_cons (ev_var 0 (pv 0)) (ea_nil))))
    (ess_cons (es_expr (ev_fn h_want_amount ⟨ar, ag⟩ (by decide) tk rfl (ea_cons (ev_var 0 (pv 0)) (ea_cons (ev_var 1 (pv 1)) (ea_nil)))))
    (ess_one (es_ret (ev_var 1 (pv 1)))))
/-! ### _law_amounts_right -/
abbrev s__law_amounts_right : Stmt := topS 50
theorem sc__law_amounts_right : FnScope ["_law_source", "_law_kind", "_law_sizes", "_law_hands", "_law_x", "_law_turn", "_law_one_here", "_law_two", "_law_k", "_law_size"] ["_law_source", "_law_kind"] (defScope s__law_amounts_right) := ⟨rfl, rfl, rfl, by decide +kernel, rfl, by decide +kernel, by decide +kernel⟩
noncomputable def g__law_amounts_right (K : PySem.W.Frag) (mg : Str → Option Value) : SF := sSeq (sAsg (eVar 1) (tTuple [tName 2, tName 3]))
    (sSeq (sFor (xRng1 (aCons (eCall lenD (aCons (eVar 3) (aNil))) (aNil))) (tName 4)
    (sIf (bOr (bVal (eBin neD (eFn 2 (m_amount K mg) (aCons (eVar 1) (aCons (eVar 4) (aNil)))) (eBin ixD (eVar 3) (eVar 4)))) (bVal (eBin neD (eCall reprD (aCons (eFn 2 (m_state_at K mg) (aCons (eVar 1) (aCons (eBin ixD (eVar 3) (eVar 4)) (aNil)))) (aNil))) (eCall reprD (aCons (eVar 4) (aNil)))))) (sRet (eC (.bl false)))
    (sNext)))
    (sSeq (sFor (xRng1 (aCons (eC (.int 4)) (aNil))) (tName 5)
    (sSeq (sAsg (fComp (xRng1 (aCons (eC (.int 2)) (aNil))) [8] (.one 8) (bTrue) (eCall tupleD (aCons (fComp (xTup (eVar 2)) [9] (.one 9) (bTrue) (eFn 2 (m__law_take K mg) (aCons (eVar 0) (aCons (eVar 9) (aNil)))) (fun ds S => .ok (.lst ds) S)) (aNil))) (fun ds S => .ok (.lst ds) S)) (tUnl [tName 6, tName 7]))
    (sSeq (sIf (bOr (bVal (eBin neD (eCall reprD (aCons (eFn 2 (m_made_amount K mg) (aCons (eVar 1) (aCons (eVar 6) (aNil)))) (aNil))) (eCall reprD (aCons (eVar 6) (aNil))))) (bVal (eBin neD (eFn 2 (m_state_at K mg) (aCons (eVar 1) (aCons (eVar 6) (aNil)))) (eFn 2 (m__law_v_state K mg) (aCons (eVar 1) (aCons (eVar 6) (aNil))))))) (sRet (eC (.bl false)))
    (sNext))
    (sSeq (sIf (bOr (bVal (eBin neD (eFn 3 (m_moved K mg) (aCons (eVar 1) (aCons (eVar 6) (aCons (eVar 7) (aNil))))) (eFn 3 (m__law_v_put K mg) (aCons (eVar 2) (aCons (eVar 6) (aCons (eVar 7) (aNil))))))) (bVal (eBin neD (eFn 3 (m_step K mg) (aCons (eVar 1) (aCons (eVar 6) (aCons (eVar 7) (aNil))))) (eFn 3 (m__law_v_from_to K mg) (aCons (eVar 2) (aCons (eVar 6) (aCons (eVar 7) (aNil)))))))) (sRet (eC (.bl false)))
    (sNext))
    (sSeq (sIf (bOr (bVal (eBin neD (eFn 3 (m_moved K mg) (aCons (eVar 1) (aCons (eVar 6) (aCons (eFn 3 (m_step K mg) (aCons (eVar 1) (aCons (eVar 6) (aCons (eVar 7) (aNil))))) (aNil))))) (eVar 7))) (bVal (eBin neD (eFn 3 (m_step K mg) (aCons (eVar 1) (aCons (eVar 6) (aCons (eVar 6) (aNil))))) (eBin mulD (eTup (aCons (eC (.int 0)) (aNil))) (eCall lenD (aCons (eVar 2) (aNil))))))) (sRet (eC (.bl false)))
    (sNext))
    (sIf (bVal (eBin neD (eFn 3 (m_step K mg) (aCons (eVar 1) (aCons (eVar 6) (aCons (eFn 3 (m_moved K mg) (aCons (eVar 1) (aCons (eVar 6) (aCons (eVar 7) (aNil))))) (aNil))))) (eVar 7))) (sRet (eC (.bl false)))
    (sNext)))))))
    (sRet (eBin eqD (eFn 1 (m_table_of K mg) (aCons (eVar 1) (aNil))) (eFn 1 (m__law_v_table K mg) (aCons (eVar 1) (aNil)))))))
noncomputable def m__law_amounts_right (K : PySem.W.Frag) (mg : Str → Option Value) : MF := mBody 10 (g__law_amounts_right K mg)
theorem ok__law_amounts_right {f : Addr} {fd : FuncData} (B : Bi K mg) (F : Fun K "_law_amounts_right" "_law_amounts_right" s__law_amounts_right f fd) (gf : mg "_law_amounts_right" = some (.ref f)) (h_amount : DOk P w K mg base 8 "amount" 2 (m_amount K mg)) (h_state_at : DOk P w K mg base 8 "state_at" 2 (m_state_at K mg)) (h__law_take : DOk P w K mg base 1 "_law_take" 2 (m__law_take K mg)) (h_made_amount : DOk P w K mg base 8 "made_amount" 2 (m_made_amount K mg)) (h__law_v_state : DOk P w K mg base 1 "_law_v_state" 2 (m__law_v_state K mg)) (h_moved : DOk P w K mg base 8 "moved" 3 (m_moved K mg)) (h__law_v_put : DOk P w K mg base 1 "_law_v_put" 3 (m__law_v_put K mg)) (h_step : DOk P w K mg base 8 "step" 3 (m_step K mg)) (h__law_v_from_to : DOk P w K mg base 1 "_law_v_from_to" 3 (m__law_v_from_to K mg)) (h_table_of : DOk P w K mg base 8 "table_of" 1 (m_table_of K mg)) (h__law_v_table : DOk P w K mg base 3 "_law_v_table" 1 (m__law_v_table K mg)) : DOk P w K mg base 9 "_law_amounts_right" 2 (m__law_amounts_right K mg) := by
  refine dok_of (n := 2) F sc__law_amounts_right (F.binds (ps := ["_law_source", "_law_kind"]) fun _ _ _ _ _ _ us hl => match us, hl with | [_, _], _ => rfl) gf rfl fun cdv A outer s H E hcd at' => ?_
  have ar := at'.room
  have ag := at'.gd
  have au := at'.u.un
  have nd := sc__law_amounts_right.nd
  have tk := L2N.takes_of (X := cxOf (L2N.CX P w) P w K mg base ["_law_source", "_law_kind", "_law_sizes", "_law_hands", "_law_x", "_law_turn", "_law_one_here", "_law_two", "_law_k", "_law_size"] "_law_amounts_right" (defScope s__law_amounts_right) f cdv A outer s H E) rfl rfl rfl rfl
  have pown := passes_of (X := cxOf (L2N.CX P w) P w K mg base ["_law_source", "_law_kind", "_law_sizes", "_law_hands", "_law_x", "_law_turn", "_law_one_here", "_law_two", "_law_k", "_law_size"] "_law_amounts_right" (defScope s__law_amounts_right) f cdv A outer s H E) rfl
  exact ess_cons (es_asg (ev_var 1 (pv 1)) (eg_tup rfl (egs_cons (eg_name 2 nd rfl (.inr rfl)) (egs_cons (eg_name 3 nd rfl (.inl rfl)) (egs_nil)))))
    (ess_cons (es_for pown rfl (ei_rng1 B.b_range rfl (ea_cons (ev_callB call_len len_ok B.b_len (by decide +kernel) rfl (ea_cons (ev_var 3 (pv 3)) (ea_nil))) (ea_nil))) (eg_name 4 nd rfl (.inl rfl))
    (ess_one (es_if (et_w (ew_or (et_ne ⟨au, ag⟩ (ev_fn h_amount ⟨ar, ag⟩ (by decide) tk rfl (ea_cons (ev_var 1 (pv 1)) (ea_cons (ev_var 4 (pv 4)) (ea_nil)))) (ev_at (ev_var 3 (pv 3)) (ev_var 4 (pv 4)))) (ew_or1 (et_ne ⟨au, ag⟩ (ev_callB (call_repr ag (AtU.u80 ⟨au, ag⟩)) repr_ok B.b_repr (by decide +kernel) rfl (ea_cons (ev_fn h_state_at ⟨ar, ag⟩ (by decide) tk rfl (ea_cons (ev_var 1 (pv 1)) (ea_cons (ev_at (ev_var 3 (pv 3)) (ev_var 4 (pv 4))) (ea_nil)))) (ea_nil))) (ev_callB (call_repr ag (AtU.u80 ⟨au, ag⟩)) repr_ok B.b_repr (by decide +kernel) rfl (ea_cons (ev_var 4 (pv 4)) (ea_nil))))))) (ess_one (es_ret (ev_bl)))
    (ess_nil))))
    (ess_cons (es_for pown rfl (ei_rng1 B.b_range rfl (ea_cons (ev_int) (ea_nil))) (eg_name 5 nd rfl (.inl rfl))
    (ess_cons (es_asg (ev_lc [("_law_k", 8)] (.one 8) fin_v rfl nd (blkOk_by (by kernel_rfl)) (ei_rng1 B.b_range rfl (ea_cons (ev_int) (ea_nil))) (fun s_ H_ C_ cl_ fp_ => ct_one (pg_name (i := 8) nd rfl (.inl rfl))) (by decide) (fun s_ H_ C_ cl_ fp_ => ets_nil) (fun s_ H_ C_ cl_ fp_ => ev_callTy cr_tupP tuple_ok B.b_tuple (by decide +kernel) rfl (ea_cons (ev_lc [("_law_size", 9)] (.one 9) fin_v rfl nd (blkOk_by (by kernel_rfl)) (ei_tup (ev_var 2 (pv 2))) (fun s_ H_ C_ cl_ fp_ => ct_one (pg_name (i := 9) nd rfl (.inl rfl))) (by decide) (fun s_ H_ C_ cl_ fp_ => ets_nil) (fun s_ H_ C_ cl_ fp_ => ev_fn h__law_take ⟨ar, ag⟩ (by decide) takesN0 rfl (ea_cons (ev_var 0 (pv 0)) (ea_cons (ev_var 9 (pv 9)) (ea_nil))))) (ea_nil)))) (eg_unl rfl (egs_cons (eg_name 6 nd rfl (.inl rfl)) (egs_cons (eg_name 7 nd rfl (.inl rfl)) (egs_nil)))))
    (ess_cons (es_if (et_w (ew_or (et_ne ⟨au, ag⟩ (ev_callB (call_repr ag (AtU.u80 ⟨au, ag⟩)) repr_ok B.b_repr (by decide +kernel) rfl (ea_cons (ev_fn h_made_amount ⟨ar, ag⟩ (by decide) tk rfl (ea_cons (ev_var 1 (pv 1)) (ea_cons (ev_var 6 (pv 6)) (ea_nil)))) (ea_nil))) (ev_callB (call_repr ag (AtU.u80 ⟨au, ag⟩)) repr_ok B.b_repr (by decide +kernel) rfl (ea_cons (ev_var 6 (pv 6)) (ea_nil)))) (ew_or1 (et_ne ⟨au, ag⟩ (ev_fn h_state_at ⟨ar, ag⟩ (by decide) tk rfl (ea_cons (ev_var 1 (pv 1)) (ea_cons (ev_var 6 (pv 6)) (ea_nil)))) (ev_fn h__law_v_state ⟨ar, ag⟩ (by decide) tk rfl (ea_cons (ev_var 1 (pv 1)) (ea_cons (ev_var 6 (pv 6)) (ea_nil)))))))) (ess_one (es_ret (ev_bl)))
    (ess_nil))
    (ess_cons (es_if (et_w (ew_or (et_ne ⟨au, ag⟩ (ev_fn h_moved ⟨ar, ag⟩ (by decide) tk rfl (ea_cons (ev_var 1 (pv 1)) (ea_cons (ev_var 6 (pv 6)) (ea_cons (ev_var 7 (pv 7)) (ea_nil))))) (ev_fn h__law_v_put ⟨ar, ag⟩ (by decide) tk rfl (ea_cons (ev_var 2 (pv 2)) (ea_cons (ev_var 6 (pv 6)) (ea_cons (ev_var 7 (pv 7)) (ea_nil)))))) (ew_or1 (et_ne ⟨au, ag⟩ (ev_fn h_step ⟨ar, ag⟩ (by decide) tk rfl (ea_cons (ev_var 1 (pv 1)) (ea_cons (ev_var 6 (pv 6)) (ea_cons (ev_var 7 (pv 7)) (ea_nil))))) (ev_fn h__law_v_from_to ⟨ar, ag⟩ (by decide) tk rfl (ea_cons (ev_var 2 (pv 2)) (ea_cons (ev_var 6 (pv 6)) (ea_cons (ev_var 7 (pv 7)) (ea_nil))))))))) (ess_one (es_ret (ev_bl)))
    (ess_nil))
    (ess_cons (es_if (et_w (ew_or (et_ne ⟨au, ag⟩ (ev_fn h_moved ⟨ar, ag⟩ (by decide) tk rfl (ea_cons (ev_var 1 (pv 1)) (ea_cons (ev_var 6 (pv 6)) (ea_cons (ev_fn h_step ⟨ar, ag⟩ (by decide) tk rfl (ea_cons (ev_var 1 (pv 1)) (ea_cons (ev_var 6 (pv 6)) (ea_cons (ev_var 7 (pv 7)) (ea_nil))))) (ea_nil))))) (ev_var 7 (pv 7))) (ew_or1 (et_ne ⟨au, ag⟩ (ev_fn h_step ⟨ar, ag⟩ (by decide) tk rfl (ea_cons (ev_var 1 (pv 1)) (ea_cons (ev_var 6 (pv 6)) (ea_cons (ev_var 6 (pv 6)) (ea_nil))))) (ev_mul (ev_tup (ea_cons (ev_int) (ea_nil))) (ev_callB call_len len_ok B.b_len (by decide +kernel) rfl (ea_cons (ev_var 2 (pv 2)) (ea_nil)))))))) (ess_one (es_ret (ev_bl)))
    (ess_nil))
    (ess_one (es_if (et_ne ⟨au, ag⟩ (ev_fn h_step ⟨ar, ag⟩ (by decide) tk rfl (ea_cons (ev_var 1 (pv 1)) (ea_cons (ev_var 6 (pv 6)) (ea_cons (ev_fn h_moved ⟨ar, ag⟩ (by decide) tk rfl (ea_cons (ev_var 1 (pv 1)) (ea_cons (ev_var 6 (pv 6)) (ea_cons (ev_var 7 (pv 7)) (ea_nil))))) (ea_nil))))) (ev_var 7 (pv 7))) (ess_one (es_ret (ev_bl)))
    (ess_nil))))))))
    (ess_one (es_ret (ev_eq ⟨au, ag⟩ (ev_fn h_table_of ⟨ar, ag⟩ (by decide) tk rfl (ea_cons (ev_var 1 (pv 1)) (ea_nil))) (ev_fn h__law_v_table ⟨ar, ag⟩ (by decide) tk rfl (ea_cons (ev_var 1 (pv 1)) (ea_nil))))))))
/-! ### _law_heard -/
abbrev s__law_heard : Stmt := topS 49
theorem sc__law_heard : FnScope ["_law_call", "e"] ["_law_call"] (defScope s__law_heard) := ⟨rfl, rfl, rfl, by decide +kernel, rfl, by decide +kernel, by decide +kernel⟩
noncomputable def g__law_heard (K : PySem.W.Frag) (mg : Str → Option Value) (L : LT) : SF := sTryC K (sRet (eTup (aCons (eC (.str "told")) (aCons (eClo 0 L aNil) (aNil))))) [(clsOf mg "BadKind", some 1, fun a_ dd_ C_ => sRet (eTup (aCons (eC (.str "kind")) (aCons (eUn (whatD a_ dd_ C_) (eVar 1)) (aNil))))), (clsOf mg "BadAmount", some 1, fun a_ dd_ C_ => sRet (eTup (aCons (eC (.str "amount")) (aCons (eUn (whatD a_ dd_ C_) (eVar 1)) (aNil))))), (clsOf mg "BadState", some 1, fun a_ dd_ C_ => sRet (eTup (aCons (eC (.str "state")) (aCons (eUn (whatD a_ dd_ C_) (eVar 1)) (aNil))))), (refusedOf K, none, fun a_ dd_ C_ => sRet (eTup (aCons (eC (.str "other")) (aCons (eC .non) (aNil)))))]
noncomputable def m__law_heard (K : PySem.W.Frag) (mg : Str → Option Value) (L : LT) : MF := mBody 2 (g__law_heard K mg L)
theorem ok__law_heard {f : Addr} {fd : FuncData} (B : Bi K mg) (F : Fun K "_law_heard" "_law_heard" s__law_heard f fd) (gf : mg "_law_heard" = some (.ref f)) (R : RfOk P w K mg base) {L : LT} (hL : LTOk P w K mg base 9 L) : DOk P w K mg base 10 "_law_heard" 1 (m__law_heard K mg L) := by
  refine dok_of (n := 1) F sc__law_heard (F.binds (ps := ["_law_call"]) fun _ _ _ _ _ _ us hl => match us, hl with | [_], _ => rfl) gf rfl fun cdv A outer s H E hcd at' => ?_
  have ar := at'.room
  have ag := at'.gd
  have au := at'.u.un
  have nd := sc__law_heard.nd
  have tk := L2N.takes_of (X := cxOf (L2N.CX P w) P w K mg base ["_law_call", "e"] "_law_heard" (defScope s__law_heard) f cdv A outer s H E) rfl rfl rfl rfl
  have pown := passes_of (X := cxOf (L2N.CX P w) P w K mg base ["_law_call", "e"] "_law_heard" (defScope s__law_heard) f cdv A outer s H E) rfl
  exact ess_one (es_tryC (g := sRet (eTup (aCons (eC (.str "told")) (aCons (eClo 0 L aNil) (aNil))))) rfl rfl nd tk (fun W_ pn_ xe_ tk pown => ess_one (es_ret (ev_tup (ea_cons (ev_str) (ea_cons (ev_clo0 (i := 0) hL ⟨ar, ag⟩ (by decide) tk (pv 0)) (ea_nil)))))) (.named (h := fun a_ dd_ C_ => sRet (eTup (aCons (eC (.str "kind")) (aCons (eUn (whatD a_ dd_ C_) (eVar 1)) (aNil))))) rfl (B.e_BadKind).mg (by decide) rfl rfl (fun a oe C dd pn hz hv U => ess_one (es_ret (ev_tup (ea_cons (ev_str) (ea_cons (ev_what U hz.zc hv (ev_var 1 (pv 1))) (ea_nil)))))) (in_fin fun a dd C w => by repeat' first | exact in_nil | exact in_c | exact in_is | exact in_what | exact in_next | exact in_btrue | exact in_var (by decide) | exact in_last (in_c) | apply in_ret | apply in_expr | apply in_seq | apply in_sif | refine in_set (by decide) ?_ | apply in_cons | apply in_tup | apply in_lst | apply in_lstM | apply in_and | apply in_or | apply in_not | apply in_val | apply in_bnot | apply in_band | apply in_bor | apply in_if | apply in_join | apply in_lm | apply in_fn | apply in_xLst | refine in_comp (by decide) (by decide) ?_ ?_ ?_ | apply in_last | apply in_call | apply in_un | apply in_bin) (.named (h := fun a_ dd_ C_ => sRet (eTup (aCons (eC (.str "amount")) (aCons (eUn (whatD a_ dd_ C_) (eVar 1)) (aNil))))) rfl (B.e_BadAmount).mg (by decide) rfl rfl (fun a oe C dd pn hz hv U => ess_one (es_ret (ev_tup (ea_cons (ev_str) (ea_cons (ev_what U hz.zc hv (ev_var 1 (pv 1))) (ea_nil)))))) (in_fin fun a dd C w => by repeat' first | exact in_nil | exact in_c | exact in_is | exact in_what | exact in_next | exact in_btrue | exact in_var (by decide) | exact in_last (in_c) | apply in_ret | apply in_expr | apply in_seq | apply in_sif | refine in_set (by decide) ?_ | apply in_cons | apply in_tup | apply in_lst | apply in_lstM | apply in_and | apply in_or | apply in_not | apply in_val | apply in_bnot | apply in_band | apply in_bor | apply in_if | apply in_join | apply in_lm | apply in_fn | apply in_xLst | refine in_comp (by decide) (by decide) ?_ ?_ ?_ | apply in_last | apply in_call | apply in_un | apply in_bin) (.named (h := fun a_ dd_ C_ => sRet (eTup (aCons (eC (.str "state")) (aCons (eUn (whatD a_ dd_ C_) (eVar 1)) (aNil))))) rfl (B.e_BadState).mg (by decide) rfl rfl (fun a oe C dd pn hz hv U => ess_one (es_ret (ev_tup (ea_cons (ev_str) (ea_cons (ev_what U hz.zc hv (ev_var 1 (pv 1))) (ea_nil)))))) (in_fin fun a dd C w => by repeat' first | exact in_nil | exact in_c | exact in_is | exact in_what | exact in_next | exact in_btrue | exact in_var (by decide) | exact in_last (in_c) | apply in_ret | apply in_expr | apply in_seq | apply in_sif | refine in_set (by decide) ?_ | apply in_cons | apply in_tup | apply in_lst | apply in_lstM | apply in_and | apply in_or | apply in_not | apply in_val | apply in_bnot | apply in_band | apply in_bor | apply in_if | apply in_join | apply in_lm | apply in_fn | apply in_xLst | refine in_comp (by decide) (by decide) ?_ ?_ ?_ | apply in_last | apply in_call | apply in_un | apply in_bin) (.bare (h := fun a_ dd_ C_ => sRet (eTup (aCons (eC (.str "other")) (aCons (eC .non) (aNil))))) rfl R.mg (by decide) (fun a oe C dd pn hz hv U => ess_one (es_ret (ev_tup (ea_cons (ev_str) (ea_cons (ev_non) (ea_nil)))))) (fun _ _ _ _ _ => rfl) (.nil))))))
/-! ### _law_doors -/
abbrev s__law_doors : Stmt := topS 51
theorem sc__law_doors : FnScope ["_law_source", "_law_kind", "_law_sizes", "_law_hands", "_law_good", "_law_count", "_law_odd", "_law_bad"] ["_law_source", "_law_kind"] (defScope s__law_doors) := ⟨rfl, rfl, rfl, by decide +kernel, rfl, by decide +kernel, by decide +kernel⟩
def d__law_doors_0 : LamD := mkLam (exA 0 (exA 0 (stE (stB 0 ((defBody s__law_doors).getD 3 (.Pass ⟨0, 0, 0, 0⟩)))))) "_law_doors.<locals>.<lambda>" [] ["_law_bad", "_law_kind"]
noncomputable def ml__law_doors_0 (K : PySem.W.Frag) (mg : Str → Option Value) : LF := mLam 2 (eFn 2 (m_made_amount K mg) (aCons (eVar 1) (aCons (eVar 0) (aNil))))
theorem okl__law_doors_0 (B : Bi K mg) (h_made_amount : DOk P w K mg base 8 "made_amount" 2 (m_made_amount K mg)) : LOk P w K mg base 9 d__law_doors_0 (ml__law_doors_0 K mg) := by
  have sN : NdefX.NScope ["_law_bad", "_law_kind"] (d__law_doors_0).ps (d__law_doors_0).fr (d__law_doors_0).scope := NdefX.nscope_by (by decide +kernel)
  refine lok_of (d := d__law_doors_0) sN (fun _ _ _ _ us hl => match us, hl with | [], _ => rfl) fun cl_ c_ f_ A outer s H E at' => ?_
  have ar := at'.room
  have ag := at'.gd
  have au := at'.u.un
  have nd := sN.nd
  have tk := L2N.takes_of (X := NdefX.ncx (L2N.CX P w) P w K mg base ["_law_bad", "_law_kind"] ((d__law_doors_0).nf cl_ c_) f_ A outer s H E) rfl rfl rfl rfl
  exact ev_fn h_made_amount ⟨ar, ag⟩ (by decide) tk rfl (ea_cons (ev_var 1 (pv 1)) (ea_cons (ev_var 0 (pv 0)) (ea_nil)))
def d__law_doors_1 : LamD := mkLam (exA 0 (exA 0 (stE (stB 1 ((defBody s__law_doors).getD 3 (.Pass ⟨0, 0, 0, 0⟩)))))) "_law_doors.<locals>.<lambda>" [] ["_law_bad", "_law_kind"]
noncomputable def ml__law_doors_1 (K : PySem.W.Frag) (mg : Str → Option Value) : LF := mLam 2 (eFn 2 (m_state_at K mg) (aCons (eVar 1) (aCons (eVar 0) (aNil))))
theorem okl__law_doors_1 (B : Bi K mg) (h_state_at : DOk P w K mg base 8 "state_at" 2 (m_state_at K mg)) : LOk P w K mg base 9 d__law_doors_1 (ml__law_doors_1 K mg) := by
  have sN : NdefX.NScope ["_law_bad", "_law_kind"] (d__law_doors_1).ps (d__law_doors_1).fr (d__law_doors_1).scope := NdefX.nscope_by (by decide +kernel)
  refine lok_of (d := d__law_doors_1) sN (fun _ _ _ _ us hl => match us, hl with | [], _ => rfl) fun cl_ c_ f_ A outer s H E at' => ?_
  have ar := at'.room
  have ag := at'.gd
  have au := at'.u.un
  have nd := sN.nd
  have tk := L2N.takes_of (X := NdefX.ncx (L2N.CX P w) P w K mg base ["_law_bad", "_law_kind"] ((d__law_doors_1).nf cl_ c_) f_ A outer s H E) rfl rfl rfl rfl
  exact ev_fn h_state_at ⟨ar, ag⟩ (by decide) tk rfl (ea_cons (ev_var 1 (pv 1)) (ea_cons (ev_var 0 (pv 0)) (ea_nil)))
def d__law_doors_2 : LamD := mkLam (exA 0 (exA 0 (stE (stB 2 ((defBody s__law_doors).getD 3 (.Pass ⟨0, 0, 0, 0⟩)))))) "_law_doors.<locals>.<lambda>" [] ["_law_bad", "_law_good", "_law_kind"]
noncomputable def ml__law_doors_2 (K : PySem.W.Frag) (mg : Str → Option Value) : LF := mLam 3 (eFn 3 (m_moved K mg) (aCons (eVar 2) (aCons (eVar 1) (aCons (eVar 0) (aNil)))))
theorem okl__law_doors_2 (B : Bi K mg) (h_moved : DOk P w K mg base 8 "moved" 3 (m_moved K mg)) : LOk P w K mg base 9 d__law_doors_2 (ml__law_doors_2 K mg) := by
  have sN : NdefX.NScope ["_law_bad", "_law_good", "_law_kind"] (d__law_doors_2).ps (d__law_doors_2).fr (d__law_doors_2).scope := NdefX.nscope_by (by decide +kernel)
  refine lok_of (d := d__law_doors_2) sN (fun _ _ _ _ us hl => match us, hl with | [], _ => rfl) fun cl_ c_ f_ A outer s H E at' => ?_
  have ar := at'.room
  have ag := at'.gd
  have au := at'.u.un
  have nd := sN.nd
  have tk := L2N.takes_of (X := NdefX.ncx (L2N.CX P w) P w K mg base ["_law_bad", "_law_good", "_law_kind"] ((d__law_doors_2).nf cl_ c_) f_ A outer s H E) rfl rfl rfl rfl
  exact ev_fn h_moved ⟨ar, ag⟩ (by decide) tk rfl (ea_cons (ev_var 2 (pv 2)) (ea_cons (ev_var 1 (pv 1)) (ea_cons (ev_var 0 (pv 0)) (ea_nil))))
def d__law_doors_3 : LamD := mkLam (exA 0 (exA 0 (stE (stB 3 ((defBody s__law_doors).getD 3 (.Pass ⟨0, 0, 0, 0⟩)))))) "_law_doors.<locals>.<lambda>" [] ["_law_bad", "_law_kind"]
noncomputable def ml__law_doors_3 (K : PySem.W.Frag) (mg : Str → Option Value) : LF := mLam 2 (eFn 3 (m_step K mg) (aCons (eVar 1) (aCons (eVar 0) (aCons (eC .non) (aNil)))))
theorem okl__law_doors_3 (B : Bi K mg) (h_step : DOk P w K mg base 8 "step" 3 (m_step K mg)) : LOk P w K mg base 9 d__law_doors_3 (ml__law_doors_3 K mg) := by
  have sN : NdefX.NScope ["_law_bad", "_law_kind"] (d__law_doors_3).ps (d__law_doors_3).fr (d__law_doors_3).scope := NdefX.nscope_by (by decide +kernel)
  refine lok_of (d := d__law_doors_3) sN (fun _ _ _ _ us hl => match us, hl with | [], _ => rfl) fun cl_ c_ f_ A outer s H E at' => ?_
  have ar := at'.room
  have ag := at'.gd
  have au := at'.u.un
  have nd := sN.nd
  have tk := L2N.takes_of (X := NdefX.ncx (L2N.CX P w) P w K mg base ["_law_bad", "_law_kind"] ((d__law_doors_3).nf cl_ c_) f_ A outer s H E) rfl rfl rfl rfl
  exact ev_fn h_step ⟨ar, ag⟩ (by decide) tk rfl (ea_cons (ev_var 1 (pv 1)) (ea_cons (ev_var 0 (pv 0)) (ea_cons (ev_non) (ea_nil))))
def d__law_doors_4 : LamD := mkLam (exA 0 (exA 0 (stE (stB 0 ((defBody s__law_doors).getD 4 (.Pass ⟨0, 0, 0, 0⟩)))))) "_law_doors.<locals>.<lambda>" [] ["_law_bad", "_law_kind"]
noncomputable def ml__law_doors_4 (K : PySem.W.Frag) (mg : Str → Option Value) : LF := mLam 2 (eFn 2 (m_amount K mg) (aCons (eVar 1) (aCons (eVar 0) (aNil))))
theorem okl__law_doors_4 (B : Bi K mg) (h_amount : DOk P w K mg base 8 "amount" 2 (m_amount K mg)) : LOk P w K mg base 9 d__law_doors_4 (ml__law_doors_4 K mg) := by
  have sN : NdefX.NScope ["_law_bad", "_law_kind"] (d__law_doors_4).ps (d__law_doors_4).fr (d__law_doors_4).scope := NdefX.nscope_by (by decide +kernel)
  refine lok_of (d := d__law_doors_4) sN (fun _ _ _ _ us hl => match us, hl with | [], _ => rfl) fun cl_ c_ f_ A outer s H E at' => ?_
  have ar := at'.room
  have ag := at'.gd
  have au := at'.u.un
  have nd := sN.nd
  have tk := L2N.takes_of (X := NdefX.ncx (L2N.CX P w) P w K mg base ["_law_bad", "_law_kind"] ((d__law_doors_4).nf cl_ c_) f_ A outer s H E) rfl rfl rfl rfl
  exact ev_fn h_amount ⟨ar, ag⟩ (by decide) tk rfl (ea_cons (ev_var 1 (pv 1)) (ea_cons (ev_var 0 (pv 0)) (ea_nil)))
def d__law_doors_5 : LamD := mkLam (exA 0 (exA 0 (stE ((defBody s__law_doors).getD 5 (.Pass ⟨0, 0, 0, 0⟩))))) "_law_doors.<locals>.<lambda>" [] []
noncomputable def ml__law_doors_5 (K : PySem.W.Frag) (mg : Str → Option Value) : LF := mLam 0 (eFn 2 (m_amount K mg) (aCons (eC .non) (aCons (eC .non) (aNil))))
theorem okl__law_doors_5 (B : Bi K mg) (h_amount : DOk P w K mg base 8 "amount" 2 (m_amount K mg)) : LOk P w K mg base 9 d__law_doors_5 (ml__law_doors_5 K mg) := by
  have sN : NdefX.NScope [] (d__law_doors_5).ps (d__law_doors_5).fr (d__law_doors_5).scope := NdefX.nscope_by (by decide +kernel)
  refine lok_of (d := d__law_doors_5) sN (fun _ _ _ _ us hl => match us, hl with | [], _ => rfl) fun cl_ c_ f_ A outer s H E at' => ?_
  have ar := at'.room
  have ag := at'.gd
  have au := at'.u.un
  have nd := sN.nd
  have tk := L2N.takes_of (X := NdefX.ncx (L2N.CX P w) P w K mg base [] ((d__law_doors_5).nf cl_ c_) f_ A outer s H E) rfl rfl rfl rfl
  exact ev_fn h_amount ⟨ar, ag⟩ (by decide) tk rfl (ea_cons (ev_non) (ea_cons (ev_non) (ea_nil)))
noncomputable def g__law_doors (K : PySem.W.Frag) (mg : Str → Option Value) : SF := sSeq (sAsg (eVar 1) (tTuple [tName 2, tName 3]))
    (sSeq (sAsg (eTup (aCons (eBin ixD (eVar 3) (eC (.int 0))) (aCons (eCall lenD (aCons (eVar 3) (aNil))) (aNil)))) (tTuple [tName 4, tName 5]))
    (sSeq (sSet 6 (eLst (aCons (eC .non) (aCons (eBin addD (eVar 4) (eTup (aCons (eC (.int 0)) (aNil)))) (aCons (eC (.int 7)) (aCons (eC (.str "0")) (aCons (eIf (bVal (eBin neD (eVar 2) (eTup (aNil)))) (eCall tupleD (aCons (eVar 2) (aNil))) (eTup (aCons (eC (.int 0)) (aNil)))) (aNil))))))))
    (sSeq (sFor (xLst (eVar 6)) (tName 7)
    (sSeq (sIf (bVal (eBin neD (eFnL 1 (m__law_heard K mg (lamOf d__law_doors_0 (ml__law_doors_0 K mg))) d__law_doors_0 [7, 1] (lLam (aNil))) (eTup (aCons (eC (.str "amount")) (aCons (eUn negD (eC (.int 1))) (aNil)))))) (sRet (eC (.bl false)))
    (sNext))
    (sSeq (sIf (bVal (eBin neD (eFnL 1 (m__law_heard K mg (lamOf d__law_doors_1 (ml__law_doors_1 K mg))) d__law_doors_1 [7, 1] (lLam (aNil))) (eTup (aCons (eC (.str "amount")) (aCons (eUn negD (eC (.int 1))) (aNil)))))) (sRet (eC (.bl false)))
    (sNext))
    (sSeq (sIf (bVal (eBin neD (eFnL 1 (m__law_heard K mg (lamOf d__law_doors_2 (ml__law_doors_2 K mg))) d__law_doors_2 [7, 4, 1] (lLam (aNil))) (eTup (aCons (eC (.str "amount")) (aCons (eUn negD (eC (.int 1))) (aNil)))))) (sRet (eC (.bl false)))
    (sNext))
    (sIf (bVal (eBin neD (eFnL 1 (m__law_heard K mg (lamOf d__law_doors_3 (ml__law_doors_3 K mg))) d__law_doors_3 [7, 1] (lLam (aNil))) (eTup (aCons (eC (.str "amount")) (aCons (eUn negD (eC (.int 1))) (aNil)))))) (sRet (eC (.bl false)))
    (sNext))))))
    (sSeq (sFor (xLst (eLst (aCons (eVar 5) (aCons (eUn negD (eC (.int 1))) (aCons (eC .non) (aCons (eC (.str "0")) (aCons (eTup (aCons (eC (.int 0)) (aNil))) (aNil)))))))) (tName 7)
    (sIf (bVal (eBin neD (eFnL 1 (m__law_heard K mg (lamOf d__law_doors_4 (ml__law_doors_4 K mg))) d__law_doors_4 [7, 1] (lLam (aNil))) (eTup (aCons (eC (.str "state")) (aCons (eVar 7) (aNil)))))) (sRet (eC (.bl false)))
    (sNext)))
    (sRet (eBin eqD (eFnL 1 (m__law_heard K mg (lamOf d__law_doors_5 (ml__law_doors_5 K mg))) d__law_doors_5 [] (lLam (aNil))) (eTup (aCons (eC (.str "kind")) (aCons (eUn negD (eC (.int 1))) (aNil))))))))))
noncomputable def m__law_doors (K : PySem.W.Frag) (mg : Str → Option Value) : MF := mBody 8 (g__law_doors K mg)
theorem ok__law_doors {f : Addr} {fd : FuncData} (B : Bi K mg) (F : Fun K "_law_doors" "_law_doors" s__law_doors f fd) (gf : mg "_law_doors" = some (.ref f)) (LA : LamAt base mg fd.code "_law_doors.<locals>.<lambda>") (h__law_heard : ∀ L, LTOk P w K mg base 9 L → DOk P w K mg base 10 "_law_heard" 1 (m__law_heard K mg L)) (h_made_amount : DOk P w K mg base 8 "made_amount" 2 (m_made_amount K mg)) (h_state_at : DOk P w K mg base 8 "state_at" 2 (m_state_at K mg)) (h_moved : DOk P w K mg base 8 "moved" 3 (m_moved K mg)) (h_step : DOk P w K mg base 8 "step" 3 (m_step K mg)) (h_amount : DOk P w K mg base 8 "amount" 2 (m_amount K mg)) : DOk P w K mg base 11 "_law_doors" 2 (m__law_doors K mg) := by
  have hl__law_doors_0 := okl__law_doors_0 (P := P) (w := w) (base := base) B h_made_amount
  have hl__law_doors_1 := okl__law_doors_1 (P := P) (w := w) (base := base) B h_state_at
  have hl__law_doors_2 := okl__law_doors_2 (P := P) (w := w) (base := base) B h_moved
  have hl__law_doors_3 := okl__law_doors_3 (P := P) (w := w) (base := base) B h_step
  have hl__law_doors_4 := okl__law_doors_4 (P := P) (w := w) (base := base) B h_amount
  have hl__law_doors_5 := okl__law_doors_5 (P := P) (w := w) (base := base) B h_amount
  refine dok_of (n := 2) F sc__law_doors (F.binds (ps := ["_law_source", "_law_kind"]) fun _ _ _ _ _ _ us hl => match us, hl with | [_, _], _ => rfl) gf rfl fun cdv A outer s H E hcd at' => ?_
  have ar := at'.room
  have ag := at'.gd
  have au := at'.u.un
  have nd := sc__law_doors.nd
  have tk := L2N.takes_of (X := cxOf (L2N.CX P w) P w K mg base ["_law_source", "_law_kind", "_law_sizes", "_law_hands", "_law_good", "_law_count", "_law_odd", "_law_bad"] "_law_doors" (defScope s__law_doors) f cdv A outer s H E) rfl rfl rfl rfl
  have pown := passes_of (X := cxOf (L2N.CX P w) P w K mg base ["_law_source", "_law_kind", "_law_sizes", "_law_hands", "_law_good", "_law_count", "_law_odd", "_law_bad"] "_law_doors" (defScope s__law_doors) f cdv A outer s H E) rfl
  exact ess_cons (es_asg (ev_var 1 (pv 1)) (eg_tup rfl (egs_cons (eg_name 2 nd rfl (.inl rfl)) (egs_cons (eg_name 3 nd rfl (.inl rfl)) (egs_nil)))))
    (ess_cons (es_asg (ev_tup (ea_cons (ev_at (ev_var 3 (pv 3)) (ev_int)) (ea_cons (ev_callB call_len len_ok B.b_len (by decide +kernel) rfl (ea_cons (ev_var 3 (pv 3)) (ea_nil))) (ea_nil)))) (eg_tup rfl (egs_cons (eg_name 4 nd rfl (.inr rfl)) (egs_cons (eg_name 5 nd rfl (.inl rfl)) (egs_nil)))))
    (ess_cons (es_set 6 nd rfl (.inl rfl) (ev_lst (ea_cons (ev_non) (ea_cons (ev_add (ev_var 4 (pv 4)) (ev_tup (ea_cons (ev_int) (ea_nil)))) (ea_cons (ev_int) (ea_cons (ev_str) (ea_cons (ev_if (et_ne ⟨au, ag⟩ (ev_var 2 (pv 2)) (ev_tup (ea_nil))) (ev_callTy cr_tupP tuple_ok B.b_tuple (by decide +kernel) rfl (ea_cons (ev_var 2 (pv 2)) (ea_nil))) (ev_tup (ea_cons (ev_int) (ea_nil)))) (ea_nil))))))))
    (ess_cons (es_for pown rfl (ei_lst (ev_var 6 (pv 6))) (eg_name 7 nd rfl (.inr rfl))
    (ess_cons (es_if (et_ne ⟨au, ag⟩ (ev_lamcall (d := d__law_doors_0) (js := [7, 1]) (h__law_heard _ (LTOk.of (hl__law_doors_0.mono (by decide)))) ⟨ar, ag⟩ (by decide) tk rfl (fun _ => rfl) rfl (NdefX.ndef_free (sc := defScope s__law_doors) (nsc := (d__law_doors_0).scope) (fr := (d__law_doors_0).fr) (by decide +kernel)) (NdefX.ndef_fr (sc := defScope s__law_doors) (nsc := (d__law_doors_0).scope) (by decide +kernel)) rfl (eal_lamA (d := d__law_doors_0) (by rw [← hcd]; exact LA) rfl rfl (NdefX.ndef_free (sc := defScope s__law_doors) (nsc := (d__law_doors_0).scope) (fr := (d__law_doors_0).fr) (by decide +kernel)) (ea_nil))) (ev_tup (ea_cons (ev_str) (ea_cons (ev_neg (ev_int)) (ea_nil))))) (ess_one (es_ret (ev_bl)))
    (ess_nil))
    (ess_cons (es_if (et_ne ⟨au, ag⟩ (ev_lamcall (d := d__law_doors_1) (js := [7, 1]) (h__law_heard _ (LTOk.of (hl__law_doors_1.mono (by decide)))) ⟨ar, ag⟩ (by decide) tk rfl (fun _ => rfl) rfl (NdefX.ndef_free (sc := defScope s__law_doors) (nsc := (d__law_doors_1).scope) (fr := (d__law_doors_1).fr) (by decide +kernel)) (NdefX.ndef_fr (sc := defScope s__law_doors) (nsc := (d__law_doors_1).scope) (by decide +kernel)) rfl (eal_lamA (d := d__law_doors_1) (by rw [← hcd]; exact LA) rfl rfl (NdefX.ndef_free (sc := defScope s__law_doors) (nsc := (d__law_doors_1).scope) (fr := (d__law_doors_1).fr) (by decide +kernel)) (ea_nil))) (ev_tup (ea_cons (ev_str) (ea_cons (ev_neg (ev_int)) (ea_nil))))) (ess_one (es_ret (ev_bl)))
    (ess_nil))
    (ess_cons (es_if (et_ne ⟨au, ag⟩ (ev_lamcall (d := d__law_doors_2) (js := [7, 4, 1]) (h__law_heard _ (LTOk.of (hl__law_doors_2.mono (by decide)))) ⟨ar, ag⟩ (by decide) tk rfl (fun _ => rfl) rfl (NdefX.ndef_free (sc := defScope s__law_doors) (nsc := (d__law_doors_2).scope) (fr := (d__law_doors_2).fr) (by decide +kernel)) (NdefX.ndef_fr (sc := defScope s__law_doors) (nsc := (d__law_doors_2).scope) (by decide +kernel)) rfl (eal_lamA (d := d__law_doors_2) (by rw [← hcd]; exact LA) rfl rfl (NdefX.ndef_free (sc := defScope s__law_doors) (nsc := (d__law_doors_2).scope) (fr := (d__law_doors_2).fr) (by decide +kernel)) (ea_nil))) (ev_tup (ea_cons (ev_str) (ea_cons (ev_neg (ev_int)) (ea_nil))))) (ess_one (es_ret (ev_bl)))
    (ess_nil))
    (ess_one (es_if (et_ne ⟨au, ag⟩ (ev_lamcall (d := d__law_doors_3) (js := [7, 1]) (h__law_heard _ (LTOk.of (hl__law_doors_3.mono (by decide)))) ⟨ar, ag⟩ (by decide) tk rfl (fun _ => rfl) rfl (NdefX.ndef_free (sc := defScope s__law_doors) (nsc := (d__law_doors_3).scope) (fr := (d__law_doors_3).fr) (by decide +kernel)) (NdefX.ndef_fr (sc := defScope s__law_doors) (nsc := (d__law_doors_3).scope) (by decide +kernel)) rfl (eal_lamA (d := d__law_doors_3) (by rw [← hcd]; exact LA) rfl rfl (NdefX.ndef_free (sc := defScope s__law_doors) (nsc := (d__law_doors_3).scope) (fr := (d__law_doors_3).fr) (by decide +kernel)) (ea_nil))) (ev_tup (ea_cons (ev_str) (ea_cons (ev_neg (ev_int)) (ea_nil))))) (ess_one (es_ret (ev_bl)))
    (ess_nil)))))))
    (ess_cons (es_for pown rfl (ei_lst (ev_lst (ea_cons (ev_var 5 (pv 5)) (ea_cons (ev_neg (ev_int)) (ea_cons (ev_non) (ea_cons (ev_str) (ea_cons (ev_tup (ea_cons (ev_int) (ea_nil))) (ea_nil)))))))) (eg_name 7 nd rfl (.inr rfl))
    (ess_one (es_if (et_ne ⟨au, ag⟩ (ev_lamcall (d := d__law_doors_4) (js := [7, 1]) (h__law_heard _ (LTOk.of (hl__law_doors_4.mono (by decide)))) ⟨ar, ag⟩ (by decide) tk rfl (fun _ => rfl) rfl (NdefX.ndef_free (sc := defScope s__law_doors) (nsc := (d__law_doors_4).scope) (fr := (d__law_doors_4).fr) (by decide +kernel)) (NdefX.ndef_fr (sc := defScope s__law_doors) (nsc := (d__law_doors_4).scope) (by decide +kernel)) rfl (eal_lamA (d := d__law_doors_4) (by rw [← hcd]; exact LA) rfl rfl (NdefX.ndef_free (sc := defScope s__law_doors) (nsc := (d__law_doors_4).scope) (fr := (d__law_doors_4).fr) (by decide +kernel)) (ea_nil))) (ev_tup (ea_cons (ev_str) (ea_cons (ev_var 7 (pv 7)) (ea_nil))))) (ess_one (es_ret (ev_bl)))
    (ess_nil))))
    (ess_one (es_ret (ev_eq ⟨au, ag⟩ (ev_lamcall (d := d__law_doors_5) (js := []) (h__law_heard _ (LTOk.of (hl__law_doors_5.mono (by decide)))) ⟨ar, ag⟩ (by decide) tk rfl (fun _ => rfl) rfl (NdefX.ndef_free (sc := defScope s__law_doors) (nsc := (d__law_doors_5).scope) (fr := (d__law_doors_5).fr) (by decide +kernel)) (NdefX.ndef_fr (sc := defScope s__law_doors) (nsc := (d__law_doors_5).scope) (by decide +kernel)) rfl (eal_lamA (d := d__law_doors_5) (by rw [← hcd]; exact LA) rfl rfl (NdefX.ndef_free (sc := defScope s__law_doors) (nsc := (d__law_doors_5).scope) (fr := (d__law_doors_5).fr) (by decide +kernel)) (ea_nil))) (ev_tup (ea_cons (ev_str) (ea_cons (ev_neg (ev_int)) (ea_nil)))))))))))
/-! ### _law_bent_kind -/
abbrev s__law_bent_kind : Stmt := topS 48
theorem sc__law_bent_kind : FnScope ["_law_source", "_law_kind", "_law_sizes", "_law_hands", "_law_at", "_law_odd", "_law_some"] ["_law_source", "_law_kind"] (defScope s__law_bent_kind) := ⟨rfl, rfl, rfl, by decide +kernel, rfl, by decide +kernel, by decide +kernel⟩
noncomputable def g__law_bent_kind (K : PySem.W.Frag) (mg : Str → Option Value) : SF := sSeq (sAsg (eVar 1) (tTuple [tName 2, tName 3]))
    (sSeq (sSet 4 (eFn 2 (m__law_take K mg) (aCons (eVar 0) (aCons (eCall lenD (aCons (eVar 3) (aNil))) (aNil)))))
    (sSeq (sSet 5 (eFn 2 (m__law_one K mg) (aCons (eVar 0) (aCons (eLst (aCons (eC .non) (aCons (eBin addD (eBin ixD (eVar 3) (eVar 4)) (eTup (aCons (eC (.int 0)) (aNil)))) (aCons (eSl (eBin ixD (eVar 3) (eVar 4)) (oSome (eC (.int 1))) (oNone)) (aCons (eBin mulD (eTup (aCons (eUn negD (eC (.int 1))) (aNil))) (eCall lenD (aCons (eVar 2) (aNil)))) (aCons (eVar 2) (aCons (eC (.str "0")) (aNil)))))))) (aNil)))))
    (sSeq (sSet 6 (eLstM (aCons (eTup (aCons (eBin addD (eVar 2) (eTup (aCons (eC (.int 2)) (aNil)))) (aCons (eVar 3) (aNil)))) (aCons (eTup (aCons (eSl (eVar 2) (oSome (eC (.int 1))) (oNone)) (aCons (eVar 3) (aNil)))) (aCons (eTup (aCons (eVar 2) (aCons (eBin addD (eVar 3) (eSl (eVar 3) (oNone) (oSome (eC (.int 1))))) (aNil)))) (aCons (eTup (aCons (eVar 2) (aCons (eTup (aNil)) (aNil)))) (aCons (eTup (aCons (eVar 2) (aCons (eBin mulD (eVar 3) (eC (.int 13))) (aNil)))) (aNil))))))))
    (sSeq (sExpr (eLM extendD (eVar 6) (aCons (eLst (aCons (eTup (aCons (eVar 2) (aCons (eBin addD (eBin addD (eSl (eVar 3) (oNone) (oSome (eVar 4))) (eTup (aCons (eVar 5) (aNil)))) (eSl (eVar 3) (oSome (eBin addD (eVar 4) (eC (.int 1)))) (oNone))) (aNil)))) (aCons (eTup (aCons (eBin addD (eTup (aCons (eC (.int 1)) (aNil))) (eSl (eVar 2) (oSome (eC (.int 1))) (oNone))) (aCons (eVar 3) (aNil)))) (aCons (eTup (aCons (eTup (aCons (eC .non) (aNil))) (aCons (eVar 3) (aNil)))) (aCons (eTup (aCons (eC (.int 2)) (aCons (eVar 3) (aNil)))) (aCons (eTup (aCons (eVar 2) (aCons (eC .non) (aNil)))) (aNil))))))) (aNil))))
    (sSeq (sExpr (eLM extendD (eVar 6) (aCons (eLst (aCons (eTup (aCons (eBin mulD (eTup (aCons (eC (.int 2)) (aNil))) (eC (.int 13))) (aCons (eTup (aCons (eBin mulD (eTup (aCons (eC (.int 0)) (aNil))) (eC (.int 13))) (aNil))) (aNil)))) (aCons (eTup (aCons (eBin mulD (eTup (aCons (eC (.int 2)) (aNil))) (eC (.int 12))) (aCons (eTup (aCons (eBin mulD (eTup (aCons (eC (.int 0)) (aNil))) (eC (.int 12))) (aCons (eBin mulD (eTup (aCons (eC (.int 1)) (aNil))) (eC (.int 12))) (aNil)))) (aNil)))) (aCons (eTup (aCons (eVar 2) (aNil))) (aCons (eC .non) (aCons (eBin addD (eVar 1) (eTup (aCons (eTup (aNil)) (aNil)))) (aCons (eTup (aCons (eVar 2) (aCons (eSl (eVar 3) (oNone) (oSome (eBin addD (eVar 4) (eC (.int 1))))) (aNil)))) (aNil)))))))) (aNil))))
    (sRet (eFn 2 (m__law_one K mg) (aCons (eVar 0) (aCons (eVar 6) (aNil))))))))))
noncomputable def m__law_bent_kind (K : PySem.W.Frag) (mg : Str → Option Value) : MF := mBody 7 (g__law_bent_kind K mg)
theorem ok__law_bent_kind {f : Addr} {fd : FuncData} (B : Bi K mg) (F : Fun K "_law_bent_kind" "_law_bent_kind" s__law_bent_kind f fd) (gf : mg "_law_bent_kind" = some (.ref f)) (h__law_take : DOk P w K mg base 1 "_law_take" 2 (m__law_take K mg)) (h__law_one : DOk P w K mg base 2 "_law_one" 2 (m__law_one K mg)) : DOk P w K mg base 3 "_law_bent_kind" 2 (m__law_bent_kind K mg) := by
  refine dok_of (n := 2) F sc__law_bent_kind (F.binds (ps := ["_law_source", "_law_kind"]) fun _ _ _ _ _ _ us hl => match us, hl with | [_, _], _ => rfl) gf rfl fun cdv A outer s H E hcd at' => ?_
  have ar := at'.room
  have ag := at'.gd
  have au := at'.u.un
  have nd := sc__law_bent_kind.nd
  have tk := L2N.takes_of (X := cxOf (L2N.CX P w) P w K mg base ["_law_source", "_law_kind", "_law_sizes", "_law_hands", "_law_at", "_law_odd", "_law_some"] "_law_bent_kind" (defScope s__law_bent_kind) f cdv A outer s H E) rfl rfl rfl rfl
  have pown := passes_of (X := cxOf (L2N.CX P w) P w K mg base ["_law_source", "_law_kind", "_law_sizes", "_law_hands", "_law_at", "_law_odd", "_law_some"] "_law_bent_kind" (defScope s__law_bent_kind) f cdv A outer s H E) rfl
  exact ess_cons (es_asg (ev_var 1 (pv 1)) (eg_tup rfl (egs_cons (eg_name 2 nd rfl (.inl rfl)) (egs_cons (eg_name 3 nd rfl (.inl rfl)) (egs_nil)))))
    (ess_cons (es_set 4 nd rfl (.inl rfl) (ev_fn h__law_take ⟨ar, ag⟩ (by decide) tk rfl (ea_cons (ev_var 0 (pv 0)) (ea_cons (ev_callB call_len len_ok B.b_len (by decide +kernel) rfl (ea_cons (ev_var 3 (pv 3)) (ea_nil))) (ea_nil)))))
    (ess_cons (es_set 5 nd rfl (.inl rfl) (ev_fn h__law_one ⟨ar, ag⟩ (by decide) tk rfl (ea_cons (ev_var 0 (pv 0)) (ea_cons (ev_lst (ea_cons (ev_non) (ea_cons (ev_add (ev_at (ev_var 3 (pv 3)) (ev_var 4 (pv 4))) (ev_tup (ea_cons (ev_int) (ea_nil)))) (ea_cons (ev_sl (ev_at (ev_var 3 (pv 3)) (ev_var 4 (pv 4))) (eo_some (ev_int)) (eo_none)) (ea_cons (ev_mul (ev_tup (ea_cons (ev_neg (ev_int)) (ea_nil))) (ev_callB call_len len_ok B.b_len (by decide +kernel) rfl (ea_cons (ev_var 2 (pv 2)) (ea_nil)))) (ea_cons (ev_var 2 (pv 2)) (ea_cons (ev_str) (ea_nil)))))))) (ea_nil)))))
    (ess_cons (es_set 6 nd rfl (.inl rfl) (ev_lstM (ea_cons (ev_tup (ea_cons (ev_add (ev_var 2 (pv 2)) (ev_tup (ea_cons (ev_int) (ea_nil)))) (ea_cons (ev_var 3 (pv 3)) (ea_nil)))) (ea_cons (ev_tup (ea_cons (ev_sl (ev_var 2 (pv 2)) (eo_some (ev_int)) (eo_none)) (ea_cons (ev_var 3 (pv 3)) (ea_nil)))) (ea_cons (ev_tup (ea_cons (ev_var 2 (pv 2)) (ea_cons (ev_add (ev_var 3 (pv 3)) (ev_sl (ev_var 3 (pv 3)) (eo_none) (eo_some (ev_int)))) (ea_nil)))) (ea_cons (ev_tup (ea_cons (ev_var 2 (pv 2)) (ea_cons (ev_tup (ea_nil)) (ea_nil)))) (ea_cons (ev_tup (ea_cons (ev_var 2 (pv 2)) (ea_cons (ev_mul (ev_var 3 (pv 3)) (ev_int)) (ea_nil)))) (ea_nil))))))))
    (ess_cons (es_expr (ev_lm PySem.F.slot_list_extend PySem.F.type_list_extend mt_extend extend_ok (ev_var 6 (pv 6)) (ea_cons (ev_lst (ea_cons (ev_tup (ea_cons (ev_var 2 (pv 2)) (ea_cons (ev_add (ev_add (ev_sl (ev_var 3 (pv 3)) (eo_none) (eo_some (ev_var 4 (pv 4)))) (ev_tup (ea_cons (ev_var 5 (pv 5)) (ea_nil)))) (ev_sl (ev_var 3 (pv 3)) (eo_some (ev_add (ev_var 4 (pv 4)) (ev_int))) (eo_none))) (ea_nil)))) (ea_cons (ev_tup (ea_cons (ev_add (ev_tup (ea_cons (ev_int) (ea_nil))) (ev_sl (ev_var 2 (pv 2)) (eo_some (ev_int)) (eo_none))) (ea_cons (ev_var 3 (pv 3)) (ea_nil)))) (ea_cons (ev_tup (ea_cons (ev_tup (ea_cons (ev_non) (ea_nil))) (ea_cons (ev_var 3 (pv 3)) (ea_nil)))) (ea_cons (ev_tup (ea_cons (ev_int) (ea_cons (ev_var 3 (pv 3)) (ea_nil)))) (ea_cons (ev_tup (ea_cons (ev_var 2 (pv 2)) (ea_cons (ev_non) (ea_nil)))) (ea_nil))))))) (ea_nil))))
    (ess_cons (es_expr (ev_lm PySem.F.slot_list_extend PySem.F.type_list_extend mt_extend extend_ok (ev_var 6 (pv 6)) (ea_cons (ev_lst (ea_cons (ev_tup (ea_cons (ev_mul (ev_tup (ea_cons (ev_int) (ea_nil))) (ev_int)) (ea_cons (ev_tup (ea_cons (ev_mul (ev_tup (ea_cons (ev_int) (ea_nil))) (ev_int)) (ea_nil))) (ea_nil)))) (ea_cons (ev_tup (ea_cons (ev_mul (ev_tup (ea_cons (ev_int) (ea_nil))) (ev_int)) (ea_cons (ev_tup (ea_cons (ev_mul (ev_tup (ea_cons (ev_int) (ea_nil))) (ev_int)) (ea_cons (ev_mul (ev_tup (ea_cons (ev_int) (ea_nil))) (ev_int)) (ea_nil)))) (ea_nil)))) (ea_cons (ev_tup (ea_cons (ev_var 2 (pv 2)) (ea_nil))) (ea_cons (ev_non) (ea_cons (ev_add (ev_var 1 (pv 1)) (ev_tup (ea_cons (ev_tup (ea_nil)) (ea_nil)))) (ea_cons (ev_tup (ea_cons (ev_var 2 (pv 2)) (ea_cons (ev_sl (ev_var 3 (pv 3)) (eo_none) (eo_some (ev_add (ev_var 4 (pv 4)) (ev_int)))) (ea_nil)))) (ea_nil)))))))) (ea_nil))))
    (ess_one (es_ret (ev_fn h__law_one ⟨ar, ag⟩ (by decide) tk rfl (ea_cons (ev_var 0 (pv 0)) (ea_cons (ev_var 6 (pv 6)) (ea_nil)))))))))))
/-! ### is_kind -/
abbrev s_is_kind : Stmt := topS 18
theorem sc_is_kind : FnScope ["thing"] ["thing"] (defScope s_is_kind) := ⟨rfl, rfl, rfl, by decide +kernel, rfl, by decide +kernel, by decide +kernel⟩
noncomputable def g_is_kind (K : PySem.W.Frag) (mg : Str → Option Value) : SF := sRet (eBin isD (eFn 1 (m_wrong_part K mg) (aCons (eVar 0) (aNil))) (eC .non))
noncomputable def m_is_kind (K : PySem.W.Frag) (mg : Str → Option Value) : MF := mBody 1 (g_is_kind K mg)
theorem ok_is_kind {f : Addr} {fd : FuncData} (B : Bi K mg) (F : Fun K "is_kind" "is_kind" s_is_kind f fd) (gf : mg "is_kind" = some (.ref f)) (h_wrong_part : DOk P w K mg base 6 "wrong_part" 1 (m_wrong_part K mg)) : DOk P w K mg base 7 "is_kind" 1 (m_is_kind K mg) := by
  refine dok_of (n := 1) F sc_is_kind (F.binds (ps := ["thing"]) fun _ _ _ _ _ _ us hl => match us, hl with | [_], _ => rfl) gf rfl fun cdv A outer s H E hcd at' => ?_
  have ar := at'.room
  have ag := at'.gd
  have au := at'.u.un
  have nd := sc_is_kind.nd
  have tk := L2N.takes_of (X := cxOf (L2N.CX P w) P w K mg base ["thing"] "is_kind" (defScope s_is_kind) f cdv A outer s H E) rfl rfl rfl rfl
  have pown := passes_of (X := cxOf (L2N.CX P w) P w K mg base ["thing"] "is_kind" (defScope s_is_kind) f cdv A outer s H E) rfl
  exact ess_one (es_ret (ev_is (ev_fn h_wrong_part ⟨ar, ag⟩ (by decide) tk rfl (ea_cons (ev_var 0 (pv 0)) (ea_nil))) (ev_non)))
/-! ### law -/
abbrev s_law : Stmt := topS 52
theorem sc_law : FnScope ["_law_script", "_law_source", "_law_kind", "_law_thing", "_law_wrong", "_law_turn"] ["_law_script"] (defScope s_law) := ⟨rfl, rfl, rfl, by decide +kernel, rfl, by decide +kernel, by decide +kernel⟩
def d_law_0 : LamD := mkLam (exA 0 (exA 0 (exA 0 (stE (stB 2 ((defBody s_law).getD 3 (.Pass ⟨0, 0, 0, 0⟩))))))) "law.<locals>.<lambda>" [] ["_law_thing"]
noncomputable def ml_law_0 (K : PySem.W.Frag) (mg : Str → Option Value) : LF := mLam 1 (eFn 1 (m_made_kind K mg) (aCons (eVar 0) (aNil)))
theorem okl_law_0 (B : Bi K mg) (h_made_kind : DOk P w K mg base 7 "made_kind" 1 (m_made_kind K mg)) : LOk P w K mg base 8 d_law_0 (ml_law_0 K mg) := by
  have sN : NdefX.NScope ["_law_thing"] (d_law_0).ps (d_law_0).fr (d_law_0).scope := NdefX.nscope_by (by decide +kernel)
  refine lok_of (d := d_law_0) sN (fun _ _ _ _ us hl => match us, hl with | [], _ => rfl) fun cl_ c_ f_ A outer s H E at' => ?_
  have ar := at'.room
  have ag := at'.gd
  have au := at'.u.un
  have nd := sN.nd
  have tk := L2N.takes_of (X := NdefX.ncx (L2N.CX P w) P w K mg base ["_law_thing"] ((d_law_0).nf cl_ c_) f_ A outer s H E) rfl rfl rfl rfl
  exact ev_fn h_made_kind ⟨ar, ag⟩ (by decide) tk rfl (ea_cons (ev_var 0 (pv 0)) (ea_nil))
noncomputable def g_law (K : PySem.W.Frag) (mg : Str → Option Value) : SF := sSeq (sSet 1 (eFn 2 (m__law_pool K mg) (aCons (eVar 0) (aCons (eC (.int 0)) (aNil)))))
    (sSeq (sSet 2 (eIf (bVal (eBin eqD (eFn 2 (m__law_take K mg) (aCons (eVar 1) (aCons (eC (.int 5)) (aNil)))) (eC (.int 0)))) (eFn 1 (m__law_great_kind K mg) (aCons (eVar 1) (aNil))) (eFn 2 (m__law_v_kind K mg) (aCons (eVar 1) (aCons (eC (.int 8)) (aNil))))))
    (sSeq (sIf (bOr (bNot (bVal (eFn 2 (m__law_amounts_right K mg) (aCons (eVar 1) (aCons (eVar 2) (aNil)))))) (bNot (bVal (eFn 2 (m__law_doors K mg) (aCons (eVar 1) (aCons (eVar 2) (aNil))))))) (sRet (eC (.bl false)))
    (sNext))
    (sSeq (sFor (xLst (eBin addD (eLst (aCons (eVar 2) (aNil))) (fComp (xRng1 (aCons (eC (.int 5)) (aNil))) [5] (.one 5) (bTrue) (eFn 2 (m__law_bent_kind K mg) (aCons (eVar 1) (aCons (eVar 2) (aNil)))) (fun ds S => .ok (.lst ds) S)))) (tName 3)
    (sSeq (sSet 4 (eFn 1 (m__law_wrong_kind K mg) (aCons (eVar 3) (aNil))))
    (sSeq (sIf (bVal (eBin neD (eCall reprD (aCons (eFn 1 (m_is_kind K mg) (aCons (eVar 3) (aNil))) (aNil))) (eCall reprD (aCons (eBin isD (eVar 4) (eC .non)) (aNil))))) (sRet (eC (.bl false)))
    (sNext))
    (sIf (bVal (eBin neD (eCall reprD (aCons (eFnL 1 (m__law_heard K mg (lamOf d_law_0 (ml_law_0 K mg))) d_law_0 [3] (lLam (aNil))) (aNil))) (eCall reprD (aCons (eIf (bVal (eBin isD (eVar 4) (eC .non))) (eTup (aCons (eC (.str "told")) (aCons (eVar 3) (aNil)))) (eTup (aCons (eC (.str "kind")) (aCons (eVar 4) (aNil))))) (aNil))))) (sRet (eC (.bl false)))
    (sNext)))))
    (sRet (eC (.bl true))))))
noncomputable def m_law (K : PySem.W.Frag) (mg : Str → Option Value) : MF := mBody 6 (g_law K mg)
theorem ok_law {f : Addr} {fd : FuncData} (B : Bi K mg) (F : Fun K "law" "law" s_law f fd) (gf : mg "law" = some (.ref f)) (LA : LamAt base mg fd.code "law.<locals>.<lambda>") (h__law_pool : DOk P w K mg base 1 "_law_pool" 2 (m__law_pool K mg)) (h__law_take : DOk P w K mg base 1 "_law_take" 2 (m__law_take K mg)) (h__law_great_kind : DOk P w K mg base 2 "_law_great_kind" 1 (m__law_great_kind K mg)) (h__law_v_kind : DOk P w K mg base 4 "_law_v_kind" 2 (m__law_v_kind K mg)) (h__law_amounts_right : DOk P w K mg base 9 "_law_amounts_right" 2 (m__law_amounts_right K mg)) (h__law_doors : DOk P w K mg base 11 "_law_doors" 2 (m__law_doors K mg)) (h__law_bent_kind : DOk P w K mg base 3 "_law_bent_kind" 2 (m__law_bent_kind K mg)) (h__law_wrong_kind : DOk P w K mg base 2 "_law_wrong_kind" 1 (m__law_wrong_kind K mg)) (h_is_kind : DOk P w K mg base 7 "is_kind" 1 (m_is_kind K mg)) (h__law_heard : ∀ L, LTOk P w K mg base 9 L → DOk P w K mg base 10 "_law_heard" 1 (m__law_heard K mg L)) (h_made_kind : DOk P w K mg base 7 "made_kind" 1 (m_made_kind K mg)) : FnG P w K mg base 12 f fd ["_law_script"] (spD K 1 (m_law K mg)) := by
  have hl_law_0 := okl_law_0 (P := P) (w := w) (base := base) B h_made_kind
  refine fng_dok (n := 1) F sc_law rfl fun cdv A outer s H E hcd at' => ?_
  have ar := at'.room
  have ag := at'.gd
  have au := at'.u.un
  have nd := sc_law.nd
  have tk := L2N.takes_of (X := cxOf (L2N.CX P w) P w K mg base ["_law_script", "_law_source", "_law_kind", "_law_thing", "_law_wrong", "_law_turn"] "law" (defScope s_law) f cdv A outer s H E) rfl rfl rfl rfl
  have pown := passes_of (X := cxOf (L2N.CX P w) P w K mg base ["_law_script", "_law_source", "_law_kind", "_law_thing", "_law_wrong", "_law_turn"] "law" (defScope s_law) f cdv A outer s H E) rfl
  exact ess_cons (es_set 1 nd rfl (.inr rfl) (ev_fn h__law_pool ⟨ar, ag⟩ (by decide) tk rfl (ea_cons (ev_var 0 (pv 0)) (ea_cons (ev_int) (ea_nil)))))
    (ess_cons (es_set 2 nd rfl (.inr rfl) (ev_if (et_eq ⟨au, ag⟩ (ev_fn h__law_take ⟨ar, ag⟩ (by decide) tk rfl (ea_cons (ev_var 1 (pv 1)) (ea_cons (ev_int) (ea_nil)))) (ev_int)) (ev_fn h__law_great_kind ⟨ar, ag⟩ (by decide) tk rfl (ea_cons (ev_var 1 (pv 1)) (ea_nil))) (ev_fn h__law_v_kind ⟨ar, ag⟩ (by decide) tk rfl (ea_cons (ev_var 1 (pv 1)) (ea_cons (ev_int) (ea_nil))))))
    (ess_cons (es_if (et_w (ew_or (et_not (et_val (ev_fn h__law_amounts_right ⟨ar, ag⟩ (by decide) tk rfl (ea_cons (ev_var 1 (pv 1)) (ea_cons (ev_var 2 (pv 2)) (ea_nil)))))) (ew_or1 (et_not (et_val (ev_fn h__law_doors ⟨ar, ag⟩ (by decide) tk rfl (ea_cons (ev_var 1 (pv 1)) (ea_cons (ev_var 2 (pv 2)) (ea_nil))))))))) (ess_one (es_ret (ev_bl)))
    (ess_nil))
    (ess_cons (es_for pown rfl (ei_lst (ev_add (ev_lst (ea_cons (ev_var 2 (pv 2)) (ea_nil))) (ev_lc [("_law_turn", 5)] (.one 5) fin_v rfl nd (blkOk_by (by kernel_rfl)) (ei_rng1 B.b_range rfl (ea_cons (ev_int) (ea_nil))) (fun s_ H_ C_ cl_ fp_ => ct_one (pg_name (i := 5) nd rfl (.inl rfl))) (by decide) (fun s_ H_ C_ cl_ fp_ => ets_nil) (fun s_ H_ C_ cl_ fp_ => ev_fn h__law_bent_kind ⟨ar, ag⟩ (by decide) takesN0 rfl (ea_cons (ev_var 1 (pv 1)) (ea_cons (ev_var 2 (pv 2)) (ea_nil))))))) (eg_name 3 nd rfl (.inr rfl))
    (ess_cons (es_set 4 nd rfl (.inl rfl) (ev_fn h__law_wrong_kind ⟨ar, ag⟩ (by decide) tk rfl (ea_cons (ev_var 3 (pv 3)) (ea_nil))))
    (ess_cons (es_if (et_ne ⟨au, ag⟩ (ev_callB (call_repr ag (AtU.u80 ⟨au, ag⟩)) repr_ok B.b_repr (by decide +kernel) rfl (ea_cons (ev_fn h_is_kind ⟨ar, ag⟩ (by decide) tk rfl (ea_cons (ev_var 3 (pv 3)) (ea_nil))) (ea_nil))) (ev_callB (call_repr ag (AtU.u80 ⟨au, ag⟩)) repr_ok B.b_repr (by decide +kernel) rfl (ea_cons (ev_is (ev_var 4 (pv 4)) (ev_non)) (ea_nil)))) (ess_one (es_ret (ev_bl)))
    (ess_nil))
    (ess_one (es_if (et_ne ⟨au, ag⟩ (ev_callB (call_repr ag (AtU.u80 ⟨au, ag⟩)) repr_ok B.b_repr (by decide +kernel) rfl (ea_cons (ev_lamcall (d := d_law_0) (js := [3]) (h__law_heard _ (LTOk.of (hl_law_0.mono (by decide)))) ⟨ar, ag⟩ (by decide) tk rfl (fun _ => rfl) rfl (NdefX.ndef_free (sc := defScope s_law) (nsc := (d_law_0).scope) (fr := (d_law_0).fr) (by decide +kernel)) (NdefX.ndef_fr (sc := defScope s_law) (nsc := (d_law_0).scope) (by decide +kernel)) rfl (eal_lamA (d := d_law_0) (by rw [← hcd]; exact LA) rfl rfl (NdefX.ndef_free (sc := defScope s_law) (nsc := (d_law_0).scope) (fr := (d_law_0).fr) (by decide +kernel)) (ea_nil))) (ea_nil))) (ev_callB (call_repr ag (AtU.u80 ⟨au, ag⟩)) repr_ok B.b_repr (by decide +kernel) rfl (ea_cons (ev_if (et_is (ev_var 4 (pv 4)) (ev_non)) (ev_tup (ea_cons (ev_str) (ea_cons (ev_var 3 (pv 3)) (ea_nil)))) (ev_tup (ea_cons (ev_str) (ea_cons (ev_var 4 (pv 4)) (ea_nil))))) (ea_nil)))) (ess_one (es_ret (ev_bl)))
    (ess_nil))))))
    (ess_one (es_ret (ev_bl))))))
end
end K23

set_option Elab.async false
set_option linter.all false
set_option maxRecDepth 100000
namespace K23
open PySem PySem.Spec PyProof.Rows L2 DL
section
variable {K : PySem.W.Frag} {h : Heap} {w : World} {mg : Str → Option Value} {fa : Addr} {ts : List Addr}
theorem all_mk (X : K.In h)
    (G : h.Ns mainGlobals mg)
    (hfa : mg "law" = some (.ref fa))
    (KT : ∀ P ∈ ts, h.get? P = some { cls := .none, data := .fields #[] })
    {a__law_pool : Addr} {fd__law_pool : FuncData} (d__law_pool : DefK K "_law_pool" s__law_pool a__law_pool fd__law_pool)
    {a__law_take : Addr} {fd__law_take : FuncData} (d__law_take : DefK K "_law_take" s__law_take a__law_take fd__law_take)
    {a__law_great_kind : Addr} {fd__law_great_kind : FuncData} (d__law_great_kind : DefK K "_law_great_kind" s__law_great_kind a__law_great_kind fd__law_great_kind)
    {a__law_one : Addr} {fd__law_one : FuncData} (d__law_one : DefK K "_law_one" s__law_one a__law_one fd__law_one)
    {a__law_v_sizes : Addr} {fd__law_v_sizes : FuncData} (d__law_v_sizes : DefK K "_law_v_sizes" s__law_v_sizes a__law_v_sizes fd__law_v_sizes)
    {a__law_v_all_amounts : Addr} {fd__law_v_all_amounts : FuncData} (d__law_v_all_amounts : DefK K "_law_v_all_amounts" s__law_v_all_amounts a__law_v_all_amounts fd__law_v_all_amounts)
    {a__law_mixed : Addr} {fd__law_mixed : FuncData} (d__law_mixed : DefK K "_law_mixed" s__law_mixed a__law_mixed fd__law_mixed)
    {a__law_v_kind : Addr} {fd__law_v_kind : FuncData} (d__law_v_kind : DefK K "_law_v_kind" s__law_v_kind a__law_v_kind fd__law_v_kind)
    {a__law_is_amount : Addr} {fd__law_is_amount : FuncData} (d__law_is_amount : DefK K "_law_is_amount" s__law_is_amount a__law_is_amount fd__law_is_amount)
    {a__law_wrong_kind : Addr} {fd__law_wrong_kind : FuncData} (d__law_wrong_kind : DefK K "_law_wrong_kind" s__law_wrong_kind a__law_wrong_kind fd__law_wrong_kind)
    {a_is_whole : Addr} {fd_is_whole : FuncData} (d_is_whole : DefK K "is_whole" s_is_whole a_is_whole fd_is_whole)
    {a_is_sizes : Addr} {fd_is_sizes : FuncData} (d_is_sizes : DefK K "is_sizes" s_is_sizes a_is_sizes fd_is_sizes)
    {a_is_between : Addr} {fd_is_between : FuncData} (d_is_between : DefK K "is_between" s_is_between a_is_between fd_is_between)
    {a_is_below : Addr} {fd_is_below : FuncData} (d_is_below : DefK K "is_below" s_is_below a_is_below fd_is_below)
    {a_is_hands : Addr} {fd_is_hands : FuncData} (d_is_hands : DefK K "is_hands" s_is_hands a_is_hands fd_is_hands)
    {a_are_hands : Addr} {fd_are_hands : FuncData} (d_are_hands : DefK K "are_hands" s_are_hands a_are_hands fd_are_hands)
    {a_wrong_part : Addr} {fd_wrong_part : FuncData} (d_wrong_part : DefK K "wrong_part" s_wrong_part a_wrong_part fd_wrong_part)
    {a_made_kind : Addr} {fd_made_kind : FuncData} (d_made_kind : DefK K "made_kind" s_made_kind a_made_kind fd_made_kind)
    {a_state_of : Addr} {fd_state_of : FuncData} (d_state_of : DefK K "state_of" s_state_of a_state_of fd_state_of)
    {a_moved_by : Addr} {fd_moved_by : FuncData} (d_moved_by : DefK K "moved_by" s_moved_by a_moved_by fd_moved_by)
    {a_step_of : Addr} {fd_step_of : FuncData} (d_step_of : DefK K "step_of" s_step_of a_step_of fd_step_of)
    {a_merged_state : Addr} {fd_merged_state : FuncData} (d_merged_state : DefK K "merged_state" s_merged_state a_merged_state fd_merged_state)
    {a_table_of : Addr} {fd_table_of : FuncData} (d_table_of : DefK K "table_of" s_table_of a_table_of fd_table_of)
    {a__law_v_state : Addr} {fd__law_v_state : FuncData} (d__law_v_state : DefK K "_law_v_state" s__law_v_state a__law_v_state fd__law_v_state)
    {a__law_v_put : Addr} {fd__law_v_put : FuncData} (d__law_v_put : DefK K "_law_v_put" s__law_v_put a__law_v_put fd__law_v_put)
    {a__law_v_from_to : Addr} {fd__law_v_from_to : FuncData} (d__law_v_from_to : DefK K "_law_v_from_to" s__law_v_from_to a__law_v_from_to fd__law_v_from_to)
    {a__law_v_entry : Addr} {fd__law_v_entry : FuncData} (d__law_v_entry : DefK K "_law_v_entry" s__law_v_entry a__law_v_entry fd__law_v_entry)
    {a__law_v_table : Addr} {fd__law_v_table : FuncData} (d__law_v_table : DefK K "_law_v_table" s__law_v_table a__law_v_table fd__law_v_table)
    {a_is_amount : Addr} {fd_is_amount : FuncData} (d_is_amount : DefK K "is_amount" s_is_amount a_is_amount fd_is_amount)
    {a_want_amount : Addr} {fd_want_amount : FuncData} (d_want_amount : DefK K "want_amount" s_want_amount a_want_amount fd_want_amount)
    {a_step : Addr} {fd_step : FuncData} (d_step : DefK K "step" s_step a_step fd_step)
    {a_is_state : Addr} {fd_is_state : FuncData} (d_is_state : DefK K "is_state" s_is_state a_is_state fd_is_state)
    {a_amount : Addr} {fd_amount : FuncData} (d_amount : DefK K "amount" s_amount a_amount fd_amount)
    {a_state_at : Addr} {fd_state_at : FuncData} (d_state_at : DefK K "state_at" s_state_at a_state_at fd_state_at)
    {a_moved : Addr} {fd_moved : FuncData} (d_moved : DefK K "moved" s_moved a_moved fd_moved)
    {a_made_amount : Addr} {fd_made_amount : FuncData} (d_made_amount : DefK K "made_amount" s_made_amount a_made_amount fd_made_amount)
    {a__law_amounts_right : Addr} {fd__law_amounts_right : FuncData} (d__law_amounts_right : DefK K "_law_amounts_right" s__law_amounts_right a__law_amounts_right fd__law_amounts_right)
    {a__law_heard : Addr} {fd__law_heard : FuncData} (d__law_heard : DefK K "_law_heard" s__law_heard a__law_heard fd__law_heard)
    {a__law_doors : Addr} {fd__law_doors : FuncData} (d__law_doors : DefK K "_law_doors" s__law_doors a__law_doors fd__law_doors)
    {a__law_bent_kind : Addr} {fd__law_bent_kind : FuncData} (d__law_bent_kind : DefK K "_law_bent_kind" s__law_bent_kind a__law_bent_kind fd__law_bent_kind)
    {a_is_kind : Addr} {fd_is_kind : FuncData} (d_is_kind : DefK K "is_kind" s_is_kind a_is_kind fd_is_kind)
    {a_law : Addr} {fd_law : FuncData} (d_law : DefK K "law" s_law a_law fd_law)
    {c__law_doors P__law_doors : Addr} (l__law_doors : LamK K "_law_doors" fd__law_doors c__law_doors P__law_doors) (q__law_doors : P__law_doors ∈ ts)
    {c_law P_law : Addr} (l_law : LamK K "law" fd_law c_law P_law) (q_law : P_law ∈ ts)
    (nd : [P__law_doors, P_law].Nodup)
    {Dr f0 : Addr} (r : RfK K PySem.Challenge.pw_editlots_k23_kinds_and_amounts Dr f0)
    {C_BadAmount : Addr} (e_BadAmount : ErrK K "BadAmount" Dr f0 C_BadAmount)
    {C_BadKind : Addr} (e_BadKind : ErrK K "BadKind" Dr f0 C_BadKind)
    {C_BadState : Addr} (e_BadState : ErrK K "BadState" Dr f0 C_BadState)
    (kx_BadAmount_BadAmount : PySem.W.exmOne K (.ref C_BadAmount) (.ref C_BadAmount) = some true)
    (kx_BadAmount_BadKind : PySem.W.exmOne K (.ref C_BadAmount) (.ref C_BadKind) = some false)
    (kx_BadAmount_BadState : PySem.W.exmOne K (.ref C_BadAmount) (.ref C_BadState) = some false)
    (kx_BadKind_BadAmount : PySem.W.exmOne K (.ref C_BadKind) (.ref C_BadAmount) = some false)
    (kx_BadKind_BadKind : PySem.W.exmOne K (.ref C_BadKind) (.ref C_BadKind) = some true)
    (kx_BadKind_BadState : PySem.W.exmOne K (.ref C_BadKind) (.ref C_BadState) = some false)
    (kx_BadState_BadAmount : PySem.W.exmOne K (.ref C_BadState) (.ref C_BadAmount) = some false)
    (kx_BadState_BadKind : PySem.W.exmOne K (.ref C_BadState) (.ref C_BadKind) = some false)
    (kx_BadState_BadState : PySem.W.exmOne K (.ref C_BadState) (.ref C_BadState) = some true)
    (b_all : PySem.W.nsIn K mainGlobals "all" = some none)
    (b_bool : PySem.W.nsIn K mainGlobals "bool" = some none)
    (b_enumerate : PySem.W.nsIn K mainGlobals "enumerate" = some none)
    (b_int : PySem.W.nsIn K mainGlobals "int" = some none)
    (b_isinstance : PySem.W.nsIn K mainGlobals "isinstance" = some none)
    (b_len : PySem.W.nsIn K mainGlobals "len" = some none)
    (b_list : PySem.W.nsIn K mainGlobals "list" = some none)
    (b_max : PySem.W.nsIn K mainGlobals "max" = some none)
    (b_min : PySem.W.nsIn K mainGlobals "min" = some none)
    (b_range : PySem.W.nsIn K mainGlobals "range" = some none)
    (b_repr : PySem.W.nsIn K mainGlobals "repr" = some none)
    (b_tuple : PySem.W.nsIn K mainGlobals "tuple" = some none)
    (b_zip : PySem.W.nsIn K mainGlobals "zip" = some none)
    {t_MOST_SIZES : Tok} (c_MOST_SIZES : PySem.W.nsIn K mainGlobals "MOST_SIZES" = some (some (.int 12 t_MOST_SIZES)))
    {t_LEAST_SIZE : Tok} (c_LEAST_SIZE : PySem.W.nsIn K mainGlobals "LEAST_SIZE" = some (some (.int 2 t_LEAST_SIZE)))
    {t_MOST_STATES : Tok} (c_MOST_STATES : PySem.W.nsIn K mainGlobals "MOST_STATES" = some (some (.int 12 t_MOST_STATES)))
    (fin : PySem.W.exmOne K (.ref (clsOf mg "BadAmount")) (.ref (clsOf mg "BadAmount")) = some true → PySem.W.exmOne K (.ref (clsOf mg "BadAmount")) (.ref (clsOf mg "BadKind")) = some false → PySem.W.exmOne K (.ref (clsOf mg "BadAmount")) (.ref (clsOf mg "BadState")) = some false → PySem.W.exmOne K (.ref (clsOf mg "BadAmount")) (.ref (refusedOf K)) = some true → PySem.W.exmOne K (.ref (clsOf mg "BadKind")) (.ref (clsOf mg "BadAmount")) = some false → PySem.W.exmOne K (.ref (clsOf mg "BadKind")) (.ref (clsOf mg "BadKind")) = some true → PySem.W.exmOne K (.ref (clsOf mg "BadKind")) (.ref (clsOf mg "BadState")) = some false → PySem.W.exmOne K (.ref (clsOf mg "BadKind")) (.ref (refusedOf K)) = some true → PySem.W.exmOne K (.ref (clsOf mg "BadState")) (.ref (clsOf mg "BadAmount")) = some false → PySem.W.exmOne K (.ref (clsOf mg "BadState")) (.ref (clsOf mg "BadKind")) = some false → PySem.W.exmOne K (.ref (clsOf mg "BadState")) (.ref (clsOf mg "BadState")) = some true → PySem.W.exmOne K (.ref (clsOf mg "BadState")) (.ref (refusedOf K)) = some true → ∀ ns : List Int, ns.length ≤ 63 → ∃ S', m_law K mg [.frl (ns.map DL.D.int)] [] = .ok (.bl true) S') : LawG PySem.Challenge.rw_editlots_k23_kinds_and_amounts w 12 63 "_law_script" mg fa h := by
  have e_ := hfa.symm.trans (PySem.W.mg_of X G d_law.a)
  cases e_
  have BI : Bi K mg := { b_all := PySem.W.mg_none_of X G b_all, b_bool := PySem.W.mg_none_of X G b_bool, b_enumerate := PySem.W.mg_none_of X G b_enumerate, b_int := PySem.W.mg_none_of X G b_int, b_isinstance := PySem.W.mg_none_of X G b_isinstance, b_len := PySem.W.mg_none_of X G b_len, b_list := PySem.W.mg_none_of X G b_list, b_max := PySem.W.mg_none_of X G b_max, b_min := PySem.W.mg_none_of X G b_min, b_range := PySem.W.mg_none_of X G b_range, b_repr := PySem.W.mg_none_of X G b_repr, b_tuple := PySem.W.mg_none_of X G b_tuple, b_zip := PySem.W.mg_none_of X G b_zip, c_MOST_SIZES := ⟨_, PySem.W.mg_of X G c_MOST_SIZES⟩, c_LEAST_SIZE := ⟨_, PySem.W.mg_of X G c_LEAST_SIZE⟩, c_MOST_STATES := ⟨_, PySem.W.mg_of X G c_MOST_STATES⟩, e_BadAmount := e_BadAmount.ok X G r, e_BadKind := e_BadKind.ok X G r, e_BadState := e_BadState.ok X G r }
  have ce_BadAmount : clsOf mg "BadAmount" = C_BadAmount := by unfold clsOf; rw [PySem.W.mg_of X G e_BadAmount.a]
  have ce_BadKind : clsOf mg "BadKind" = C_BadKind := by unfold clsOf; rw [PySem.W.mg_of X G e_BadKind.a]
  have ce_BadState : clsOf mg "BadState" = C_BadState := by unfold clsOf; rw [PySem.W.mg_of X G e_BadState.a]
  replace fin := fin (by rw [ce_BadAmount]; exact kx_BadAmount_BadAmount) (by rw [ce_BadAmount, ce_BadKind]; exact kx_BadAmount_BadKind) (by rw [ce_BadAmount, ce_BadState]; exact kx_BadAmount_BadState) BI.e_BadAmount.un.exm (by rw [ce_BadKind, ce_BadAmount]; exact kx_BadKind_BadAmount) (by rw [ce_BadKind]; exact kx_BadKind_BadKind) (by rw [ce_BadKind, ce_BadState]; exact kx_BadKind_BadState) BI.e_BadKind.un.exm (by rw [ce_BadState, ce_BadAmount]; exact kx_BadState_BadAmount) (by rw [ce_BadState, ce_BadKind]; exact kx_BadState_BadKind) (by rw [ce_BadState]; exact kx_BadState_BadState) BI.e_BadState.un.exm
  have bl : ∀ (s : Shared) (u : Value), BindsTo s fd_law ⟨[u], []⟩ [("_law_script", u)] := by
    obtain ⟨oc, od, kV, doc, pm, an, cdv, ct, osl, rfl, lk, hc⟩ := d_law.F.ex
    exact fun s u => .of_eq rfl
  refine ⟨K, fd_law, [(c__law_doors, P__law_doors, "_law_doors.<locals>.<lambda>"), (c_law, P_law, "law.<locals>.<lambda>")], m_law K mg, X, ?_, ?_, ?_, bl, fin, fun base X1 G1 tb => ?_⟩
  · intro p hp; simp only [List.mem_cons, List.not_mem_nil, or_false] at hp; rcases hp with rfl | rfl
    · exact KT _ q__law_doors
    · exact KT _ q_law
  · intro p hp; simp only [List.mem_cons, List.not_mem_nil, or_false] at hp; rcases hp with rfl | rfl
    · exact l__law_doors.no
    · exact l_law.no
  · intro p hp; simp only [List.mem_cons, List.not_mem_nil, or_false] at hp; rcases hp with rfl | rfl
    · exact PySem.W.codeHd_of_K X l__law_doors.hd
    · exact PySem.W.codeHd_of_K X l_law.hd
  letI tbi : Tb := ⟨[(P__law_doors, ("_law_doors.<locals>.<lambda>" : Str)), (P_law, ("law.<locals>.<lambda>" : Str))]⟩
  simp only [List.nodup_cons, List.mem_cons, List.not_mem_nil, or_false, not_or] at nd
  have L__law_doors : LamAt base mg fd__law_doors.code "_law_doors.<locals>.<lambda>" := l__law_doors.at (tb (c__law_doors, P__law_doors, "_law_doors.<locals>.<lambda>") (by simp)) (show _ ∈ [(P__law_doors, ("_law_doors.<locals>.<lambda>" : Str)), (P_law, ("law.<locals>.<lambda>" : Str))] by simp) (fun p hp hq => by
    replace hp : p ∈ [(P__law_doors, ("_law_doors.<locals>.<lambda>" : Str)), (P_law, ("law.<locals>.<lambda>" : Str))] := hp
    simp only [List.mem_cons, List.not_mem_nil, or_false] at hp
    rcases hp with rfl | rfl <;> first | rfl | (exfalso; simp only at hq; simp_all))
  have L_law : LamAt base mg fd_law.code "law.<locals>.<lambda>" := l_law.at (tb (c_law, P_law, "law.<locals>.<lambda>") (by simp)) (show _ ∈ [(P__law_doors, ("_law_doors.<locals>.<lambda>" : Str)), (P_law, ("law.<locals>.<lambda>" : Str))] by simp) (fun p hp hq => by
    replace hp : p ∈ [(P__law_doors, ("_law_doors.<locals>.<lambda>" : Str)), (P_law, ("law.<locals>.<lambda>" : Str))] := hp
    simp only [List.mem_cons, List.not_mem_nil, or_false] at hp
    rcases hp with rfl | rfl <;> first | rfl | (exfalso; simp only at hq; simp_all))
  have R : RfOk (PySem.Challenge.rw_editlots_k23_kinds_and_amounts).prog w K mg base := RfK.ok X G r
  have h__law_pool := ok__law_pool (P := (PySem.Challenge.rw_editlots_k23_kinds_and_amounts).prog) (w := w) (base := base) BI d__law_pool.F (PySem.W.mg_of X G d__law_pool.a) 
  have h__law_take := ok__law_take (P := (PySem.Challenge.rw_editlots_k23_kinds_and_amounts).prog) (w := w) (base := base) BI d__law_take.F (PySem.W.mg_of X G d__law_take.a) 
  have h__law_great_kind := ok__law_great_kind (P := (PySem.Challenge.rw_editlots_k23_kinds_and_amounts).prog) (w := w) (base := base) BI d__law_great_kind.F (PySem.W.mg_of X G d__law_great_kind.a) h__law_take
  have h__law_one := ok__law_one (P := (PySem.Challenge.rw_editlots_k23_kinds_and_amounts).prog) (w := w) (base := base) BI d__law_one.F (PySem.W.mg_of X G d__law_one.a) h__law_take
  have h__law_v_sizes := ok__law_v_sizes (P := (PySem.Challenge.rw_editlots_k23_kinds_and_amounts).prog) (w := w) (base := base) BI d__law_v_sizes.F (PySem.W.mg_of X G d__law_v_sizes.a) h__law_one
  have h__law_v_all_amounts := ok__law_v_all_amounts (P := (PySem.Challenge.rw_editlots_k23_kinds_and_amounts).prog) (w := w) (base := base) BI d__law_v_all_amounts.F (PySem.W.mg_of X G d__law_v_all_amounts.a) 
  have h__law_mixed := ok__law_mixed (P := (PySem.Challenge.rw_editlots_k23_kinds_and_amounts).prog) (w := w) (base := base) BI d__law_mixed.F (PySem.W.mg_of X G d__law_mixed.a) h__law_take
  have h__law_v_kind := ok__law_v_kind (P := (PySem.Challenge.rw_editlots_k23_kinds_and_amounts).prog) (w := w) (base := base) BI d__law_v_kind.F (PySem.W.mg_of X G d__law_v_kind.a) h__law_v_sizes h__law_v_all_amounts h__law_mixed h__law_take
  have h__law_is_amount := ok__law_is_amount (P := (PySem.Challenge.rw_editlots_k23_kinds_and_amounts).prog) (w := w) (base := base) BI d__law_is_amount.F (PySem.W.mg_of X G d__law_is_amount.a) 
  have h__law_wrong_kind := ok__law_wrong_kind (P := (PySem.Challenge.rw_editlots_k23_kinds_and_amounts).prog) (w := w) (base := base) BI d__law_wrong_kind.F (PySem.W.mg_of X G d__law_wrong_kind.a) h__law_is_amount
  have h_is_whole := ok_is_whole (P := (PySem.Challenge.rw_editlots_k23_kinds_and_amounts).prog) (w := w) (base := base) BI d_is_whole.F (PySem.W.mg_of X G d_is_whole.a) 
  have h_is_sizes := ok_is_sizes (P := (PySem.Challenge.rw_editlots_k23_kinds_and_amounts).prog) (w := w) (base := base) BI d_is_sizes.F (PySem.W.mg_of X G d_is_sizes.a) h_is_whole
  have h_is_between := ok_is_between (P := (PySem.Challenge.rw_editlots_k23_kinds_and_amounts).prog) (w := w) (base := base) BI d_is_between.F (PySem.W.mg_of X G d_is_between.a) h_is_whole
  have h_is_below := ok_is_below (P := (PySem.Challenge.rw_editlots_k23_kinds_and_amounts).prog) (w := w) (base := base) BI d_is_below.F (PySem.W.mg_of X G d_is_below.a) h_is_between
  have h_is_hands := ok_is_hands (P := (PySem.Challenge.rw_editlots_k23_kinds_and_amounts).prog) (w := w) (base := base) BI d_is_hands.F (PySem.W.mg_of X G d_is_hands.a) h_is_below
  have h_are_hands := ok_are_hands (P := (PySem.Challenge.rw_editlots_k23_kinds_and_amounts).prog) (w := w) (base := base) BI d_are_hands.F (PySem.W.mg_of X G d_are_hands.a) h_is_hands
  have h_wrong_part := ok_wrong_part (P := (PySem.Challenge.rw_editlots_k23_kinds_and_amounts).prog) (w := w) (base := base) BI d_wrong_part.F (PySem.W.mg_of X G d_wrong_part.a) h_is_sizes h_are_hands
  have h_made_kind := ok_made_kind (P := (PySem.Challenge.rw_editlots_k23_kinds_and_amounts).prog) (w := w) (base := base) BI d_made_kind.F (PySem.W.mg_of X G d_made_kind.a) R h_wrong_part
  have h_state_of := ok_state_of (P := (PySem.Challenge.rw_editlots_k23_kinds_and_amounts).prog) (w := w) (base := base) BI d_state_of.F (PySem.W.mg_of X G d_state_of.a) 
  have h_moved_by := ok_moved_by (P := (PySem.Challenge.rw_editlots_k23_kinds_and_amounts).prog) (w := w) (base := base) BI d_moved_by.F (PySem.W.mg_of X G d_moved_by.a) 
  have h_step_of := ok_step_of (P := (PySem.Challenge.rw_editlots_k23_kinds_and_amounts).prog) (w := w) (base := base) BI d_step_of.F (PySem.W.mg_of X G d_step_of.a) 
  have h_merged_state := ok_merged_state (P := (PySem.Challenge.rw_editlots_k23_kinds_and_amounts).prog) (w := w) (base := base) BI d_merged_state.F (PySem.W.mg_of X G d_merged_state.a) h_state_of h_moved_by h_step_of
  have h_table_of := ok_table_of (P := (PySem.Challenge.rw_editlots_k23_kinds_and_amounts).prog) (w := w) (base := base) BI d_table_of.F (PySem.W.mg_of X G d_table_of.a) h_made_kind h_merged_state
  have h__law_v_state := ok__law_v_state (P := (PySem.Challenge.rw_editlots_k23_kinds_and_amounts).prog) (w := w) (base := base) BI d__law_v_state.F (PySem.W.mg_of X G d__law_v_state.a) 
  have h__law_v_put := ok__law_v_put (P := (PySem.Challenge.rw_editlots_k23_kinds_and_amounts).prog) (w := w) (base := base) BI d__law_v_put.F (PySem.W.mg_of X G d__law_v_put.a) 
  have h__law_v_from_to := ok__law_v_from_to (P := (PySem.Challenge.rw_editlots_k23_kinds_and_amounts).prog) (w := w) (base := base) BI d__law_v_from_to.F (PySem.W.mg_of X G d__law_v_from_to.a) 
  have h__law_v_entry := ok__law_v_entry (P := (PySem.Challenge.rw_editlots_k23_kinds_and_amounts).prog) (w := w) (base := base) BI d__law_v_entry.F (PySem.W.mg_of X G d__law_v_entry.a) h__law_v_state h__law_v_put h__law_v_from_to
  have h__law_v_table := ok__law_v_table (P := (PySem.Challenge.rw_editlots_k23_kinds_and_amounts).prog) (w := w) (base := base) BI d__law_v_table.F (PySem.W.mg_of X G d__law_v_table.a) h__law_v_entry
  have h_is_amount := ok_is_amount (P := (PySem.Challenge.rw_editlots_k23_kinds_and_amounts).prog) (w := w) (base := base) BI d_is_amount.F (PySem.W.mg_of X G d_is_amount.a) h_is_hands
  have h_want_amount := ok_want_amount (P := (PySem.Challenge.rw_editlots_k23_kinds_and_amounts).prog) (w := w) (base := base) BI d_want_amount.F (PySem.W.mg_of X G d_want_amount.a) R h_is_amount
  have h_step := ok_step (P := (PySem.Challenge.rw_editlots_k23_kinds_and_amounts).prog) (w := w) (base := base) BI d_step.F (PySem.W.mg_of X G d_step.a) h_made_kind h_want_amount h_step_of
  have h_is_state := ok_is_state (P := (PySem.Challenge.rw_editlots_k23_kinds_and_amounts).prog) (w := w) (base := base) BI d_is_state.F (PySem.W.mg_of X G d_is_state.a) h_is_below
  have h_amount := ok_amount (P := (PySem.Challenge.rw_editlots_k23_kinds_and_amounts).prog) (w := w) (base := base) BI d_amount.F (PySem.W.mg_of X G d_amount.a) R h_made_kind h_is_state
  have h_state_at := ok_state_at (P := (PySem.Challenge.rw_editlots_k23_kinds_and_amounts).prog) (w := w) (base := base) BI d_state_at.F (PySem.W.mg_of X G d_state_at.a) h_made_kind h_want_amount h_state_of
  have h_moved := ok_moved (P := (PySem.Challenge.rw_editlots_k23_kinds_and_amounts).prog) (w := w) (base := base) BI d_moved.F (PySem.W.mg_of X G d_moved.a) h_made_kind h_want_amount h_moved_by
  have h_made_amount := ok_made_amount (P := (PySem.Challenge.rw_editlots_k23_kinds_and_amounts).prog) (w := w) (base := base) BI d_made_amount.F (PySem.W.mg_of X G d_made_amount.a) h_made_kind h_want_amount
  have h__law_amounts_right := ok__law_amounts_right (P := (PySem.Challenge.rw_editlots_k23_kinds_and_amounts).prog) (w := w) (base := base) BI d__law_amounts_right.F (PySem.W.mg_of X G d__law_amounts_right.a) h_amount h_state_at h__law_take h_made_amount h__law_v_state h_moved h__law_v_put h_step h__law_v_from_to h_table_of h__law_v_table
  have h__law_heard := fun (L : LT) hL => ok__law_heard (P := (PySem.Challenge.rw_editlots_k23_kinds_and_amounts).prog) (w := w) (base := base) (L := L) BI d__law_heard.F (PySem.W.mg_of X G d__law_heard.a) R hL 
  have h__law_doors := ok__law_doors (P := (PySem.Challenge.rw_editlots_k23_kinds_and_amounts).prog) (w := w) (base := base) BI d__law_doors.F (PySem.W.mg_of X G d__law_doors.a) L__law_doors h__law_heard h_made_amount h_state_at h_moved h_step h_amount
  have h__law_bent_kind := ok__law_bent_kind (P := (PySem.Challenge.rw_editlots_k23_kinds_and_amounts).prog) (w := w) (base := base) BI d__law_bent_kind.F (PySem.W.mg_of X G d__law_bent_kind.a) h__law_take h__law_one
  have h_is_kind := ok_is_kind (P := (PySem.Challenge.rw_editlots_k23_kinds_and_amounts).prog) (w := w) (base := base) BI d_is_kind.F (PySem.W.mg_of X G d_is_kind.a) h_wrong_part
  exact ok_law (P := (PySem.Challenge.rw_editlots_k23_kinds_and_amounts).prog) (w := w) (base := base) BI d_law.F (PySem.W.mg_of X G d_law.a) L_law h__law_pool h__law_take h__law_great_kind h__law_v_kind h__law_amounts_right h__law_doors h__law_bent_kind h__law_wrong_kind h_is_kind h__law_heard h_made_kind
end
end K23

set_option Elab.async false
set_option linter.all false
set_option maxRecDepth 100000
namespace K23
open PySem PySem.Spec PyProof.Rows L2 DL
local macro_rules | `(tactic| walk_at "dl1") => `(tactic| first
  | with_reducible refine wS_seq ?_
  | with_reducible refine wS_set ?_
  | with_reducible refine wS_ret ?_
  | with_reducible refine wS_expr ?_
  | with_reducible refine wS_if ?_
  | with_reducible refine wS_next ?_
  | with_reducible refine wS_raise ?_
  | with_reducible refine wS_asg ?_
  | with_reducible refine wS_par ?_
  | with_reducible refine wS_par3 ?_
  | with_reducible refine wS_aug ?_
  | with_reducible refine wS_retN ?_
  | with_reducible refine wS_for ?_
  | with_reducible refine wS_break ?_
  | with_reducible refine wS_cont ?_
  | ((with_reducible refine' wO_var ?he_ ?_); (case he_ => exact rfl))
  | with_reducible refine wO_c ?_
  | with_reducible refine wO_ok ?_
  | with_reducible refine wO_isE ?_
  | with_reducible refine wO_what ?_
  | with_reducible refine wS_gone ?_
  | with_reducible refine wS_try ?_
  | ((with_reducible refine' wO_fnL ?he_ ?_); (case he_ => exact rfl))
  | with_reducible refine wO_join ?_
  | with_reducible refine wO_lCons ?_
  | with_reducible refine wO_lLam ?_
  | with_reducible refine wO_bin ?_
  | with_reducible refine wO_cons ?_
  | with_reducible refine wO_nil ?_
  | with_reducible refine wO_call ?_
  | with_reducible refine wO_fn ?_
  | with_reducible refine wO_val ?_
  | with_reducible refine wO_bnot ?_
  | with_reducible refine wO_un ?_
  | with_reducible refine wO_and ?_
  | with_reducible refine wO_or ?_
  | with_reducible refine wO_not ?_
  | with_reducible refine wO_if ?_
  | with_reducible refine wO_tup ?_
  | with_reducible refine wO_lst ?_
  | with_reducible refine wO_lstM ?_
  | with_reducible refine wO_band ?_
  | with_reducible refine wO_bor ?_
  | with_reducible refine wO_btrue ?_
  | with_reducible refine wO_bif ?_
  | with_reducible refine wO_chain ?_
  | with_reducible refine wO_lm ?_
  | with_reducible refine wO_slA ?_
  | with_reducible refine wO_oNone ?_
  | with_reducible refine wO_oSome ?_
  | with_reducible refine wO_comp ?_
  | with_reducible refine wO_compN ?_
  | with_reducible refine wO_xLst ?_
  | with_reducible refine wO_xTup ?_
  | with_reducible refine wO_xEnum ?_
  | with_reducible refine wO_xZip ?_
  | with_reducible refine wO_xRng1 ?_
  | with_reducible refine wO_xRng2 ?_
  | with_reducible refine wO_xRng ?_
  | with_reducible refine wO_add ?_
  | with_reducible refine wO_sub ?_
  | with_reducible refine wO_neg ?_
  | with_reducible refine wO_lt ?_
  | with_reducible refine wO_le ?_
  | with_reducible refine wO_gt ?_
  | with_reducible refine wO_ge ?_
  | with_reducible refine wO_eqI ?_
  | with_reducible refine wO_neI ?_
  | with_reducible refine wO_isNon ?_
  | with_reducible refine wO_eqS (b := true) (by decide +kernel) (by decide +kernel) (by decide +kernel) ?_
  | with_reducible refine wO_eqS (b := false) (by decide +kernel) (by decide +kernel) (by decide +kernel) ?_
  | with_reducible refine wO_isNotNon ?_
  | with_reducible refine wO_isB ?_
  | with_reducible refine wO_isNotB ?_
  | with_reducible refine wO_int ?_
  | with_reducible refine wO_intB ?_
  | with_reducible refine wO_max2 ?_
  | with_reducible refine wO_min2 ?_
  | with_reducible refine wO_range ?_
  | with_reducible refine wO_augAdd ?_
  | ((with_reducible refine' wO_len ?he_ ?_); (case he_ => exact rfl))
  | ((with_reducible refine' wO_tuple ?he_ ?_); (case he_ => exact rfl))
  | ((with_reducible refine' wO_list ?he_ ?_); (case he_ => exact rfl))
  | ((with_reducible refine' wO_isi ?he_ ?hm_ ?_); (case he_ => first | rfl | assumption); (case hm_ => decide))
  | ((with_reducible refine' wO_ix ?he_ ?h2_ ?_); (case he_ => first | exact rfl | exact seqOf_ref (by assumption)); (case h2_ => exact rfl))
  | ((with_reducible refine' Exists.intro _ (And.intro ?hr_ ?_)); (case hr_ => exact rfl))
  | ((with_reducible refine' And.intro ?hr_ ?_); (case hr_ => first | exact rfl | exact Nat.le_of_ble_eq_true rfl | (decide; done)))
  | ((with_reducible refine' Exists.intro _ (Exists.intro _ (And.intro ?hr_ ?_))); (case hr_ => exact rfl))
  | ((with_reducible refine' Exists.intro _ (Exists.intro _ (Exists.intro _ (And.intro ?hr_ ?_)))); (case hr_ => exact rfl))
  | with_reducible rfl)
local macro_rules | `(tactic| walk_at "dl") => `(tactic| repeat (walk_at "dl1"))
local macro_rules | `(tactic| walk_at "br") => `(tactic| ((with_reducible refine And.intro (fun hb => ?_) (fun hb => ?_)) <;> try (exfalso; first | (cases hb; done) | (simp at hb; done) | (simp at hb; omega))))
local macro_rules | `(tactic| walk_at "dlb") => `(tactic| repeat' (first | walk_at "dl1" | walk_at "br" | fail))
variable {K : PySem.W.Frag} {mg : Str → Option Value} {P : PP DL.D} {E : EE} {S : Sto}
/-! ### numbers -/
theorem is_whole_ok {d : DL.D} (hd : d.pure = true) (h : P (.bl d.isW) S) : wO (m_is_whole K mg [d] S) P E := by
  refine wO_body ?_
  show wS (g_is_whole K mg [some d] S) _ _ _ _ _
  unfold g_is_whole
  rw [← kits_whole] at h
  walk_at "dl"
  refine ⟨fun hb => ?_, fun hb => ?_⟩
  · walk_at "dl"
    refine cut_self ?_
    rw [hb] at h; exact h
  · refine cut_self ?_
    rw [hb] at h; exact h
theorem is_between_ok {d : DL.D} {lo hi : Int} (hd : d.pure = true) (h : P (.bl (d.btw lo hi)) S) : wO (m_is_between K mg [d, .int lo, .int hi] S) P E := by
  refine wO_body ?_
  show wS (g_is_between K mg [some d, some (.int lo), some (.int hi)] S) _ _ _ _ _
  unfold g_is_between
  walk_at "dl"
  refine is_whole_ok hd ⟨_, rfl, fun hb => ?_, fun hb => ?_⟩
  · cases d with
    | int i =>
      walk_at "dl"
      refine ⟨fun h1 => ?_, fun h1 => ?_⟩
      · walk_at "dl"
        refine cut_self ?_
        simp only [D.btw, h1, Bool.true_and] at h; exact h
      · refine cut_self ?_
        simp only [D.btw, h1, Bool.false_and] at h; exact h
    | _ => cases hb
  · refine cut_self ?_
    have e : d.btw lo hi = false := by cases d <;> first | rfl | cases hb
    rw [e] at h; exact h
theorem is_below_ok {d : DL.D} {n : Int} (hd : d.pure = true) (h : P (.bl (d.btw 0 (n - 1))) S) : wO (m_is_below K mg [d, .int n] S) P E := by
  refine wO_body ?_
  show wS (g_is_below K mg [some d, some (.int n)] S) _ _ _ _ _
  unfold g_is_below
  walk_at "dl"
  exact is_between_ok hd (cut_self h)
/-! ### kinds -/
def D.ge (lo : Int) : DL.D → Bool
  | .int i => decide (lo ≤ i)
  | _ => false
def sizesB (d : DL.D) : Bool := d.isT && (decide (d.its.length ≤ 12) && d.its.all (D.ge 2))
def pairB : DL.D → Bool
  | .pr h (.int n) => h.btw 0 (n - 1)
  | _ => false
def handB (ss : List DL.D) (d : DL.D) : Bool := d.isT && (d.its.length == ss.length && (zipL d.its ss).all pairB)
def newB (hs : List DL.D) : DL.D → Bool
  | .pr (.int i) h => !(D.Ps (hs.take i.toNat)).any fun z => PyData.eqv z h.P
  | _ => false
def handsB (ss : List DL.D) (d : DL.D) : Bool := d.isT && (decide (1 ≤ d.its.length) && (decide (d.its.length ≤ 12) && (d.its.all (handB ss) && (numL 0 d.its).all (newB d.its))))
theorem ge_ex {lo : Int} {d : DL.D} (h : D.ge lo d = true) : ∃ i, d = .int i ∧ lo ≤ i := by
  cases d <;> first | (cases h; done) | exact ⟨_, rfl, of_decide_eq_true h⟩
theorem is_sizes_ok {d : DL.D} (hd : d.pure = true) (h : P (.bl (sizesB d)) S) : wO (m_is_sizes K mg [d] S) P E := by
  refine wO_body ?_
  show wS (g_is_sizes K mg [some d, none] S) _ _ _ _ _
  unfold g_is_sizes
  walk_at "dl"
  rw [kits_tup]
  refine ⟨fun hb => ?_, fun hb => ?_⟩
  · refine ⟨fun _ => ?_, fun z => nomatch z⟩
    walk_at "dl"
    refine cut_self ?_
    have e : sizesB d = false := by unfold sizesB; rw [show d.isT = false by simpa using hb]; rfl
    rw [e] at h; exact h
  obtain ⟨ps, rfl⟩ : ∃ ps, d = .tup ps := ⟨_, isT_ex (by simpa using hb)⟩
  have pp : ∀ x ∈ ps, x.pure = true := fun x hx => pure_its hd hx
  walk_at "dl"
  refine ⟨fun hb => ?_, fun hb => ?_⟩
  · walk_at "dl"
    refine cut_self ?_
    have e : sizesB (.tup ps) = false := by
      unfold sizesB
      rw [show decide ((DL.D.tup ps).its.length ≤ 12) = false from decide_eq_false (by have := of_decide_eq_true hb; show ¬ ps.length ≤ 12; omega)]
      simp
    rw [e] at h; exact h
  have hl : ps.length ≤ 12 := by have := of_decide_eq_false hb; omega
  walk_at "dl"
  refine wO_compMap ps (fun p => .bl (D.ge 2 p)) (fun _ _ => rfl) rfl (by omega) (fun p hp => ⟨_, rfl, ?_, ?_⟩) ?_
  · walk_at "dl"
  · walk_at "dl"
    refine is_whole_ok (pp p hp) ⟨_, rfl, fun hb => ?_, fun hb => ?_⟩
    · cases p with
      | int i =>
        walk_at "dl"
      | _ => cases hb
    · cases p <;> first | (cases hb; done) | exact ⟨rfl, rfl⟩
  walk_at "dl"
  refine wO_all rfl (blsOf_mapf (D.ge 2) ps) (cut_self ?_)
  have e : sizesB (.tup ps) = (ps.map (D.ge 2)).all id := by
    unfold sizesB
    rw [show (D.tup ps).isT = true from rfl, show (D.tup ps).its = ps from rfl, decide_eq_true hl, Bool.true_and, Bool.true_and, List.all_map]; rfl
  rw [e] at h; exact h
theorem is_hands_ok {ss : List DL.D} {d : DL.D} (hs : ∀ x ∈ ss, D.ge 2 x = true) (hl : ss.length ≤ 12) (hd : d.pure = true) (h : P (.bl (handB ss d)) S) : wO (m_is_hands K mg [.tup ss, d] S) P E := by
  refine wO_body ?_
  show wS (g_is_hands K mg [some (.tup ss), some d, none, none] S) _ _ _ _ _
  unfold g_is_hands
  walk_at "dl"
  rw [kits_tup]
  refine ⟨fun hb => ?_, fun hb => ?_⟩
  · refine ⟨fun _ => ?_, fun z => nomatch z⟩
    walk_at "dl"
    refine cut_self ?_
    have e : handB ss d = false := by unfold handB; rw [show d.isT = false by simpa using hb]; rfl
    rw [e] at h; exact h
  obtain ⟨ps, rfl⟩ : ∃ ps, d = .tup ps := ⟨_, isT_ex (by simpa using hb)⟩
  have pp : ∀ x ∈ ps, x.pure = true := fun x hx => pure_its hd hx
  walk_at "dl"
  refine ⟨fun hb => ?_, fun hb => ?_⟩
  · walk_at "dl"
    refine cut_self ?_
    have hn : ps.length ≠ ss.length := by
      simp only [Bool.not_eq_true', decide_eq_false_iff_not] at hb; omega
    have e : handB ss (.tup ps) = false := by
      unfold handB
      rw [show ((D.tup ps).its.length == ss.length) = false from beq_eq_false_iff_ne.mpr hn]
      simp
    rw [e] at h; exact h
  have hpl : ps.length = ss.length := by simp only [Bool.not_eq_false', decide_eq_true_eq] at hb; omega
  walk_at "dl"
  refine wO_compMap (zipL ps ss) (fun p => .bl (pairB p)) (zip_at ps ss) (zip_len ps ss _) (by rw [zipL_len]; omega) (fun p hp => ?_) ?_
  · obtain ⟨i, x, y, hx, hy, rfl⟩ := mem_zipL hp
    obtain ⟨n, rfl, hn⟩ := ge_ex (hs y (List.mem_of_getElem? hy))
    refine ⟨_, rfl, ?_, ?_⟩
    · walk_at "dl"
    · walk_at "dl"
      exact is_below_ok (pp x (List.mem_of_getElem? hx)) ⟨rfl, rfl⟩
  walk_at "dl"
  refine wO_all rfl (blsOf_mapf pairB (zipL ps ss)) (cut_self ?_)
  have e : handB ss (.tup ps) = ((zipL ps ss).map pairB).all id := by
    unfold handB
    rw [show (D.tup ps).isT = true from rfl, show (D.tup ps).its = ps from rfl, hpl, beq_self_eq_true, Bool.true_and, Bool.true_and, List.all_map]; rfl
  rw [e] at h; exact h
theorem okD_tup_take {xs : List DL.D} (h : okD (.tup xs) = true) (k : Nat) : okD (.tup (xs.take k)) = true := by
  have hm := fun x (hx : x ∈ xs.take k) => okD_its h x (List.mem_of_mem_take hx)
  have := (gd_lst (k := 63) hm (by decide)).1
  unfold okD SeqAt.shaped at this ⊢
  simp only [Bool.and_eq_true, decide_eq_true_eq] at this ⊢
  obtain ⟨h1, h2, h3⟩ := this
  exact ⟨h1, h2, h3⟩
theorem are_hands_ok {ss : List DL.D} {d : DL.D} (hs : ∀ x ∈ ss, D.ge 2 x = true) (hl : ss.length ≤ 12) (hd : d.pure = true) (ho : okD d = true) (h : P (.bl (handsB ss d)) S) : wO (m_are_hands K mg [.tup ss, d] S) P E := by
  refine wO_body ?_
  show wS (g_are_hands K mg [some (.tup ss), some d, none, none] S) _ _ _ _ _
  unfold g_are_hands
  walk_at "dl"
  rw [kits_tup]
  refine ⟨fun hb => ?_, fun hb => ?_⟩
  · refine ⟨fun _ => ?_, fun z => nomatch z⟩
    walk_at "dl"
    refine cut_self ?_
    have e : handsB ss d = false := by unfold handsB; rw [show d.isT = false by simpa using hb]; rfl
    rw [e] at h; exact h
  obtain ⟨ps, rfl⟩ : ∃ ps, d = .tup ps := ⟨_, isT_ex (by simpa using hb)⟩
  have pp : ∀ x ∈ ps, x.pure = true := fun x hx => pure_its hd hx
  have bad : (¬ (1 ≤ ps.length ∧ ps.length ≤ 12)) → handsB ss (.tup ps) = false := fun hn => by
    unfold handsB
    rw [show (D.tup ps).its = ps from rfl]
    by_cases h1 : 1 ≤ ps.length
    · rw [decide_eq_false (show ¬ ps.length ≤ 12 by omega)]; simp
    · rw [decide_eq_false h1]; simp
  walk_at "dl"
  refine ⟨fun h1 => ?_, fun h1 => ?_⟩
  rotate_left
  · walk_at "dl"
    refine ⟨fun _ => ?_, fun z => nomatch z⟩
    walk_at "dl"
    refine cut_self ?_
    rw [bad (by have := of_decide_eq_false h1; omega)] at h; exact h
  walk_at "dl"
  refine ⟨fun h2 => ?_, fun h2 => ?_⟩
  · walk_at "dl"
    refine cut_self ?_
    rw [bad (by simp only [Bool.not_eq_true', decide_eq_false_iff_not] at h2; omega)] at h; exact h
  have hpl : 1 ≤ ps.length ∧ ps.length ≤ 12 := by
    have := of_decide_eq_true h1
    simp only [Bool.not_eq_false', decide_eq_true_eq] at h2; omega
  have eall : handsB ss (.tup ps) = (ps.all (handB ss) && (numL 0 ps).all (newB ps)) := by
    unfold handsB
    rw [show (D.tup ps).isT = true from rfl, show (D.tup ps).its = ps from rfl, decide_eq_true hpl.1, decide_eq_true hpl.2, Bool.true_and, Bool.true_and, Bool.true_and]
  walk_at "dl"
  refine wO_compMap ps (fun p => .bl (handB ss p)) (fun _ _ => rfl) rfl (by omega) (fun p hp => ⟨_, rfl, ?_, ?_⟩) ?_
  · walk_at "dl"
  · walk_at "dl"
    exact is_hands_ok hs hl (pp p hp) ⟨rfl, rfl⟩
  walk_at "dl"
  refine wO_all rfl (blsOf_mapf (handB ss) ps) ?_
  have e3 : (ps.map (handB ss)).all id = ps.all (handB ss) := by rw [List.all_map]; rfl
  rw [e3]
  walk_at "dl"
  refine ⟨fun hb => ?_, fun hb => ?_⟩
  · walk_at "dl"
    refine cut_self ?_
    rw [eall, show ps.all (handB ss) = false by simpa using hb, Bool.false_and] at h; exact h
  walk_at "dl"
  refine wO_compMap (numL 0 ps) (fun p => .bl (newB ps p)) (enm_at ps) (enm_len ps _) (by rw [numL_len]; omega) (fun p hp => ?_) ?_
  · obtain ⟨i, x, hx, rfl⟩ := mem_numL hp
    rw [Nat.zero_add]
    have ox := (okD_its ho x (List.mem_of_getElem? hx)).1
    refine ⟨_, rfl, ?_, ?_⟩
    · walk_at "dl"
    · walk_at "dl"
      rw [cutD_take]
      refine wO_notInT ox (okD_tup_take ho i) ?_
      exact ⟨rfl, rfl⟩
  walk_at "dl"
  refine wO_all rfl (blsOf_mapf (newB ps) (numL 0 ps)) (cut_self ?_)
  have e4 : ((numL 0 ps).map (newB ps)).all id = (numL 0 ps).all (newB ps) := by rw [List.all_map]; rfl
  rw [e4]
  rw [eall, show ps.all (handB ss) = true by simpa using hb, Bool.true_and] at h; exact h
/-- what is no kind, and why -/
def wrongK (d : DL.D) : Option Int :=
  if d.isT && d.its.length == 2 then
    match d.its with
    | [a, b] => if sizesB a = true then (if handsB a.its b = true then none else some 1) else some 0
    | _ => none
  else some (-1)
def optD : Option Int → DL.D
  | none => .non
  | some i => .int i
theorem sizes_ex {d : DL.D} (h : sizesB d = true) : ∃ ss, d = .tup ss ∧ ss.length ≤ 12 ∧ ∀ x ∈ ss, D.ge 2 x = true := by
  unfold sizesB at h
  simp only [Bool.and_eq_true, decide_eq_true_eq, List.all_eq_true] at h
  obtain ⟨h1, h2, h3⟩ := h
  obtain ⟨ss, rfl⟩ : ∃ ss, d = .tup ss := ⟨_, isT_ex h1⟩
  exact ⟨ss, rfl, h2, h3⟩
theorem wrong_part_ok {d : DL.D} (hd : d.pure = true) (ho : okD d = true) (h : P (optD (wrongK d)) S) : wO (m_wrong_part K mg [d] S) P E := by
  refine wO_body ?_
  show wS (g_wrong_part K mg [some d] S) _ _ _ _ _
  unfold g_wrong_part
  walk_at "dl"
  rw [kits_tup]
  refine ⟨fun hb => ?_, fun hb => ?_⟩
  · refine ⟨fun _ => ?_, fun z => nomatch z⟩
    walk_at "dl"
    refine cut_self ?_
    have e : wrongK d = some (-1) := by unfold wrongK; rw [show d.isT = false by simpa using hb]; rfl
    rw [e] at h; exact h
  obtain ⟨ps, rfl⟩ : ∃ ps, d = .tup ps := ⟨_, isT_ex (by simpa using hb)⟩
  walk_at "dl"
  refine ⟨fun hb => ?_, fun hb => ?_⟩
  · walk_at "dl"
    refine cut_self ?_
    have e : wrongK (.tup ps) = some (-1) := by
      have hn : ps.length ≠ 2 := by simp only [Bool.not_eq_true', decide_eq_false_iff_not] at hb; omega
      unfold wrongK
      rw [show ((D.tup ps).its.length == 2) = false from beq_eq_false_iff_ne.mpr hn, Bool.and_false]; rfl
    rw [e] at h; exact h
  have hl : ps.length = 2 := by simp only [Bool.not_eq_false', decide_eq_true_eq] at hb; omega
  match ps, hl with
  | [a, b], _ =>
    have pa : a.pure = true := pure_its hd (show a ∈ [a, b] by simp)
    have pb : b.pure = true := pure_its hd (show b ∈ [a, b] by simp)
    have ob := (okD_its ho b (by simp)).1
    have ew : wrongK (.tup [a, b]) = if sizesB a = true then (if handsB a.its b = true then none else some 1) else some 0 := rfl
    rw [ew] at h
    walk_at "dl"
    refine is_sizes_ok pa ⟨_, rfl, fun hb => ?_, fun hb => ?_⟩
    · walk_at "dl"
      refine cut_self ?_
      rw [if_neg (by simpa using hb)] at h; exact h
    have hsz : sizesB a = true := by simpa using hb
    rw [if_pos hsz] at h
    obtain ⟨ss, rfl, l12, hge⟩ := sizes_ex hsz
    walk_at "dl"
    refine are_hands_ok hge l12 pb ob ⟨_, rfl, fun hb => ?_, fun hb => ?_⟩
    · walk_at "dl"
      refine cut_self ?_
      rw [show handsB (D.tup ss).its b = true from hb] at h; exact h
    · walk_at "dl"
      refine cut_self ?_
      rw [show handsB (D.tup ss).its b = false from hb] at h; exact h
theorem is_kind_ok {d : DL.D} (hd : d.pure = true) (ho : okD d = true) (h : P (.bl (wrongK d).isNone) S) : wO (m_is_kind K mg [d] S) P E := by
  refine wO_body ?_
  show wS (g_is_kind K mg [some d] S) _ _ _ _ _
  unfold g_is_kind
  walk_at "dl"
  refine wrong_part_ok hd ho ?_
  cases hw : wrongK d with
  | none => rw [hw] at h; walk_at "dl"; exact cut_self h
  | some i => rw [hw] at h; walk_at "dl"; exact cut_self h
theorem made_kind_ok {d : DL.D} (hd : d.pure = true) (ho : okD d = true) (h1 : wrongK d = none → P d S) (h2 : ∀ i, wrongK d = some i → E (clsOf mg "BadKind") (.int i) S) : wO (m_made_kind K mg [d] S) P E := by
  refine wO_body ?_
  show wS (g_made_kind K mg [some d, none] S) _ _ _ _ _
  unfold g_made_kind
  walk_at "dl"
  refine wrong_part_ok hd ho ?_
  cases hw : wrongK d with
  | none =>
    walk_at "dl"
    refine ⟨(fun z => nomatch z), fun _ => ?_⟩
    walk_at "dl"
    exact cut_self (h1 hw)
  | some i =>
    walk_at "dl"
    refine ⟨fun _ => ?_, fun z => nomatch z⟩
    walk_at "dl"
    exact cutX_self (h2 i hw)
end K23

set_option Elab.async false
set_option linter.all false
set_option maxRecDepth 100000
namespace K23
open PySem PySem.Spec PyProof.Rows L2 DL
local macro_rules | `(tactic| walk_at "dl1") => `(tactic| first
  | with_reducible refine wS_seq ?_
  | with_reducible refine wS_set ?_
  | with_reducible refine wS_ret ?_
  | with_reducible refine wS_expr ?_
  | with_reducible refine wS_if ?_
  | with_reducible refine wS_next ?_
  | with_reducible refine wS_raise ?_
  | with_reducible refine wS_asg ?_
  | with_reducible refine wS_par ?_
  | with_reducible refine wS_par3 ?_
  | with_reducible refine wS_aug ?_
  | with_reducible refine wS_retN ?_
  | with_reducible refine wS_for ?_
  | with_reducible refine wS_break ?_
  | with_reducible refine wS_cont ?_
  | ((with_reducible refine' wO_var ?he_ ?_); (case he_ => exact rfl))
  | with_reducible refine wO_c ?_
  | with_reducible refine wO_ok ?_
  | with_reducible refine wO_isE ?_
  | with_reducible refine wO_what ?_
  | with_reducible refine wS_gone ?_
  | with_reducible refine wS_try ?_
  | ((with_reducible refine' wO_fnL ?he_ ?_); (case he_ => exact rfl))
  | with_reducible refine wO_join ?_
  | with_reducible refine wO_lCons ?_
  | with_reducible refine wO_lLam ?_
  | with_reducible refine wO_bin ?_
  | with_reducible refine wO_cons ?_
  | with_reducible refine wO_nil ?_
  | with_reducible refine wO_call ?_
  | with_reducible refine wO_fn ?_
  | with_reducible refine wO_val ?_
  | with_reducible refine wO_bnot ?_
  | with_reducible refine wO_un ?_
  | with_reducible refine wO_and ?_
  | with_reducible refine wO_or ?_
  | with_reducible refine wO_not ?_
  | with_reducible refine wO_if ?_
  | with_reducible refine wO_tup ?_
  | with_reducible refine wO_lst ?_
  | with_reducible refine wO_lstM ?_
  | with_reducible refine wO_band ?_
  | with_reducible refine wO_bor ?_
  | with_reducible refine wO_btrue ?_
  | with_reducible refine wO_bif ?_
  | with_reducible refine wO_chain ?_
  | with_reducible refine wO_lm ?_
  | with_reducible refine wO_slA ?_
  | with_reducible refine wO_oNone ?_
  | with_reducible refine wO_oSome ?_
  | with_reducible refine wO_comp ?_
  | with_reducible refine wO_compN ?_
  | with_reducible refine wO_xLst ?_
  | with_reducible refine wO_xTup ?_
  | with_reducible refine wO_xEnum ?_
  | with_reducible refine wO_xZip ?_
  | with_reducible refine wO_xRng1 ?_
  | with_reducible refine wO_xRng2 ?_
  | with_reducible refine wO_xRng ?_
  | with_reducible refine wO_add ?_
  | with_reducible refine wO_sub ?_
  | with_reducible refine wO_neg ?_
  | with_reducible refine wO_lt ?_
  | with_reducible refine wO_le ?_
  | with_reducible refine wO_gt ?_
  | with_reducible refine wO_ge ?_
  | with_reducible refine wO_eqI ?_
  | with_reducible refine wO_neI ?_
  | with_reducible refine wO_isNon ?_
  | with_reducible refine wO_eqS (b := true) (by decide +kernel) (by decide +kernel) (by decide +kernel) ?_
  | with_reducible refine wO_eqS (b := false) (by decide +kernel) (by decide +kernel) (by decide +kernel) ?_
  | with_reducible refine wO_isNotNon ?_
  | with_reducible refine wO_isB ?_
  | with_reducible refine wO_isNotB ?_
  | with_reducible refine wO_int ?_
  | with_reducible refine wO_intB ?_
  | with_reducible refine wO_max2 ?_
  | with_reducible refine wO_min2 ?_
  | with_reducible refine wO_range ?_
  | with_reducible refine wO_augAdd ?_
  | ((with_reducible refine' wO_len ?he_ ?_); (case he_ => exact rfl))
  | ((with_reducible refine' wO_tuple ?he_ ?_); (case he_ => exact rfl))
  | ((with_reducible refine' wO_list ?he_ ?_); (case he_ => exact rfl))
  | ((with_reducible refine' wO_isi ?he_ ?hm_ ?_); (case he_ => first | rfl | assumption); (case hm_ => decide))
  | ((with_reducible refine' wO_ix ?he_ ?h2_ ?_); (case he_ => first | exact rfl | exact seqOf_ref (by assumption)); (case h2_ => exact rfl))
  | ((with_reducible refine' Exists.intro _ (And.intro ?hr_ ?_)); (case hr_ => exact rfl))
  | ((with_reducible refine' And.intro ?hr_ ?_); (case hr_ => first | exact rfl | exact Nat.le_of_ble_eq_true rfl | (decide; done)))
  | ((with_reducible refine' Exists.intro _ (Exists.intro _ (And.intro ?hr_ ?_))); (case hr_ => exact rfl))
  | ((with_reducible refine' Exists.intro _ (Exists.intro _ (Exists.intro _ (And.intro ?hr_ ?_)))); (case hr_ => exact rfl))
  | with_reducible rfl)
local macro_rules | `(tactic| walk_at "dl") => `(tactic| repeat (walk_at "dl1"))
local macro_rules | `(tactic| walk_at "br") => `(tactic| ((with_reducible refine And.intro (fun hb => ?_) (fun hb => ?_)) <;> try (exfalso; first | (cases hb; done) | (simp at hb; done) | (simp at hb; omega))))
local macro_rules | `(tactic| walk_at "dlb") => `(tactic| repeat' (first | walk_at "dl1" | walk_at "br" | fail))
variable {K : PySem.W.Frag} {mg : Str → Option Value} {P : PP DL.D} {E : EE} {S : Sto}
/-! ### states, places of hands -/
def statesN (p : DL.D) : Nat := (p.its[1]?.getD DL.D.non).its.length
theorem drop_at {ps : List DL.D} {i : Nat} {p : DL.D} (h : ps[i]? = some p) : ps.drop i = p :: ps.drop (i + 1) := by
  obtain ⟨hi, e⟩ := List.getElem?_eq_some_iff.mp h
  rw [List.drop_eq_getElem_cons hi, e]
theorem is_state_ok {ss hs : List DL.D} {d : DL.D} (hd : d.pure = true) (h : P (.bl (d.btw 0 ((statesN (.tup [.tup ss, .tup hs]) : Int) - 1))) S) : wO (m_is_state K mg [.tup [.tup ss, .tup hs], d] S) P E := by
  refine wO_body ?_
  show wS (g_is_state K mg [some (.tup [.tup ss, .tup hs]), some d] S) _ _ _ _ _
  unfold g_is_state
  walk_at "dl"
  exact is_below_ok hd (cut_self h)
def handAt (ss xs : List DL.D) (i : Nat) : Bool := match xs[i]?, ss[i]? with
  | some (.int h), some (.int n) => decide (0 ≤ h) && decide (h < n)
  | _, _ => false
theorem range_all_zip : ∀ (xs ss : List DL.D), xs.length = ss.length → (∀ x ∈ ss, D.ge 2 x = true) → ((List.range ss.length).all (handAt ss xs)) = (zipL xs ss).all pairB := by
  intro xs ss hl hs
  rw [Bool.eq_iff_iff, List.all_eq_true, List.all_eq_true]
  constructor
  · intro h p hp
    obtain ⟨i, x, y, hx, hy, rfl⟩ := mem_zipL hp
    obtain ⟨n, rfl, hn⟩ := ge_ex (hs y (List.mem_of_getElem? hy))
    have hi := (List.getElem?_eq_some_iff.mp hy).1
    have := h i (List.mem_range.mpr hi)
    unfold handAt at this
    rw [hx, hy] at this
    cases x with
    | int k =>
      simp only [Bool.and_eq_true, decide_eq_true_eq] at this
      show (DL.D.int k).btw 0 (n - 1) = true
      exact btw_int (by omega) (by omega)
    | _ => cases this
  · intro h i hi
    have hi' := List.mem_range.mp hi
    have hy : ss[i]? = some ss[i] := List.getElem?_eq_getElem hi'
    have hx : xs[i]? = some (xs[i]'(by omega)) := List.getElem?_eq_getElem (by omega)
    obtain ⟨n, en, hn⟩ := ge_ex (hs _ (List.getElem_mem hi'))
    have hz : (zipL xs ss)[i]? = some (.pr (xs[i]'(by omega)) ss[i]) := by
      rw [zipL_get]; unfold DL.pairAt; rw [hx, hy]
    have := h _ (List.mem_of_getElem? hz)
    unfold handAt
    rw [hx, hy, en]
    rw [en] at this
    generalize xs[i]'(by omega) = x at this
    cases x with
    | int k =>
      replace this : (DL.D.int k).btw 0 (n - 1) = true := this
      simp only [D.btw, Bool.and_eq_true, decide_eq_true_eq] at this ⊢
      omega
    | _ => cases this
def newAt (hs : List DL.D) (i : Nat) : Bool := match hs[i]? with
  | some h => !(D.Ps (hs.take i)).any fun z => PyData.eqv z h.P
  | none => true
theorem range_all_new (hs : List DL.D) : ((List.range hs.length).all (newAt hs)) = (numL 0 hs).all (newB hs) := by
  rw [Bool.eq_iff_iff, List.all_eq_true, List.all_eq_true]
  constructor
  · intro h p hp
    obtain ⟨i, x, hx, rfl⟩ := mem_numL hp
    have := h i (List.mem_range.mpr (List.getElem?_eq_some_iff.mp hx).1)
    unfold newAt at this
    rw [hx] at this
    rw [Nat.zero_add]
    exact this
  · intro h i hi
    have hi' := List.mem_range.mp hi
    have hx : hs[i]? = some hs[i] := List.getElem?_eq_getElem hi'
    have hz : (numL 0 hs)[i]? = some (.pr (.int ((i : Nat) : Int)) hs[i]) := by rw [numL_get, hx, Nat.zero_add]; rfl
    have := h _ (List.mem_of_getElem? hz)
    unfold newAt
    rw [hx]
    exact this
end K23

set_option Elab.async false
set_option linter.all false
set_option maxRecDepth 100000
namespace K23
open PySem PySem.Spec PyProof.Rows L2 DL
local macro_rules | `(tactic| walk_at "dl1") => `(tactic| first
  | with_reducible refine wS_seq ?_
  | with_reducible refine wS_set ?_
  | with_reducible refine wS_ret ?_
  | with_reducible refine wS_expr ?_
  | with_reducible refine wS_if ?_
  | with_reducible refine wS_next ?_
  | with_reducible refine wS_raise ?_
  | with_reducible refine wS_asg ?_
  | with_reducible refine wS_par ?_
  | with_reducible refine wS_par3 ?_
  | with_reducible refine wS_aug ?_
  | with_reducible refine wS_retN ?_
  | with_reducible refine wS_for ?_
  | with_reducible refine wS_break ?_
  | with_reducible refine wS_cont ?_
  | ((with_reducible refine' wO_var ?he_ ?_); (case he_ => exact rfl))
  | with_reducible refine wO_c ?_
  | with_reducible refine wO_ok ?_
  | with_reducible refine wO_isE ?_
  | with_reducible refine wO_what ?_
  | with_reducible refine wS_gone ?_
  | with_reducible refine wS_try ?_
  | ((with_reducible refine' wO_fnL ?he_ ?_); (case he_ => exact rfl))
  | with_reducible refine wO_join ?_
  | with_reducible refine wO_lCons ?_
  | with_reducible refine wO_lLam ?_
  | with_reducible refine wO_bin ?_
  | with_reducible refine wO_cons ?_
  | with_reducible refine wO_nil ?_
  | with_reducible refine wO_call ?_
  | with_reducible refine wO_fn ?_
  | with_reducible refine wO_val ?_
  | with_reducible refine wO_bnot ?_
  | with_reducible refine wO_un ?_
  | with_reducible refine wO_and ?_
  | with_reducible refine wO_or ?_
  | with_reducible refine wO_not ?_
  | with_reducible refine wO_if ?_
  | with_reducible refine wO_tup ?_
  | with_reducible refine wO_lst ?_
  | with_reducible refine wO_lstM ?_
  | with_reducible refine wO_band ?_
  | with_reducible refine wO_bor ?_
  | with_reducible refine wO_btrue ?_
  | with_reducible refine wO_bif ?_
  | with_reducible refine wO_chain ?_
  | with_reducible refine wO_lm ?_
  | with_reducible refine wO_slA ?_
  | with_reducible refine wO_oNone ?_
  | with_reducible refine wO_oSome ?_
  | with_reducible refine wO_comp ?_
  | with_reducible refine wO_compN ?_
  | with_reducible refine wO_xLst ?_
  | with_reducible refine wO_xTup ?_
  | with_reducible refine wO_xEnum ?_
  | with_reducible refine wO_xZip ?_
  | with_reducible refine wO_xRng1 ?_
  | with_reducible refine wO_xRng2 ?_
  | with_reducible refine wO_xRng ?_
  | with_reducible refine wO_add ?_
  | with_reducible refine wO_sub ?_
  | with_reducible refine wO_neg ?_
  | with_reducible refine wO_lt ?_
  | with_reducible refine wO_le ?_
  | with_reducible refine wO_gt ?_
  | with_reducible refine wO_ge ?_
  | with_reducible refine wO_eqI ?_
  | with_reducible refine wO_neI ?_
  | with_reducible refine wO_isNon ?_
  | with_reducible refine wO_eqS (b := true) (by decide +kernel) (by decide +kernel) (by decide +kernel) ?_
  | with_reducible refine wO_eqS (b := false) (by decide +kernel) (by decide +kernel) (by decide +kernel) ?_
  | with_reducible refine wO_isNotNon ?_
  | with_reducible refine wO_isB ?_
  | with_reducible refine wO_isNotB ?_
  | with_reducible refine wO_int ?_
  | with_reducible refine wO_intB ?_
  | with_reducible refine wO_max2 ?_
  | with_reducible refine wO_min2 ?_
  | with_reducible refine wO_range ?_
  | with_reducible refine wO_augAdd ?_
  | ((with_reducible refine' wO_len ?he_ ?_); (case he_ => exact rfl))
  | ((with_reducible refine' wO_tuple ?he_ ?_); (case he_ => exact rfl))
  | ((with_reducible refine' wO_list ?he_ ?_); (case he_ => exact rfl))
  | ((with_reducible refine' wO_isi ?he_ ?hm_ ?_); (case he_ => first | rfl | assumption); (case hm_ => decide))
  | ((with_reducible refine' wO_ix ?he_ ?h2_ ?_); (case he_ => first | exact rfl | exact seqOf_ref (by assumption)); (case h2_ => exact rfl))
  | ((with_reducible refine' Exists.intro _ (And.intro ?hr_ ?_)); (case hr_ => exact rfl))
  | ((with_reducible refine' And.intro ?hr_ ?_); (case hr_ => first | exact rfl | exact Nat.le_of_ble_eq_true rfl | (decide; done)))
  | ((with_reducible refine' Exists.intro _ (Exists.intro _ (And.intro ?hr_ ?_))); (case hr_ => exact rfl))
  | ((with_reducible refine' Exists.intro _ (Exists.intro _ (Exists.intro _ (And.intro ?hr_ ?_)))); (case hr_ => exact rfl))
  | with_reducible rfl)
local macro_rules | `(tactic| walk_at "dl") => `(tactic| repeat (walk_at "dl1"))
local macro_rules | `(tactic| walk_at "br") => `(tactic| ((with_reducible refine And.intro (fun hb => ?_) (fun hb => ?_)) <;> try (exfalso; first | (cases hb; done) | (simp at hb; done) | (simp at hb; omega))))
local macro_rules | `(tactic| walk_at "dlb") => `(tactic| repeat' (first | walk_at "dl1" | walk_at "br" | fail))
variable {K : PySem.W.Frag} {mg : Str → Option Value} {P : PP DL.D} {E : EE} {S : Sto}
/-! ### the law's own eye on kinds -/
theorem all_range_succ (p : Nat → Bool) (n : Nat) : (List.range (n + 1)).all p = ((List.range n).all p && p n) := by
  rw [List.range_succ, List.all_append]; simp
theorem law_is_amount_ok {ss : List DL.D} {d : DL.D} (hs : ∀ x ∈ ss, D.ge 2 x = true) (hl : ss.length ≤ 12) (hd : d.pure = true) (h : P (.bl (handB ss d)) S) : wO (m__law_is_amount K mg [.tup ss, d] S) P E := by
  refine wO_body ?_
  show wS (g__law_is_amount K mg [some (.tup ss), some d, none] S) _ _ _ _ _
  unfold g__law_is_amount
  walk_at "dl"
  rw [kits_tup]
  refine ⟨fun hb => ?_, fun hb => ?_⟩
  · refine ⟨fun _ => ?_, fun z => nomatch z⟩
    walk_at "dl"
    refine cut_self ?_
    have e : handB ss d = false := by unfold handB; rw [show d.isT = false by simpa using hb]; rfl
    rw [e] at h; exact h
  obtain ⟨ps, rfl⟩ : ∃ ps, d = .tup ps := ⟨_, isT_ex (by simpa using hb)⟩
  have pp : ∀ x ∈ ps, x.pure = true := fun x hx => pure_its hd hx
  walk_at "dl"
  refine ⟨fun hb => ?_, fun hb => ?_⟩
  · walk_at "dl"
    refine cut_self ?_
    have hn : ps.length ≠ ss.length := by
      simp only [Bool.not_eq_true', decide_eq_false_iff_not] at hb; omega
    have e : handB ss (.tup ps) = false := by
      unfold handB
      rw [show ((D.tup ps).its.length == ss.length) = false from beq_eq_false_iff_ne.mpr hn]
      simp
    rw [e] at h; exact h
  have hpl : ps.length = ss.length := by simp only [Bool.not_eq_false', decide_eq_true_eq] at hb; omega
  have eh : handB ss (.tup ps) = (List.range ss.length).all (handAt ss ps) := by
    unfold handB
    rw [show (DL.D.tup ps).isT = true from rfl, show (DL.D.tup ps).its = ps from rfl, hpl, beq_self_eq_true, Bool.true_and, Bool.true_and, range_all_zip ps ss hpl hs]
  have hbb : -(2 ^ 62) ≤ (ss.length : Int) ∧ (ss.length : Int) < 2 ^ 62 := by omega
  walk_at "dl"
  refine ⟨hbb, ?_⟩
  rw [Int.toNat_natCast]
  refine wS_forRng0 (n := ss.length) (fun i ρ S' => S' = S ∧ (List.range i).all (handAt ss ps) = true ∧ ∃ p, ρ = [some (.tup ss), some (.tup ps), p]) ⟨rfl, rfl, _, rfl⟩ (fun i ρ S' hi ⟨e1, z1, p, e2⟩ => ?_) fun ρ S' ⟨e1, z1, p, e2⟩ => ?_
  · subst e1 e2
    refine ⟨_, _, rfl, ?_⟩
    have hy : ss[i]? = some ss[i] := List.getElem?_eq_getElem hi
    have hx : ps[i]? = some (ps[i]'(by omega)) := List.getElem?_eq_getElem (by omega)
    obtain ⟨n, en, hn⟩ := ge_ex (hs _ (List.getElem_mem hi))
    have px := pp _ (List.getElem_mem (show i < ps.length by omega))
    have ea : handAt ss ps i = match ps[i]'(by omega) with
      | .int h => decide (0 ≤ h) && decide (h < n)
      | _ => false := by
      unfold handAt
      rw [hx, hy, en]
      cases ps[i]'(by omega) <;> rfl
    have bad : handAt ss ps i = false → P (.bl false) S' := fun z => by
      have : handB ss (.tup ps) = false := by
        rw [eh]
        cases e : (List.range ss.length).all (handAt ss ps) with
        | false => rfl
        | true => rw [List.all_eq_true.mp e i (List.mem_range.mpr hi)] at z; cases z
      rw [this] at h; exact h
    have good : handAt ss ps i = true → (List.range (i + 1)).all (handAt ss ps) = true := fun z => by rw [all_range_succ, z1, z]; rfl
    rw [ea] at bad good
    rw [en] at hy
    generalize ps[i]'(by omega) = x at *
    walk_at "dl"
    refine wO_ix rfl (DL.atI_nat hx) ?_
    cases x with
    | int k =>
      walk_at "dl"
      refine ⟨fun z => by (dsimp only [DL.D.tn] at z; exact absurd z (by decide +kernel)), fun _ => ?_⟩
      walk_at "dl"
      refine wO_ix rfl (DL.atI_nat hx) ?_
      walk_at "dl"
      refine ⟨fun z => by (dsimp only [DL.D.tn] at z; exact absurd z (by decide +kernel)), fun _ => ?_⟩
      walk_at "dl"
      refine wO_ix rfl (DL.atI_nat hx) ?_
      walk_at "dl"
      refine ⟨fun h0 => ?_, fun h0 => ?_⟩
      · walk_at "dl"
        refine wO_ix rfl (DL.atI_nat hy) ?_
        walk_at "dl"
        refine ⟨fun hb => ?_, fun hb => ?_⟩
        · walk_at "dl"
          refine cut_self (bad ?_)
          show (decide (0 ≤ k) && decide (k < n)) = false
          rw [show decide (k < n) = false by simpa using hb, Bool.and_false]
        · walk_at "dl"
          refine ⟨good ?_, _, rfl⟩
          show (decide (0 ≤ k) && decide (k < n)) = true
          rw [h0, show decide (k < n) = true by simpa using hb]; rfl
      · walk_at "dl"
        refine ⟨fun _ => ?_, fun z => nomatch z⟩
        walk_at "dl"
        refine cut_self (bad ?_)
        show (decide (0 ≤ k) && decide (k < n)) = false
        rw [h0]; rfl
    | bl b =>
      walk_at "dl"
      refine ⟨fun z => by (dsimp only [DL.D.tn] at z; exact absurd z (by decide +kernel)), fun _ => ?_⟩
      walk_at "dl"
      refine wO_ix rfl (DL.atI_nat hx) ?_
      walk_at "dl"
      refine ⟨fun _ => ⟨fun _ => ?_, fun z => nomatch z⟩, fun z => by (dsimp only [DL.D.tn] at z; exact absurd z (by decide +kernel))⟩
      walk_at "dl"
      exact cut_self (bad rfl)
    | _ =>
      walk_at "dl"
      refine ⟨fun _ => ⟨fun _ => ?_, fun z => nomatch z⟩, fun z => by (dsimp only [DL.D.tn] at z; exact absurd z (by decide +kernel))⟩
      walk_at "dl"
      exact cut_self (bad rfl)
  · subst e1 e2
    walk_at "dl"
    refine cut_self ?_
    rw [eh, z1] at h; exact h
end K23

set_option Elab.async false
set_option linter.all false
set_option maxRecDepth 100000
namespace K23
open PySem PySem.Spec PyProof.Rows L2 DL
local macro_rules | `(tactic| walk_at "dl1") => `(tactic| first
  | with_reducible refine wS_seq ?_
  | with_reducible refine wS_set ?_
  | with_reducible refine wS_ret ?_
  | with_reducible refine wS_expr ?_
  | with_reducible refine wS_if ?_
  | with_reducible refine wS_next ?_
  | with_reducible refine wS_raise ?_
  | with_reducible refine wS_asg ?_
  | with_reducible refine wS_par ?_
  | with_reducible refine wS_par3 ?_
  | with_reducible refine wS_aug ?_
  | with_reducible refine wS_retN ?_
  | with_reducible refine wS_for ?_
  | with_reducible refine wS_break ?_
  | with_reducible refine wS_cont ?_
  | ((with_reducible refine' wO_var ?he_ ?_); (case he_ => exact rfl))
  | with_reducible refine wO_c ?_
  | with_reducible refine wO_ok ?_
  | with_reducible refine wO_isE ?_
  | with_reducible refine wO_what ?_
  | with_reducible refine wS_gone ?_
  | with_reducible refine wS_try ?_
  | ((with_reducible refine' wO_fnL ?he_ ?_); (case he_ => exact rfl))
  | with_reducible refine wO_join ?_
  | with_reducible refine wO_lCons ?_
  | with_reducible refine wO_lLam ?_
  | with_reducible refine wO_bin ?_
  | with_reducible refine wO_cons ?_
  | with_reducible refine wO_nil ?_
  | with_reducible refine wO_call ?_
  | with_reducible refine wO_fn ?_
  | with_reducible refine wO_val ?_
  | with_reducible refine wO_bnot ?_
  | with_reducible refine wO_un ?_
  | with_reducible refine wO_and ?_
  | with_reducible refine wO_or ?_
  | with_reducible refine wO_not ?_
  | with_reducible refine wO_if ?_
  | with_reducible refine wO_tup ?_
  | with_reducible refine wO_lst ?_
  | with_reducible refine wO_lstM ?_
  | with_reducible refine wO_band ?_
  | with_reducible refine wO_bor ?_
  | with_reducible refine wO_btrue ?_
  | with_reducible refine wO_bif ?_
  | with_reducible refine wO_chain ?_
  | with_reducible refine wO_lm ?_
  | with_reducible refine wO_slA ?_
  | with_reducible refine wO_oNone ?_
  | with_reducible refine wO_oSome ?_
  | with_reducible refine wO_comp ?_
  | with_reducible refine wO_compN ?_
  | with_reducible refine wO_xLst ?_
  | with_reducible refine wO_xTup ?_
  | with_reducible refine wO_xEnum ?_
  | with_reducible refine wO_xZip ?_
  | with_reducible refine wO_xRng1 ?_
  | with_reducible refine wO_xRng2 ?_
  | with_reducible refine wO_xRng ?_
  | with_reducible refine wO_add ?_
  | with_reducible refine wO_sub ?_
  | with_reducible refine wO_neg ?_
  | with_reducible refine wO_lt ?_
  | with_reducible refine wO_le ?_
  | with_reducible refine wO_gt ?_
  | with_reducible refine wO_ge ?_
  | with_reducible refine wO_eqI ?_
  | with_reducible refine wO_neI ?_
  | with_reducible refine wO_isNon ?_
  | with_reducible refine wO_eqS (b := true) (by decide +kernel) (by decide +kernel) (by decide +kernel) ?_
  | with_reducible refine wO_eqS (b := false) (by decide +kernel) (by decide +kernel) (by decide +kernel) ?_
  | with_reducible refine wO_isNotNon ?_
  | with_reducible refine wO_isB ?_
  | with_reducible refine wO_isNotB ?_
  | with_reducible refine wO_int ?_
  | with_reducible refine wO_intB ?_
  | with_reducible refine wO_max2 ?_
  | with_reducible refine wO_min2 ?_
  | with_reducible refine wO_range ?_
  | with_reducible refine wO_augAdd ?_
  | ((with_reducible refine' wO_len ?he_ ?_); (case he_ => exact rfl))
  | ((with_reducible refine' wO_tuple ?he_ ?_); (case he_ => exact rfl))
  | ((with_reducible refine' wO_list ?he_ ?_); (case he_ => exact rfl))
  | ((with_reducible refine' wO_isi ?he_ ?hm_ ?_); (case he_ => first | rfl | assumption); (case hm_ => decide))
  | ((with_reducible refine' wO_ix ?he_ ?h2_ ?_); (case he_ => first | exact rfl | exact seqOf_ref (by assumption)); (case h2_ => exact rfl))
  | ((with_reducible refine' Exists.intro _ (And.intro ?hr_ ?_)); (case hr_ => exact rfl))
  | ((with_reducible refine' And.intro ?hr_ ?_); (case hr_ => first | exact rfl | exact Nat.le_of_ble_eq_true rfl | (decide; done)))
  | ((with_reducible refine' Exists.intro _ (Exists.intro _ (And.intro ?hr_ ?_))); (case hr_ => exact rfl))
  | ((with_reducible refine' Exists.intro _ (Exists.intro _ (Exists.intro _ (And.intro ?hr_ ?_)))); (case hr_ => exact rfl))
  | with_reducible rfl)
local macro_rules | `(tactic| walk_at "dl") => `(tactic| repeat (walk_at "dl1"))
local macro_rules | `(tactic| walk_at "br") => `(tactic| ((with_reducible refine And.intro (fun hb => ?_) (fun hb => ?_)) <;> try (exfalso; first | (cases hb; done) | (simp at hb; done) | (simp at hb; omega))))
local macro_rules | `(tactic| walk_at "dlb") => `(tactic| repeat' (first | walk_at "dl1" | walk_at "br" | fail))
variable {K : PySem.W.Frag} {mg : Str → Option Value} {P : PP DL.D} {E : EE} {S : Sto}
theorem law_wrong_kind_ok {d : DL.D} (hd : d.pure = true) (ho : okD d = true) (h : P (optD (wrongK d)) S) : wO (m__law_wrong_kind K mg [d] S) P E := by
  refine wO_body ?_
  show wS (g__law_wrong_kind K mg [some d, none, none, none, none] S) _ _ _ _ _
  unfold g__law_wrong_kind
  walk_at "dl"
  rw [kits_tup]
  refine ⟨fun hb => ?_, fun hb => ?_⟩
  · refine ⟨fun _ => ?_, fun z => nomatch z⟩
    walk_at "dl"
    refine cut_self ?_
    have e : wrongK d = some (-1) := by unfold wrongK; rw [show d.isT = false by simpa using hb]; rfl
    rw [e] at h; exact h
  obtain ⟨ps, rfl⟩ : ∃ ps, d = .tup ps := ⟨_, isT_ex (by simpa using hb)⟩
  walk_at "dl"
  refine ⟨fun hb => ?_, fun hb => ?_⟩
  · walk_at "dl"
    refine cut_self ?_
    have e : wrongK (.tup ps) = some (-1) := by
      have hn : ps.length ≠ 2 := by simp only [Bool.not_eq_true', decide_eq_false_iff_not] at hb; omega
      unfold wrongK
      rw [show ((D.tup ps).its.length == 2) = false from beq_eq_false_iff_ne.mpr hn, Bool.and_false]; rfl
    rw [e] at h; exact h
  have hl : ps.length = 2 := by simp only [Bool.not_eq_false', decide_eq_true_eq] at hb; omega
  match ps, hl with
  | [a, b], _ =>
    have pa : a.pure = true := pure_its hd (show a ∈ [a, b] by simp)
    have pb : b.pure = true := pure_its hd (show b ∈ [a, b] by simp)
    have oa := (okD_its ho a (by simp)).1
    have ob := (okD_its ho b (by simp)).1
    have ew : wrongK (.tup [a, b]) = if sizesB a = true then (if handsB a.its b = true then none else some 1) else some 0 := rfl
    rw [ew] at h
    walk_at "dl"
    rw [kits_tup]
    have bad0 : sizesB a = false → P (.int 0) S := fun e => by rw [e] at h; exact h
    refine ⟨fun hb => ?_, fun hb => ?_⟩
    · refine ⟨fun _ => ?_, fun z => nomatch z⟩
      walk_at "dl"
      refine cut_self (bad0 ?_)
      unfold sizesB; rw [show a.isT = false by simpa using hb]; rfl
    obtain ⟨ss, rfl⟩ : ∃ ss, a = .tup ss := ⟨_, isT_ex (by simpa using hb)⟩
    walk_at "dl"
    refine ⟨fun hb => ?_, fun hb => ?_⟩
    · walk_at "dl"
      refine cut_self (bad0 ?_)
      unfold sizesB
      rw [show decide ((DL.D.tup ss).its.length ≤ 12) = false from decide_eq_false (by have := of_decide_eq_true hb; show ¬ ss.length ≤ 12; omega)]
      simp
    have l12 : ss.length ≤ 12 := by have := of_decide_eq_false hb; omega
    have es : sizesB (.tup ss) = ss.all (D.ge 2) := by
      unfold sizesB
      rw [show (DL.D.tup ss).isT = true from rfl, show (DL.D.tup ss).its = ss from rfl, decide_eq_true l12, Bool.true_and, Bool.true_and]
    walk_at "dl"
    refine wS_forTup ss (fun done ρ S' => S' = S ∧ done.all (D.ge 2) = true ∧ ∃ p, ρ = [some (.tup [.tup ss, b]), some (.tup ss), some b, p, none]) ⟨rfl, rfl, _, rfl⟩ (fun done x rest ρ S' e ⟨e1, z1, p, e2⟩ => ?_) fun ρ S' ⟨e1, z1, p, e2⟩ => ?_
    · subst e1 e2
      refine ⟨_, _, rfl, ?_⟩
      have px := pure_its pa (show x ∈ ss by rw [e]; simp)
      have bad : D.ge 2 x = false → P (.int 0) S' := fun z => bad0 (by
        rw [es, e, List.all_append, List.all_cons, z]; simp)
      have good : D.ge 2 x = true → (done ++ [x]).all (D.ge 2) = true := fun z => by rw [List.all_append, z1, List.all_cons, z]; rfl
      cases x with
      | int i =>
        walk_at "dl"
        refine ⟨fun z => by (dsimp only [DL.D.tn] at z; exact absurd z (by decide +kernel)), fun _ => ?_⟩
        walk_at "dl"
        refine ⟨fun z => by (dsimp only [DL.D.tn] at z; exact absurd z (by decide +kernel)), fun _ => ?_⟩
        walk_at "dl"
        refine ⟨fun hb => ?_, fun hb => ?_⟩
        · walk_at "dl"
          refine cut_self (bad ?_)
          have := of_decide_eq_true hb
          exact decide_eq_false (by omega)
        · walk_at "dl"
          refine ⟨good ?_, _, rfl⟩
          have := of_decide_eq_false hb
          exact decide_eq_true (by omega)
      | bl c =>
        walk_at "dl"
        refine ⟨fun z => by (dsimp only [DL.D.tn] at z; exact absurd z (by decide +kernel)), fun _ => ?_⟩
        walk_at "dl"
        refine ⟨fun _ => ⟨fun _ => ?_, fun z => nomatch z⟩, fun z => by (dsimp only [DL.D.tn] at z; exact absurd z (by decide +kernel))⟩
        walk_at "dl"
        exact cut_self (bad rfl)
      | _ =>
        walk_at "dl"
        refine ⟨fun _ => ⟨fun _ => ?_, fun z => nomatch z⟩, fun z => by (dsimp only [DL.D.tn] at z; exact absurd z (by decide +kernel))⟩
        walk_at "dl"
        exact cut_self (bad rfl)
    subst e1 e2
    have hge : ∀ x ∈ ss, D.ge 2 x = true := List.all_eq_true.mp z1
    rw [es, z1, if_pos rfl] at h
    have bad1 : handsB ss b = false → P (.int 1) S' := fun e => by rw [show (DL.D.tup ss).its = ss from rfl, e] at h; exact h
    walk_at "dl"
    rw [kits_tup]
    refine ⟨fun hb => ?_, fun hb => ?_⟩
    · refine ⟨fun _ => ?_, fun z => nomatch z⟩
      walk_at "dl"
      refine cut_self (bad1 ?_)
      unfold handsB; rw [show b.isT = false by simpa using hb]; rfl
    obtain ⟨hs, rfl⟩ : ∃ hs, b = .tup hs := ⟨_, isT_ex (by simpa using hb)⟩
    have badl : (¬ (1 ≤ hs.length ∧ hs.length ≤ 12)) → handsB ss (.tup hs) = false := fun hn => by
      unfold handsB
      rw [show (D.tup hs).its = hs from rfl]
      by_cases h1 : 1 ≤ hs.length
      · rw [decide_eq_false (show ¬ hs.length ≤ 12 by omega)]; simp
      · rw [decide_eq_false h1]; simp
    walk_at "dl"
    refine ⟨fun h1 => ?_, fun h1 => ?_⟩
    rotate_left
    · walk_at "dl"
      refine ⟨fun _ => ?_, fun z => nomatch z⟩
      walk_at "dl"
      exact cut_self (bad1 (badl (by have := of_decide_eq_false h1; omega)))
    walk_at "dl"
    refine ⟨fun h2 => ?_, fun h2 => ?_⟩
    · walk_at "dl"
      exact cut_self (bad1 (badl (by simp only [Bool.not_eq_true', decide_eq_false_iff_not] at h2; omega)))
    have hpl : 1 ≤ hs.length ∧ hs.length ≤ 12 := by
      have := of_decide_eq_true h1
      simp only [Bool.not_eq_false', decide_eq_true_eq] at h2; omega
    have eall : handsB ss (.tup hs) = (hs.all (handB ss) && (numL 0 hs).all (newB hs)) := by
      unfold handsB
      rw [show (D.tup hs).isT = true from rfl, show (D.tup hs).its = hs from rfl, decide_eq_true hpl.1, decide_eq_true hpl.2, Bool.true_and, Bool.true_and, Bool.true_and]
    have hbb : -(2 ^ 62) ≤ (hs.length : Int) ∧ (hs.length : Int) < 2 ^ 62 := by omega
    walk_at "dl"
    refine ⟨hbb, ?_⟩
    rw [Int.toNat_natCast]
    refine wS_forRng0 (n := hs.length) (fun i ρ S2 => S2 = S' ∧ ((hs.take i).all (handB ss) = true ∧ (List.range i).all (newAt hs) = true) ∧ ∃ p q, ρ = [some (.tup [.tup ss, .tup hs]), some (.tup ss), some (.tup hs), p, q]) ⟨rfl, ⟨rfl, rfl⟩, _, _, rfl⟩ (fun i ρ S2 hi ⟨e1, ⟨z2, z3⟩, p, q, e2⟩ => ?_) fun ρ S2 ⟨e1, ⟨z2, z3⟩, p, q, e2⟩ => ?_
    · subst e1 e2
      refine ⟨_, _, rfl, ?_⟩
      have hx : hs[i]? = some hs[i] := List.getElem?_eq_getElem hi
      have ox := (okD_its ob _ (List.getElem_mem hi)).1
      have px := pure_its pb (List.getElem_mem hi)
      have en : newAt hs i = !(D.Ps (hs.take i)).any fun z => PyData.eqv z (hs[i]).P := by
        unfold newAt
        rw [hx]
      have badA : handB ss hs[i] = false → P (.int 1) S2 := fun z => bad1 (by
        rw [eall]
        cases e : hs.all (handB ss) with
        | false => rfl
        | true => rw [List.all_eq_true.mp e _ (List.getElem_mem hi)] at z; cases z)
      have badB : newAt hs i = false → P (.int 1) S2 := fun z => bad1 (by
        rw [eall, ← range_all_new]
        cases e : (List.range hs.length).all (newAt hs) with
        | false => rw [Bool.and_false]
        | true => rw [List.all_eq_true.mp e i (List.mem_range.mpr hi)] at z; cases z)
      have goodA : handB ss hs[i] = true → (hs.take (i + 1)).all (handB ss) = true := fun z => by
        rw [List.take_succ_eq_append_getElem hi, List.all_append, z2, List.all_cons, z]; rfl
      have goodB : newAt hs i = true → (List.range (i + 1)).all (newAt hs) = true := fun z => by rw [all_range_succ, z3, z]; rfl
      rw [en] at badB goodB
      generalize hs[i] = x at *
      walk_at "dl"
      refine wO_ix rfl (DL.atI_nat hx) ?_
      walk_at "dl"
      refine law_is_amount_ok hge l12 px ⟨_, rfl, fun hb => ?_, fun hb => ?_⟩
      · refine ⟨fun _ => ?_, fun z => nomatch z⟩
        walk_at "dl"
        exact cut_self (badA (by simpa using hb))
      · walk_at "dl"
        refine wO_ix rfl (DL.atI_nat hx) ?_
        walk_at "dl"
        rw [cutD_take]
        refine wO_inT ox (okD_tup_take ob i) ⟨_, rfl, fun hc => ?_, fun hc => ?_⟩
        · walk_at "dl"
          refine cut_self (badB ?_)
          rw [hc]; rfl
        · walk_at "dl"
          refine ⟨⟨goodA (by simpa using hb), goodB ?_⟩, _, _, rfl⟩
          rw [hc]; rfl
    · subst e1 e2
      walk_at "dl"
      refine cut_self ?_
      rw [List.take_length] at z2
      rw [show (DL.D.tup ss).its = ss from rfl, eall, z2, Bool.true_and, ← range_all_new, z3, if_pos rfl] at h
      exact h
end K23

set_option Elab.async false
set_option linter.all false
set_option maxRecDepth 100000
namespace K23
open PySem PySem.Spec PyProof.Rows L2 DL
local macro_rules | `(tactic| walk_at "dl1") => `(tactic| first
  | with_reducible refine wS_seq ?_
  | with_reducible refine wS_set ?_
  | with_reducible refine wS_ret ?_
  | with_reducible refine wS_expr ?_
  | with_reducible refine wS_if ?_
  | with_reducible refine wS_next ?_
  | with_reducible refine wS_raise ?_
  | with_reducible refine wS_asg ?_
  | with_reducible refine wS_par ?_
  | with_reducible refine wS_par3 ?_
  | with_reducible refine wS_aug ?_
  | with_reducible refine wS_retN ?_
  | with_reducible refine wS_for ?_
  | with_reducible refine wS_break ?_
  | with_reducible refine wS_cont ?_
  | ((with_reducible refine' wO_var ?he_ ?_); (case he_ => exact rfl))
  | with_reducible refine wO_c ?_
  | with_reducible refine wO_ok ?_
  | with_reducible refine wO_isE ?_
  | with_reducible refine wO_what ?_
  | with_reducible refine wS_gone ?_
  | with_reducible refine wS_try ?_
  | ((with_reducible refine' wO_fnL ?he_ ?_); (case he_ => exact rfl))
  | with_reducible refine wO_join ?_
  | with_reducible refine wO_lCons ?_
  | with_reducible refine wO_lLam ?_
  | with_reducible refine wO_bin ?_
  | with_reducible refine wO_cons ?_
  | with_reducible refine wO_nil ?_
  | with_reducible refine wO_call ?_
  | with_reducible refine wO_fn ?_
  | with_reducible refine wO_val ?_
  | with_reducible refine wO_bnot ?_
  | with_reducible refine wO_un ?_
  | with_reducible refine wO_and ?_
  | with_reducible refine wO_or ?_
  | with_reducible refine wO_not ?_
  | with_reducible refine wO_if ?_
  | with_reducible refine wO_tup ?_
  | with_reducible refine wO_lst ?_
  | with_reducible refine wO_lstM ?_
  | with_reducible refine wO_band ?_
  | with_reducible refine wO_bor ?_
  | with_reducible refine wO_btrue ?_
  | with_reducible refine wO_bif ?_
  | with_reducible refine wO_chain ?_
  | with_reducible refine wO_lm ?_
  | with_reducible refine wO_slA ?_
  | with_reducible refine wO_oNone ?_
  | with_reducible refine wO_oSome ?_
  | with_reducible refine wO_comp ?_
  | with_reducible refine wO_compN ?_
  | with_reducible refine wO_xLst ?_
  | with_reducible refine wO_xTup ?_
  | with_reducible refine wO_xEnum ?_
  | with_reducible refine wO_xZip ?_
  | with_reducible refine wO_xRng1 ?_
  | with_reducible refine wO_xRng2 ?_
  | with_reducible refine wO_xRng ?_
  | with_reducible refine wO_add ?_
  | with_reducible refine wO_sub ?_
  | with_reducible refine wO_neg ?_
  | with_reducible refine wO_lt ?_
  | with_reducible refine wO_le ?_
  | with_reducible refine wO_gt ?_
  | with_reducible refine wO_ge ?_
  | with_reducible refine wO_eqI ?_
  | with_reducible refine wO_neI ?_
  | with_reducible refine wO_isNon ?_
  | with_reducible refine wO_eqS (b := true) (by decide +kernel) (by decide +kernel) (by decide +kernel) ?_
  | with_reducible refine wO_eqS (b := false) (by decide +kernel) (by decide +kernel) (by decide +kernel) ?_
  | with_reducible refine wO_isNotNon ?_
  | with_reducible refine wO_isB ?_
  | with_reducible refine wO_isNotB ?_
  | with_reducible refine wO_int ?_
  | with_reducible refine wO_intB ?_
  | with_reducible refine wO_max2 ?_
  | with_reducible refine wO_min2 ?_
  | with_reducible refine wO_range ?_
  | with_reducible refine wO_augAdd ?_
  | ((with_reducible refine' wO_len ?he_ ?_); (case he_ => exact rfl))
  | ((with_reducible refine' wO_tuple ?he_ ?_); (case he_ => exact rfl))
  | ((with_reducible refine' wO_list ?he_ ?_); (case he_ => exact rfl))
  | ((with_reducible refine' wO_isi ?he_ ?hm_ ?_); (case he_ => first | rfl | assumption); (case hm_ => decide))
  | ((with_reducible refine' wO_ix ?he_ ?h2_ ?_); (case he_ => first | exact rfl | exact seqOf_ref (by assumption)); (case h2_ => exact rfl))
  | ((with_reducible refine' Exists.intro _ (And.intro ?hr_ ?_)); (case hr_ => exact rfl))
  | ((with_reducible refine' And.intro ?hr_ ?_); (case hr_ => first | exact rfl | exact Nat.le_of_ble_eq_true rfl | (decide; done)))
  | ((with_reducible refine' Exists.intro _ (Exists.intro _ (And.intro ?hr_ ?_))); (case hr_ => exact rfl))
  | ((with_reducible refine' Exists.intro _ (Exists.intro _ (Exists.intro _ (And.intro ?hr_ ?_)))); (case hr_ => exact rfl))
  | with_reducible rfl)
local macro_rules | `(tactic| walk_at "dl") => `(tactic| repeat (walk_at "dl1"))
local macro_rules | `(tactic| walk_at "br") => `(tactic| ((with_reducible refine And.intro (fun hb => ?_) (fun hb => ?_)) <;> try (exfalso; first | (cases hb; done) | (simp at hb; done) | (simp at hb; omega))))
local macro_rules | `(tactic| walk_at "dlb") => `(tactic| repeat' (first | walk_at "dl1" | walk_at "br" | fail))
variable {K : PySem.W.Frag} {mg : Str → Option Value} {P : PP DL.D} {E : EE} {S : Sto}
/-! ### draws -/
theorem wO_take {n : Nat} {t : Int} (h : Sr S n) (h0 : 0 < t) (h1 : t < 2 ^ 64) (q : ∀ (v : Nat) S', (v : Int) < t → St n S S' → P (.int (v : Int)) S') : wO (m__law_take K mg [.ref n, .int t] S) P E :=
  take_ok h h0 h1 fun v S' v0 v1 hs => by
    obtain ⟨k, rfl⟩ := Int.eq_ofNat_of_zero_le v0
    exact q k S' v1 hs
theorem one_ok {n : Nat} {xs : List DL.D} (hs : Sr S n) (hl : xs ≠ []) (hl2 : xs.length < 1000000) (hp : ∀ x ∈ xs, x.pure = true) (q : ∀ d S', d ∈ xs → St n S S' → P d S') : wO (m__law_one K mg [.ref n, .lst xs] S) P E := by
  refine wO_body ?_
  show wS (g__law_one K mg [some (.ref n), some (.lst xs)] S) _ _ _ _ _
  unfold g__law_one
  have h0 : 0 < xs.length := List.length_pos_iff.mpr hl
  walk_at "dl"
  refine wO_take hs (by omega) (by omega) fun v S' hv st => ?_
  have hv' : v < xs.length := by omega
  refine wO_ix rfl (DL.atI_nat (List.getElem?_eq_getElem hv')) ?_
  have m : xs[v] ∈ xs := List.getElem_mem hv'
  refine Dr.cut (n := n) (T := []) ?_ (hp _ m) fun S'' s'' => q _ _ m s''
  exact (Dr.mk hs).st st hs.lt
theorem one_ref_ok {n r : Nat} {xs : List DL.D} (hs : Sr S n) (hr : S[r]? = some (.lst xs)) (hne : r ≠ n) (hl : xs ≠ []) (hl2 : xs.length < 1000000) (hp : ∀ x ∈ xs, x.pure = true) (q : ∀ d S', d ∈ xs → St n S S' → P d S') : wO (m__law_one K mg [.ref n, .ref r] S) P E := by
  refine wO_body ?_
  show wS (g__law_one K mg [some (.ref n), some (.ref r)] S) _ _ _ _ _
  unfold g__law_one
  have h0 : 0 < xs.length := List.length_pos_iff.mpr hl
  walk_at "dl"
  refine wO_len (seqOf_ref hr) ?_
  walk_at "dl"
  refine wO_take hs (by omega) (by omega) fun v S' hv st => ?_
  have hv' : v < xs.length := by omega
  refine wO_ix (seqOf_ref (by rw [st.ne hne]; exact hr)) (DL.atI_nat (List.getElem?_eq_getElem hv')) ?_
  have m : xs[v] ∈ xs := List.getElem_mem hv'
  refine Dr.cut (n := n) (T := []) ?_ (hp _ m) fun S'' s'' => q _ _ m s''
  exact (Dr.mk hs).st st hs.lt
/-! ### draws -/
theorem perm_erase {α : Type} : ∀ {l : List α} {i : Nat} {x : α}, l[i]? = some x → List.Perm (x :: l.eraseIdx i) l
  | [], _, _, h => by simp at h
  | a :: l, 0, x, h => by
    simp only [List.getElem?_cons_zero, Option.some.injEq] at h
    subst h
    exact List.Perm.refl _
  | a :: l, i + 1, x, h => by
    rw [List.getElem?_cons_succ] at h
    rw [List.eraseIdx_cons_succ]
    exact (List.Perm.swap a x _).trans ((perm_erase h).cons a)
theorem mixed_ok {n : Nat} {xs : List DL.D} (hs : Sr S n) (hlen : xs.length < 100000) (hp : ∀ x ∈ xs, x.pure = true) (q : ∀ ys S', List.Perm ys xs → St n S S' → P (.lst ys) S') : wO (m__law_mixed K mg [.ref n, .lst xs] S) P E := by
  have hl := hs.lt
  refine wO_body ?_
  show wS (g__law_mixed K mg [some (.ref n), some (.lst xs), none, none, none] S) _ _ _ _ _
  unfold g__law_mixed
  have hbb : -(2 ^ 62) ≤ (xs.length : Int) ∧ (xs.length : Int) < 2 ^ 62 := by omega
  walk_at "dl"
  refine wO_listM (xs := xs) rfl ?_
  walk_at "dl"
  refine ⟨hbb, ?_⟩
  rw [Int.toNat_natCast]
  have d0 := ((Dr.mk hs).push (.lst xs)).push (.lst [])
  have e0 : (S ++ [MO.lst xs]).length = S.length + 1 := by simp
  rw [e0]
  refine wS_forRng0 (fun k ρ S' => ∃ rs ys p4, Dr n S [.lst rs, .lst ys] S' ∧ rs.length + k = xs.length ∧ ys.length = k ∧ List.Perm (ys ++ rs) xs ∧ ρ = [some (.ref n), some (.lst xs), some (.ref S.length), some (.ref (S.length + 1)), p4])
    ⟨xs, [], _, d0, rfl, rfl, List.Perm.refl _, rfl⟩ (fun k ρ S' hk ⟨rs, ys, p4, dr, l1, l2, pm, g⟩ => ?_) fun ρ S' ⟨rs, ys, p4, dr, l1, l2, pm, g⟩ => ?_
  · subst g
    refine ⟨_, _, rfl, ?_⟩
    have g1 : S'[S.length + 1]? = some (.lst ys) := dr.get 1
    have g0 : S'[S.length]? = some (.lst rs) := dr.get 0
    walk_at "dl"
    refine ⟨lstOf_some g1, ?_⟩
    walk_at "dl"
    refine ⟨lstOf_some g0, ?_⟩
    walk_at "dl"
    refine wO_len (seqOf_ref g0) ?_
    walk_at "dl"
    refine wO_take (dr.src hl) (by omega) (by omega) fun v S2 hv s2 => ?_
    have d2 := dr.st s2 hl
    have hv' : v < rs.length := by omega
    have hr : rs[v]? = some rs[v] := List.getElem?_eq_getElem hv'
    walk_at "dl"
    refine wO_pop (by have := d2.get 0; exact this) hr (by omega) ?_
    have d3 : Dr n S [.lst (rs.eraseIdx v), .lst ys] (S2.set S.length (.lst (rs.eraseIdx v))) := by have := d2.set 0 (.lst (rs.eraseIdx v)); exact this
    walk_at "dl"
    refine wO_append (by have := d3.get 1; exact this) (by omega) ?_
    refine ⟨rs.eraseIdx v, ys ++ [rs[v]], _, by have := d3.set 1 (.lst (ys ++ [rs[v]])); exact this, by rw [List.length_eraseIdx_of_lt hv']; omega, by simp [l2], ?_, rfl⟩
    refine List.Perm.trans ?_ pm
    rw [List.append_assoc]
    refine List.Perm.append_left ys ?_
    exact perm_erase hr
  · subst g
    walk_at "dl"
    have hr : rs = [] := List.length_eq_zero_iff.mp (by omega)
    subst hr
    rw [List.append_nil] at pm
    exact dr.cutRef (k := 1) rfl (fun x hx => hp x (pm.mem_iff.mp hx)) fun S'' st => q ys S'' pm st
end K23

set_option Elab.async false
set_option linter.all false
set_option maxRecDepth 100000
namespace K23
open PySem PySem.Spec PyProof.Rows L2 DL
local macro_rules | `(tactic| walk_at "dl1") => `(tactic| first
  | with_reducible refine wS_seq ?_
  | with_reducible refine wS_set ?_
  | with_reducible refine wS_ret ?_
  | with_reducible refine wS_expr ?_
  | with_reducible refine wS_if ?_
  | with_reducible refine wS_next ?_
  | with_reducible refine wS_raise ?_
  | with_reducible refine wS_asg ?_
  | with_reducible refine wS_par ?_
  | with_reducible refine wS_par3 ?_
  | with_reducible refine wS_aug ?_
  | with_reducible refine wS_retN ?_
  | with_reducible refine wS_for ?_
  | with_reducible refine wS_break ?_
  | with_reducible refine wS_cont ?_
  | ((with_reducible refine' wO_var ?he_ ?_); (case he_ => exact rfl))
  | with_reducible refine wO_c ?_
  | with_reducible refine wO_ok ?_
  | with_reducible refine wO_isE ?_
  | with_reducible refine wO_what ?_
  | with_reducible refine wS_gone ?_
  | with_reducible refine wS_try ?_
  | ((with_reducible refine' wO_fnL ?he_ ?_); (case he_ => exact rfl))
  | with_reducible refine wO_join ?_
  | with_reducible refine wO_lCons ?_
  | with_reducible refine wO_lLam ?_
  | with_reducible refine wO_bin ?_
  | with_reducible refine wO_cons ?_
  | with_reducible refine wO_nil ?_
  | with_reducible refine wO_call ?_
  | with_reducible refine wO_fn ?_
  | with_reducible refine wO_val ?_
  | with_reducible refine wO_bnot ?_
  | with_reducible refine wO_un ?_
  | with_reducible refine wO_and ?_
  | with_reducible refine wO_or ?_
  | with_reducible refine wO_not ?_
  | with_reducible refine wO_if ?_
  | with_reducible refine wO_tup ?_
  | with_reducible refine wO_lst ?_
  | with_reducible refine wO_lstM ?_
  | with_reducible refine wO_band ?_
  | with_reducible refine wO_bor ?_
  | with_reducible refine wO_btrue ?_
  | with_reducible refine wO_bif ?_
  | with_reducible refine wO_chain ?_
  | with_reducible refine wO_lm ?_
  | with_reducible refine wO_slA ?_
  | with_reducible refine wO_oNone ?_
  | with_reducible refine wO_oSome ?_
  | with_reducible refine wO_comp ?_
  | with_reducible refine wO_compN ?_
  | with_reducible refine wO_xLst ?_
  | with_reducible refine wO_xTup ?_
  | with_reducible refine wO_xEnum ?_
  | with_reducible refine wO_xZip ?_
  | with_reducible refine wO_xRng1 ?_
  | with_reducible refine wO_xRng2 ?_
  | with_reducible refine wO_xRng ?_
  | with_reducible refine wO_add ?_
  | with_reducible refine wO_sub ?_
  | with_reducible refine wO_neg ?_
  | with_reducible refine wO_lt ?_
  | with_reducible refine wO_le ?_
  | with_reducible refine wO_gt ?_
  | with_reducible refine wO_ge ?_
  | with_reducible refine wO_eqI ?_
  | with_reducible refine wO_neI ?_
  | with_reducible refine wO_isNon ?_
  | with_reducible refine wO_eqS (b := true) (by decide +kernel) (by decide +kernel) (by decide +kernel) ?_
  | with_reducible refine wO_eqS (b := false) (by decide +kernel) (by decide +kernel) (by decide +kernel) ?_
  | with_reducible refine wO_isNotNon ?_
  | with_reducible refine wO_isB ?_
  | with_reducible refine wO_isNotB ?_
  | with_reducible refine wO_int ?_
  | with_reducible refine wO_intB ?_
  | with_reducible refine wO_max2 ?_
  | with_reducible refine wO_min2 ?_
  | with_reducible refine wO_range ?_
  | with_reducible refine wO_augAdd ?_
  | ((with_reducible refine' wO_len ?he_ ?_); (case he_ => exact rfl))
  | ((with_reducible refine' wO_tuple ?he_ ?_); (case he_ => exact rfl))
  | ((with_reducible refine' wO_list ?he_ ?_); (case he_ => exact rfl))
  | ((with_reducible refine' wO_isi ?he_ ?hm_ ?_); (case he_ => first | rfl | assumption); (case hm_ => decide))
  | ((with_reducible refine' wO_ix ?he_ ?h2_ ?_); (case he_ => first | exact rfl | exact seqOf_ref (by assumption)); (case h2_ => exact rfl))
  | ((with_reducible refine' Exists.intro _ (And.intro ?hr_ ?_)); (case hr_ => exact rfl))
  | ((with_reducible refine' And.intro ?hr_ ?_); (case hr_ => first | exact rfl | exact Nat.le_of_ble_eq_true rfl | (decide; done)))
  | ((with_reducible refine' Exists.intro _ (Exists.intro _ (And.intro ?hr_ ?_))); (case hr_ => exact rfl))
  | ((with_reducible refine' Exists.intro _ (Exists.intro _ (Exists.intro _ (And.intro ?hr_ ?_)))); (case hr_ => exact rfl))
  | with_reducible rfl)
local macro_rules | `(tactic| walk_at "dl") => `(tactic| repeat (walk_at "dl1"))
local macro_rules | `(tactic| walk_at "br") => `(tactic| ((with_reducible refine And.intro (fun hb => ?_) (fun hb => ?_)) <;> try (exfalso; first | (cases hb; done) | (simp at hb; done) | (simp at hb; omega))))
local macro_rules | `(tactic| walk_at "dlb") => `(tactic| repeat' (first | walk_at "dl1" | walk_at "br" | fail))
variable {K : PySem.W.Frag} {mg : Str → Option Value} {P : PP DL.D} {E : EE} {S : Sto}
def nxtA (found : List (List Nat)) (s : Nat) : List (List Nat) := found.flatMap fun l => (List.range s).map fun k => l ++ [k]
def allA (sz : List Nat) : List (List Nat) := sz.foldl nxtA [[]]
def aD (l : List Nat) : DL.D := .tup (l.map fun (k : Nat) => .int (k : Int))
theorem allA_snoc (sz : List Nat) (s : Nat) : allA (sz ++ [s]) = nxtA (allA sz) s := by
  unfold allA
  rw [List.foldl_append]; rfl
theorem nxtA_len (f : List (List Nat)) (s : Nat) : (nxtA f s).length = f.length * s := by
  unfold nxtA
  rw [flatMap_len (k := s) fun _ _ => by simp]
theorem mem_nxtA {f : List (List Nat)} {s : Nat} {l : List Nat} : l ∈ nxtA f s ↔ ∃ l0 ∈ f, ∃ k, k < s ∧ l = l0 ++ [k] := by
  unfold nxtA
  simp only [List.mem_flatMap, List.mem_map, List.mem_range]
  constructor
  · rintro ⟨l0, h0, k, hk, rfl⟩; exact ⟨l0, h0, k, hk, rfl⟩
  · rintro ⟨l0, h0, k, hk, rfl⟩; exact ⟨l0, h0, k, hk, rfl⟩
theorem nxtA_nodup {f : List (List Nat)} {s : Nat} (h : f.Nodup) : (nxtA f s).Nodup := by
  unfold nxtA
  induction f with
  | nil => simp
  | cons l f ih =>
    rw [List.nodup_cons] at h
    rw [List.flatMap_cons, List.nodup_append]
    refine ⟨?_, ih h.2, ?_⟩
    · exact List.Pairwise.map _ (fun a b (hab : a ≠ b) e => hab (by simpa using e)) (List.nodup_range : (List.range s).Nodup)
    · intro a ha b hb e
      subst e
      obtain ⟨k, _, rfl⟩ := List.mem_map.mp ha
      obtain ⟨l0, h0, hm⟩ := List.mem_flatMap.mp hb
      obtain ⟨k', _, e'⟩ := List.mem_map.mp hm
      have := List.append_inj' e' rfl
      exact h.1 (this.1 ▸ h0)
end K23

set_option Elab.async false
set_option linter.all false
set_option maxRecDepth 100000
namespace K23
open PySem PySem.Spec PyProof.Rows L2 DL
local macro_rules | `(tactic| walk_at "dl1") => `(tactic| first
  | with_reducible refine wS_seq ?_
  | with_reducible refine wS_set ?_
  | with_reducible refine wS_ret ?_
  | with_reducible refine wS_expr ?_
  | with_reducible refine wS_if ?_
  | with_reducible refine wS_next ?_
  | with_reducible refine wS_raise ?_
  | with_reducible refine wS_asg ?_
  | with_reducible refine wS_par ?_
  | with_reducible refine wS_par3 ?_
  | with_reducible refine wS_aug ?_
  | with_reducible refine wS_retN ?_
  | with_reducible refine wS_for ?_
  | with_reducible refine wS_break ?_
  | with_reducible refine wS_cont ?_
  | ((with_reducible refine' wO_var ?he_ ?_); (case he_ => exact rfl))
  | with_reducible refine wO_c ?_
  | with_reducible refine wO_ok ?_
  | with_reducible refine wO_isE ?_
  | with_reducible refine wO_what ?_
  | with_reducible refine wS_gone ?_
  | with_reducible refine wS_try ?_
  | ((with_reducible refine' wO_fnL ?he_ ?_); (case he_ => exact rfl))
  | with_reducible refine wO_join ?_
  | with_reducible refine wO_lCons ?_
  | with_reducible refine wO_lLam ?_
  | with_reducible refine wO_bin ?_
  | with_reducible refine wO_cons ?_
  | with_reducible refine wO_nil ?_
  | with_reducible refine wO_call ?_
  | with_reducible refine wO_fn ?_
  | with_reducible refine wO_val ?_
  | with_reducible refine wO_bnot ?_
  | with_reducible refine wO_un ?_
  | with_reducible refine wO_and ?_
  | with_reducible refine wO_or ?_
  | with_reducible refine wO_not ?_
  | with_reducible refine wO_if ?_
  | with_reducible refine wO_tup ?_
  | with_reducible refine wO_lst ?_
  | with_reducible refine wO_lstM ?_
  | with_reducible refine wO_band ?_
  | with_reducible refine wO_bor ?_
  | with_reducible refine wO_btrue ?_
  | with_reducible refine wO_bif ?_
  | with_reducible refine wO_chain ?_
  | with_reducible refine wO_lm ?_
  | with_reducible refine wO_slA ?_
  | with_reducible refine wO_oNone ?_
  | with_reducible refine wO_oSome ?_
  | with_reducible refine wO_comp ?_
  | with_reducible refine wO_compN ?_
  | with_reducible refine wO_xLst ?_
  | with_reducible refine wO_xTup ?_
  | with_reducible refine wO_xEnum ?_
  | with_reducible refine wO_xZip ?_
  | with_reducible refine wO_xRng1 ?_
  | with_reducible refine wO_xRng2 ?_
  | with_reducible refine wO_xRng ?_
  | with_reducible refine wO_add ?_
  | with_reducible refine wO_sub ?_
  | with_reducible refine wO_neg ?_
  | with_reducible refine wO_lt ?_
  | with_reducible refine wO_le ?_
  | with_reducible refine wO_gt ?_
  | with_reducible refine wO_ge ?_
  | with_reducible refine wO_eqI ?_
  | with_reducible refine wO_neI ?_
  | with_reducible refine wO_isNon ?_
  | with_reducible refine wO_eqS (b := true) (by decide +kernel) (by decide +kernel) (by decide +kernel) ?_
  | with_reducible refine wO_eqS (b := false) (by decide +kernel) (by decide +kernel) (by decide +kernel) ?_
  | with_reducible refine wO_isNotNon ?_
  | with_reducible refine wO_isB ?_
  | with_reducible refine wO_isNotB ?_
  | with_reducible refine wO_int ?_
  | with_reducible refine wO_intB ?_
  | with_reducible refine wO_max2 ?_
  | with_reducible refine wO_min2 ?_
  | with_reducible refine wO_range ?_
  | with_reducible refine wO_augAdd ?_
  | ((with_reducible refine' wO_len ?he_ ?_); (case he_ => exact rfl))
  | ((with_reducible refine' wO_tuple ?he_ ?_); (case he_ => exact rfl))
  | ((with_reducible refine' wO_list ?he_ ?_); (case he_ => exact rfl))
  | ((with_reducible refine' wO_isi ?he_ ?hm_ ?_); (case he_ => first | rfl | assumption); (case hm_ => decide))
  | ((with_reducible refine' wO_ix ?he_ ?h2_ ?_); (case he_ => first | exact rfl | exact seqOf_ref (by assumption)); (case h2_ => exact rfl))
  | ((with_reducible refine' Exists.intro _ (And.intro ?hr_ ?_)); (case hr_ => exact rfl))
  | ((with_reducible refine' And.intro ?hr_ ?_); (case hr_ => first | exact rfl | exact Nat.le_of_ble_eq_true rfl | (decide; done)))
  | ((with_reducible refine' Exists.intro _ (Exists.intro _ (And.intro ?hr_ ?_))); (case hr_ => exact rfl))
  | ((with_reducible refine' Exists.intro _ (Exists.intro _ (Exists.intro _ (And.intro ?hr_ ?_)))); (case hr_ => exact rfl))
  | with_reducible rfl)
local macro_rules | `(tactic| walk_at "dl") => `(tactic| repeat (walk_at "dl1"))
local macro_rules | `(tactic| walk_at "br") => `(tactic| ((with_reducible refine And.intro (fun hb => ?_) (fun hb => ?_)) <;> try (exfalso; first | (cases hb; done) | (simp at hb; done) | (simp at hb; omega))))
local macro_rules | `(tactic| walk_at "dlb") => `(tactic| repeat' (first | walk_at "dl1" | walk_at "br" | fail))
variable {K : PySem.W.Frag} {mg : Str → Option Value} {P : PP DL.D} {E : EE} {S : Sto}
def nD (k : Nat) : DL.D := .int (k : Int)
theorem wS_forOf {N : DL.Env → Sto → Prop} {R : DL.D → Sto → Prop} {X : Addr → DL.D → DL.Env → Sto → Prop} {B Ct : DL.Env → Sto → Prop} {ρ : DL.Env} {S : Sto} {T : GF} {body : SF} {d : DL.D} (xs : List DL.D) (I : List DL.D → DL.Env → Sto → Prop) (hs : ∀ done ρ S, I done ρ S → lstOf S d = some xs) (h0 : I [] ρ S)
    (step : ∀ done x rest ρ S, xs = done ++ x :: rest → I done ρ S → ∃ ρ1 S1, T x ρ S = .nx ρ1 S1 ∧ wS (body ρ1 S1) (I (done ++ [x])) R X (N) (I (done ++ [x]))) (fin : ∀ ρ S, I xs ρ S → N ρ S) :
    wS (forL (.lst d) T body ((Src.lst d).len S + 1) 0 ρ S) N R X B Ct := by
  have hl : (Src.lst d).len S = xs.length := by simp only [Src.len, hs _ _ _ h0]
  rw [hl]
  exact wS_forL xs I (fun done ρ S h i => by simp only [Src.at', hs _ _ _ h, Option.map]) step fin xs [] ρ S rfl h0
def ltL : List Nat → List Nat → Prop
  | [], [] => True
  | a :: l, s :: sz => a < s ∧ ltL l sz
  | _, _ => False
theorem mem_foldA : ∀ {sz : List Nat} {f : List (List Nat)} {l : List Nat}, l ∈ sz.foldl nxtA f → ∃ l0 ∈ f, ∃ l1, l = l0 ++ l1 ∧ ltL l1 sz
  | [], f, l, h => ⟨l, h, [], (List.append_nil l).symm, trivial⟩
  | s :: sz, f, l, h => by
    obtain ⟨l0, h0, l1, rfl, hl⟩ := mem_foldA (sz := sz) (f := nxtA f s) h
    obtain ⟨l2, h2, k, hk, rfl⟩ := mem_nxtA.mp h0
    exact ⟨l2, h2, k :: l1, by simp, hk, hl⟩
theorem mem_allA {sz l : List Nat} (h : l ∈ allA sz) : ltL l sz := by
  obtain ⟨l0, h0, l1, rfl, hl⟩ := mem_foldA h
  cases List.mem_singleton.mp h0
  exact hl
theorem ltL_len : ∀ {l sz : List Nat}, ltL l sz → l.length = sz.length
  | [], [], _ => rfl
  | a :: l, s :: sz, h => by rw [List.length_cons, List.length_cons, ltL_len h.2]
  | [], _ :: _, h => h.elim
  | _ :: _, [], h => h.elim
theorem lstOf_of_get {S : Sto} {n : Nat} {xs : List DL.D} (h : S[n]? = some (.lst xs)) : lstOf S (.ref n) = some xs := by unfold lstOf; simp only [h]
theorem nxtA_snoc (f : List (List Nat)) (l : List Nat) (s : Nat) : nxtA (f ++ [l]) s = nxtA f s ++ (List.range s).map fun k => l ++ [k] := by
  unfold nxtA
  rw [List.flatMap_append, List.flatMap_cons, List.flatMap_nil, List.append_nil]
theorem all_amounts_ok {sz : List Nat} (h2 : sz.length ≤ 2) (h6 : ∀ s ∈ sz, s ≤ 6) (h : P (.lst ((allA sz).map aD)) S) : wO (m__law_v_all_amounts K mg [.tup (sz.map nD)] S) P E := by
  have small : ∀ k, (allA (sz.take k)).length ≤ 6 ^ (sz.take k).length := fun k => by
    induction k with
    | zero => exact Nat.le_refl _
    | succ k ih =>
      by_cases hk : k < sz.length
      · rw [List.take_succ_eq_append_getElem hk, allA_snoc, nxtA_len, List.length_append]
        exact Nat.mul_le_mul ih (h6 _ (List.getElem_mem hk))
      · rw [List.take_of_length_le (by omega)]
        rw [List.take_of_length_le (by omega)] at ih
        exact ih
  refine wO_body ?_
  show wS (g__law_v_all_amounts K mg [some (.tup (sz.map nD)), none, none, none, none, none] S) _ _ _ _ _
  unfold g__law_v_all_amounts
  walk_at "dl"
  refine wS_forTup (sz.map nD) (fun done ρ S' => ∃ T d p2 p3 p4, S' = S ++ T ∧ (d = .lst ((allA (sz.take done.length)).map aD) ∨ ∃ k, d = .ref (S.length + k) ∧ T[k]? = some (.lst ((allA (sz.take done.length)).map aD))) ∧ ρ = [some (.tup (sz.map nD)), some d, p2, p3, p4, none])
    ⟨[], _, _, _, _, (List.append_nil S).symm, .inl rfl, rfl⟩ (fun done x rest ρ S' e ⟨T, d, p2, p3, p4, e1, e2, g⟩ => ?_) fun ρ S' ⟨T, d, p2, p3, p4, e1, e2, g⟩ => ?_
  · subst g
    have hk : done.length < sz.length := by have := congrArg List.length e; simp at this; omega
    have ex : x = nD sz[done.length] := by
      have : (sz.map nD)[done.length]? = some x := by rw [e, List.getElem?_append_right (Nat.le_refl _), Nat.sub_self]; rfl
      rw [List.getElem?_map, List.getElem?_eq_getElem hk] at this
      exact (Option.some.inj this).symm
    subst ex
    have hs6 := h6 _ (List.getElem_mem hk)
    have hfl : (allA (sz.take done.length)).length ≤ 36 := by
      refine Nat.le_trans (small _) ?_
      have : (sz.take done.length).length ≤ 2 := by rw [List.length_take]; omega
      exact Nat.pow_le_pow_right (n := 6) (by decide) this
    have enx : allA (sz.take (done ++ [nD sz[done.length]]).length) = nxtA (allA (sz.take done.length)) sz[done.length] := by
      rw [List.length_append, List.length_singleton, List.take_succ_eq_append_getElem hk, allA_snoc]
    simp only [enx]
    have hlen : ∀ l ∈ allA (sz.take done.length), l.length ≤ 2 := fun l hl => by
      rw [ltL_len (mem_allA hl), List.length_take]; omega
    clear enx e small
    generalize sz[done.length] = s at *
    generalize allA (sz.take done.length) = found at *
    have hd : ∀ o : MO, lstOf (S ++ T ++ [o]) d = some (found.map aD) := fun o => by
      rcases e2 with rfl | ⟨k, rfl, hk⟩
      · rfl
      · refine lstOf_of_get ?_
        rw [List.append_assoc, List.getElem?_append_right (by omega), Nat.add_sub_cancel_left, List.getElem?_append_left (List.getElem?_eq_some_iff.mp hk).1]
        exact hk
    subst e1
    refine ⟨_, _, rfl, ?_⟩
    walk_at "dl"
    refine ⟨by rw [hd]; rfl, ?_⟩
    refine wS_forOf (found.map aD) (fun dn ρ S' => ∃ p4, S' = S ++ T ++ [.lst ((nxtA (found.take dn.length) s).map aD)] ∧ ρ = [some (.tup (sz.map nD)), some d, some (nD s), some (.ref (S ++ T).length), p4, none])
      (fun dn ρ S' ⟨p4, z, _⟩ => by rw [z]; exact hd _) ⟨_, rfl, rfl⟩ (fun dn x rest ρ S' e ⟨p4, e1, g⟩ => ?_) fun ρ S' ⟨p4, e1, g⟩ => ?_
    · subst e1; subst g
      have hdn : dn.length < found.length := by have := congrArg List.length e; simp at this; omega
      have ex : x = aD found[dn.length] := by
        have : (found.map aD)[dn.length]? = some x := by rw [e, List.getElem?_append_right (Nat.le_refl _), Nat.sub_self]; rfl
        rw [List.getElem?_map, List.getElem?_eq_getElem hdn] at this
        exact (Option.some.inj this).symm
      subst ex
      have etk : found.take (dn ++ [aD found[dn.length]]).length = found.take dn.length ++ [found[dn.length]] := by
        rw [List.length_append, List.length_singleton, List.take_succ_eq_append_getElem hdn]
      simp only [etk, nxtA_snoc]
      have hl36 : (nxtA (found.take dn.length) s).length ≤ 36 * 6 := by
        rw [nxtA_len, List.length_take]
        exact Nat.mul_le_mul (by omega) hs6
      have hxl := hlen _ (List.getElem_mem hdn)
      generalize found[dn.length] = l at *
      refine ⟨_, _, rfl, ?_⟩
      have hbb : -(2 ^ 62) ≤ (s : Int) ∧ (s : Int) < 2 ^ 62 := by omega
      walk_at "dl"
      refine ⟨lstOf_some (sto_get _ _ _), ?_⟩
      walk_at "dl"
      refine ⟨hbb, ?_⟩
      rw [Int.toNat_natCast]
      refine wO_compRng (n := s) (fun k => aD (l ++ [k])) (by omega) (fun k hk => ⟨_, rfl, ?_, ?_⟩) ?_
      · walk_at "dl"
      · walk_at "dl"
        refine wO_addT ?_ ?_
        · simp; omega
        · exact ⟨by unfold aD; rw [List.map_append]; rfl, rfl⟩
      walk_at "dl"
      refine wO_extend (sto_get _ _ _) rfl (by simp; omega) ?_
      rw [sto_set]
      refine ⟨_, ?_, rfl⟩
      rw [List.map_append, List.map_map]; rfl
    · subst e1; subst g
      walk_at "dl"
      rw [List.length_map, List.take_length]
      exact ⟨_, _, _, _, _, List.append_assoc S T _, .inr ⟨T.length, by rw [List.length_append], by rw [List.getElem?_append_right (Nat.le_refl _), Nat.sub_self]; rfl⟩, rfl⟩
  · subst e1; subst g
    rw [List.length_map, List.take_of_length_le (Nat.le_refl _)] at e2
    have pure : ∀ x ∈ (allA sz).map aD, x.pure = true := fun x hx => by
      obtain ⟨l, _, rfl⟩ := List.mem_map.mp hx
      refine pure_tup fun y hy => ?_
      obtain ⟨k, _, rfl⟩ := List.mem_map.mp hy
      rfl
    walk_at "dl"
    rcases e2 with rfl | ⟨k, rfl, hk⟩
    · refine cut_tmp ?_ h
      simp only [D.pure, pures_all]
      exact List.all_eq_true.mpr pure
    · exact wO_eq (cut_ref hk (closeds_mem pure)) h
end K23

set_option Elab.async false
set_option linter.all false
set_option maxRecDepth 100000
namespace K23
open PySem PySem.Spec PyProof.Rows L2 DL
local macro_rules | `(tactic| walk_at "dl1") => `(tactic| first
  | with_reducible refine wS_seq ?_
  | with_reducible refine wS_set ?_
  | with_reducible refine wS_ret ?_
  | with_reducible refine wS_expr ?_
  | with_reducible refine wS_if ?_
  | with_reducible refine wS_next ?_
  | with_reducible refine wS_raise ?_
  | with_reducible refine wS_asg ?_
  | with_reducible refine wS_par ?_
  | with_reducible refine wS_par3 ?_
  | with_reducible refine wS_aug ?_
  | with_reducible refine wS_retN ?_
  | with_reducible refine wS_for ?_
  | with_reducible refine wS_break ?_
  | with_reducible refine wS_cont ?_
  | ((with_reducible refine' wO_var ?he_ ?_); (case he_ => exact rfl))
  | with_reducible refine wO_c ?_
  | with_reducible refine wO_ok ?_
  | with_reducible refine wO_isE ?_
  | with_reducible refine wO_what ?_
  | with_reducible refine wS_gone ?_
  | with_reducible refine wS_try ?_
  | ((with_reducible refine' wO_fnL ?he_ ?_); (case he_ => exact rfl))
  | with_reducible refine wO_join ?_
  | with_reducible refine wO_lCons ?_
  | with_reducible refine wO_lLam ?_
  | with_reducible refine wO_bin ?_
  | with_reducible refine wO_cons ?_
  | with_reducible refine wO_nil ?_
  | with_reducible refine wO_call ?_
  | with_reducible refine wO_fn ?_
  | with_reducible refine wO_val ?_
  | with_reducible refine wO_bnot ?_
  | with_reducible refine wO_un ?_
  | with_reducible refine wO_and ?_
  | with_reducible refine wO_or ?_
  | with_reducible refine wO_not ?_
  | with_reducible refine wO_if ?_
  | with_reducible refine wO_tup ?_
  | with_reducible refine wO_lst ?_
  | with_reducible refine wO_lstM ?_
  | with_reducible refine wO_band ?_
  | with_reducible refine wO_bor ?_
  | with_reducible refine wO_btrue ?_
  | with_reducible refine wO_bif ?_
  | with_reducible refine wO_chain ?_
  | with_reducible refine wO_lm ?_
  | with_reducible refine wO_slA ?_
  | with_reducible refine wO_oNone ?_
  | with_reducible refine wO_oSome ?_
  | with_reducible refine wO_comp ?_
  | with_reducible refine wO_compN ?_
  | with_reducible refine wO_xLst ?_
  | with_reducible refine wO_xTup ?_
  | with_reducible refine wO_xEnum ?_
  | with_reducible refine wO_xZip ?_
  | with_reducible refine wO_xRng1 ?_
  | with_reducible refine wO_xRng2 ?_
  | with_reducible refine wO_xRng ?_
  | with_reducible refine wO_add ?_
  | with_reducible refine wO_sub ?_
  | with_reducible refine wO_neg ?_
  | with_reducible refine wO_lt ?_
  | with_reducible refine wO_le ?_
  | with_reducible refine wO_gt ?_
  | with_reducible refine wO_ge ?_
  | with_reducible refine wO_eqI ?_
  | with_reducible refine wO_neI ?_
  | with_reducible refine wO_isNon ?_
  | with_reducible refine wO_eqS (b := true) (by decide +kernel) (by decide +kernel) (by decide +kernel) ?_
  | with_reducible refine wO_eqS (b := false) (by decide +kernel) (by decide +kernel) (by decide +kernel) ?_
  | with_reducible refine wO_isNotNon ?_
  | with_reducible refine wO_isB ?_
  | with_reducible refine wO_isNotB ?_
  | with_reducible refine wO_int ?_
  | with_reducible refine wO_intB ?_
  | with_reducible refine wO_max2 ?_
  | with_reducible refine wO_min2 ?_
  | with_reducible refine wO_range ?_
  | with_reducible refine wO_augAdd ?_
  | ((with_reducible refine' wO_len ?he_ ?_); (case he_ => exact rfl))
  | ((with_reducible refine' wO_tuple ?he_ ?_); (case he_ => exact rfl))
  | ((with_reducible refine' wO_list ?he_ ?_); (case he_ => exact rfl))
  | ((with_reducible refine' wO_isi ?he_ ?hm_ ?_); (case he_ => first | rfl | assumption); (case hm_ => decide))
  | ((with_reducible refine' wO_ix ?he_ ?h2_ ?_); (case he_ => first | exact rfl | exact seqOf_ref (by assumption)); (case h2_ => exact rfl))
  | ((with_reducible refine' Exists.intro _ (And.intro ?hr_ ?_)); (case hr_ => exact rfl))
  | ((with_reducible refine' And.intro ?hr_ ?_); (case hr_ => first | exact rfl | exact Nat.le_of_ble_eq_true rfl | (decide; done)))
  | ((with_reducible refine' Exists.intro _ (Exists.intro _ (And.intro ?hr_ ?_))); (case hr_ => exact rfl))
  | ((with_reducible refine' Exists.intro _ (Exists.intro _ (Exists.intro _ (And.intro ?hr_ ?_)))); (case hr_ => exact rfl))
  | with_reducible rfl)
local macro_rules | `(tactic| walk_at "dl") => `(tactic| repeat (walk_at "dl1"))
local macro_rules | `(tactic| walk_at "br") => `(tactic| ((with_reducible refine And.intro (fun hb => ?_) (fun hb => ?_)) <;> try (exfalso; first | (cases hb; done) | (simp at hb; done) | (simp at hb; omega))))
local macro_rules | `(tactic| walk_at "dlb") => `(tactic| repeat' (first | walk_at "dl1" | walk_at "br" | fail))
variable {K : PySem.W.Frag} {mg : Str → Option Value} {P : PP DL.D} {E : EE} {S : Sto}
/-! ### drawn amounts -/
theorem aD_inj : ∀ {l l' : List Nat}, aD l = aD l' → l = l' := by
  have key : ∀ {l l' : List Nat}, l.map nD = l'.map nD → l = l' := by
    intro l
    induction l with
    | nil => intro l' h; cases l' with
      | nil => rfl
      | cons a b => cases h
    | cons a l ih => intro l' h; cases l' with
      | nil => cases h
      | cons b l' =>
        rw [List.map_cons, List.map_cons] at h
        injection h with h1 h2
        injection h1 with h1
        rw [ih h2, Int.ofNat_inj.mp h1]
  intro l l' h
  injection h with h
  exact key h
theorem eqv_nat : ∀ {l l' : List Nat}, PyData.eqvAll (D.Ps (l.map nD)) (D.Ps (l'.map nD)) = true → l = l'
  | [], [], _ => rfl
  | [], _ :: _, h => by cases h
  | _ :: _, [], h => by cases h
  | a :: l, b :: l', h => by
    replace h : (((a : Int) == (b : Int)) && PyData.eqvAll (D.Ps (l.map nD)) (D.Ps (l'.map nD))) = true := h
    rw [Bool.and_eq_true, beq_iff_eq] at h
    rw [eqv_nat h.2, Int.ofNat_inj.mp h.1]
theorem eqv_aD {l l' : List Nat} (h : PyData.eqv (aD l).P (aD l').P = true) : l = l' := eqv_nat h
theorem zip_pair : ∀ {l sz : List Nat}, ltL l sz → (zipL (l.map nD) (sz.map nD)).all pairB = true
  | [], [], _ => rfl
  | a :: l, s :: sz, h => by
    show (pairB (.pr (nD a) (nD s)) && (zipL (l.map nD) (sz.map nD)).all pairB) = true
    rw [zip_pair h.2, Bool.and_true]
    have := h.1
    show (DL.D.int (a : Int)).btw 0 ((s : Int) - 1) = true
    exact btw_int (by omega) (by omega)
  | [], _ :: _, h => h.elim
  | _ :: _, [], h => h.elim
theorem hand_aD {l sz : List Nat} (h : ltL l sz) : handB (sz.map nD) (aD l) = true := by
  unfold handB
  rw [show (aD l).isT = true from rfl, show (aD l).its = l.map nD from rfl, zip_pair h, List.length_map, List.length_map, ltL_len h, beq_self_eq_true]
  rfl
theorem new_all {ys : List DL.D} (hn : ys.Nodup) (ha : ∀ y ∈ ys, ∃ l, y = aD l) : (numL 0 ys).all (newB ys) = true := by
  rw [List.all_eq_true]
  intro p hp
  obtain ⟨i, x, hx, rfl⟩ := mem_numL hp
  rw [Nat.zero_add]
  show (!(D.Ps (ys.take i)).any fun z => PyData.eqv z x.P) = true
  rw [Bool.not_eq_true', ps_map, List.any_map, List.any_eq_false]
  intro z hz he
  obtain ⟨l, rfl⟩ := ha z (List.mem_of_mem_take hz)
  obtain ⟨l', rfl⟩ := ha x (List.mem_of_getElem? hx)
  have e := eqv_aD he
  subst e
  rw [← List.take_append_drop i ys, List.nodup_append] at hn
  exact hn.2.2 _ hz _ (by rw [drop_at hx]; exact List.mem_cons_self ..) rfl
theorem ltL_le : ∀ {l sz : List Nat}, ltL l sz → ∀ k ∈ l, ∃ s ∈ sz, k < s
  | [], _, _, k, hk => by cases hk
  | a :: l, s :: sz, h, k, hk => by
    rcases List.mem_cons.mp hk with rfl | hk
    · exact ⟨s, by simp, h.1⟩
    · obtain ⟨t, ht, hlt⟩ := ltL_le h.2 k hk
      exact ⟨t, by simp [ht], hlt⟩
  | _ :: _, [], h, _, _ => h.elim
end K23

set_option Elab.async false
set_option linter.all false
set_option maxRecDepth 100000
namespace K23
open PySem PySem.Spec PyProof.Rows L2 DL
local macro_rules | `(tactic| walk_at "dl1") => `(tactic| first
  | with_reducible refine wS_seq ?_
  | with_reducible refine wS_set ?_
  | with_reducible refine wS_ret ?_
  | with_reducible refine wS_expr ?_
  | with_reducible refine wS_if ?_
  | with_reducible refine wS_next ?_
  | with_reducible refine wS_raise ?_
  | with_reducible refine wS_asg ?_
  | with_reducible refine wS_par ?_
  | with_reducible refine wS_par3 ?_
  | with_reducible refine wS_aug ?_
  | with_reducible refine wS_retN ?_
  | with_reducible refine wS_for ?_
  | with_reducible refine wS_break ?_
  | with_reducible refine wS_cont ?_
  | ((with_reducible refine' wO_var ?he_ ?_); (case he_ => exact rfl))
  | with_reducible refine wO_c ?_
  | with_reducible refine wO_ok ?_
  | with_reducible refine wO_isE ?_
  | with_reducible refine wO_what ?_
  | with_reducible refine wS_gone ?_
  | with_reducible refine wS_try ?_
  | ((with_reducible refine' wO_fnL ?he_ ?_); (case he_ => exact rfl))
  | with_reducible refine wO_join ?_
  | with_reducible refine wO_lCons ?_
  | with_reducible refine wO_lLam ?_
  | with_reducible refine wO_bin ?_
  | with_reducible refine wO_cons ?_
  | with_reducible refine wO_nil ?_
  | with_reducible refine wO_call ?_
  | with_reducible refine wO_fn ?_
  | with_reducible refine wO_val ?_
  | with_reducible refine wO_bnot ?_
  | with_reducible refine wO_un ?_
  | with_reducible refine wO_and ?_
  | with_reducible refine wO_or ?_
  | with_reducible refine wO_not ?_
  | with_reducible refine wO_if ?_
  | with_reducible refine wO_tup ?_
  | with_reducible refine wO_lst ?_
  | with_reducible refine wO_lstM ?_
  | with_reducible refine wO_band ?_
  | with_reducible refine wO_bor ?_
  | with_reducible refine wO_btrue ?_
  | with_reducible refine wO_bif ?_
  | with_reducible refine wO_chain ?_
  | with_reducible refine wO_lm ?_
  | with_reducible refine wO_slA ?_
  | with_reducible refine wO_oNone ?_
  | with_reducible refine wO_oSome ?_
  | with_reducible refine wO_comp ?_
  | with_reducible refine wO_compN ?_
  | with_reducible refine wO_xLst ?_
  | with_reducible refine wO_xTup ?_
  | with_reducible refine wO_xEnum ?_
  | with_reducible refine wO_xZip ?_
  | with_reducible refine wO_xRng1 ?_
  | with_reducible refine wO_xRng2 ?_
  | with_reducible refine wO_xRng ?_
  | with_reducible refine wO_add ?_
  | with_reducible refine wO_sub ?_
  | with_reducible refine wO_neg ?_
  | with_reducible refine wO_lt ?_
  | with_reducible refine wO_le ?_
  | with_reducible refine wO_gt ?_
  | with_reducible refine wO_ge ?_
  | with_reducible refine wO_eqI ?_
  | with_reducible refine wO_neI ?_
  | with_reducible refine wO_isNon ?_
  | with_reducible refine wO_eqS (b := true) (by decide +kernel) (by decide +kernel) (by decide +kernel) ?_
  | with_reducible refine wO_eqS (b := false) (by decide +kernel) (by decide +kernel) (by decide +kernel) ?_
  | with_reducible refine wO_isNotNon ?_
  | with_reducible refine wO_isB ?_
  | with_reducible refine wO_isNotB ?_
  | with_reducible refine wO_int ?_
  | with_reducible refine wO_intB ?_
  | with_reducible refine wO_max2 ?_
  | with_reducible refine wO_min2 ?_
  | with_reducible refine wO_range ?_
  | with_reducible refine wO_augAdd ?_
  | ((with_reducible refine' wO_len ?he_ ?_); (case he_ => exact rfl))
  | ((with_reducible refine' wO_tuple ?he_ ?_); (case he_ => exact rfl))
  | ((with_reducible refine' wO_list ?he_ ?_); (case he_ => exact rfl))
  | ((with_reducible refine' wO_isi ?he_ ?hm_ ?_); (case he_ => first | rfl | assumption); (case hm_ => decide))
  | ((with_reducible refine' wO_ix ?he_ ?h2_ ?_); (case he_ => first | exact rfl | exact seqOf_ref (by assumption)); (case h2_ => exact rfl))
  | ((with_reducible refine' Exists.intro _ (And.intro ?hr_ ?_)); (case hr_ => exact rfl))
  | ((with_reducible refine' And.intro ?hr_ ?_); (case hr_ => first | exact rfl | exact Nat.le_of_ble_eq_true rfl | (decide; done)))
  | ((with_reducible refine' Exists.intro _ (Exists.intro _ (And.intro ?hr_ ?_))); (case hr_ => exact rfl))
  | ((with_reducible refine' Exists.intro _ (Exists.intro _ (Exists.intro _ (And.intro ?hr_ ?_)))); (case hr_ => exact rfl))
  | with_reducible rfl)
local macro_rules | `(tactic| walk_at "dl") => `(tactic| repeat (walk_at "dl1"))
local macro_rules | `(tactic| walk_at "br") => `(tactic| ((with_reducible refine And.intro (fun hb => ?_) (fun hb => ?_)) <;> try (exfalso; first | (cases hb; done) | (simp at hb; done) | (simp at hb; omega))))
local macro_rules | `(tactic| walk_at "dlb") => `(tactic| repeat' (first | walk_at "dl1" | walk_at "br" | fail))
variable {K : PySem.W.Frag} {mg : Str → Option Value} {P : PP DL.D} {E : EE} {S : Sto}
/-! ### amounts: numbers below their sizes -/
def hk (l : List Nat) (k : Nat) : Nat := l[k]?.getD 0
theorem hk_ext {a b : List Nat} (hl : a.length = b.length) (h : ∀ k, k < b.length → hk a k = hk b k) : a = b := by
  apply List.ext_getElem hl
  intro k h1 h2
  have := h k h2
  unfold hk at this
  rw [List.getElem?_eq_getElem h1, List.getElem?_eq_getElem h2] at this
  exact this
theorem hk_map {n k : Nat} {g : Nat → Nat} (h : k < n) : hk ((List.range n).map g) k = g k := by
  unfold hk
  rw [List.getElem?_map, List.getElem?_range h]; rfl
def addA (sz a b : List Nat) : List Nat := (List.range sz.length).map fun k => (((hk a k : Int) + (hk b k : Int)) % (hk sz k : Int)).toNat
def subA (sz a b : List Nat) : List Nat := (List.range sz.length).map fun k => (((hk b k : Int) - (hk a k : Int)) % (hk sz k : Int)).toNat
theorem addA_len (sz a b : List Nat) : (addA sz a b).length = sz.length := by unfold addA; simp
theorem subA_len (sz a b : List Nat) : (subA sz a b).length = sz.length := by unfold subA; simp
theorem ltL_hk : ∀ {l sz : List Nat}, ltL l sz → ∀ k, k < sz.length → hk l k < hk sz k
  | [], [], _, k, hk' => by simp at hk'
  | a :: l, s :: sz, h, 0, _ => h.1
  | a :: l, s :: sz, h, k + 1, hk' => ltL_hk h.2 k (by simpa using hk')
  | [], _ :: _, h, _, _ => h.elim
  | _ :: _, [], h, _, _ => h.elim
theorem ltL_of : ∀ {l sz : List Nat}, l.length = sz.length → (∀ k, k < sz.length → hk l k < hk sz k) → ltL l sz
  | [], [], _, _ => trivial
  | a :: l, s :: sz, hl, h => ⟨h 0 (by simp), ltL_of (by simpa using hl) fun k hk' => h (k + 1) (by simpa using hk')⟩
  | [], _ :: _, hl, _ => by simp at hl
  | _ :: _, [], hl, _ => by simp at hl
theorem hk_mem {sz : List Nat} {k : Nat} (h : k < sz.length) : hk sz k ∈ sz := by
  unfold hk; rw [List.getElem?_eq_getElem h]; exact List.getElem_mem h
theorem ltL_add {sz a b : List Nat} (hs : ∀ s ∈ sz, 2 ≤ s) : ltL (addA sz a b) sz := ltL_of (addA_len ..) fun k hk' => by
  have := hs _ (hk_mem hk')
  unfold addA; rw [hk_map hk']
  have h1 := Int.emod_lt_of_pos ((hk a k : Int) + (hk b k : Int)) (show (0 : Int) < (hk sz k : Int) by omega)
  have h2 := Int.emod_nonneg ((hk a k : Int) + (hk b k : Int)) (show (hk sz k : Int) ≠ 0 by omega)
  omega
theorem ltL_sub {sz a b : List Nat} (hs : ∀ s ∈ sz, 2 ≤ s) : ltL (subA sz a b) sz := ltL_of (subA_len ..) fun k hk' => by
  have := hs _ (hk_mem hk')
  unfold subA; rw [hk_map hk']
  have h1 := Int.emod_lt_of_pos ((hk b k : Int) - (hk a k : Int)) (show (0 : Int) < (hk sz k : Int) by omega)
  have h2 := Int.emod_nonneg ((hk b k : Int) - (hk a k : Int)) (show (hk sz k : Int) ≠ 0 by omega)
  omega
theorem add_sub {sz a b : List Nat} (hs : ∀ s ∈ sz, 2 ≤ s) (hb : ltL b sz) : addA sz a (subA sz a b) = b := hk_ext ((addA_len ..).trans (ltL_len hb).symm) fun k hk' => by
  have hk2 : k < sz.length := by rw [← ltL_len hb]; exact hk'
  have h0 := hs _ (hk_mem hk2)
  have h1 := ltL_hk hb k hk2
  have h2 := Int.emod_nonneg ((hk b k : Int) - (hk a k : Int)) (show (hk sz k : Int) ≠ 0 by omega)
  unfold addA; rw [hk_map hk2]
  unfold subA; rw [hk_map hk2]
  rw [Int.toNat_of_nonneg h2, Int.add_emod_emod, show (hk a k : Int) + ((hk b k : Int) - (hk a k : Int)) = (hk b k : Int) by omega, Int.emod_eq_of_lt (by omega) (by omega)]
  omega
theorem sub_add {sz a b : List Nat} (hs : ∀ s ∈ sz, 2 ≤ s) (hb : ltL b sz) : subA sz a (addA sz a b) = b := hk_ext ((subA_len ..).trans (ltL_len hb).symm) fun k hk' => by
  have hk2 : k < sz.length := by rw [← ltL_len hb]; exact hk'
  have h0 := hs _ (hk_mem hk2)
  have h1 := ltL_hk hb k hk2
  have h2 := Int.emod_nonneg ((hk a k : Int) + (hk b k : Int)) (show (hk sz k : Int) ≠ 0 by omega)
  unfold subA; rw [hk_map hk2]
  unfold addA; rw [hk_map hk2]
  rw [Int.toNat_of_nonneg h2, Int.sub_emod, Int.emod_emod_of_dvd _ (Int.dvd_refl _), ← Int.sub_emod, show (hk a k : Int) + (hk b k : Int) - (hk a k : Int) = (hk b k : Int) by omega, Int.emod_eq_of_lt (by omega) (by omega)]
  omega
theorem sub_self {sz a : List Nat} : subA sz a a = List.replicate sz.length 0 := hk_ext (by rw [subA_len, List.length_replicate]) fun k hk' => by
  have hk2 : k < sz.length := by simpa using hk'
  unfold subA; rw [hk_map hk2, Int.sub_self, Int.zero_emod]
  unfold hk; rw [List.getElem?_replicate]; split <;> rfl
/-! ### a kind, told -/
def kD (sz : List Nat) (hs : List (List Nat)) : DL.D := .tup [.tup (sz.map nD), .tup (hs.map aD)]
structure KD (sz : List Nat) (hs : List (List Nat)) : Prop where
  l4 : sz.length ≤ 4
  sz2 : ∀ s ∈ sz, 2 ≤ s ∧ s < 1000002
  h1 : 1 ≤ hs.length
  h8 : hs.length ≤ 8
  nd : hs.Nodup
  lt : ∀ l ∈ hs, ltL l sz
theorem KD.two {sz : List Nat} {hs : List (List Nat)} (k : KD sz hs) : ∀ s ∈ sz, 2 ≤ s := fun s h => (k.sz2 s h).1
theorem gd_nB {k : Nat} (h : k < 10000000) : Gd 0 8 (nD k) := gd_int 7 (by decide) (by decide) (by omega)
theorem gd_sizes {ks : List Nat} (hl : ks.length ≤ 5) (h : ∀ k ∈ ks, k < 1000002) : Gd 1 60 (.tup (ks.map nD)) := gd_tup (k := 0) (N := 8) (fun x hx => by
  obtain ⟨k, hk', rfl⟩ := List.mem_map.mp hx
  exact gd_nB (by have := h k hk'; omega)) (by rw [List.length_map]; have := Nat.mul_le_mul_right 10 hl; omega)
theorem KD.gdl {sz l : List Nat} {hs : List (List Nat)} (k : KD sz hs) (h : ltL l sz) : Gd 1 60 (aD l) := gd_sizes (by rw [ltL_len h]; have := k.l4; omega) fun x hx => by
  obtain ⟨s, hsm, hlt⟩ := ltL_le h x hx
  have := k.sz2 s hsm
  omega
theorem KD.gdh {sz : List Nat} {hs : List (List Nat)} (k : KD sz hs) : Gd 2 1000 (.tup (hs.map aD)) := gd_tup (k := 1) (N := 60) (fun x hx => by
  obtain ⟨l, hl, rfl⟩ := List.mem_map.mp hx
  exact k.gdl (k.lt l hl)) (by rw [List.length_map]; have := Nat.mul_le_mul_right 62 k.h8; omega)
theorem KD.gds {sz : List Nat} {hs : List (List Nat)} (k : KD sz hs) : Gd 1 60 (.tup (sz.map nD)) := gd_sizes (by have := k.l4; omega) fun x hx => (k.sz2 x hx).2
theorem gd_two' {x y : DL.D} (gx : Gd 4 20000 x) (gy : Gd 4 20000 y) : Gd 5 100000 (.tup [x, y]) := gd_tup (k := 4) (N := 20000) (fun z hz => by
  simp only [List.mem_cons, List.not_mem_nil, or_false] at hz
  rcases hz with rfl | rfl
  · exact gx
  · exact gy) (by show 2 * (20000 + 2) + 3 ≤ 100000; decide)
theorem KD.gd {sz : List Nat} {hs : List (List Nat)} (k : KD sz hs) : Gd 5 100000 (kD sz hs) := gd_two' (k.gds.mono (by decide) (by decide)) (k.gdh.mono (by decide) (by decide))
theorem KD.right {sz : List Nat} {hs : List (List Nat)} (k : KD sz hs) : wrongK (kD sz hs) = none := by
  have e1 : sizesB (.tup (sz.map nD)) = true := by
    unfold sizesB
    rw [show (DL.D.tup (sz.map nD)).isT = true from rfl, show (DL.D.tup (sz.map nD)).its = sz.map nD from rfl, decide_eq_true (by rw [List.length_map]; have := k.l4; omega), List.all_map, List.all_eq_true.mpr fun s hsm => ?_]
    · rfl
    · have := k.two s hsm
      exact decide_eq_true (show (2 : Int) ≤ (s : Int) by omega)
  have nd : (hs.map aD).Nodup := List.Pairwise.map _ (fun a b (hab : a ≠ b) e => hab (aD_inj e)) k.nd
  have e2 : handsB (sz.map nD) (.tup (hs.map aD)) = true := by
    unfold handsB
    rw [show (DL.D.tup (hs.map aD)).isT = true from rfl, show (DL.D.tup (hs.map aD)).its = hs.map aD from rfl, List.length_map, decide_eq_true k.h1, decide_eq_true (show hs.length ≤ 12 by have := k.h8; omega), new_all nd fun y hyy => ?_, List.all_eq_true.mpr fun y hyy => ?_]
    · rfl
    · obtain ⟨l, hl, rfl⟩ := List.mem_map.mp hyy
      exact hand_aD (k.lt l hl)
    · obtain ⟨l, _, rfl⟩ := List.mem_map.mp hyy
      exact ⟨l, rfl⟩
  show (if sizesB (.tup (sz.map nD)) = true then (if handsB (DL.D.tup (sz.map nD)).its (.tup (hs.map aD)) = true then none else some 1) else some 0) = none
  rw [if_pos e1, if_pos (show handsB (DL.D.tup (sz.map nD)).its (.tup (hs.map aD)) = true from e2)]
theorem KD.ge {sz : List Nat} {hs : List (List Nat)} (k : KD sz hs) : ∀ x ∈ sz.map nD, D.ge 2 x = true := fun x hx => by
  obtain ⟨s, hs, rfl⟩ := List.mem_map.mp hx
  have := k.two s hs
  exact decide_eq_true (show (2 : Int) ≤ (s : Int) by omega)
end K23

set_option Elab.async false
set_option linter.all false
set_option maxRecDepth 100000
namespace K23
open PySem PySem.Spec PyProof.Rows L2 DL
local macro_rules | `(tactic| walk_at "dl1") => `(tactic| first
  | with_reducible refine wS_seq ?_
  | with_reducible refine wS_set ?_
  | with_reducible refine wS_ret ?_
  | with_reducible refine wS_expr ?_
  | with_reducible refine wS_if ?_
  | with_reducible refine wS_next ?_
  | with_reducible refine wS_raise ?_
  | with_reducible refine wS_asg ?_
  | with_reducible refine wS_par ?_
  | with_reducible refine wS_par3 ?_
  | with_reducible refine wS_aug ?_
  | with_reducible refine wS_retN ?_
  | with_reducible refine wS_for ?_
  | with_reducible refine wS_break ?_
  | with_reducible refine wS_cont ?_
  | ((with_reducible refine' wO_var ?he_ ?_); (case he_ => exact rfl))
  | with_reducible refine wO_c ?_
  | with_reducible refine wO_ok ?_
  | with_reducible refine wO_isE ?_
  | with_reducible refine wO_what ?_
  | with_reducible refine wS_gone ?_
  | with_reducible refine wS_try ?_
  | ((with_reducible refine' wO_fnL ?he_ ?_); (case he_ => exact rfl))
  | with_reducible refine wO_join ?_
  | with_reducible refine wO_lCons ?_
  | with_reducible refine wO_lLam ?_
  | with_reducible refine wO_bin ?_
  | with_reducible refine wO_cons ?_
  | with_reducible refine wO_nil ?_
  | with_reducible refine wO_call ?_
  | with_reducible refine wO_fn ?_
  | with_reducible refine wO_val ?_
  | with_reducible refine wO_bnot ?_
  | with_reducible refine wO_un ?_
  | with_reducible refine wO_and ?_
  | with_reducible refine wO_or ?_
  | with_reducible refine wO_not ?_
  | with_reducible refine wO_if ?_
  | with_reducible refine wO_tup ?_
  | with_reducible refine wO_lst ?_
  | with_reducible refine wO_lstM ?_
  | with_reducible refine wO_band ?_
  | with_reducible refine wO_bor ?_
  | with_reducible refine wO_btrue ?_
  | with_reducible refine wO_bif ?_
  | with_reducible refine wO_chain ?_
  | with_reducible refine wO_lm ?_
  | with_reducible refine wO_slA ?_
  | with_reducible refine wO_oNone ?_
  | with_reducible refine wO_oSome ?_
  | with_reducible refine wO_comp ?_
  | with_reducible refine wO_compN ?_
  | with_reducible refine wO_xLst ?_
  | with_reducible refine wO_xTup ?_
  | with_reducible refine wO_xEnum ?_
  | with_reducible refine wO_xZip ?_
  | with_reducible refine wO_xRng1 ?_
  | with_reducible refine wO_xRng2 ?_
  | with_reducible refine wO_xRng ?_
  | with_reducible refine wO_add ?_
  | with_reducible refine wO_sub ?_
  | with_reducible refine wO_neg ?_
  | with_reducible refine wO_lt ?_
  | with_reducible refine wO_le ?_
  | with_reducible refine wO_gt ?_
  | with_reducible refine wO_ge ?_
  | with_reducible refine wO_eqI ?_
  | with_reducible refine wO_neI ?_
  | with_reducible refine wO_isNon ?_
  | with_reducible refine wO_eqS (b := true) (by decide +kernel) (by decide +kernel) (by decide +kernel) ?_
  | with_reducible refine wO_eqS (b := false) (by decide +kernel) (by decide +kernel) (by decide +kernel) ?_
  | with_reducible refine wO_isNotNon ?_
  | with_reducible refine wO_isB ?_
  | with_reducible refine wO_isNotB ?_
  | with_reducible refine wO_int ?_
  | with_reducible refine wO_intB ?_
  | with_reducible refine wO_max2 ?_
  | with_reducible refine wO_min2 ?_
  | with_reducible refine wO_range ?_
  | with_reducible refine wO_augAdd ?_
  | ((with_reducible refine' wO_len ?he_ ?_); (case he_ => exact rfl))
  | ((with_reducible refine' wO_tuple ?he_ ?_); (case he_ => exact rfl))
  | ((with_reducible refine' wO_list ?he_ ?_); (case he_ => exact rfl))
  | ((with_reducible refine' wO_isi ?he_ ?hm_ ?_); (case he_ => first | rfl | assumption); (case hm_ => decide))
  | ((with_reducible refine' wO_ix ?he_ ?h2_ ?_); (case he_ => first | exact rfl | exact seqOf_ref (by assumption)); (case h2_ => exact rfl))
  | ((with_reducible refine' Exists.intro _ (And.intro ?hr_ ?_)); (case hr_ => exact rfl))
  | ((with_reducible refine' And.intro ?hr_ ?_); (case hr_ => first | exact rfl | exact Nat.le_of_ble_eq_true rfl | (decide; done)))
  | ((with_reducible refine' Exists.intro _ (Exists.intro _ (And.intro ?hr_ ?_))); (case hr_ => exact rfl))
  | ((with_reducible refine' Exists.intro _ (Exists.intro _ (Exists.intro _ (And.intro ?hr_ ?_)))); (case hr_ => exact rfl))
  | with_reducible rfl)
local macro_rules | `(tactic| walk_at "dl") => `(tactic| repeat (walk_at "dl1"))
local macro_rules | `(tactic| walk_at "br") => `(tactic| ((with_reducible refine And.intro (fun hb => ?_) (fun hb => ?_)) <;> try (exfalso; first | (cases hb; done) | (simp at hb; done) | (simp at hb; omega))))
local macro_rules | `(tactic| walk_at "dlb") => `(tactic| repeat' (first | walk_at "dl1" | walk_at "br" | fail))
variable {K : PySem.W.Frag} {mg : Str → Option Value} {P : PP DL.D} {E : EE} {S : Sto}
/-! ### what the edits' words answer -/
def stD (hs : List (List Nat)) (l : List Nat) : DL.D := match hs.findIdx? fun z => decide (z = l) with
  | some j => nD j
  | none => .non
theorem eqv_nat_self : ∀ l : List Nat, PyData.eqvAll (D.Ps (l.map nD)) (D.Ps (l.map nD)) = true
  | [] => rfl
  | a :: l => by
    show (((a : Int) == (a : Int)) && PyData.eqvAll (D.Ps (l.map nD)) (D.Ps (l.map nD))) = true
    rw [eqv_nat_self l, beq_self_eq_true]; rfl
theorem eqv_aD_dec (a b : List Nat) : PyData.eqv (aD a).P (aD b).P = decide (a = b) := by
  cases e : PyData.eqv (aD a).P (aD b).P with
  | true => exact (decide_eq_true (eqv_aD e)).symm
  | false =>
    refine (decide_eq_false fun z => ?_).symm
    subst z
    rw [show PyData.eqv (aD a).P (aD a).P = true from eqv_nat_self a] at e
    cases e
theorem any_aD (hs : List (List Nat)) (l : List Nat) : ((D.Ps (hs.map aD)).any fun z => PyData.eqv z (aD l).P) = hs.any fun z => decide (z = l) := by
  rw [ps_map, List.map_map, List.any_map]
  congr 1
  funext z
  exact eqv_aD_dec z l
theorem wO_tindexA {hs : List (List Nat)} {l : List Nat} (ho : okD (.tup (hs.map aD)) = true) (hx : okD (aD l) = true) (hm : (hs.any fun z => decide (z = l)) = true) (h : P (stD hs l) S) : wO (tindexD (.tup (hs.map aD)) [aD l] S) P E := by
  have hi : idxOf (hs.map aD) (aD l) = hs.findIdx? fun z => decide (z = l) := by
    unfold idxOf
    rw [ps_map, List.map_map, List.findIdx?_map]
    congr 1
    funext z
    exact eqv_aD_dec z l
  cases e : hs.findIdx? fun z => decide (z = l) with
  | none =>
    obtain ⟨z, hz, hd⟩ := List.any_eq_true.mp hm
    have := List.findIdx?_eq_none_iff.mp e z hz
    rw [hd] at this; cases this
  | some j =>
    letI : Tb := ⟨[]⟩
    unfold tindexD
    simp only [if_pos (And.intro ho hx), hi, e]
    unfold stD at h
    rw [e] at h
    exact wO_ok h
theorem wO_xZip3 {ρ : DL.Env} {PX : PP DL.Src} {f : AF} (h : wO (f ρ S) (fun ds S1 => ∃ xs ys zs, ds = [.tup xs, .tup ys, .tup zs] ∧ PX (.its (zip3 xs ys zs)) S1) E) : wO (xZip3 f ρ S) PX E := wO_bind (wO_imp h fun ds S1 ⟨xs, ys, zs, e, z⟩ => by
  subst e
  exact wO_ok z)
section
variable {sz : List Nat} {hs : List (List Nat)} {l a b : List Nat}
theorem state_of_ok (k : KD sz hs) (hl : ltL l sz) (h : P (stD hs l) S) : wO (m_state_of K mg [kD sz hs, aD l] S) P E := by
  have oh := k.gdh.okD (by decide)
  have ol := (k.gdl hl).okD (by decide)
  refine wO_body ?_
  show wS (g_state_of K mg [some (kD sz hs), some (aD l)] S) _ _ _ _ _
  unfold g_state_of kD
  walk_at "dl"
  refine wO_inT ol oh ?_
  rw [any_aD]
  refine ⟨_, rfl, fun hb => ?_, fun hb => ?_⟩
  · walk_at "dl"
    refine wO_tindexA oh ol hb ?_
    exact cut_self h
  · walk_at "dl"
    refine cut_self ?_
    have e : stD hs l = .non := by
      unfold stD
      rw [List.findIdx?_eq_none_iff.mpr fun z hz => ?_]
      exact List.any_eq_false.mp hb z hz |> fun q => by simpa using q
    rw [e] at h; exact h
theorem v_state_ok (k : KD sz hs) (hl : ltL l sz) (h : P (stD hs l) S) : wO (m__law_v_state K mg [kD sz hs, aD l] S) P E := by
  have oh := k.gdh.okD (by decide)
  have ol := (k.gdl hl).okD (by decide)
  refine wO_body ?_
  show wS (g__law_v_state K mg [some (kD sz hs), some (aD l)] S) _ _ _ _ _
  unfold g__law_v_state kD
  walk_at "dl"
  refine wO_inT ol oh ?_
  rw [any_aD]
  refine ⟨_, rfl, fun hb => ?_, fun hb => ?_⟩
  · walk_at "dl"
    refine wO_tindexA oh ol hb ?_
    exact cut_self h
  · walk_at "dl"
    refine cut_self ?_
    have e : stD hs l = .non := by
      unfold stD
      rw [List.findIdx?_eq_none_iff.mpr fun z hz => ?_]
      exact List.any_eq_false.mp hb z hz |> fun q => by simpa using q
    rw [e] at h; exact h
theorem zip3_nat : ∀ {xs ys zs : List Nat}, xs.length = zs.length → ys.length = zs.length → zip3 (xs.map nD) (ys.map nD) (zs.map nD) = (List.range zs.length).map fun k => DL.D.tup [nD (hk xs k), nD (hk ys k), nD (hk zs k)]
  | [], [], [], _, _ => rfl
  | x :: xs, y :: ys, z :: zs, h1, h2 => by
    have := zip3_nat (xs := xs) (ys := ys) (zs := zs) (by simpa using h1) (by simpa using h2)
    show DL.D.tup [nD x, nD y, nD z] :: zip3 (xs.map nD) (ys.map nD) (zs.map nD) = (List.range (zs.length + 1)).map _
    rw [this, List.range_succ_eq_map]
    show _ = _ :: ((List.range zs.length).map Nat.succ).map _
    rw [List.map_map]
    rfl
  | [], _, _ :: _, h1, _ => by simp at h1
  | _ :: _, _, [], h1, _ => by simp at h1
  | _, [], _ :: _, _, h2 => by simp at h2
  | _, _ :: _, [], _, h2 => by simp at h2
def gAdd : DL.D → DL.D
  | .tup [.int a, .int b, .int s] => .int ((a + b) % s)
  | _ => .non
def gSub : DL.D → DL.D
  | .tup [.int a, .int b, .int s] => .int ((b - a) % s)
  | _ => .non
theorem add_map {a b : List Nat} (h2 : ∀ s ∈ sz, 2 ≤ s) : ((List.range sz.length).map fun k => DL.D.int (((hk a k : Int) + (hk b k : Int)) % (hk sz k : Int))) = (addA sz a b).map nD := by
  unfold addA
  rw [List.map_map]
  apply List.map_congr_left
  intro k hk'
  have := h2 _ (hk_mem (List.mem_range.mp hk'))
  show _ = DL.D.int _
  rw [Int.toNat_of_nonneg (Int.emod_nonneg _ (by omega))]
theorem sub_map {a b : List Nat} (h2 : ∀ s ∈ sz, 2 ≤ s) : ((List.range sz.length).map fun k => DL.D.int (((hk b k : Int) - (hk a k : Int)) % (hk sz k : Int))) = (subA sz a b).map nD := by
  unfold subA
  rw [List.map_map]
  apply List.map_congr_left
  intro k hk'
  have := h2 _ (hk_mem (List.mem_range.mp hk'))
  show _ = DL.D.int _
  rw [Int.toNat_of_nonneg (Int.emod_nonneg _ (by omega))]
theorem moved_by_ok (k : KD sz hs) (ha : a.length = sz.length) (hb : b.length = sz.length) (h : P (aD (addA sz a b)) S) : wO (m_moved_by K mg [kD sz hs, aD a, aD b] S) P E := by
  have l4 := k.l4
  refine wO_body ?_
  show wS (g_moved_by K mg [some (kD sz hs), some (aD a), some (aD b), none, none, none] S) _ _ _ _ _
  unfold g_moved_by kD aD
  walk_at "dl"
  refine wO_xZip3 ?_
  walk_at "dl"
  have hz : zip3 (a.map fun (k : Nat) => DL.D.int (k : Int)) (b.map fun (k : Nat) => DL.D.int (k : Int)) (sz.map nD) = _ := zip3_nat ha hb
  rw [hz]
  refine wO_compMap ((List.range sz.length).map fun k => DL.D.tup [nD (hk a k), nD (hk b k), nD (hk sz k)]) gAdd (fun _ _ => rfl) rfl (by simp; omega) (fun p hp => ?_) ?_
  · obtain ⟨i, hi, rfl⟩ := List.mem_map.mp hp
    have := k.two _ (hk_mem (List.mem_range.mp hi))
    refine ⟨_, rfl, ?_, ?_⟩
    · walk_at "dl"
    · unfold nD
      walk_at "dl"
      refine wO_mod (by omega) ?_
      exact ⟨rfl, rfl⟩
  rw [List.map_map]
  show wO _ _ _
  walk_at "dl"
  refine cut_self ?_
  have e := add_map (sz := sz) (a := a) (b := b) k.two
  unfold aD at h
  rw [show (fun (k : Nat) => DL.D.int (k : Int)) = nD from rfl, ← e] at h
  exact h
theorem step_of_ok (k : KD sz hs) (ha : a.length = sz.length) (hb : b.length = sz.length) (h : P (aD (subA sz a b)) S) : wO (m_step_of K mg [kD sz hs, aD a, aD b] S) P E := by
  have l4 := k.l4
  refine wO_body ?_
  show wS (g_step_of K mg [some (kD sz hs), some (aD a), some (aD b), none, none, none] S) _ _ _ _ _
  unfold g_step_of kD aD
  walk_at "dl"
  refine wO_xZip3 ?_
  walk_at "dl"
  have hz : zip3 (a.map fun (k : Nat) => DL.D.int (k : Int)) (b.map fun (k : Nat) => DL.D.int (k : Int)) (sz.map nD) = _ := zip3_nat ha hb
  rw [hz]
  refine wO_compMap ((List.range sz.length).map fun k => DL.D.tup [nD (hk a k), nD (hk b k), nD (hk sz k)]) gSub (fun _ _ => rfl) rfl (by simp; omega) (fun p hp => ?_) ?_
  · obtain ⟨i, hi, rfl⟩ := List.mem_map.mp hp
    have := k.two _ (hk_mem (List.mem_range.mp hi))
    refine ⟨_, rfl, ?_, ?_⟩
    · walk_at "dl"
    · unfold nD
      walk_at "dl"
      refine wO_mod (by omega) ?_
      exact ⟨rfl, rfl⟩
  rw [List.map_map]
  show wO _ _ _
  walk_at "dl"
  refine cut_self ?_
  have e := sub_map (sz := sz) (a := a) (b := b) k.two
  unfold aD at h
  rw [show (fun (k : Nat) => DL.D.int (k : Int)) = nD from rfl, ← e] at h
  exact h
theorem nat_at {l : List Nat} {k : Nat} (h : k < l.length) : (l.map nD)[k]? = some (nD (hk l k)) := by
  unfold hk
  rw [List.getElem?_map, List.getElem?_eq_getElem h]; rfl
theorem v_put_ok (k : KD sz hs) (ha : a.length = sz.length) (hb : b.length = sz.length) (h : P (aD (addA sz a b)) S) : wO (m__law_v_put K mg [.tup (sz.map nD), aD a, aD b] S) P E := by
  have l4 := k.l4
  have hbb : -(2 ^ 62) ≤ (sz.length : Int) ∧ (sz.length : Int) < 2 ^ 62 := by omega
  refine wO_body ?_
  show wS (g__law_v_put K mg [some (.tup (sz.map nD)), some (aD a), some (aD b), none] S) _ _ _ _ _
  unfold g__law_v_put aD
  walk_at "dl"
  rw [List.length_map]
  refine ⟨hbb, ?_⟩
  rw [Int.toNat_natCast]
  refine wO_compRng (fun k => DL.D.int (((hk a k : Int) + (hk b k : Int)) % (hk sz k : Int))) (by omega) (fun i hi => ⟨_, rfl, wO_btrue ⟨rfl, rfl⟩, ?_⟩) ?_
  · have := k.two _ (hk_mem hi)
    walk_at "dl"
    refine wO_ix rfl (DL.atI_nat (nat_at (show i < a.length by omega))) ?_
    walk_at "dl"
    refine wO_ix rfl (DL.atI_nat (nat_at (show i < b.length by omega))) ?_
    unfold nD
    walk_at "dl"
    refine wO_ix rfl (DL.atI_nat (nat_at (show i < sz.length by omega))) ?_
    unfold nD
    walk_at "dl"
    refine wO_mod (by omega) ?_
    exact ⟨rfl, rfl⟩
  walk_at "dl"
  refine cut_self ?_
  have e := add_map (sz := sz) (a := a) (b := b) k.two
  unfold aD at h
  rw [show (fun (k : Nat) => DL.D.int (k : Int)) = nD from rfl, ← e] at h
  exact h
theorem v_from_to_ok (k : KD sz hs) (ha : a.length = sz.length) (hb : b.length = sz.length) (h : P (aD (subA sz a b)) S) : wO (m__law_v_from_to K mg [.tup (sz.map nD), aD a, aD b] S) P E := by
  have l4 := k.l4
  have hbb : -(2 ^ 62) ≤ (sz.length : Int) ∧ (sz.length : Int) < 2 ^ 62 := by omega
  refine wO_body ?_
  show wS (g__law_v_from_to K mg [some (.tup (sz.map nD)), some (aD a), some (aD b), none] S) _ _ _ _ _
  unfold g__law_v_from_to aD
  walk_at "dl"
  rw [List.length_map]
  refine ⟨hbb, ?_⟩
  rw [Int.toNat_natCast]
  refine wO_compRng (fun k => DL.D.int (((hk b k : Int) - (hk a k : Int)) % (hk sz k : Int))) (by omega) (fun i hi => ⟨_, rfl, wO_btrue ⟨rfl, rfl⟩, ?_⟩) ?_
  · have := k.two _ (hk_mem hi)
    walk_at "dl"
    refine wO_ix rfl (DL.atI_nat (nat_at (show i < b.length by omega))) ?_
    walk_at "dl"
    refine wO_ix rfl (DL.atI_nat (nat_at (show i < a.length by omega))) ?_
    unfold nD
    walk_at "dl"
    refine wO_ix rfl (DL.atI_nat (nat_at (show i < sz.length by omega))) ?_
    unfold nD
    walk_at "dl"
    refine wO_mod (by omega) ?_
    exact ⟨rfl, rfl⟩
  walk_at "dl"
  refine cut_self ?_
  have e := sub_map (sz := sz) (a := a) (b := b) k.two
  unfold aD at h
  rw [show (fun (k : Nat) => DL.D.int (k : Int)) = nD from rfl, ← e] at h
  exact h
end
end K23

set_option Elab.async false
set_option linter.all false
set_option maxRecDepth 100000
namespace K23
open PySem PySem.Spec PyProof.Rows L2 DL
local macro_rules | `(tactic| walk_at "dl1") => `(tactic| first
  | with_reducible refine wS_seq ?_
  | with_reducible refine wS_set ?_
  | with_reducible refine wS_ret ?_
  | with_reducible refine wS_expr ?_
  | with_reducible refine wS_if ?_
  | with_reducible refine wS_next ?_
  | with_reducible refine wS_raise ?_
  | with_reducible refine wS_asg ?_
  | with_reducible refine wS_par ?_
  | with_reducible refine wS_par3 ?_
  | with_reducible refine wS_aug ?_
  | with_reducible refine wS_retN ?_
  | with_reducible refine wS_for ?_
  | with_reducible refine wS_break ?_
  | with_reducible refine wS_cont ?_
  | ((with_reducible refine' wO_var ?he_ ?_); (case he_ => exact rfl))
  | with_reducible refine wO_c ?_
  | with_reducible refine wO_ok ?_
  | with_reducible refine wO_isE ?_
  | with_reducible refine wO_what ?_
  | with_reducible refine wS_gone ?_
  | with_reducible refine wS_try ?_
  | ((with_reducible refine' wO_fnL ?he_ ?_); (case he_ => exact rfl))
  | with_reducible refine wO_join ?_
  | with_reducible refine wO_lCons ?_
  | with_reducible refine wO_lLam ?_
  | with_reducible refine wO_bin ?_
  | with_reducible refine wO_cons ?_
  | with_reducible refine wO_nil ?_
  | with_reducible refine wO_call ?_
  | with_reducible refine wO_fn ?_
  | with_reducible refine wO_val ?_
  | with_reducible refine wO_bnot ?_
  | with_reducible refine wO_un ?_
  | with_reducible refine wO_and ?_
  | with_reducible refine wO_or ?_
  | with_reducible refine wO_not ?_
  | with_reducible refine wO_if ?_
  | with_reducible refine wO_tup ?_
  | with_reducible refine wO_lst ?_
  | with_reducible refine wO_lstM ?_
  | with_reducible refine wO_band ?_
  | with_reducible refine wO_bor ?_
  | with_reducible refine wO_btrue ?_
  | with_reducible refine wO_bif ?_
  | with_reducible refine wO_chain ?_
  | with_reducible refine wO_lm ?_
  | with_reducible refine wO_slA ?_
  | with_reducible refine wO_oNone ?_
  | with_reducible refine wO_oSome ?_
  | with_reducible refine wO_comp ?_
  | with_reducible refine wO_compN ?_
  | with_reducible refine wO_xLst ?_
  | with_reducible refine wO_xTup ?_
  | with_reducible refine wO_xEnum ?_
  | with_reducible refine wO_xZip ?_
  | with_reducible refine wO_xRng1 ?_
  | with_reducible refine wO_xRng2 ?_
  | with_reducible refine wO_xRng ?_
  | with_reducible refine wO_add ?_
  | with_reducible refine wO_sub ?_
  | with_reducible refine wO_neg ?_
  | with_reducible refine wO_lt ?_
  | with_reducible refine wO_le ?_
  | with_reducible refine wO_gt ?_
  | with_reducible refine wO_ge ?_
  | with_reducible refine wO_eqI ?_
  | with_reducible refine wO_neI ?_
  | with_reducible refine wO_isNon ?_
  | with_reducible refine wO_eqS (b := true) (by decide +kernel) (by decide +kernel) (by decide +kernel) ?_
  | with_reducible refine wO_eqS (b := false) (by decide +kernel) (by decide +kernel) (by decide +kernel) ?_
  | with_reducible refine wO_isNotNon ?_
  | with_reducible refine wO_isB ?_
  | with_reducible refine wO_isNotB ?_
  | with_reducible refine wO_int ?_
  | with_reducible refine wO_intB ?_
  | with_reducible refine wO_max2 ?_
  | with_reducible refine wO_min2 ?_
  | with_reducible refine wO_range ?_
  | with_reducible refine wO_augAdd ?_
  | ((with_reducible refine' wO_len ?he_ ?_); (case he_ => exact rfl))
  | ((with_reducible refine' wO_tuple ?he_ ?_); (case he_ => exact rfl))
  | ((with_reducible refine' wO_list ?he_ ?_); (case he_ => exact rfl))
  | ((with_reducible refine' wO_isi ?he_ ?hm_ ?_); (case he_ => first | rfl | assumption); (case hm_ => decide))
  | ((with_reducible refine' wO_ix ?he_ ?h2_ ?_); (case he_ => first | exact rfl | exact seqOf_ref (by assumption)); (case h2_ => exact rfl))
  | ((with_reducible refine' Exists.intro _ (And.intro ?hr_ ?_)); (case hr_ => exact rfl))
  | ((with_reducible refine' And.intro ?hr_ ?_); (case hr_ => first | exact rfl | exact Nat.le_of_ble_eq_true rfl | (decide; done)))
  | ((with_reducible refine' Exists.intro _ (Exists.intro _ (And.intro ?hr_ ?_))); (case hr_ => exact rfl))
  | ((with_reducible refine' Exists.intro _ (Exists.intro _ (Exists.intro _ (And.intro ?hr_ ?_)))); (case hr_ => exact rfl))
  | with_reducible rfl)
local macro_rules | `(tactic| walk_at "dl") => `(tactic| repeat (walk_at "dl1"))
local macro_rules | `(tactic| walk_at "br") => `(tactic| ((with_reducible refine And.intro (fun hb => ?_) (fun hb => ?_)) <;> try (exfalso; first | (cases hb; done) | (simp at hb; done) | (simp at hb; omega))))
local macro_rules | `(tactic| walk_at "dlb") => `(tactic| repeat' (first | walk_at "dl1" | walk_at "br" | fail))
variable {K : PySem.W.Frag} {mg : Str → Option Value} {P : PP DL.D} {E : EE} {S : Sto}
/-! ### the defs over a right kind -/
def hx (hs : List (List Nat)) (i : Nat) : List Nat := hs[i]?.getD []
def dn : DL.D → Nat
  | .int i => i.toNat
  | _ => 0
theorem hx_at {hs : List (List Nat)} {i : Nat} (h : i < hs.length) : (hs.map aD)[i]? = some (aD (hx hs i)) := by
  unfold hx
  rw [List.getElem?_map, List.getElem?_eq_getElem h]; rfl
theorem hx_mem {hs : List (List Nat)} {i : Nat} (h : i < hs.length) : hx hs i ∈ hs := by
  unfold hx
  rw [List.getElem?_eq_getElem h]; exact List.getElem_mem h
def entD (sz : List Nat) (hs : List (List Nat)) (o a b : Nat) : DL.D := stD hs (addA sz (hx hs a) (subA sz (hx hs o) (hx hs b)))
def rowD (sz : List Nat) (hs : List (List Nat)) (o : Nat) : DL.D := .tup ((List.range hs.length).map fun a => .tup ((List.range hs.length).map fun b => entD sz hs o a b))
def tabK (sz : List Nat) (hs : List (List Nat)) : DL.D := .tup ((List.range hs.length).map (rowD sz hs))
theorem pure_stD (hs : List (List Nat)) (l : List Nat) : (stD hs l).pure = true := by unfold stD; split <;> rfl
section
variable {sz : List Nat} {hs : List (List Nat)} {l a b : List Nat}
theorem pure_tabK : (tabK sz hs).pure = true := pure_tup fun x hx => by
  obtain ⟨o, _, rfl⟩ := List.mem_map.mp hx
  refine pure_tup fun x hx => ?_
  obtain ⟨a, _, rfl⟩ := List.mem_map.mp hx
  refine pure_tup fun x hx => ?_
  obtain ⟨b, _, rfl⟩ := List.mem_map.mp hx
  exact pure_stD _ _
theorem KD.len (k : KD sz hs) {i : Nat} (h : i < hs.length) : (hx hs i).length = sz.length := ltL_len (k.lt _ (hx_mem h))
theorem merged_state_ok (k : KD sz hs) {o a b : Nat} (ho : o < hs.length) (ha : a < hs.length) (hb : b < hs.length) (h : P (entD sz hs o a b) S) : wO (m_merged_state K mg [kD sz hs, nD o, nD a, nD b] S) P E := by
  refine wO_body ?_
  show wS (g_merged_state K mg [some (kD sz hs), some (nD o), some (nD a), some (nD b), none] S) _ _ _ _ _
  unfold g_merged_state
  rw [show kD sz hs = .tup [.tup (sz.map nD), .tup (hs.map aD)] from rfl]
  walk_at "dl"
  refine wO_ix rfl (DL.atI_nat (hx_at ha)) ?_
  walk_at "dl"
  refine wO_ix rfl (DL.atI_nat (hx_at ho)) ?_
  walk_at "dl"
  refine wO_ix rfl (DL.atI_nat (hx_at hb)) ?_
  walk_at "dl"
  refine step_of_ok k (k.len ho) (k.len hb) ?_
  walk_at "dl"
  refine moved_by_ok k (k.len ha) (subA_len ..) ?_
  walk_at "dl"
  refine state_of_ok k (ltL_add k.two) ?_
  exact cut_self h
theorem v_entry_ok (k : KD sz hs) {o a b : Nat} (ho : o < hs.length) (ha : a < hs.length) (hb : b < hs.length) (h : P (entD sz hs o a b) S) : wO (m__law_v_entry K mg [kD sz hs, nD o, nD a, nD b] S) P E := by
  refine wO_body ?_
  show wS (g__law_v_entry K mg [some (kD sz hs), some (nD o), some (nD a), some (nD b), none] S) _ _ _ _ _
  unfold g__law_v_entry
  rw [show kD sz hs = .tup [.tup (sz.map nD), .tup (hs.map aD)] from rfl]
  walk_at "dl"
  refine wO_ix rfl (DL.atI_nat (hx_at ha)) ?_
  walk_at "dl"
  refine wO_ix rfl (DL.atI_nat (hx_at ho)) ?_
  walk_at "dl"
  refine wO_ix rfl (DL.atI_nat (hx_at hb)) ?_
  walk_at "dl"
  refine v_from_to_ok k (k.len ho) (k.len hb) ?_
  walk_at "dl"
  refine v_put_ok k (k.len ha) (subA_len ..) ?_
  walk_at "dl"
  refine v_state_ok k (ltL_add k.two) ?_
  exact cut_self h
theorem mk_ok (k : KD sz hs) (h : P (kD sz hs) S) : wO (m_made_kind K mg [kD sz hs] S) P E :=
  made_kind_ok k.gd.pu (k.gd.okD (by decide)) (fun _ => h) fun i e => by rw [k.right] at e; cases e
theorem table_of_ok (k : KD sz hs) (h : P (tabK sz hs) S) : wO (m_table_of K mg [kD sz hs] S) P E := by
  have h8 := k.h8
  have hbb : -(2 ^ 62) ≤ (hs.length : Int) ∧ (hs.length : Int) < 2 ^ 62 := by omega
  refine wO_body ?_
  show wS (g_table_of K mg [some (kD sz hs), none, none, none, none] S) _ _ _ _ _
  unfold g_table_of
  walk_at "dl"
  refine mk_ok k ?_
  rw [show kD sz hs = .tup [.tup (sz.map nD), .tup (hs.map aD)] from rfl]
  walk_at "dl"
  rw [List.length_map]
  refine ⟨by omega, ?_⟩
  rw [Int.sub_zero, Int.toNat_natCast]
  refine wO_compRng (rowD sz hs) (by omega) (fun o ho => ⟨_, rfl, wO_btrue ⟨rfl, rfl⟩, ?_⟩) ?_
  · walk_at "dl"
    rw [Int.sub_zero, Int.toNat_natCast]
    refine ⟨by omega, ?_⟩
    refine wO_compRng (fun a => DL.D.tup ((List.range hs.length).map fun b => entD sz hs o a b)) (by omega) (fun a ha => ⟨_, rfl, wO_btrue ⟨rfl, rfl⟩, ?_⟩) ?_
    · walk_at "dl"
      rw [Int.sub_zero, Int.toNat_natCast]
      refine ⟨by omega, ?_⟩
      refine wO_compRng (fun b => entD sz hs o a b) (by omega) (fun b hb => ⟨_, rfl, wO_btrue ⟨rfl, rfl⟩, ?_⟩) ?_
      · walk_at "dl"
        exact merged_state_ok k ho ha hb ⟨rfl, rfl⟩
      · walk_at "dl"
    · walk_at "dl"
  walk_at "dl"
  exact cut_self h
theorem v_table_ok (k : KD sz hs) (h : P (tabK sz hs) S) : wO (m__law_v_table K mg [kD sz hs] S) P E := by
  have h8 := k.h8
  have hbb : -(2 ^ 62) ≤ (hs.length : Int) ∧ (hs.length : Int) < 2 ^ 62 := by omega
  refine wO_body ?_
  show wS (g__law_v_table K mg [some (kD sz hs), none, none, none, none, none, none] S) _ _ _ _ _
  unfold g__law_v_table
  rw [show kD sz hs = .tup [.tup (sz.map nD), .tup (hs.map aD)] from rfl]
  walk_at "dl"
  rw [List.length_map]
  refine ⟨hbb, ?_⟩
  rw [Int.toNat_natCast]
  refine wO_compRng nD (by omega) (fun o ho => ⟨_, rfl, wO_btrue ⟨rfl, rfl⟩, ?_⟩) ?_
  · walk_at "dl"
  walk_at "dl"
  refine wS_forM nD (List.range hs.length) (fun _ _ => rfl) (by show ((List.range hs.length).map nD).length = _; simp) (fun done ρ S' => S' = S ++ [.lst (done.map (rowD sz hs))] ∧ ∃ p q r, ρ = [some (kD sz hs), some (.lst ((List.range hs.length).map nD)), some (.ref S.length), p, none, q, r]) ⟨rfl, _, _, _, rfl⟩ (fun done o rest ρ S' e ⟨e1, p, q, r, e2⟩ => ?_) fun ρ S' ⟨e1, p, q, r, e2⟩ => ?_
  · subst e1 e2
    have ho : o < hs.length := List.mem_range.mp (by rw [e]; simp)
    have hd : done.length < 8 := by have := congrArg List.length e; simp at this; omega
    refine ⟨_, _, rfl, ?_⟩
    walk_at "dl"
    refine ⟨lstOf_some (sto_get _ _ _), ?_⟩
    walk_at "dl"
    refine wO_compMap (src := .lst (.lst ((List.range hs.length).map nD))) ((List.range hs.length).map nD) (fun a => DL.D.tup ((List.range hs.length).map fun b => entD sz hs o (dn a) b)) (fun _ _ => rfl) rfl (by simp; omega) (fun a' ha' => ?_) ?_
    · obtain ⟨a, ha, rfl⟩ := List.mem_map.mp ha'
      refine ⟨_, rfl, ?_, ?_⟩
      · walk_at "dl"
      · walk_at "dl"
        refine wO_compMap (src := .lst (.lst ((List.range hs.length).map nD))) ((List.range hs.length).map nD) (fun b => entD sz hs o a (dn b)) (fun _ _ => rfl) rfl (by simp; omega) (fun b' hb' => ?_) ?_
        · obtain ⟨b, hb, rfl⟩ := List.mem_map.mp hb'
          refine ⟨_, rfl, ?_, ?_⟩
          · walk_at "dl"
          · walk_at "dl"
            exact v_entry_ok k ho (List.mem_range.mp ha) (List.mem_range.mp hb) ⟨rfl, rfl⟩
        · walk_at "dl"
          rw [List.map_map]
          exact ⟨rfl, rfl⟩
    walk_at "dl"
    rw [List.map_map]
    refine wO_append (sto_get _ _ _) (by simp; omega) ?_
    rw [sto_set]
    refine ⟨by rw [List.map_append]; rfl, _, _, _, rfl⟩
  · subst e1 e2
    walk_at "dl"
    refine wO_tuple (xs := (List.range hs.length).map (rowD sz hs)) (by show lstOf _ (.ref S.length) = _; exact lstOf_of_get (sto_get _ _ _)) ?_
    exact cut_tmp pure_tabK h
end
end K23

set_option Elab.async false
set_option linter.all false
set_option maxRecDepth 100000
namespace K23
open PySem PySem.Spec PyProof.Rows L2 DL
local macro_rules | `(tactic| walk_at "dl1") => `(tactic| first
  | with_reducible refine wS_seq ?_
  | with_reducible refine wS_set ?_
  | with_reducible refine wS_ret ?_
  | with_reducible refine wS_expr ?_
  | with_reducible refine wS_if ?_
  | with_reducible refine wS_next ?_
  | with_reducible refine wS_raise ?_
  | with_reducible refine wS_asg ?_
  | with_reducible refine wS_par ?_
  | with_reducible refine wS_par3 ?_
  | with_reducible refine wS_aug ?_
  | with_reducible refine wS_retN ?_
  | with_reducible refine wS_for ?_
  | with_reducible refine wS_break ?_
  | with_reducible refine wS_cont ?_
  | ((with_reducible refine' wO_var ?he_ ?_); (case he_ => exact rfl))
  | with_reducible refine wO_c ?_
  | with_reducible refine wO_ok ?_
  | with_reducible refine wO_isE ?_
  | with_reducible refine wO_what ?_
  | with_reducible refine wS_gone ?_
  | with_reducible refine wS_try ?_
  | ((with_reducible refine' wO_fnL ?he_ ?_); (case he_ => exact rfl))
  | with_reducible refine wO_join ?_
  | with_reducible refine wO_lCons ?_
  | with_reducible refine wO_lLam ?_
  | with_reducible refine wO_bin ?_
  | with_reducible refine wO_cons ?_
  | with_reducible refine wO_nil ?_
  | with_reducible refine wO_call ?_
  | with_reducible refine wO_fn ?_
  | with_reducible refine wO_val ?_
  | with_reducible refine wO_bnot ?_
  | with_reducible refine wO_un ?_
  | with_reducible refine wO_and ?_
  | with_reducible refine wO_or ?_
  | with_reducible refine wO_not ?_
  | with_reducible refine wO_if ?_
  | with_reducible refine wO_tup ?_
  | with_reducible refine wO_lst ?_
  | with_reducible refine wO_lstM ?_
  | with_reducible refine wO_band ?_
  | with_reducible refine wO_bor ?_
  | with_reducible refine wO_btrue ?_
  | with_reducible refine wO_bif ?_
  | with_reducible refine wO_chain ?_
  | with_reducible refine wO_lm ?_
  | with_reducible refine wO_slA ?_
  | with_reducible refine wO_oNone ?_
  | with_reducible refine wO_oSome ?_
  | with_reducible refine wO_comp ?_
  | with_reducible refine wO_compN ?_
  | with_reducible refine wO_xLst ?_
  | with_reducible refine wO_xTup ?_
  | with_reducible refine wO_xEnum ?_
  | with_reducible refine wO_xZip ?_
  | with_reducible refine wO_xRng1 ?_
  | with_reducible refine wO_xRng2 ?_
  | with_reducible refine wO_xRng ?_
  | with_reducible refine wO_add ?_
  | with_reducible refine wO_sub ?_
  | with_reducible refine wO_neg ?_
  | with_reducible refine wO_lt ?_
  | with_reducible refine wO_le ?_
  | with_reducible refine wO_gt ?_
  | with_reducible refine wO_ge ?_
  | with_reducible refine wO_eqI ?_
  | with_reducible refine wO_neI ?_
  | with_reducible refine wO_isNon ?_
  | with_reducible refine wO_eqS (b := true) (by decide +kernel) (by decide +kernel) (by decide +kernel) ?_
  | with_reducible refine wO_eqS (b := false) (by decide +kernel) (by decide +kernel) (by decide +kernel) ?_
  | with_reducible refine wO_isNotNon ?_
  | with_reducible refine wO_isB ?_
  | with_reducible refine wO_isNotB ?_
  | with_reducible refine wO_int ?_
  | with_reducible refine wO_intB ?_
  | with_reducible refine wO_max2 ?_
  | with_reducible refine wO_min2 ?_
  | with_reducible refine wO_range ?_
  | with_reducible refine wO_augAdd ?_
  | ((with_reducible refine' wO_len ?he_ ?_); (case he_ => exact rfl))
  | ((with_reducible refine' wO_tuple ?he_ ?_); (case he_ => exact rfl))
  | ((with_reducible refine' wO_list ?he_ ?_); (case he_ => exact rfl))
  | ((with_reducible refine' wO_isi ?he_ ?hm_ ?_); (case he_ => first | rfl | assumption); (case hm_ => decide))
  | ((with_reducible refine' wO_ix ?he_ ?h2_ ?_); (case he_ => first | exact rfl | exact seqOf_ref (by assumption)); (case h2_ => exact rfl))
  | ((with_reducible refine' Exists.intro _ (And.intro ?hr_ ?_)); (case hr_ => exact rfl))
  | ((with_reducible refine' And.intro ?hr_ ?_); (case hr_ => first | exact rfl | exact Nat.le_of_ble_eq_true rfl | (decide; done)))
  | ((with_reducible refine' Exists.intro _ (Exists.intro _ (And.intro ?hr_ ?_))); (case hr_ => exact rfl))
  | ((with_reducible refine' Exists.intro _ (Exists.intro _ (Exists.intro _ (And.intro ?hr_ ?_)))); (case hr_ => exact rfl))
  | with_reducible rfl)
local macro_rules | `(tactic| walk_at "dl") => `(tactic| repeat (walk_at "dl1"))
local macro_rules | `(tactic| walk_at "br") => `(tactic| ((with_reducible refine And.intro (fun hb => ?_) (fun hb => ?_)) <;> try (exfalso; first | (cases hb; done) | (simp at hb; done) | (simp at hb; omega))))
local macro_rules | `(tactic| walk_at "dlb") => `(tactic| repeat' (first | walk_at "dl1" | walk_at "br" | fail))
variable {K : PySem.W.Frag} {mg : Str → Option Value} {P : PP DL.D} {E : EE} {S : Sto}
/-! ### the doors: amounts, states, steps -/
section
variable {sz : List Nat} {hs : List (List Nat)} {l a b : List Nat} {d : DL.D}
theorem is_amount_ok (k : KD sz hs) (hd : d.pure = true) (h : P (.bl (handB (sz.map nD) d)) S) : wO (m_is_amount K mg [kD sz hs, d] S) P E := by
  refine wO_body ?_
  show wS (g_is_amount K mg [some (kD sz hs), some d] S) _ _ _ _ _
  unfold g_is_amount
  rw [show kD sz hs = .tup [.tup (sz.map nD), .tup (hs.map aD)] from rfl]
  walk_at "dl"
  refine is_hands_ok k.ge (by rw [List.length_map]; have := k.l4; omega) hd ?_
  exact cut_self h
theorem want_amount_ok (k : KD sz hs) (hd : d.pure = true) (h1 : handB (sz.map nD) d = true → P .non S) (h2 : handB (sz.map nD) d = false → E (clsOf mg "BadAmount") (.int (-1)) S) : wO (m_want_amount K mg [kD sz hs, d] S) P E := by
  refine wO_body ?_
  show wS (g_want_amount K mg [some (kD sz hs), some d] S) _ _ _ _ _
  unfold g_want_amount
  walk_at "dl"
  refine is_amount_ok k hd ⟨_, rfl, fun hb => ?_, fun hb => ?_⟩
  · walk_at "dl"
    exact cutX_self (h2 (by simpa using hb))
  · walk_at "dl"
    exact cut_self (h1 (by simpa using hb))
theorem want_good (k : KD sz hs) (hl : ltL l sz) (h : P .non S) : wO (m_want_amount K mg [kD sz hs, aD l] S) P E :=
  want_amount_ok k (k.gdl hl).pu (fun _ => h) fun z => by rw [hand_aD hl] at z; cases z
theorem want_bad (k : KD sz hs) (hd : d.pure = true) (hb : handB (sz.map nD) d = false) (h : E (clsOf mg "BadAmount") (.int (-1)) S) : wO (m_want_amount K mg [kD sz hs, d] S) P E :=
  want_amount_ok k hd (fun z => by rw [hb] at z; cases z) fun _ => h
theorem made_amount_ok (k : KD sz hs) (hl : ltL l sz) (h : P (aD l) S) : wO (m_made_amount K mg [kD sz hs, aD l] S) P E := by
  refine wO_body ?_
  show wS (g_made_amount K mg [some (kD sz hs), some (aD l)] S) _ _ _ _ _
  unfold g_made_amount
  walk_at "dl"
  refine mk_ok k ?_
  walk_at "dl"
  refine want_good k hl ?_
  walk_at "dl"
  exact cut_self h
theorem made_amount_bad (k : KD sz hs) (hd : d.pure = true) (hb : handB (sz.map nD) d = false) (h : E (clsOf mg "BadAmount") (.int (-1)) S) : wO (m_made_amount K mg [kD sz hs, d] S) P E := by
  refine wO_body ?_
  show wS (g_made_amount K mg [some (kD sz hs), some d] S) _ _ _ _ _
  unfold g_made_amount
  walk_at "dl"
  refine mk_ok k ?_
  walk_at "dl"
  refine want_bad k hd hb ?_
  exact cutX_self h
theorem state_at_ok (k : KD sz hs) (hl : ltL l sz) (h : P (stD hs l) S) : wO (m_state_at K mg [kD sz hs, aD l] S) P E := by
  refine wO_body ?_
  show wS (g_state_at K mg [some (kD sz hs), some (aD l)] S) _ _ _ _ _
  unfold g_state_at
  walk_at "dl"
  refine mk_ok k ?_
  walk_at "dl"
  refine want_good k hl ?_
  walk_at "dl"
  refine state_of_ok k hl ?_
  exact cut_self h
theorem state_at_bad (k : KD sz hs) (hd : d.pure = true) (hb : handB (sz.map nD) d = false) (h : E (clsOf mg "BadAmount") (.int (-1)) S) : wO (m_state_at K mg [kD sz hs, d] S) P E := by
  refine wO_body ?_
  show wS (g_state_at K mg [some (kD sz hs), some d] S) _ _ _ _ _
  unfold g_state_at
  walk_at "dl"
  refine mk_ok k ?_
  walk_at "dl"
  refine want_bad k hd hb ?_
  exact cutX_self h
theorem moved_ok (k : KD sz hs) (ha : ltL a sz) (hb : ltL b sz) (h : P (aD (addA sz a b)) S) : wO (m_moved K mg [kD sz hs, aD a, aD b] S) P E := by
  refine wO_body ?_
  show wS (g_moved K mg [some (kD sz hs), some (aD a), some (aD b)] S) _ _ _ _ _
  unfold g_moved
  walk_at "dl"
  refine mk_ok k ?_
  walk_at "dl"
  refine want_good k ha ?_
  walk_at "dl"
  refine want_good k hb ?_
  walk_at "dl"
  refine moved_by_ok k (ltL_len ha) (ltL_len hb) ?_
  exact cut_self h
theorem moved_bad (k : KD sz hs) (ha : ltL a sz) (hd : d.pure = true) (hb : handB (sz.map nD) d = false) (h : E (clsOf mg "BadAmount") (.int (-1)) S) : wO (m_moved K mg [kD sz hs, aD a, d] S) P E := by
  refine wO_body ?_
  show wS (g_moved K mg [some (kD sz hs), some (aD a), some d] S) _ _ _ _ _
  unfold g_moved
  walk_at "dl"
  refine mk_ok k ?_
  walk_at "dl"
  refine want_good k ha ?_
  walk_at "dl"
  refine want_bad k hd hb ?_
  exact cutX_self h
theorem step_ok (k : KD sz hs) (ha : ltL a sz) (hb : ltL b sz) (h : P (aD (subA sz a b)) S) : wO (m_step K mg [kD sz hs, aD a, aD b] S) P E := by
  refine wO_body ?_
  show wS (g_step K mg [some (kD sz hs), some (aD a), some (aD b)] S) _ _ _ _ _
  unfold g_step
  walk_at "dl"
  refine mk_ok k ?_
  walk_at "dl"
  refine want_good k ha ?_
  walk_at "dl"
  refine want_good k hb ?_
  walk_at "dl"
  refine step_of_ok k (ltL_len ha) (ltL_len hb) ?_
  exact cut_self h
theorem step_bad (k : KD sz hs) {d2 : DL.D} (hd : d.pure = true) (hb : handB (sz.map nD) d = false) (h : E (clsOf mg "BadAmount") (.int (-1)) S) : wO (m_step K mg [kD sz hs, d, d2] S) P E := by
  refine wO_body ?_
  show wS (g_step K mg [some (kD sz hs), some d, some d2] S) _ _ _ _ _
  unfold g_step
  walk_at "dl"
  refine mk_ok k ?_
  walk_at "dl"
  refine want_bad k hd hb ?_
  exact cutX_self h
theorem amount_ok (k : KD sz hs) {i : Nat} (hi : i < hs.length) (h : P (aD (hx hs i)) S) : wO (m_amount K mg [kD sz hs, nD i] S) P E := by
  refine wO_body ?_
  show wS (g_amount K mg [some (kD sz hs), some (nD i)] S) _ _ _ _ _
  unfold g_amount
  walk_at "dl"
  refine mk_ok k ?_
  rw [show kD sz hs = .tup [.tup (sz.map nD), .tup (hs.map aD)] from rfl]
  walk_at "dl"
  refine is_state_ok rfl ⟨_, rfl, fun hb => ?_, fun hb => ?_⟩
  · exfalso
    have : (nD i).btw 0 ((statesN (.tup [.tup (sz.map nD), .tup (hs.map aD)]) : Int) - 1) = true := btw_int (by omega) (by
      show (i : Int) ≤ (((hs.map aD).length : Nat) : Int) - 1
      rw [List.length_map]; omega)
    rw [this] at hb; cases hb
  · walk_at "dl"
    refine wO_ix rfl (DL.atI_nat (hx_at hi)) ?_
    exact cut_self h
theorem amount_bad (k : KD sz hs) (hd : d.pure = true) (hb : d.btw 0 ((hs.length : Int) - 1) = false) (h : E (clsOf mg "BadState") d S) : wO (m_amount K mg [kD sz hs, d] S) P E := by
  refine wO_body ?_
  show wS (g_amount K mg [some (kD sz hs), some d] S) _ _ _ _ _
  unfold g_amount
  walk_at "dl"
  refine mk_ok k ?_
  rw [show kD sz hs = .tup [.tup (sz.map nD), .tup (hs.map aD)] from rfl]
  walk_at "dl"
  have e : d.btw 0 ((statesN (.tup [.tup (sz.map nD), .tup (hs.map aD)]) : Int) - 1) = false := by
    show d.btw 0 ((((hs.map aD).length : Nat) : Int) - 1) = false
    rw [List.length_map]; exact hb
  refine is_state_ok hd ⟨_, rfl, fun _ => ?_, fun z => ?_⟩
  · walk_at "dl"
    exact cutX_self h
  · rw [e] at z; cases z
end
end K23

set_option Elab.async false
set_option linter.all false
set_option maxRecDepth 100000
namespace K23
open PySem PySem.Spec PyProof.Rows L2 DL
local macro_rules | `(tactic| walk_at "dl1") => `(tactic| first
  | with_reducible refine wS_seq ?_
  | with_reducible refine wS_set ?_
  | with_reducible refine wS_ret ?_
  | with_reducible refine wS_expr ?_
  | with_reducible refine wS_if ?_
  | with_reducible refine wS_next ?_
  | with_reducible refine wS_raise ?_
  | with_reducible refine wS_asg ?_
  | with_reducible refine wS_par ?_
  | with_reducible refine wS_par3 ?_
  | with_reducible refine wS_aug ?_
  | with_reducible refine wS_retN ?_
  | with_reducible refine wS_for ?_
  | with_reducible refine wS_break ?_
  | with_reducible refine wS_cont ?_
  | ((with_reducible refine' wO_var ?he_ ?_); (case he_ => exact rfl))
  | with_reducible refine wO_c ?_
  | with_reducible refine wO_ok ?_
  | with_reducible refine wO_isE ?_
  | with_reducible refine wO_what ?_
  | with_reducible refine wS_gone ?_
  | with_reducible refine wS_try ?_
  | ((with_reducible refine' wO_fnL ?he_ ?_); (case he_ => exact rfl))
  | with_reducible refine wO_join ?_
  | with_reducible refine wO_lCons ?_
  | with_reducible refine wO_lLam ?_
  | with_reducible refine wO_bin ?_
  | with_reducible refine wO_cons ?_
  | with_reducible refine wO_nil ?_
  | with_reducible refine wO_call ?_
  | with_reducible refine wO_fn ?_
  | with_reducible refine wO_val ?_
  | with_reducible refine wO_bnot ?_
  | with_reducible refine wO_un ?_
  | with_reducible refine wO_and ?_
  | with_reducible refine wO_or ?_
  | with_reducible refine wO_not ?_
  | with_reducible refine wO_if ?_
  | with_reducible refine wO_tup ?_
  | with_reducible refine wO_lst ?_
  | with_reducible refine wO_lstM ?_
  | with_reducible refine wO_band ?_
  | with_reducible refine wO_bor ?_
  | with_reducible refine wO_btrue ?_
  | with_reducible refine wO_bif ?_
  | with_reducible refine wO_chain ?_
  | with_reducible refine wO_lm ?_
  | with_reducible refine wO_slA ?_
  | with_reducible refine wO_oNone ?_
  | with_reducible refine wO_oSome ?_
  | with_reducible refine wO_comp ?_
  | with_reducible refine wO_compN ?_
  | with_reducible refine wO_xLst ?_
  | with_reducible refine wO_xTup ?_
  | with_reducible refine wO_xEnum ?_
  | with_reducible refine wO_xZip ?_
  | with_reducible refine wO_xRng1 ?_
  | with_reducible refine wO_xRng2 ?_
  | with_reducible refine wO_xRng ?_
  | with_reducible refine wO_add ?_
  | with_reducible refine wO_sub ?_
  | with_reducible refine wO_neg ?_
  | with_reducible refine wO_lt ?_
  | with_reducible refine wO_le ?_
  | with_reducible refine wO_gt ?_
  | with_reducible refine wO_ge ?_
  | with_reducible refine wO_eqI ?_
  | with_reducible refine wO_neI ?_
  | with_reducible refine wO_isNon ?_
  | with_reducible refine wO_eqS (b := true) (by decide +kernel) (by decide +kernel) (by decide +kernel) ?_
  | with_reducible refine wO_eqS (b := false) (by decide +kernel) (by decide +kernel) (by decide +kernel) ?_
  | with_reducible refine wO_isNotNon ?_
  | with_reducible refine wO_isB ?_
  | with_reducible refine wO_isNotB ?_
  | with_reducible refine wO_int ?_
  | with_reducible refine wO_intB ?_
  | with_reducible refine wO_max2 ?_
  | with_reducible refine wO_min2 ?_
  | with_reducible refine wO_range ?_
  | with_reducible refine wO_augAdd ?_
  | ((with_reducible refine' wO_len ?he_ ?_); (case he_ => exact rfl))
  | ((with_reducible refine' wO_tuple ?he_ ?_); (case he_ => exact rfl))
  | ((with_reducible refine' wO_list ?he_ ?_); (case he_ => exact rfl))
  | ((with_reducible refine' wO_isi ?he_ ?hm_ ?_); (case he_ => first | rfl | assumption); (case hm_ => decide))
  | ((with_reducible refine' wO_ix ?he_ ?h2_ ?_); (case he_ => first | exact rfl | exact seqOf_ref (by assumption)); (case h2_ => exact rfl))
  | ((with_reducible refine' Exists.intro _ (And.intro ?hr_ ?_)); (case hr_ => exact rfl))
  | ((with_reducible refine' And.intro ?hr_ ?_); (case hr_ => first | exact rfl | exact Nat.le_of_ble_eq_true rfl | (decide; done)))
  | ((with_reducible refine' Exists.intro _ (Exists.intro _ (And.intro ?hr_ ?_))); (case hr_ => exact rfl))
  | ((with_reducible refine' Exists.intro _ (Exists.intro _ (Exists.intro _ (And.intro ?hr_ ?_)))); (case hr_ => exact rfl))
  | with_reducible rfl)
local macro_rules | `(tactic| walk_at "dl") => `(tactic| repeat (walk_at "dl1"))
local macro_rules | `(tactic| walk_at "br") => `(tactic| ((with_reducible refine And.intro (fun hb => ?_) (fun hb => ?_)) <;> try (exfalso; first | (cases hb; done) | (simp at hb; done) | (simp at hb; omega))))
local macro_rules | `(tactic| walk_at "dlb") => `(tactic| repeat' (first | walk_at "dl1" | walk_at "br" | fail))
variable {K : PySem.W.Frag} {mg : Str → Option Value} {P : PP DL.D} {E : EE} {S : Sto}
/-! ### the amounts are right -/
theorem ltL_snoc : ∀ {l sz : List Nat} {a s : Nat}, ltL l sz → a < s → ltL (l ++ [a]) (sz ++ [s])
  | [], [], _, _, _, h => ⟨h, trivial⟩
  | _ :: _, _ :: _, _, _, h, h' => ⟨h.1, ltL_snoc h.2 h'⟩
  | [], _ :: _, _, _, h, _ => h.elim
  | _ :: _, [], _, _, h, _ => h.elim
theorem map_nD_inj {l l' : List Nat} (h : l.map nD = l'.map nD) : l = l' := aD_inj (show aD l = aD l' from congrArg DL.D.tup h)
theorem drawn_compS {sz : List Nat} {S0 : Sto} {n : Nat} {src : DL.Src} {own : List Nat} {c : CT} {t : BF} {fe : EF} {ρ : DL.Env} {PA : PP (List DL.D)} (h2 : ∀ s ∈ sz, 2 ≤ s ∧ s < 1000002) (hz : sz.length ≤ 100) (hs : ∀ S i, src.at' S i = some (sz.map nD)[i]?) (hl : src.len S = (sz.map nD).length) (h0 : St n S0 S)
    (step : ∀ s, 2 ≤ s → s < 1000002 → ∀ S', St n S0 S' → ∃ ρ2, c.put (nD s) (wipeE ρ own) = some ρ2 ∧ wO (t ρ2 S') (fun b S2 => (b = true → wO (fe ρ2 S2) (fun y S3 => (∃ v, v < s ∧ y = nD v) ∧ St n S0 S3) E0) ∧ (b = false → False)) E0)
    (fin : ∀ l S', ltL l sz → St n S0 S' → PA (l.map nD) S') : wO (compL src own c t fe ρ (src.len S + 1) 0 [] S) PA E := by
  refine wO_compS (sz.map nD) (fun done acc S' => ∃ l sz', done = sz'.map nD ∧ acc = l.map nD ∧ ltL l sz' ∧ St n S0 S') hs hl (by rw [List.length_map]; omega) ⟨[], [], rfl, rfl, trivial, h0⟩ (fun done x rest acc S' e ⟨l, sz', e1, e2, hlt, s'⟩ => ?_) fun acc S' ⟨l, sz', e1, e2, hlt, s'⟩ => ?_
  · obtain ⟨s, hsm, rfl⟩ := List.mem_map.mp (show x ∈ sz.map nD by rw [e]; simp)
    obtain ⟨ρ2, z1, z2⟩ := step s (h2 s hsm).1 (h2 s hsm).2 S' s'
    refine ⟨ρ2, z1, wO_imp z2 fun b S2 ⟨g1, g2⟩ => ⟨fun hb => wO_imp (g1 hb) fun y S3 ⟨⟨v, hv, ey⟩, s3⟩ => ?_, fun hb => (g2 hb).elim⟩⟩
    subst ey
    exact ⟨l ++ [v], sz' ++ [s], by rw [e1, List.map_append]; rfl, by rw [e2, List.map_append]; rfl, ltL_snoc hlt hv, s3⟩
  · have := map_nD_inj e1
    subst this
    rw [e2]
    exact fin l S' hlt s'
theorem stD_hx {sz : List Nat} {hs : List (List Nat)} (k : KD sz hs) {i : Nat} (hi : i < hs.length) : stD hs (hx hs i) = nD i := by
  unfold stD
  cases e : hs.findIdx? fun z => decide (z = hx hs i) with
  | none =>
    have := List.findIdx?_eq_none_iff.mp e _ (hx_mem hi)
    simp at this
  | some j =>
    obtain ⟨hj, hd, _⟩ := List.findIdx?_eq_some_iff_getElem.mp e
    have hd' := of_decide_eq_true hd
    unfold hx at hd'
    rw [List.getElem?_eq_getElem hi] at hd'
    have : j = i := by
      rcases Nat.lt_trichotomy j i with h | h | h
      · exact absurd hd' (List.pairwise_iff_getElem.mp k.nd j i hj hi h)
      · exact h
      · exact absurd hd'.symm (List.pairwise_iff_getElem.mp k.nd i j hi hj h)
    rw [this]
theorem gd_stD {sz : List Nat} {hs : List (List Nat)} (k : KD sz hs) (l : List Nat) : Gd 0 8 (stD hs l) := by
  unfold stD
  cases e : hs.findIdx? fun z => decide (z = l) with
  | none => exact gd_non.mono (by decide) (by decide)
  | some j =>
    obtain ⟨hj, _⟩ := List.findIdx?_eq_some_iff_getElem.mp e
    exact gd_nB (by have := k.h8; omega)
theorem okD_tabK {sz : List Nat} {hs : List (List Nat)} (k : KD sz hs) : okD (tabK sz hs) = true := by
  have h8 := k.h8
  have g : Gd 3 10000 (tabK sz hs) := gd_tup (k := 2) (N := 1000) (fun x hx => by
    obtain ⟨o, _, rfl⟩ := List.mem_map.mp hx
    refine gd_tup (k := 1) (N := 100) (fun x hx => ?_) (by rw [List.length_map, List.length_range]; have := Nat.mul_le_mul_right 102 h8; omega)
    obtain ⟨a, _, rfl⟩ := List.mem_map.mp hx
    refine gd_tup (k := 0) (N := 8) (fun x hx => ?_) (by rw [List.length_map, List.length_range]; have := Nat.mul_le_mul_right 10 h8; omega)
    obtain ⟨b, _, rfl⟩ := List.mem_map.mp hx
    exact gd_stD k _) (by rw [List.length_map, List.length_range]; have := Nat.mul_le_mul_right 1002 h8; omega)
  exact g.okD (by decide)
section
variable {sz : List Nat} {hs : List (List Nat)} {n : Nat}
theorem zeros_flat (n : Nat) : (List.replicate n [DL.D.int 0]).flatten = (List.replicate n 0).map nD := by
  induction n with
  | zero => rfl
  | succ n ih => rw [List.replicate_succ, List.flatten_cons, ih, List.replicate_succ]; rfl
theorem amounts_right_ok (hr : Sr S n) (k : KD sz hs) (h : ∀ S', St n S S' → P (.bl true) S') : wO (m__law_amounts_right K mg [.ref n, kD sz hs] S) P E := by
  have hln := hr.lt
  have h8 := k.h8
  have l4 := k.l4
  have hbb : -(2 ^ 62) ≤ (hs.length : Int) ∧ (hs.length : Int) < 2 ^ 62 := by omega
  refine wO_body ?_
  show wS (g__law_amounts_right K mg [some (.ref n), some (kD sz hs), none, none, none, none, none, none, none, none] S) _ _ _ _ _
  unfold g__law_amounts_right
  rw [show kD sz hs = .tup [.tup (sz.map nD), .tup (hs.map aD)] from rfl]
  walk_at "dl"
  rw [List.length_map]
  refine ⟨hbb, ?_⟩
  rw [Int.toNat_natCast]
  refine wS_forRng0 (n := hs.length) (fun i ρ S' => S' = S ∧ ∃ p, ρ = [some (.ref n), some (kD sz hs), some (.tup (sz.map nD)), some (.tup (hs.map aD)), p, none, none, none, none, none]) ⟨rfl, _, rfl⟩ (fun i ρ S' hi ⟨e1, p, e2⟩ => ?_) fun ρ S' ⟨e1, p, e2⟩ => ?_
  · subst e1 e2
    refine ⟨_, _, rfl, ?_⟩
    have hlt := k.lt _ (hx_mem hi)
    have gl := k.gdl hlt
    walk_at "dl"
    refine amount_ok k hi ?_
    walk_at "dl"
    refine wO_ix rfl (DL.atI_nat (hx_at hi)) ?_
    walk_at "dl"
    refine wO_neSame (gl.okD (by decide)) ?_
    walk_at "dlb"
    refine wO_ix rfl (DL.atI_nat (hx_at hi)) ?_
    walk_at "dl"
    refine state_at_ok k hlt ?_
    rw [stD_hx k hi]
    have gi : Gd 0 8 (nD i) := gd_nB (by omega)
    walk_at "dl"
    refine wO_repr gi ?_
    walk_at "dl"
    refine wO_repr (d := nD i) gi ?_
    walk_at "dl"
    refine wO_neSame (okD_str gi.so) ?_
    walk_at "dlb"
    exact ⟨_, rfl⟩
  subst e1 e2
  walk_at "dl"
  rw [show Int.toNat 4 = 4 from rfl]
  refine wS_forRng0 (n := 4) (fun i ρ S1 => St n S' S1 ∧ ∃ p q r t, ρ = [some (.ref n), some (kD sz hs), some (.tup (sz.map nD)), some (.tup (hs.map aD)), p, q, r, t, none, none]) ⟨hr.st, _, _, _, _, rfl⟩ (fun i ρ S1 hi ⟨s1, p, q, r, t, e2⟩ => ?_) fun ρ S1 ⟨s1, p, q, r, t, e2⟩ => ?_
  · subst e2
    refine ⟨_, _, rfl, ?_⟩
    walk_at "dl"
    rw [show Int.toNat 2 = 2 from rfl]
    refine wO_compRngI (n := 2) (fun j acc S2 => ∃ ls : List (List Nat), acc = ls.map aD ∧ ls.length = j ∧ (∀ l ∈ ls, ltL l sz) ∧ St n S' S2) (by omega) ⟨[], rfl, rfl, (fun _ z => absurd z (by simp)), s1⟩ (fun j acc S2 hj ⟨ls, g1, g2, g3, g4⟩ => ?_) fun acc S2 ⟨ls, g1, g2, g3, g4⟩ => ?_
    · refine ⟨_, rfl, wO_btrue ⟨fun _ => ?_, fun z => nomatch z⟩⟩
      walk_at "dl"
      refine drawn_compS (sz := sz) (S0 := S') (n := n) k.sz2 (by omega) (fun _ _ => rfl) rfl g4 (fun s h2 h3 S3 s3 => ⟨_, rfl, wO_btrue ⟨fun _ => ?_, fun z => nomatch z⟩⟩) fun l S3 hl s3 => ?_
      · unfold nD
        walk_at "dl"
        refine wO_take (s3.src hln) (by omega) (by omega) fun v S4 hv s4 => ⟨⟨v, by omega, rfl⟩, s3.trans s4⟩
      · walk_at "dl"
        refine ⟨ls ++ [l], by rw [g1, List.map_append]; rfl, by simp [g2], fun x hx => ?_, s3⟩
        rcases List.mem_append.mp hx with z | z
        · exact g3 x z
        · cases List.mem_singleton.mp z; exact hl
    match ls, g2 with
    | [a, b], _ =>
      have ha := g3 a (by simp)
      have hb := g3 b (by simp)
      subst g1
      have ga := k.gdl ha
      have gb := k.gdl hb
      have oa := ga.okD (by decide)
      have ob := gb.okD (by decide)
      walk_at "dl"
      refine made_amount_ok k ha ?_
      walk_at "dl"
      refine wO_repr ga ?_
      walk_at "dl"
      refine wO_repr (d := aD a) ga ?_
      walk_at "dl"
      refine wO_neSame (okD_str ga.so) ?_
      walk_at "dlb"
      refine state_at_ok k ha ?_
      walk_at "dl"
      refine v_state_ok k ha ?_
      walk_at "dl"
      refine wO_neSame ((gd_stD k a).okD (by decide)) ?_
      walk_at "dlb"
      refine moved_ok k ha hb ?_
      walk_at "dl"
      refine v_put_ok k (ltL_len ha) (ltL_len hb) ?_
      walk_at "dl"
      refine wO_neSame ((k.gdl (ltL_add k.two)).okD (by decide)) ?_
      walk_at "dlb"
      refine step_ok k ha hb ?_
      walk_at "dl"
      refine v_from_to_ok k (ltL_len ha) (ltL_len hb) ?_
      walk_at "dl"
      refine wO_neSame ((k.gdl (ltL_sub k.two)).okD (by decide)) ?_
      walk_at "dlb"
      refine step_ok k ha hb ?_
      walk_at "dl"
      refine moved_ok k ha (ltL_sub k.two) ?_
      rw [add_sub k.two hb]
      walk_at "dl"
      refine wO_neSame ob ?_
      walk_at "dlb"
      refine step_ok k ha ha ?_
      rw [sub_self]
      walk_at "dl"
      refine wO_mulT ⟨by simp, by omega, by rw [List.length_map]; omega, by simp⟩ ?_
      rw [List.length_map, Int.toNat_natCast, zeros_flat]
      walk_at "dl"
      have oz : okD (aD (List.replicate sz.length 0)) = true := by
        have := (k.gdl (ltL_sub (a := a) (b := a) k.two)).okD (by decide)
        rwa [sub_self] at this
      refine wO_neSame (x := aD (List.replicate sz.length 0)) oz ?_
      walk_at "dlb"
      refine moved_ok k ha hb ?_
      walk_at "dl"
      refine step_ok k ha (ltL_add k.two) ?_
      rw [sub_add k.two hb]
      walk_at "dl"
      refine wO_neSame ob ?_
      walk_at "dlb"
      exact ⟨g4, _, _, _, _, rfl⟩
  · subst e2
    walk_at "dl"
    refine table_of_ok k ?_
    walk_at "dl"
    refine v_table_ok k ?_
    walk_at "dl"
    refine wO_eqSame (okD_tabK k) ?_
    exact s1.cut rfl fun S'' s'' => h S'' s''
end
end K23

set_option Elab.async false
set_option linter.all false
set_option maxRecDepth 100000
namespace K23
open PySem PySem.Spec PyProof.Rows L2 DL
local macro_rules | `(tactic| walk_at "dl1") => `(tactic| first
  | with_reducible refine wS_seq ?_
  | with_reducible refine wS_set ?_
  | with_reducible refine wS_ret ?_
  | with_reducible refine wS_expr ?_
  | with_reducible refine wS_if ?_
  | with_reducible refine wS_next ?_
  | with_reducible refine wS_raise ?_
  | with_reducible refine wS_asg ?_
  | with_reducible refine wS_par ?_
  | with_reducible refine wS_par3 ?_
  | with_reducible refine wS_aug ?_
  | with_reducible refine wS_retN ?_
  | with_reducible refine wS_for ?_
  | with_reducible refine wS_break ?_
  | with_reducible refine wS_cont ?_
  | ((with_reducible refine' wO_var ?he_ ?_); (case he_ => exact rfl))
  | with_reducible refine wO_c ?_
  | with_reducible refine wO_ok ?_
  | with_reducible refine wO_isE ?_
  | with_reducible refine wO_what ?_
  | with_reducible refine wS_gone ?_
  | with_reducible refine wS_try ?_
  | ((with_reducible refine' wO_fnL ?he_ ?_); (case he_ => exact rfl))
  | with_reducible refine wO_join ?_
  | with_reducible refine wO_lCons ?_
  | with_reducible refine wO_lLam ?_
  | with_reducible refine wO_bin ?_
  | with_reducible refine wO_cons ?_
  | with_reducible refine wO_nil ?_
  | with_reducible refine wO_call ?_
  | with_reducible refine wO_fn ?_
  | with_reducible refine wO_val ?_
  | with_reducible refine wO_bnot ?_
  | with_reducible refine wO_un ?_
  | with_reducible refine wO_and ?_
  | with_reducible refine wO_or ?_
  | with_reducible refine wO_not ?_
  | with_reducible refine wO_if ?_
  | with_reducible refine wO_tup ?_
  | with_reducible refine wO_lst ?_
  | with_reducible refine wO_lstM ?_
  | with_reducible refine wO_band ?_
  | with_reducible refine wO_bor ?_
  | with_reducible refine wO_btrue ?_
  | with_reducible refine wO_bif ?_
  | with_reducible refine wO_chain ?_
  | with_reducible refine wO_lm ?_
  | with_reducible refine wO_slA ?_
  | with_reducible refine wO_oNone ?_
  | with_reducible refine wO_oSome ?_
  | with_reducible refine wO_comp ?_
  | with_reducible refine wO_compN ?_
  | with_reducible refine wO_xLst ?_
  | with_reducible refine wO_xTup ?_
  | with_reducible refine wO_xEnum ?_
  | with_reducible refine wO_xZip ?_
  | with_reducible refine wO_xRng1 ?_
  | with_reducible refine wO_xRng2 ?_
  | with_reducible refine wO_xRng ?_
  | with_reducible refine wO_add ?_
  | with_reducible refine wO_sub ?_
  | with_reducible refine wO_neg ?_
  | with_reducible refine wO_lt ?_
  | with_reducible refine wO_le ?_
  | with_reducible refine wO_gt ?_
  | with_reducible refine wO_ge ?_
  | with_reducible refine wO_eqI ?_
  | with_reducible refine wO_neI ?_
  | with_reducible refine wO_isNon ?_
  | with_reducible refine wO_eqS (b := true) (by decide +kernel) (by decide +kernel) (by decide +kernel) ?_
  | with_reducible refine wO_eqS (b := false) (by decide +kernel) (by decide +kernel) (by decide +kernel) ?_
  | with_reducible refine wO_isNotNon ?_
  | with_reducible refine wO_isB ?_
  | with_reducible refine wO_isNotB ?_
  | with_reducible refine wO_int ?_
  | with_reducible refine wO_intB ?_
  | with_reducible refine wO_max2 ?_
  | with_reducible refine wO_min2 ?_
  | with_reducible refine wO_range ?_
  | with_reducible refine wO_augAdd ?_
  | ((with_reducible refine' wO_len ?he_ ?_); (case he_ => exact rfl))
  | ((with_reducible refine' wO_tuple ?he_ ?_); (case he_ => exact rfl))
  | ((with_reducible refine' wO_list ?he_ ?_); (case he_ => exact rfl))
  | ((with_reducible refine' wO_isi ?he_ ?hm_ ?_); (case he_ => first | rfl | assumption); (case hm_ => decide))
  | ((with_reducible refine' wO_ix ?he_ ?h2_ ?_); (case he_ => first | exact rfl | exact seqOf_ref (by assumption)); (case h2_ => exact rfl))
  | ((with_reducible refine' Exists.intro _ (And.intro ?hr_ ?_)); (case hr_ => exact rfl))
  | ((with_reducible refine' And.intro ?hr_ ?_); (case hr_ => first | exact rfl | exact Nat.le_of_ble_eq_true rfl | (decide; done)))
  | ((with_reducible refine' Exists.intro _ (Exists.intro _ (And.intro ?hr_ ?_))); (case hr_ => exact rfl))
  | ((with_reducible refine' Exists.intro _ (Exists.intro _ (Exists.intro _ (And.intro ?hr_ ?_)))); (case hr_ => exact rfl))
  | with_reducible rfl)
local macro_rules | `(tactic| walk_at "dl") => `(tactic| repeat (walk_at "dl1"))
local macro_rules | `(tactic| walk_at "br") => `(tactic| ((with_reducible refine And.intro (fun hb => ?_) (fun hb => ?_)) <;> try (exfalso; first | (cases hb; done) | (simp at hb; done) | (simp at hb; omega))))
local macro_rules | `(tactic| walk_at "dlb") => `(tactic| repeat' (first | walk_at "dl1" | walk_at "br" | fail))
variable {K : PySem.W.Frag} {mg : Str → Option Value} {P : PP DL.D} {E : EE} {S : Sto}
/-! ### drawn kinds, fields, records -/
theorem pure_nats (sz : List Nat) : (DL.D.tup (sz.map nD)).pure = true := pure_tup fun x hx => by
  obtain ⟨k, _, rfl⟩ := List.mem_map.mp hx
  rfl
theorem v_sizes_ok {n : Nat} (hs : Sr S n) (q : ∀ (sz : List Nat) S', sz.length ≤ 2 → (∀ s ∈ sz, 2 ≤ s ∧ s ≤ 6) → St n S S' → P (.tup (sz.map nD)) S') : wO (m__law_v_sizes K mg [.ref n] S) P E := by
  have hl := hs.lt
  refine wO_body ?_
  show wS (g__law_v_sizes K mg [some (.ref n), none] S) _ _ _ _ _
  unfold g__law_v_sizes
  walk_at "dl"
  refine one_ok (xs := [.int 1, .int 2, .int 1, .int 2, .int 0]) hs (by simp) (by simp) (fun x hx => by simp only [List.mem_cons, List.not_mem_nil, or_false] at hx; rcases hx with rfl | rfl | rfl | rfl | rfl <;> rfl) fun d S1 hd s1 => ?_
  obtain ⟨k, rfl, hk⟩ : ∃ k : Nat, d = .int (k : Int) ∧ k ≤ 2 := by
    simp only [List.mem_cons, List.not_mem_nil, or_false] at hd
    rcases hd with rfl | rfl | rfl | rfl | rfl
    · exact ⟨1, rfl, by decide⟩
    · exact ⟨2, rfl, by decide⟩
    · exact ⟨1, rfl, by decide⟩
    · exact ⟨2, rfl, by decide⟩
    · exact ⟨0, rfl, by decide⟩
  have hbb : -(2 ^ 62) ≤ (k : Int) ∧ (k : Int) < 2 ^ 62 := by omega
  walk_at "dl"
  refine ⟨hbb, ?_⟩
  rw [Int.toNat_natCast]
  refine wO_compRngI (n := k) (fun j acc S' => ∃ sz : List Nat, acc = sz.map nD ∧ sz.length = j ∧ (∀ s ∈ sz, 2 ≤ s ∧ s ≤ 6) ∧ St n S S') (by omega) ⟨[], rfl, rfl, (fun _ z => absurd z (by simp)), s1⟩ (fun j acc S' hj ⟨sz, g1, g2, g3, g4⟩ => ?_) fun acc S' ⟨sz, g1, g2, g3, g4⟩ => ?_
  · refine ⟨_, rfl, wO_btrue ⟨fun _ => ?_, fun z => nomatch z⟩⟩
    walk_at "dl"
    refine one_ok (xs := [.int 2, .int 3, .int 2, .int 4, .int 5, .int 6]) (g4.src hl) (by simp) (by simp) (fun x hx => by simp only [List.mem_cons, List.not_mem_nil, or_false] at hx; rcases hx with rfl | rfl | rfl | rfl | rfl | rfl <;> rfl) fun d S2 hd s2 => ?_
    obtain ⟨v, rfl, hv⟩ : ∃ k : Nat, d = nD k ∧ 2 ≤ k ∧ k ≤ 6 := by
      simp only [List.mem_cons, List.not_mem_nil, or_false] at hd
      rcases hd with rfl | rfl | rfl | rfl | rfl | rfl
      · exact ⟨2, rfl, by decide⟩
      · exact ⟨3, rfl, by decide⟩
      · exact ⟨2, rfl, by decide⟩
      · exact ⟨4, rfl, by decide⟩
      · exact ⟨5, rfl, by decide⟩
      · exact ⟨6, rfl, by decide⟩
    refine ⟨sz ++ [v], by rw [g1, List.map_append]; rfl, by simp [g2], fun s hsm => ?_, g4.trans s2⟩
    rcases List.mem_append.mp hsm with z | z
    · exact g3 s z
    · cases List.mem_singleton.mp z; exact hv
  · subst g1
    walk_at "dl"
    exact g4.cut (pure_nats sz) fun S'' s'' => q sz S'' (by omega) g3 s''
theorem allA_nodup (sz : List Nat) : (allA sz).Nodup := by
  unfold allA
  have : ∀ {sz : List Nat} {f : List (List Nat)}, f.Nodup → (sz.foldl nxtA f).Nodup := by
    intro sz
    induction sz with
    | nil => intro f h; exact h
    | cons s sz ih => intro f h; exact ih (nxtA_nodup h)
  exact this (by simp)
theorem allA_pos {sz : List Nat} (h : ∀ s ∈ sz, 2 ≤ s) : 1 ≤ (allA sz).length := by
  unfold allA
  have : ∀ {sz : List Nat} {f : List (List Nat)}, (∀ s ∈ sz, 2 ≤ s) → 1 ≤ f.length → 1 ≤ (sz.foldl nxtA f).length := by
    intro sz
    induction sz with
    | nil => intro f _ h; exact h
    | cons s sz ih =>
      intro f hs h
      refine ih (fun t ht => hs t (by simp [ht])) ?_
      rw [nxtA_len]
      have := hs s (by simp)
      exact Nat.mul_pos h (by omega)
  exact this h (Nat.le_refl _)
theorem allA_small {sz : List Nat} (h2 : sz.length ≤ 2) (h : ∀ s ∈ sz, s ≤ 6) : (allA sz).length ≤ 36 := by
  match sz, h2 with
  | [], _ => decide
  | [s], _ =>
    show (nxtA [[]] s).length ≤ 36
    rw [nxtA_len]
    have := h s (by simp)
    show 1 * s ≤ 36
    omega
  | [s, t], _ =>
    show (nxtA (nxtA [[]] s) t).length ≤ 36
    rw [nxtA_len, nxtA_len]
    have h1 := h s (by simp)
    have h2 := h t (by simp)
    show 1 * s * t ≤ 36
    rw [Nat.one_mul]
    exact Nat.mul_le_mul h1 h2
  | _ :: _ :: _ :: _, z => exact absurd z (by simp)
theorem pure_aD (l : List Nat) : (aD l).pure = true := pure_nats l
theorem hands_of {A : List (List Nat)} : ∀ {ys : List DL.D}, (∀ y ∈ ys, ∃ l ∈ A, y = aD l) → ∃ ls : List (List Nat), ys = ls.map aD ∧ ∀ l ∈ ls, l ∈ A
  | [], _ => ⟨[], rfl, fun _ z => absurd z (by simp)⟩
  | y :: ys, h => by
    obtain ⟨ls, e, hm⟩ := hands_of (ys := ys) fun y hy => h y (by simp [hy])
    obtain ⟨l, hl, ey⟩ := h y (by simp)
    exact ⟨l :: ls, by rw [e, ey]; rfl, fun x hx => by
      rcases List.mem_cons.mp hx with rfl | hx
      · exact hl
      · exact hm x hx⟩
theorem nodup_of_map {ls : List (List Nat)} (h : (ls.map aD).Nodup) : ls.Nodup := (List.pairwise_map.mp h).imp fun h e => h (by rw [e])
theorem v_kind_ok {n : Nat} (hs : Sr S n) (q : ∀ sz hs S', KD sz hs → St n S S' → P (kD sz hs) S') : wO (m__law_v_kind K mg [.ref n, .int 8] S) P E := by
  have hl := hs.lt
  refine wO_body ?_
  show wS (g__law_v_kind K mg [some (.ref n), some (.int 8), none, none, none] S) _ _ _ _ _
  unfold g__law_v_kind
  walk_at "dl"
  refine v_sizes_ok hs fun sz S1 l2 hsz s1 => ?_
  walk_at "dl"
  refine all_amounts_ok l2 (fun s h => (hsz s h).2) ?_
  have pe : ∀ x ∈ (allA sz).map aD, x.pure = true := fun x hx => by
    obtain ⟨l, _, rfl⟩ := List.mem_map.mp hx
    exact pure_aD l
  have hsm := allA_small l2 (fun s h => (hsz s h).2)
  have hpos := allA_pos (fun s h => (hsz s h).1)
  have elen : ((allA sz).map aD).length = (allA sz).length := by simp
  have end_ok : ∀ (hs : List DL.D) S', (1 ≤ hs.length ∧ hs.length ≤ 8) → hs.Nodup → (∀ y ∈ hs, ∃ l ∈ allA sz, y = aD l) → St n S S' → wO (cut S (.tup [.tup (sz.map nD), .tup hs]) S') P E := fun hs S' hln hnd hmem s' => by
    obtain ⟨ls, rfl, hA⟩ := hands_of hmem
    refine s'.cut ?_ fun S'' s'' => q sz ls S'' ⟨by omega, fun s hs => by have := hsz s hs; omega, by simpa using hln.1, by simpa using hln.2, nodup_of_map hnd, fun l hl => mem_allA (hA l hl)⟩ s''
    refine pure_tup fun x hx => ?_
    simp only [List.mem_cons, List.not_mem_nil, or_false] at hx
    rcases hx with rfl | rfl
    · exact pure_nats sz
    · refine pure_tup fun x hx => ?_
      obtain ⟨l, _, rfl⟩ := hmem x hx
      exact pure_aD l
  have nd : ((allA sz).map aD).Nodup := List.Pairwise.map _ (fun a b (hab : a ≠ b) e => hab (aD_inj e)) (allA_nodup sz)
  have mem : ∀ {ys : List DL.D}, List.Perm ys ((allA sz).map aD) → ∀ y ∈ ys, ∃ l ∈ allA sz, y = aD l := fun pm y hy => by
    obtain ⟨l, hl, rfl⟩ := List.mem_map.mp (pm.mem_iff.mp hy)
    exact ⟨l, hl, rfl⟩
  walk_at "dl"
  refine mixed_ok (s1.src hl) (by omega) pe fun ys S2 pm s2 => ?_
  have s12 := s1.trans s2
  have yl : ys.length = (allA sz).length := by rw [pm.length_eq, elen]
  walk_at "dl"
  rw [elen]
  have hmin : ∃ m : Nat, (if ((allA sz).length : Int) < 8 then ((allA sz).length : Int) else 8) = (m : Int) ∧ 1 ≤ m ∧ m ≤ 8 ∧ m ≤ (allA sz).length := by
    split
    · exact ⟨(allA sz).length, rfl, hpos, by omega, Nat.le_refl _⟩
    · exact ⟨8, rfl, by decide, by decide, by omega⟩
  obtain ⟨m, em, m1, m6, ml⟩ := hmin
  rw [em]
  refine wO_take (s12.src hl) (by omega) (by omega) fun v S3 hv s3 => ?_
  have s13 := s12.trans s3
  walk_at "dl"
  rw [show (1 + (v : Int)) = ((1 + v : Nat) : Int) by omega, cutD_take]
  have mem' : ∀ y ∈ ys.take (1 + v), ∃ l ∈ allA sz, y = aD l := fun y hy => mem pm y (List.mem_of_mem_take hy)
  have nd' : (ys.take (1 + v)).Nodup := (pm.nodup_iff.mpr nd).sublist (List.take_sublist _ _)
  have len' : 1 ≤ (ys.take (1 + v)).length ∧ (ys.take (1 + v)).length ≤ 8 := by rw [List.length_take]; omega
  generalize ys.take (1 + v) = held at *
  walk_at "dl"
  rw [elen]
  refine ⟨fun hle => ?_, fun _ => ?_⟩
  · walk_at "dl"
    refine wO_take (s13.src hl) (by omega) (by omega) fun v2 S4 hv2 s4 => ?_
    have s14 := s13.trans s4
    walk_at "dl"
    refine ⟨fun _ => ?_, fun _ => ?_⟩
    · walk_at "dl"
      refine mixed_ok (s14.src hl) (by omega) pe fun ys S5 pm s5 => ?_
      have yl : ys.length = (allA sz).length := by rw [pm.length_eq, elen]
      have hle' := of_decide_eq_true hle
      walk_at "dl"
      exact end_ok ys S5 (by omega) (pm.nodup_iff.mpr nd) (mem pm) (s14.trans s5)
    · walk_at "dl"
      exact end_ok held S4 len' nd' mem' s14
  · refine ⟨(fun z => nomatch z), fun _ => ?_⟩
    walk_at "dl"
    exact end_ok held S3 len' nd' mem' s13
end K23

set_option Elab.async false
set_option linter.all false
set_option maxRecDepth 100000
namespace K23
open PySem PySem.Spec PyProof.Rows L2 DL
local macro_rules | `(tactic| walk_at "dl1") => `(tactic| first
  | with_reducible refine wS_seq ?_
  | with_reducible refine wS_set ?_
  | with_reducible refine wS_ret ?_
  | with_reducible refine wS_expr ?_
  | with_reducible refine wS_if ?_
  | with_reducible refine wS_next ?_
  | with_reducible refine wS_raise ?_
  | with_reducible refine wS_asg ?_
  | with_reducible refine wS_par ?_
  | with_reducible refine wS_par3 ?_
  | with_reducible refine wS_aug ?_
  | with_reducible refine wS_retN ?_
  | with_reducible refine wS_for ?_
  | with_reducible refine wS_break ?_
  | with_reducible refine wS_cont ?_
  | ((with_reducible refine' wO_var ?he_ ?_); (case he_ => exact rfl))
  | with_reducible refine wO_c ?_
  | with_reducible refine wO_ok ?_
  | with_reducible refine wO_isE ?_
  | with_reducible refine wO_what ?_
  | with_reducible refine wS_gone ?_
  | with_reducible refine wS_try ?_
  | ((with_reducible refine' wO_fnL ?he_ ?_); (case he_ => exact rfl))
  | with_reducible refine wO_join ?_
  | with_reducible refine wO_lCons ?_
  | with_reducible refine wO_lLam ?_
  | with_reducible refine wO_bin ?_
  | with_reducible refine wO_cons ?_
  | with_reducible refine wO_nil ?_
  | with_reducible refine wO_call ?_
  | with_reducible refine wO_fn ?_
  | with_reducible refine wO_val ?_
  | with_reducible refine wO_bnot ?_
  | with_reducible refine wO_un ?_
  | with_reducible refine wO_and ?_
  | with_reducible refine wO_or ?_
  | with_reducible refine wO_not ?_
  | with_reducible refine wO_if ?_
  | with_reducible refine wO_tup ?_
  | with_reducible refine wO_lst ?_
  | with_reducible refine wO_lstM ?_
  | with_reducible refine wO_band ?_
  | with_reducible refine wO_bor ?_
  | with_reducible refine wO_btrue ?_
  | with_reducible refine wO_bif ?_
  | with_reducible refine wO_chain ?_
  | with_reducible refine wO_lm ?_
  | with_reducible refine wO_slA ?_
  | with_reducible refine wO_oNone ?_
  | with_reducible refine wO_oSome ?_
  | with_reducible refine wO_comp ?_
  | with_reducible refine wO_compN ?_
  | with_reducible refine wO_xLst ?_
  | with_reducible refine wO_xTup ?_
  | with_reducible refine wO_xEnum ?_
  | with_reducible refine wO_xZip ?_
  | with_reducible refine wO_xRng1 ?_
  | with_reducible refine wO_xRng2 ?_
  | with_reducible refine wO_xRng ?_
  | with_reducible refine wO_add ?_
  | with_reducible refine wO_sub ?_
  | with_reducible refine wO_neg ?_
  | with_reducible refine wO_lt ?_
  | with_reducible refine wO_le ?_
  | with_reducible refine wO_gt ?_
  | with_reducible refine wO_ge ?_
  | with_reducible refine wO_eqI ?_
  | with_reducible refine wO_neI ?_
  | with_reducible refine wO_isNon ?_
  | with_reducible refine wO_eqS (b := true) (by decide +kernel) (by decide +kernel) (by decide +kernel) ?_
  | with_reducible refine wO_eqS (b := false) (by decide +kernel) (by decide +kernel) (by decide +kernel) ?_
  | with_reducible refine wO_isNotNon ?_
  | with_reducible refine wO_isB ?_
  | with_reducible refine wO_isNotB ?_
  | with_reducible refine wO_int ?_
  | with_reducible refine wO_intB ?_
  | with_reducible refine wO_max2 ?_
  | with_reducible refine wO_min2 ?_
  | with_reducible refine wO_range ?_
  | with_reducible refine wO_augAdd ?_
  | ((with_reducible refine' wO_len ?he_ ?_); (case he_ => exact rfl))
  | ((with_reducible refine' wO_tuple ?he_ ?_); (case he_ => exact rfl))
  | ((with_reducible refine' wO_list ?he_ ?_); (case he_ => exact rfl))
  | ((with_reducible refine' wO_isi ?he_ ?hm_ ?_); (case he_ => first | rfl | assumption); (case hm_ => decide))
  | ((with_reducible refine' wO_ix ?he_ ?h2_ ?_); (case he_ => first | exact rfl | exact seqOf_ref (by assumption)); (case h2_ => exact rfl))
  | ((with_reducible refine' Exists.intro _ (And.intro ?hr_ ?_)); (case hr_ => exact rfl))
  | ((with_reducible refine' And.intro ?hr_ ?_); (case hr_ => first | exact rfl | exact Nat.le_of_ble_eq_true rfl | (decide; done)))
  | ((with_reducible refine' Exists.intro _ (Exists.intro _ (And.intro ?hr_ ?_))); (case hr_ => exact rfl))
  | ((with_reducible refine' Exists.intro _ (Exists.intro _ (Exists.intro _ (And.intro ?hr_ ?_)))); (case hr_ => exact rfl))
  | with_reducible rfl)
local macro_rules | `(tactic| walk_at "dl") => `(tactic| repeat (walk_at "dl1"))
local macro_rules | `(tactic| walk_at "br") => `(tactic| ((with_reducible refine And.intro (fun hb => ?_) (fun hb => ?_)) <;> try (exfalso; first | (cases hb; done) | (simp at hb; done) | (simp at hb; omega))))
local macro_rules | `(tactic| walk_at "dlb") => `(tactic| repeat' (first | walk_at "dl1" | walk_at "br" | fail))
variable {K : PySem.W.Frag} {mg : Str → Option Value} {P : PP DL.D} {E : EE} {S : Sto}
/-! ### great kinds -/
theorem wO_notInL {x : DL.D} {ys : List DL.D} (hx : okD x = true) (hy : okD (.lst ys) = true) (h : P (.bl (!(D.Ps ys).any fun z => PyData.eqv z x.P)) S) : wO (notInD x (.lst ys) S) P E := by
  have px : x.pure = true := (Bool.and_eq_true_iff.mp hx).1
  have e : inB S x (.lst ys) = some ((D.Ps ys).any fun z => PyData.eqv z x.P) := by
    unfold inB
    rw [top_pure px, show top S (.lst ys) = .lst ys from rfl, if_pos ⟨hx, hy⟩]
  unfold notInD
  rw [e]
  exact wO_ok h
theorem gd_lt {sz l : List Nat} (h2 : ∀ s ∈ sz, 2 ≤ s ∧ s < 1000002) (l4 : sz.length ≤ 4) (h : ltL l sz) : Gd 1 60 (aD l) := gd_sizes (by rw [ltL_len h]; omega) fun x hx => by
  obtain ⟨s, hsm, hlt⟩ := ltL_le h x hx
  have := h2 s hsm
  omega
theorem great_kind_ok {n : Nat} (hr : Sr S n) (q : ∀ sz hs S', KD sz hs → St n S S' → P (kD sz hs) S') : wO (m__law_great_kind K mg [.ref n] S) P E := by
  have hln := hr.lt
  refine wO_body ?_
  show wS (g__law_great_kind K mg [some (.ref n), none, none, none, none, none, none] S) _ _ _ _ _
  unfold g__law_great_kind
  walk_at "dl"
  refine wO_take hr (by omega) (by omega) fun v S1 hv s1 => ?_
  have hbb : -(2 ^ 62) ≤ 1 + (v : Int) ∧ 1 + (v : Int) < 2 ^ 62 := by omega
  walk_at "dl"
  refine ⟨hbb, ?_⟩
  rw [show (1 + (v : Int)).toNat = 1 + v by omega]
  refine wO_compRngI (n := 1 + v) (fun j acc S' => ∃ sz : List Nat, acc = sz.map nD ∧ sz.length = j ∧ (∀ s ∈ sz, 2 ≤ s ∧ s < 1000002) ∧ St n S S') (by omega) ⟨[], rfl, rfl, (fun _ z => absurd z (by simp)), s1⟩ (fun j acc S' hj ⟨sz, g1, g2, g3, g4⟩ => ?_) fun acc S' ⟨sz, g1, g2, g3, g4⟩ => ?_
  · refine ⟨_, rfl, wO_btrue ⟨fun _ => ?_, fun z => nomatch z⟩⟩
    walk_at "dl"
    refine wO_pow ⟨by decide, by decide, by decide⟩ ?_
    rw [show ((10 : Int) ^ Int.toNat 6) = 1000000 by decide +kernel]
    walk_at "dl"
    refine wO_take (g4.src hln) (by omega) (by omega) fun w S3 hw s3 => ?_
    walk_at "dl"
    refine ⟨sz ++ [2 + w], ?_, by simp [g2], fun s hsm => ?_, g4.trans s3⟩
    · rw [g1, List.map_append]
      show _ = _ ++ [DL.D.int ((2 + w : Nat) : Int)]
      rw [show ((2 + w : Nat) : Int) = 2 + (w : Int) by omega]
    · rcases List.mem_append.mp hsm with z | z
      · exact g3 s z
      · cases List.mem_singleton.mp z; omega
  · subst g1
    have l4 : sz.length ≤ 4 := by omega
    walk_at "dl"
    refine wO_take (g4.src hln) (by omega) (by omega) fun v2 S2 hv2 s2 => ?_
    have s12 := g4.trans s2
    have hbb2 : -(2 ^ 62) ≤ 1 + (v2 : Int) ∧ 1 + (v2 : Int) < 2 ^ 62 := by omega
    walk_at "dl"
    refine ⟨hbb2, ?_⟩
    rw [show (1 + (v2 : Int)).toNat = 1 + v2 by omega]
    refine wS_forRng0 (n := 1 + v2) (fun i ρ S' => St n S S' ∧ ∃ hs : List (List Nat), hs.length ≤ i ∧ (1 ≤ i → 1 ≤ hs.length) ∧ hs.Nodup ∧ (∀ l ∈ hs, ltL l sz) ∧ ∃ p q, ρ = [some (.ref n), some (.tup (sz.map nD)), some (.lst (hs.map aD)), p, q, none, none]) ⟨s12, [], Nat.le_refl _, (fun z => by omega), List.nodup_nil, (fun _ z => absurd z (by simp)), _, _, rfl⟩ (fun i ρ S' hi ⟨s', hs, g5, g6, g7, g8, p, q, e2⟩ => ?_) fun ρ S' ⟨s', hs, g5, g6, g7, g8, p, q', e2⟩ => ?_
    · subst e2
      refine ⟨_, _, rfl, ?_⟩
      walk_at "dl"
      refine drawn_compS (sz := sz) (S0 := S) (n := n) g3 (by omega) (fun _ _ => rfl) rfl s' (fun s h2 h3 S3 s3 => ⟨_, rfl, wO_btrue ⟨fun _ => ?_, fun z => nomatch z⟩⟩) fun l S3 hl s3 => ?_
      · unfold nD
        walk_at "dl"
        refine wO_take (s3.src hln) (by omega) (by omega) fun v S4 hv s4 => ⟨⟨v, by omega, rfl⟩, s3.trans s4⟩
      · have gl := gd_lt g3 l4 hl
        have ol : okD (aD l) = true := gl.okD (by decide)
        have oh : okD (.lst (hs.map aD)) = true := (gd_list (k := 1) (N := 60) (M := 1000) (fun x hx => by
          obtain ⟨l', hl', rfl⟩ := List.mem_map.mp hx
          exact gd_lt g3 l4 (g8 l' hl')) (by rw [List.length_map]; have := Nat.mul_le_mul_right 62 (show hs.length ≤ 6 by omega); omega)).okD (by decide)
        walk_at "dl"
        refine wO_notInL (x := aD l) ol oh ?_
        rw [any_aD]
        cases hb : hs.any fun z => decide (z = l) with
        | true =>
          walk_at "dl"
          refine wO_mulL ⟨by decide, by decide, Nat.le_of_ble_eq_true rfl⟩ ?_
          walk_at "dl"
          refine wO_addL (by simp; omega) ?_
          refine ⟨s3, hs, by omega, fun _ => ?_, g7, g8, some (nD i), some (aD l), ?_⟩
          · cases hs with
            | nil => cases hb
            | cons _ _ => simp
          · show [some (DL.D.ref n), some (DL.D.tup (sz.map nD)), some (DL.D.lst (hs.map aD ++ [])), some (nD i), some (aD l), none, none] = _
            rw [List.append_nil]
        | false =>
          walk_at "dl"
          refine wO_mulL ⟨by decide, by decide, Nat.le_of_ble_eq_true rfl⟩ ?_
          walk_at "dl"
          refine wO_addL (by simp; omega) ?_
          refine ⟨s3, hs ++ [l], by simp; omega, fun _ => by simp, ?_, fun x hx => ?_, some (nD i), some (aD l), ?_⟩
          · rw [List.nodup_append]
            refine ⟨g7, by simp, fun x hx y hy e => ?_⟩
            cases List.mem_singleton.mp hy
            subst e
            have := List.any_eq_false.mp hb x hx
            simp at this
          · rcases List.mem_append.mp hx with z | z
            · exact g8 x z
            · cases List.mem_singleton.mp z; exact hl
          · rw [List.map_append]
            rfl
    · subst e2
      walk_at "dl"
      have kd : KD sz hs := ⟨l4, g3, g6 (by omega), by omega, g7, g8⟩
      exact s'.cut kd.gd.pu fun S'' s'' => q sz hs S'' kd s''
end K23

set_option Elab.async false
set_option linter.all false
set_option maxRecDepth 100000
namespace K23
open PySem PySem.Spec PyProof.Rows L2 DL
local macro_rules | `(tactic| walk_at "dl1") => `(tactic| first
  | with_reducible refine wS_seq ?_
  | with_reducible refine wS_set ?_
  | with_reducible refine wS_ret ?_
  | with_reducible refine wS_expr ?_
  | with_reducible refine wS_if ?_
  | with_reducible refine wS_next ?_
  | with_reducible refine wS_raise ?_
  | with_reducible refine wS_asg ?_
  | with_reducible refine wS_par ?_
  | with_reducible refine wS_par3 ?_
  | with_reducible refine wS_aug ?_
  | with_reducible refine wS_retN ?_
  | with_reducible refine wS_for ?_
  | with_reducible refine wS_break ?_
  | with_reducible refine wS_cont ?_
  | ((with_reducible refine' wO_var ?he_ ?_); (case he_ => exact rfl))
  | with_reducible refine wO_c ?_
  | with_reducible refine wO_ok ?_
  | with_reducible refine wO_isE ?_
  | with_reducible refine wO_what ?_
  | with_reducible refine wS_gone ?_
  | with_reducible refine wS_try ?_
  | ((with_reducible refine' wO_fnL ?he_ ?_); (case he_ => exact rfl))
  | with_reducible refine wO_join ?_
  | with_reducible refine wO_lCons ?_
  | with_reducible refine wO_lLam ?_
  | with_reducible refine wO_bin ?_
  | with_reducible refine wO_cons ?_
  | with_reducible refine wO_nil ?_
  | with_reducible refine wO_call ?_
  | with_reducible refine wO_fn ?_
  | with_reducible refine wO_val ?_
  | with_reducible refine wO_bnot ?_
  | with_reducible refine wO_un ?_
  | with_reducible refine wO_and ?_
  | with_reducible refine wO_or ?_
  | with_reducible refine wO_not ?_
  | with_reducible refine wO_if ?_
  | with_reducible refine wO_tup ?_
  | with_reducible refine wO_lst ?_
  | with_reducible refine wO_lstM ?_
  | with_reducible refine wO_band ?_
  | with_reducible refine wO_bor ?_
  | with_reducible refine wO_btrue ?_
  | with_reducible refine wO_bif ?_
  | with_reducible refine wO_chain ?_
  | with_reducible refine wO_lm ?_
  | with_reducible refine wO_slA ?_
  | with_reducible refine wO_oNone ?_
  | with_reducible refine wO_oSome ?_
  | with_reducible refine wO_comp ?_
  | with_reducible refine wO_compN ?_
  | with_reducible refine wO_xLst ?_
  | with_reducible refine wO_xTup ?_
  | with_reducible refine wO_xEnum ?_
  | with_reducible refine wO_xZip ?_
  | with_reducible refine wO_xRng1 ?_
  | with_reducible refine wO_xRng2 ?_
  | with_reducible refine wO_xRng ?_
  | with_reducible refine wO_add ?_
  | with_reducible refine wO_sub ?_
  | with_reducible refine wO_neg ?_
  | with_reducible refine wO_lt ?_
  | with_reducible refine wO_le ?_
  | with_reducible refine wO_gt ?_
  | with_reducible refine wO_ge ?_
  | with_reducible refine wO_eqI ?_
  | with_reducible refine wO_neI ?_
  | with_reducible refine wO_isNon ?_
  | with_reducible refine wO_eqS (b := true) (by decide +kernel) (by decide +kernel) (by decide +kernel) ?_
  | with_reducible refine wO_eqS (b := false) (by decide +kernel) (by decide +kernel) (by decide +kernel) ?_
  | with_reducible refine wO_isNotNon ?_
  | with_reducible refine wO_isB ?_
  | with_reducible refine wO_isNotB ?_
  | with_reducible refine wO_int ?_
  | with_reducible refine wO_intB ?_
  | with_reducible refine wO_max2 ?_
  | with_reducible refine wO_min2 ?_
  | with_reducible refine wO_range ?_
  | with_reducible refine wO_augAdd ?_
  | ((with_reducible refine' wO_len ?he_ ?_); (case he_ => exact rfl))
  | ((with_reducible refine' wO_tuple ?he_ ?_); (case he_ => exact rfl))
  | ((with_reducible refine' wO_list ?he_ ?_); (case he_ => exact rfl))
  | ((with_reducible refine' wO_isi ?he_ ?hm_ ?_); (case he_ => first | rfl | assumption); (case hm_ => decide))
  | ((with_reducible refine' wO_ix ?he_ ?h2_ ?_); (case he_ => first | exact rfl | exact seqOf_ref (by assumption)); (case h2_ => exact rfl))
  | ((with_reducible refine' Exists.intro _ (And.intro ?hr_ ?_)); (case hr_ => exact rfl))
  | ((with_reducible refine' And.intro ?hr_ ?_); (case hr_ => first | exact rfl | exact Nat.le_of_ble_eq_true rfl | (decide; done)))
  | ((with_reducible refine' Exists.intro _ (Exists.intro _ (And.intro ?hr_ ?_))); (case hr_ => exact rfl))
  | ((with_reducible refine' Exists.intro _ (Exists.intro _ (Exists.intro _ (And.intro ?hr_ ?_)))); (case hr_ => exact rfl))
  | with_reducible rfl)
local macro_rules | `(tactic| walk_at "dl") => `(tactic| repeat (walk_at "dl1"))
local macro_rules | `(tactic| walk_at "br") => `(tactic| ((with_reducible refine And.intro (fun hb => ?_) (fun hb => ?_)) <;> try (exfalso; first | (cases hb; done) | (simp at hb; done) | (simp at hb; omega))))
local macro_rules | `(tactic| walk_at "dlb") => `(tactic| repeat' (first | walk_at "dl1" | walk_at "br" | fail))
variable {K : PySem.W.Frag} {mg : Str → Option Value} {P : PP DL.D} {E : EE} {S : Sto}
/-! ### what is heard of a lambda -/
theorem wO_cloG {ρ : DL.Env} {i n : Nat} {L : LT} {fa : AF} {d : LamD} {ws : List DL.D} (h1 : ρ[i]? = some (some (.ref n))) (h2 : S[n]? = some (.clo d ws))
    (h : wO (fa ρ S) (fun xs S1 => S1 = S ∧ xs.length = d.ps.length ∧ wO (L d ws xs (killS S)) (fun v S' => P v (backS S S')) (fun C w S' => E C w (backS S S'))) E) : wO (eClo i L fa ρ S) P E := by
  unfold eClo
  rw [h1]; simp only [h2]
  refine wO_bind (wO_imp h fun xs S1 ⟨e, hl, z⟩ => ?_)
  subst e
  simp only [h2]
  rw [if_pos hl]
  cases e : L d ws xs (killS S1) with
  | ok v S' => rw [e] at z; exact wO_ok z.h
  | exc C w S' => rw [e] at z; exact wO_exc z.h
  | no => rw [e] at z; exact (show False from z.h).elim
theorem back_same (S : Sto) : backS S (killS S) = S := back_kill S
/-! ### what is heard -/
structure KN23 (K : PySem.W.Frag) (mg : Str → Option Value) : Prop where
  aa : PySem.W.exmOne K (.ref (clsOf mg "BadAmount")) (.ref (clsOf mg "BadAmount")) = some true
  ak : PySem.W.exmOne K (.ref (clsOf mg "BadAmount")) (.ref (clsOf mg "BadKind")) = some false
  as : PySem.W.exmOne K (.ref (clsOf mg "BadAmount")) (.ref (clsOf mg "BadState")) = some false
  ar : PySem.W.exmOne K (.ref (clsOf mg "BadAmount")) (.ref (refusedOf K)) = some true
  ka : PySem.W.exmOne K (.ref (clsOf mg "BadKind")) (.ref (clsOf mg "BadAmount")) = some false
  kk : PySem.W.exmOne K (.ref (clsOf mg "BadKind")) (.ref (clsOf mg "BadKind")) = some true
  ks : PySem.W.exmOne K (.ref (clsOf mg "BadKind")) (.ref (clsOf mg "BadState")) = some false
  kr : PySem.W.exmOne K (.ref (clsOf mg "BadKind")) (.ref (refusedOf K)) = some true
  sa : PySem.W.exmOne K (.ref (clsOf mg "BadState")) (.ref (clsOf mg "BadAmount")) = some false
  sk : PySem.W.exmOne K (.ref (clsOf mg "BadState")) (.ref (clsOf mg "BadKind")) = some false
  ss : PySem.W.exmOne K (.ref (clsOf mg "BadState")) (.ref (clsOf mg "BadState")) = some true
  sr : PySem.W.exmOne K (.ref (clsOf mg "BadState")) (.ref (refusedOf K)) = some true
inductive E23 where
  | kind | amount | state
def E23.c : E23 → Str
  | .kind => "BadKind" | .amount => "BadAmount" | .state => "BadState"
def E23.s : E23 → Str
  | .kind => "kind" | .amount => "amount" | .state => "state"
theorem heard_ok {L : LT} {m : Nat} {d : LamD} {ws : List DL.D} (kn : KN23 K mg) (hS : S[m]? = some (.clo d ws)) (hd : d.ps.length = 0)
    (hL : wO (L d ws [] (killS S)) (fun v S' => wO (DL.cut S (.tup [.str "told", v]) (backS S S')) P E) (fun C w S' => ∃ e : E23, C = clsOf mg e.c ∧ wO (DL.cut S (.tup [.str e.s, w]) (backS S S')) P E)) : wO (m__law_heard K mg L [.ref m] S) P E := by
  refine wO_body ?_
  show wS (g__law_heard K mg L [some (.ref m), none] S) _ _ _ _ _
  unfold g__law_heard
  refine wS_tryC (wS_ret ?_)
  walk_at "dl"
  refine wO_cloG rfl hS (wO_nil ⟨rfl, hd.symm, wO_mono hL (fun v S' h => ?_) fun C w S' ⟨e, e1, h⟩ => ?_⟩)
  · walk_at "dl"
    exact h
  subst e1
  cases e with
  | kind =>
    refine wS_clsYes kn.kk ?_
    walk_at "dl"
    exact h
  | amount =>
    refine wS_clsNo kn.ak (wS_clsYes kn.aa ?_)
    walk_at "dl"
    exact h
  | state =>
    refine wS_clsNo kn.sk (wS_clsNo kn.sa (wS_clsYes kn.ss ?_))
    walk_at "dl"
    exact h
theorem word_pure {x : Str} {w : DL.D} (h : w.pure = true) : (DL.D.tup [.str x, w]).pure = true := by simp only [D.pure, D.pures, h]; rfl
theorem heardS {dX : LamD} {m0 : LF} {ws : List DL.D} (kn : KN23 K mg) (hk : killS S = S) (hd : dX.ps.length = 0)
    (hL : wO (m0 ws [] (S ++ [.dead])) (fun v S' => S' = S ++ [.dead] ∧ v.pure = true ∧ P (.tup [.str "told", v]) S) (fun C w S' => S' = S ++ [.dead] ∧ w.pure = true ∧ ∃ e : E23, C = clsOf mg e.c ∧ P (.tup [.str e.s, w]) S)) :
    wO (cutL S (m__law_heard K mg (lamOf dX m0) [.ref S.length] (killS S ++ [.clo dX ws]))) P E := by
  refine wO_cutL0 hk (T := [.clo dX ws]) ?_
  rw [hk]
  refine heard_ok kn (m := S.length) (d := dX) (ws := ws) (by rw [List.getElem?_append_right (Nat.le_refl _), Nat.sub_self]; rfl) hd ?_
  have e0 : killS (S ++ [MO.clo dX ws]) = S ++ [.dead] := by rw [kill_app, hk]; rfl
  rw [e0]
  show wO (lamOf dX m0 dX ws [] (S ++ [.dead])) _ _
  rw [lamOf_same]
  refine wO_mono hL (fun v S' ⟨e1, e2, h⟩ => ?_) fun C w S' ⟨e1, e2, e, e3, h⟩ => ⟨e, e3, ?_⟩
  · subst e1
    rw [← e0, back_same]
    exact cut_self ⟨rfl, word_pure e2, h⟩
  · subst e1
    rw [← e0, back_same]
    exact cut_self ⟨rfl, word_pure e2, h⟩
theorem gd_word {e : E23} {k N M : Nat} {w : DL.D} (g : Gd k N w) (h8 : 12 ≤ N) (hM : 2 * (N + 2) + 3 ≤ M) : Gd (k + 1) M (.tup [.str e.s, w]) :=
  gd_tup (k := k) (N := N) (fun x hx => by
    simp only [List.mem_cons, List.not_mem_nil, or_false] at hx
    rcases hx with rfl | rfl
    · refine Gd.mono (k := 0) (N := 12) ?_ (Nat.zero_le _) h8
      cases e <;> exact gd_str _ (by decide +kernel) (by decide +kernel) (by decide +kernel)
    · exact g) hM
theorem wO_neNilT {xs : List DL.D} (ho : okD (.tup xs) = true) (h : P (.bl (!xs.isEmpty)) S) : wO (neD (.tup xs) (.tup []) S) P E := by
  refine wO_neD ho rfl ?_
  cases xs with
  | nil => exact h
  | cons x xs => exact h
section
variable {sz : List Nat} {hs : List (List Nat)} {n : Nat}
theorem hand_not {ss : List DL.D} {d : DL.D} (h : d.isT = false) : handB ss d = false := by unfold handB; rw [h]; rfl
theorem hand_len {ss xs : List DL.D} (h : xs.length ≠ ss.length) : handB ss (.tup xs) = false := by
  unfold handB
  rw [show ((DL.D.tup xs).its.length == ss.length) = false from beq_eq_false_iff_ne.mpr h]
  simp
theorem hand_sizes {s : Nat} {sz : List Nat} : handB ((s :: sz).map nD) (.tup ((s :: sz).map nD)) = false := by
  unfold handB
  rw [show (zipL (DL.D.tup ((s :: sz).map nD)).its ((s :: sz).map nD)).all pairB = (pairB (.pr (nD s) (nD s)) && (zipL (sz.map nD) (sz.map nD)).all pairB) from rfl]
  rw [show pairB (.pr (nD s) (nD s)) = false by
    show (DL.D.int (s : Int)).btw 0 ((s : Int) - 1) = false
    simp only [D.btw, Bool.and_eq_false_iff, decide_eq_false_iff_not]
    omega]
  simp
def oddS (sz : List Nat) : DL.D := if sz.isEmpty then .tup [.int 0] else .tup (sz.map nD)
def oddL (sz g : List Nat) : List DL.D := [.non, .tup (g.map nD ++ [.int 0]), .int 7, .str "0", oddS sz]
theorem odd_bad (k : KD sz hs) {g : List Nat} (hg : ltL g sz) : ∀ d ∈ oddL sz g, d.pure = true ∧ handB (sz.map nD) d = false := fun d hd => by
  simp only [oddL, List.mem_cons, List.not_mem_nil, or_false] at hd
  rcases hd with rfl | rfl | rfl | rfl | rfl
  · exact ⟨rfl, hand_not rfl⟩
  · refine ⟨pure_tup fun x hx => ?_, hand_len (by have := ltL_len hg; simp; omega)⟩
    rcases List.mem_append.mp hx with z | z
    · obtain ⟨k, _, rfl⟩ := List.mem_map.mp z; rfl
    · cases List.mem_singleton.mp z; rfl
  · exact ⟨rfl, hand_not rfl⟩
  · exact ⟨rfl, hand_not rfl⟩
  · cases sz with
    | nil => exact ⟨rfl, hand_len (by simp)⟩
    | cons s sz => exact ⟨pure_nats _, hand_sizes⟩
theorem word_ok (e : E23) {w : DL.D} (g : Gd 1 20 w) : okD (.tup [.str e.s, w]) = true := (gd_word (e := e) (N := 20) (M := 60) g (by decide) (by decide)).okD (by decide)
theorem gd_m1 : Gd 1 20 (.int (-1)) := (gd_int 2 (by decide) (by decide) (by decide)).mono (by decide) (by decide)
theorem hx_len (k : KD sz hs) (h1 : 1 ≤ hs.length) : (hx hs 0).length = sz.length := k.len h1
theorem doors_rest (kn : KN23 K mg) (hk : killS S = S) (k : KD sz hs) (h : P (.bl true) S) : wS ((sSeq (sFor (xLst (eVar 6)) (tName 7)
    (sSeq (sIf (bVal (eBin neD (eFnL 1 (m__law_heard K mg (lamOf d__law_doors_0 (ml__law_doors_0 K mg))) d__law_doors_0 [7, 1] (lLam (aNil))) (eTup (aCons (eC (.str "amount")) (aCons (eUn negD (eC (.int 1))) (aNil)))))) (sRet (eC (.bl false)))
    (sNext))
    (sSeq (sIf (bVal (eBin neD (eFnL 1 (m__law_heard K mg (lamOf d__law_doors_1 (ml__law_doors_1 K mg))) d__law_doors_1 [7, 1] (lLam (aNil))) (eTup (aCons (eC (.str "amount")) (aCons (eUn negD (eC (.int 1))) (aNil)))))) (sRet (eC (.bl false)))
    (sNext))
    (sSeq (sIf (bVal (eBin neD (eFnL 1 (m__law_heard K mg (lamOf d__law_doors_2 (ml__law_doors_2 K mg))) d__law_doors_2 [7, 4, 1] (lLam (aNil))) (eTup (aCons (eC (.str "amount")) (aCons (eUn negD (eC (.int 1))) (aNil)))))) (sRet (eC (.bl false)))
    (sNext))
    (sIf (bVal (eBin neD (eFnL 1 (m__law_heard K mg (lamOf d__law_doors_3 (ml__law_doors_3 K mg))) d__law_doors_3 [7, 1] (lLam (aNil))) (eTup (aCons (eC (.str "amount")) (aCons (eUn negD (eC (.int 1))) (aNil)))))) (sRet (eC (.bl false)))
    (sNext))))))
    (sSeq (sFor (xLst (eLst (aCons (eVar 5) (aCons (eUn negD (eC (.int 1))) (aCons (eC .non) (aCons (eC (.str "0")) (aCons (eTup (aCons (eC (.int 0)) (aNil))) (aNil)))))))) (tName 7)
    (sIf (bVal (eBin neD (eFnL 1 (m__law_heard K mg (lamOf d__law_doors_4 (ml__law_doors_4 K mg))) d__law_doors_4 [7, 1] (lLam (aNil))) (eTup (aCons (eC (.str "state")) (aCons (eVar 7) (aNil)))))) (sRet (eC (.bl false)))
    (sNext)))
    (sRet (eBin eqD (eFnL 1 (m__law_heard K mg (lamOf d__law_doors_5 (ml__law_doors_5 K mg))) d__law_doors_5 [] (lLam (aNil))) (eTup (aCons (eC (.str "kind")) (aCons (eUn negD (eC (.int 1))) (aNil))))))))
    [some (.ref n), some (kD sz hs), some (.tup (sz.map nD)), some (.tup (hs.map aD)), some (aD (hx hs 0)), some (.int (hs.length : Int)), some (.lst (oddL sz (hx hs 0))), none] S) (fun _ S1 => wO (DL.cut S .non S1) P E) (fun d S1 => wO (DL.cut S d S1) P E) (fun C w _ S1 => wO (DL.cutX S C w S1) P E) (fun _ _ => False) (fun _ _ => False) := by
  have h8 := k.h8
  have h1 := k.h1
  have hg := k.lt _ (hx_mem h1)
  have wA := word_ok .amount gd_m1
  walk_at "dl"
  refine wS_forLst (oddL sz (hx hs 0)) (fun _ ρ S' => S' = S ∧ ∃ p, ρ = [some (.ref n), some (kD sz hs), some (.tup (sz.map nD)), some (.tup (hs.map aD)), some (aD (hx hs 0)), some (.int (hs.length : Int)), some (.lst (oddL sz (hx hs 0))), p]) ⟨rfl, _, rfl⟩ (fun done d rest ρ S' e ⟨e1, p, e2⟩ => ?_) fun ρ S' ⟨e1, p, e2⟩ => ?_
  · subst e1 e2
    obtain ⟨pd, bd⟩ := odd_bad k hg d (by rw [e]; simp)
    refine ⟨_, _, rfl, ?_⟩
    walk_at "dl"
    refine heardS kn hk rfl ?_
    refine wO_mLam ?_
    show wO (eFn 2 (m_made_amount K mg) (aCons (eVar 1) (aCons (eVar 0) (aNil))) [some d, some (kD sz hs)] _) _ _
    walk_at "dl"
    refine made_amount_bad k pd bd (cutX_self ⟨rfl, rfl, .amount, rfl, ?_⟩)
    walk_at "dl"
    refine wO_neSame wA ?_
    walk_at "dlb"
    refine heardS kn hk rfl ?_
    refine wO_mLam ?_
    show wO (eFn 2 (m_state_at K mg) (aCons (eVar 1) (aCons (eVar 0) (aNil))) [some d, some (kD sz hs)] _) _ _
    walk_at "dl"
    refine state_at_bad k pd bd (cutX_self ⟨rfl, rfl, .amount, rfl, ?_⟩)
    walk_at "dl"
    refine wO_neSame wA ?_
    walk_at "dlb"
    refine heardS kn hk rfl ?_
    refine wO_mLam ?_
    show wO (eFn 3 (m_moved K mg) (aCons (eVar 2) (aCons (eVar 1) (aCons (eVar 0) (aNil)))) [some d, some (aD (hx hs 0)), some (kD sz hs)] _) _ _
    walk_at "dl"
    refine moved_bad k hg pd bd (cutX_self ⟨rfl, rfl, .amount, rfl, ?_⟩)
    walk_at "dl"
    refine wO_neSame wA ?_
    walk_at "dlb"
    refine heardS kn hk rfl ?_
    refine wO_mLam ?_
    show wO (eFn 3 (m_step K mg) (aCons (eVar 1) (aCons (eVar 0) (aCons (eC .non) (aNil)))) [some d, some (kD sz hs)] _) _ _
    walk_at "dl"
    refine step_bad k pd bd (cutX_self ⟨rfl, rfl, .amount, rfl, ?_⟩)
    walk_at "dl"
    refine wO_neSame wA ?_
    walk_at "dlb"
    exact ⟨_, rfl⟩
  · subst e1 e2
    walk_at "dl"
    refine wS_forLst [.int (hs.length : Int), .int (-1), .non, .str "0", .tup [.int 0]] (fun _ ρ S2 => S2 = S' ∧ ∃ p, ρ = [some (.ref n), some (kD sz hs), some (.tup (sz.map nD)), some (.tup (hs.map aD)), some (aD (hx hs 0)), some (.int (hs.length : Int)), some (.lst (oddL sz (hx hs 0))), p]) ⟨rfl, _, rfl⟩ (fun done d rest ρ S2 e ⟨e1, p, e2⟩ => ?_) fun ρ S2 ⟨e1, p, e2⟩ => ?_
    · subst e1 e2
      obtain ⟨gd, bd⟩ : Gd 1 20 d ∧ d.btw 0 ((hs.length : Int) - 1) = false := by
        have hd : d ∈ [DL.D.int (hs.length : Int), .int (-1), .non, .str "0", .tup [.int 0]] := by rw [e]; simp
        simp only [List.mem_cons, List.not_mem_nil, or_false] at hd
        rcases hd with rfl | rfl | rfl | rfl | rfl
        · refine ⟨(gd_int 2 (by decide) (by decide) (by omega)).mono (by decide) (by decide), ?_⟩
          simp only [D.btw, Bool.and_eq_false_iff, decide_eq_false_iff_not]
          omega
        · exact ⟨gd_m1, rfl⟩
        · exact ⟨gd_non.mono (by decide) (by decide), rfl⟩
        · exact ⟨(gd_str "0" (N := 8) (by decide +kernel) (by decide +kernel) (by decide +kernel)).mono (by decide) (by decide), rfl⟩
        · exact ⟨gd_tup (k := 0) (N := 3) (fun x hx => by cases List.mem_singleton.mp hx; exact gd_int 2 (by decide) (by decide) (by decide)) (by decide), rfl⟩
      clear e
      refine ⟨_, _, rfl, ?_⟩
      walk_at "dl"
      refine heardS kn hk rfl ?_
      refine wO_mLam ?_
      show wO (eFn 2 (m_amount K mg) (aCons (eVar 1) (aCons (eVar 0) (aNil))) [some d, some (kD sz hs)] _) _ _
      walk_at "dl"
      refine amount_bad k gd.pu bd (cutX_self ⟨rfl, gd.pu, .state, rfl, ?_⟩)
      walk_at "dl"
      refine wO_neSame (word_ok .state gd) ?_
      walk_at "dlb"
      exact ⟨_, rfl⟩
    · subst e1 e2
      walk_at "dl"
      refine heardS kn hk rfl ?_
      refine wO_mLam ?_
      show wO (eFn 2 (m_amount K mg) (aCons (eC .non) (aCons (eC .non) (aNil))) [] _) _ _
      walk_at "dl"
      refine wO_body ?_
      show wS (g_amount K mg [some .non, some .non] _) _ _ _ _ _
      unfold g_amount
      walk_at "dl"
      refine made_kind_ok (d := .non) rfl rfl (fun z => nomatch z) fun i hi => ?_
      cases (show some (-1) = some i from hi)
      refine cutX_self (cutX_self ⟨rfl, rfl, .kind, rfl, ?_⟩)
      walk_at "dl"
      refine wO_eqSame (word_ok .kind gd_m1) ?_
      exact cut_self h
theorem doors_ok (kn : KN23 K mg) (hk : killS S = S) (k : KD sz hs) (h : P (.bl true) S) : wO (m__law_doors K mg [.ref n, kD sz hs] S) P E := by
  have h8 := k.h8
  have l4 := k.l4
  have h1 := k.h1
  have hg := k.lt _ (hx_mem h1)
  refine wO_body ?_
  show wS (g__law_doors K mg [some (.ref n), some (kD sz hs), none, none, none, none, none, none] S) _ _ _ _ _
  unfold g__law_doors
  rw [show kD sz hs = .tup [.tup (sz.map nD), .tup (hs.map aD)] from rfl]
  walk_at "dl"
  refine wO_ix rfl (DL.atI_nat (k := 0) (hx_at h1)) ?_
  rw [show aD (hx hs 0) = .tup ((hx hs 0).map nD) from rfl]
  walk_at "dl"
  refine wO_addT (by simp [hx_len k h1]; omega) ?_
  refine wO_cons (wO_c (wO_cons (wO_c (wO_cons (wO_if ?_)))))
  have el : ((hs.map aD).length : Int) = (hs.length : Int) := by rw [List.length_map]
  rw [el]
  have r := doors_rest (n := n) (mg := mg) (E := E) (P := P) kn hk k h
  unfold oddL at r
  walk_at "dl"
  refine wO_neNilT (k.gds.okD (by decide)) ?_
  refine ⟨_, rfl, fun hb => ?_, fun hb => ?_⟩
  · rw [show oddS sz = .tup (sz.map nD) by
      unfold oddS
      rw [if_neg (fun z => by
        rw [List.isEmpty_iff] at z
        subst z
        cases hb)]] at r
    refine wO_eq (show _ = Out.ok (DL.D.tup (sz.map nD)) S from rfl) ?_
    exact wO_nil ⟨by simp, r⟩
  · rw [show oddS sz = .tup [.int 0] by
      unfold oddS
      rw [if_pos (by
        cases sz with
        | nil => rfl
        | cons _ _ => cases hb)]] at r
    refine wO_eq (show _ = Out.ok (DL.D.tup [.int 0]) S from rfl) ?_
    exact wO_nil ⟨by simp, r⟩
end
end K23

set_option Elab.async false
set_option linter.all false
set_option maxRecDepth 100000
namespace K23
open PySem PySem.Spec PyProof.Rows L2 DL
local macro_rules | `(tactic| walk_at "dl1") => `(tactic| first
  | with_reducible refine wS_seq ?_
  | with_reducible refine wS_set ?_
  | with_reducible refine wS_ret ?_
  | with_reducible refine wS_expr ?_
  | with_reducible refine wS_if ?_
  | with_reducible refine wS_next ?_
  | with_reducible refine wS_raise ?_
  | with_reducible refine wS_asg ?_
  | with_reducible refine wS_par ?_
  | with_reducible refine wS_par3 ?_
  | with_reducible refine wS_aug ?_
  | with_reducible refine wS_retN ?_
  | with_reducible refine wS_for ?_
  | with_reducible refine wS_break ?_
  | with_reducible refine wS_cont ?_
  | ((with_reducible refine' wO_var ?he_ ?_); (case he_ => exact rfl))
  | with_reducible refine wO_c ?_
  | with_reducible refine wO_ok ?_
  | with_reducible refine wO_isE ?_
  | with_reducible refine wO_what ?_
  | with_reducible refine wS_gone ?_
  | with_reducible refine wS_try ?_
  | ((with_reducible refine' wO_fnL ?he_ ?_); (case he_ => exact rfl))
  | with_reducible refine wO_join ?_
  | with_reducible refine wO_lCons ?_
  | with_reducible refine wO_lLam ?_
  | with_reducible refine wO_bin ?_
  | with_reducible refine wO_cons ?_
  | with_reducible refine wO_nil ?_
  | with_reducible refine wO_call ?_
  | with_reducible refine wO_fn ?_
  | with_reducible refine wO_val ?_
  | with_reducible refine wO_bnot ?_
  | with_reducible refine wO_un ?_
  | with_reducible refine wO_and ?_
  | with_reducible refine wO_or ?_
  | with_reducible refine wO_not ?_
  | with_reducible refine wO_if ?_
  | with_reducible refine wO_tup ?_
  | with_reducible refine wO_lst ?_
  | with_reducible refine wO_lstM ?_
  | with_reducible refine wO_band ?_
  | with_reducible refine wO_bor ?_
  | with_reducible refine wO_btrue ?_
  | with_reducible refine wO_bif ?_
  | with_reducible refine wO_chain ?_
  | with_reducible refine wO_lm ?_
  | with_reducible refine wO_slA ?_
  | with_reducible refine wO_oNone ?_
  | with_reducible refine wO_oSome ?_
  | with_reducible refine wO_comp ?_
  | with_reducible refine wO_compN ?_
  | with_reducible refine wO_xLst ?_
  | with_reducible refine wO_xTup ?_
  | with_reducible refine wO_xEnum ?_
  | with_reducible refine wO_xZip ?_
  | with_reducible refine wO_xRng1 ?_
  | with_reducible refine wO_xRng2 ?_
  | with_reducible refine wO_xRng ?_
  | with_reducible refine wO_add ?_
  | with_reducible refine wO_sub ?_
  | with_reducible refine wO_neg ?_
  | with_reducible refine wO_lt ?_
  | with_reducible refine wO_le ?_
  | with_reducible refine wO_gt ?_
  | with_reducible refine wO_ge ?_
  | with_reducible refine wO_eqI ?_
  | with_reducible refine wO_neI ?_
  | with_reducible refine wO_isNon ?_
  | with_reducible refine wO_eqS (b := true) (by decide +kernel) (by decide +kernel) (by decide +kernel) ?_
  | with_reducible refine wO_eqS (b := false) (by decide +kernel) (by decide +kernel) (by decide +kernel) ?_
  | with_reducible refine wO_isNotNon ?_
  | with_reducible refine wO_isB ?_
  | with_reducible refine wO_isNotB ?_
  | with_reducible refine wO_int ?_
  | with_reducible refine wO_intB ?_
  | with_reducible refine wO_max2 ?_
  | with_reducible refine wO_min2 ?_
  | with_reducible refine wO_range ?_
  | with_reducible refine wO_augAdd ?_
  | ((with_reducible refine' wO_len ?he_ ?_); (case he_ => exact rfl))
  | ((with_reducible refine' wO_tuple ?he_ ?_); (case he_ => exact rfl))
  | ((with_reducible refine' wO_list ?he_ ?_); (case he_ => exact rfl))
  | ((with_reducible refine' wO_isi ?he_ ?hm_ ?_); (case he_ => first | rfl | assumption); (case hm_ => decide))
  | ((with_reducible refine' wO_ix ?he_ ?h2_ ?_); (case he_ => first | exact rfl | exact seqOf_ref (by assumption)); (case h2_ => exact rfl))
  | ((with_reducible refine' Exists.intro _ (And.intro ?hr_ ?_)); (case hr_ => exact rfl))
  | ((with_reducible refine' And.intro ?hr_ ?_); (case hr_ => first | exact rfl | exact Nat.le_of_ble_eq_true rfl | (decide; done)))
  | ((with_reducible refine' Exists.intro _ (Exists.intro _ (And.intro ?hr_ ?_))); (case hr_ => exact rfl))
  | ((with_reducible refine' Exists.intro _ (Exists.intro _ (Exists.intro _ (And.intro ?hr_ ?_)))); (case hr_ => exact rfl))
  | with_reducible rfl)
local macro_rules | `(tactic| walk_at "dl") => `(tactic| repeat (walk_at "dl1"))
local macro_rules | `(tactic| walk_at "br") => `(tactic| ((with_reducible refine And.intro (fun hb => ?_) (fun hb => ?_)) <;> try (exfalso; first | (cases hb; done) | (simp at hb; done) | (simp at hb; omega))))
local macro_rules | `(tactic| walk_at "dlb") => `(tactic| repeat' (first | walk_at "dl1" | walk_at "br" | fail))
variable {K : PySem.W.Frag} {mg : Str → Option Value} {P : PP DL.D} {E : EE} {S : Sto}
/-! ### bent kinds -/
theorem gd_h {ys : List DL.D} (hl : ys.length ≤ 110) (h : ∀ y ∈ ys, Gd 1 100 y) : Gd 2 12000 (.tup ys) := gd_tup (k := 1) (N := 100) h (by have := Nat.mul_le_mul_right 102 hl; omega)
theorem gd_k2 {x y : DL.D} (gx : Gd 2 12000 x) (gy : Gd 2 12000 y) : Gd 5 100000 (.tup [x, y]) := (gd_tup (k := 2) (N := 12000) (M := 30000) (fun z hz => by
  simp only [List.mem_cons, List.not_mem_nil, or_false] at hz
  rcases hz with rfl | rfl
  · exact gx
  · exact gy) (by show 2 * (12000 + 2) + 3 ≤ 30000; decide)).mono (by decide) (by decide)
theorem gd_s {ks : List DL.D} (hl : ks.length ≤ 13) (h : ∀ y ∈ ks, Gd 0 5 y) : Gd 1 100 (.tup ks) := gd_tup (k := 0) (N := 5) h (by have := Nat.mul_le_mul_right 7 hl; omega)
theorem gd_s8 {ks : List DL.D} (hl : ks.length ≤ 6) (h : ∀ y ∈ ks, Gd 0 8 y) : Gd 1 100 (.tup ks) := gd_tup (k := 0) (N := 8) h (by have := Nat.mul_le_mul_right 10 hl; omega)
theorem gd_small {i : Int} (h : i.natAbs < 100) : Gd 0 5 (.int i) := (gd_int 2 (by decide) (by decide) h).mono (by decide) (by decide)
theorem rep_mem {n : Nat} {x y : DL.D} (h : y ∈ (List.replicate n [x]).flatten) : y = x := by
  obtain ⟨l, hl, hy⟩ := List.mem_flatten.mp h
  rw [(List.mem_replicate.mp hl).2] at hy
  exact List.mem_singleton.mp hy
theorem rep_len {n : Nat} {α : Type} {xs : List α} : (List.replicate n xs).flatten.length = n * xs.length := by
  induction n with
  | zero => simp
  | succ n ih => rw [List.replicate_succ, List.flatten_cons, List.length_append, ih, Nat.succ_mul]; omega
def oddI (sz l : List Nat) : List DL.D := [.non, .tup (l.map nD ++ [.int 0]), .tup ((l.map nD).drop 1), .tup (List.replicate sz.length [DL.D.int (-1)]).flatten, .tup (sz.map nD), .str "0"]
def bentA (ss ys : List DL.D) : List DL.D := [.tup [.tup (ss ++ [.int 2]), .tup ys], .tup [.tup (ss.drop 1), .tup ys], .tup [.tup ss, .tup (ys ++ ys.take 1)], .tup [.tup ss, .tup []], .tup [.tup ss, .tup (List.replicate 13 ys).flatten]]
def bentB (ss ys : List DL.D) (o : DL.D) (v : Nat) : List DL.D := [.tup [.tup ss, .tup (ys.take v ++ [o] ++ ys.drop (v + 1))], .tup [.tup ([.int 1] ++ ss.drop 1), .tup ys], .tup [.tup [.non], .tup ys], .tup [.int 2, .tup ys], .tup [.tup ss, .non]]
def bentC (ss ys : List DL.D) (v : Nat) : List DL.D := [.tup [.tup (List.replicate 13 [DL.D.int 2]).flatten, .tup [.tup (List.replicate 13 [DL.D.int 0]).flatten]], .tup [.tup (List.replicate 12 [DL.D.int 2]).flatten, .tup [.tup (List.replicate 12 [DL.D.int 0]).flatten, .tup (List.replicate 12 [DL.D.int 1]).flatten]], .tup [.tup ss], .non, .tup ([.tup ss, .tup ys] ++ [.tup []]), .tup [.tup ss, .tup (ys.take (v + 1))]]
section
variable {sz : List Nat} {hs : List (List Nat)} {n : Nat}
theorem gd_nats8 {l : List Nat} (h : ∀ x ∈ l, x < 10000000) : ∀ y ∈ l.map nD, Gd 0 8 y := fun y hy => by
  obtain ⟨x, hx, rfl⟩ := List.mem_map.mp hy
  exact gd_nB (h x hx)
theorem lt_big (k : KD sz hs) {l : List Nat} (h : ltL l sz) : ∀ x ∈ l, x < 10000000 := fun x hx => by
  obtain ⟨s, hsm, hlt⟩ := ltL_le h x hx
  have := (k.sz2 s hsm).2
  omega
theorem oddI_gd (k : KD sz hs) {l : List Nat} (h : ltL l sz) : ∀ d ∈ oddI sz l, Gd 1 100 d := fun d hd => by
  have l4 := k.l4
  have ll := ltL_len h
  simp only [oddI, List.mem_cons, List.not_mem_nil, or_false] at hd
  rcases hd with rfl | rfl | rfl | rfl | rfl | rfl
  · exact gd_non.mono (by decide) (by decide)
  · refine gd_s8 (by simp; omega) fun y hy => ?_
    rcases List.mem_append.mp hy with z | z
    · exact gd_nats8 (lt_big k h) y z
    · cases List.mem_singleton.mp z; exact (gd_small (by decide)).mono (by decide) (by decide)
  · exact gd_s8 (by simp; omega) fun y hy => gd_nats8 (lt_big k h) y (List.mem_of_mem_drop hy)
  · exact gd_s (by rw [rep_len, List.length_singleton]; omega) fun y hy => by rw [rep_mem hy]; exact gd_small (by decide)
  · exact k.gds.mono (by decide) (by decide)
  · exact (gd_str "0" (N := 8) (by decide +kernel) (by decide +kernel) (by decide +kernel)).mono (by decide) (by decide)
theorem bent_gd (k : KD sz hs) {v : Nat} {o : DL.D} (ho : Gd 1 100 o) : ∀ d ∈ bentA (sz.map nD) (hs.map aD) ++ bentB (sz.map nD) (hs.map aD) o v ++ bentC (sz.map nD) (hs.map aD) v, Gd 5 100000 d := by
  have l4 := k.l4
  have h8 := k.h8
  have gy : ∀ y ∈ hs.map aD, Gd 1 100 y := fun y hy => by
    obtain ⟨l, hl, rfl⟩ := List.mem_map.mp hy
    exact (k.gdl (k.lt l hl)).mono (by decide) (by decide)
  have gx : ∀ y ∈ sz.map nD, Gd 0 8 y := gd_nats8 fun x hx => by have := (k.sz2 x hx).2; omega
  have gss : Gd 2 12000 (.tup (sz.map nD)) := k.gds.mono (by decide) (by decide)
  have ls : (sz.map nD).length ≤ 4 := by rw [List.length_map]; exact l4
  have ly : (hs.map aD).length ≤ 8 := by rw [List.length_map]; exact h8
  generalize sz.map nD = ss at *
  generalize hs.map aD = ys at *
  have gys : Gd 2 12000 (.tup ys) := gd_h (by omega) gy
  have up : ∀ {d : DL.D}, Gd 1 100 d → Gd 2 12000 d := fun g => g.mono (by decide) (by decide)
  have gn : Gd 2 12000 .non := gd_non.mono (by decide) (by decide)
  intro d hd
  simp only [bentA, bentB, bentC, List.append_assoc, List.cons_append, List.nil_append, List.mem_cons, List.not_mem_nil, or_false] at hd
  rcases hd with rfl | rfl | rfl | rfl | rfl | rfl | rfl | rfl | rfl | rfl | rfl | rfl | rfl | rfl | rfl | rfl
  · refine gd_k2 (up (gd_s8 (by simp; omega) fun y hy => ?_)) gys
    rcases List.mem_append.mp hy with z | z
    · exact gx y z
    · cases List.mem_singleton.mp z; exact (gd_small (by decide)).mono (by decide) (by decide)
  · exact gd_k2 (up (gd_s8 (by simp; omega) fun y hy => gx y (List.mem_of_mem_drop hy))) gys
  · refine gd_k2 gss (gd_h (by simp; omega) fun y hy => ?_)
    rcases List.mem_append.mp hy with z | z
    · exact gy y z
    · exact gy y (List.mem_of_mem_take z)
  · exact gd_k2 gss (gd_h (by simp) fun y hy => absurd hy (by simp))
  · refine gd_k2 gss (gd_h (by rw [rep_len]; omega) fun y hy => ?_)
    obtain ⟨l, hl, hy⟩ := List.mem_flatten.mp hy
    rw [(List.mem_replicate.mp hl).2] at hy
    exact gy y hy
  · refine gd_k2 gss (gd_h (by simp; omega) fun y hy => ?_)
    rcases List.mem_append.mp hy with z | z
    · exact gy y (List.mem_of_mem_take z)
    · rcases List.mem_cons.mp z with rfl | z
      · exact ho
      · exact gy y (List.mem_of_mem_drop z)
  · refine gd_k2 (up (gd_s8 (by simp; omega) fun y hy => ?_)) gys
    rcases List.mem_cons.mp hy with rfl | z
    · exact (gd_small (by decide)).mono (by decide) (by decide)
    · exact gx y (List.mem_of_mem_drop z)
  · exact gd_k2 (up (gd_s (by simp) fun y hy => by cases List.mem_singleton.mp hy; exact gd_non.mono (by decide) (by decide))) gys
  · exact gd_k2 ((gd_small (by decide)).mono (by decide) (by decide)) gys
  · exact gd_k2 gss gn
  · exact gd_k2 (up (gd_s (by rw [rep_len]; decide) fun y hy => by rw [rep_mem hy]; exact gd_small (by decide))) (gd_h (by simp) fun y hy => by
      cases List.mem_singleton.mp hy
      exact gd_s (by rw [rep_len]; decide) fun y hy => by rw [rep_mem hy]; exact gd_small (by decide))
  · exact gd_k2 (up (gd_s (by rw [rep_len]; decide) fun y hy => by rw [rep_mem hy]; exact gd_small (by decide))) (gd_h (by simp) fun y hy => by
      simp only [List.mem_cons, List.not_mem_nil, or_false] at hy
      rcases hy with rfl | rfl
      · exact gd_s (by rw [rep_len]; decide) fun y hy => by rw [rep_mem hy]; exact gd_small (by decide)
      · exact gd_s (by rw [rep_len]; decide) fun y hy => by rw [rep_mem hy]; exact gd_small (by decide))
  · exact (gd_tup (k := 2) (N := 12000) (M := 13000) (fun y hy => by cases List.mem_singleton.mp hy; exact gss) (by show 1 * (12000 + 2) + 3 ≤ 13000; decide)).mono (by decide) (by decide)
  · exact gd_non.mono (by decide) (by decide)
  · refine (gd_tup (k := 2) (N := 12000) (M := 40000) (fun y hy => ?_) (by show 3 * (12000 + 2) + 3 ≤ 40000; decide)).mono (by decide) (by decide)
    simp only [List.mem_cons, List.not_mem_nil, or_false] at hy
    rcases hy with rfl | rfl | rfl
    · exact gss
    · exact gys
    · exact gd_h (by simp) fun y hy => absurd hy (by simp)
  · exact gd_k2 gss (gd_h (by simp; omega) fun y hy => gy y (List.mem_of_mem_take hy))
theorem bent_kind_ok (hr : Sr S n) (k : KD sz hs) (q : ∀ d S', Gd 5 100000 d → St n S S' → P d S') : wO (m__law_bent_kind K mg [.ref n, kD sz hs] S) P E := by
  have hl := hr.lt
  have l4 := k.l4
  have h8 := k.h8
  have h1 := k.h1
  refine wO_body ?_
  show wS (g__law_bent_kind K mg [some (.ref n), some (kD sz hs), none, none, none, none, none] S) _ _ _ _ _
  unfold g__law_bent_kind
  rw [show kD sz hs = .tup [.tup (sz.map nD), .tup (hs.map aD)] from rfl]
  walk_at "dl"
  rw [List.length_map]
  refine wO_take hr (by omega) (by omega) fun v S1 hv s1 => ?_
  have hv' : v < hs.length := by omega
  have hlt := k.lt _ (hx_mem hv')
  have hlen := ltL_len hlt
  have c1 : ∀ xs : List DL.D, cutD xs none (some 1) = xs.take 1 := fun xs => cutD_take xs 1
  have c2 : ∀ xs : List DL.D, cutD xs none (some (v : Int)) = xs.take v := fun xs => cutD_take xs v
  have c3 : ∀ xs : List DL.D, cutD xs (some ((v : Int) + 1)) none = xs.drop (v + 1) := fun xs => cutD_drop xs (v + 1)
  have c4 : ∀ xs : List DL.D, cutD xs (some 1) none = xs.drop 1 := fun xs => cutD_drop xs 1
  have c5 : ∀ xs : List DL.D, cutD xs none (some ((v : Int) + 1)) = xs.take (v + 1) := fun xs => cutD_take xs (v + 1)
  have ix : ∀ {P : PP DL.D} {E : EE} {S}, P (.tup ((hx hs v).map nD)) S → wO (ixD (.tup (hs.map aD)) (.int (v : Int)) S) P E := fun h => wO_ix rfl (DL.atI_nat (hx_at hv')) h
  walk_at "dl"
  refine ix ?_
  walk_at "dl"
  refine wO_addT (by simp; omega) ?_
  walk_at "dl"
  refine ix ?_
  walk_at "dl"
  rw [c4]
  refine wO_mulT ⟨by simp, by rw [List.length_map]; omega, by rw [List.length_map]; omega, by simp⟩ ?_
  rw [List.length_map, Int.toNat_natCast]
  walk_at "dl"
  have go := oddI_gd k hlt
  refine one_ok (xs := oddI sz (hx hs v)) (s1.src hl) (by simp [oddI]) (by simp [oddI]) (fun x hx => (go x hx).pu) fun o S2 ho s2 => ?_
  have gdo := go o ho
  clear ho
  have s12 := s1.trans s2
  have ly : (hs.map aD).length ≤ 8 := by rw [List.length_map]; exact h8
  have ly1 : 1 ≤ (hs.map aD).length := by rw [List.length_map]; exact h1
  have ls : (sz.map nD).length ≤ 4 := by rw [List.length_map]; exact l4
  walk_at "dl"
  refine wO_addT (by simp; omega) ?_
  walk_at "dl"
  rw [c4]
  rw [c1]
  refine wO_addT (by simp; omega) ?_
  walk_at "dl"
  refine wO_mulT ⟨by intro z; rw [z] at ly1; simp at ly1, by omega, by omega, by omega⟩ ?_
  walk_at "dl"
  have all := bent_gd k (v := v) gdo
  generalize sz.map nD = ss at *
  generalize hs.map aD = ys at *
  have hS2 := s12.len
  rw [hS2]
  have d1 := s12.dr.push (.lst (bentA ss ys))
  rw [List.nil_append] at d1
  generalize hS3 : S2 ++ _ = S3
  replace d1 : Dr n S [.lst (bentA ss ys)] S3 := by rw [← hS3]; exact d1
  refine ⟨lstOf_some (d1.get 0), ?_⟩
  walk_at "dl"
  rw [c2]
  refine wO_addT (by rw [List.length_take, List.length_singleton]; omega) ?_
  walk_at "dl"
  rw [c3]
  refine wO_addT (by rw [List.length_append, List.length_take, List.length_drop, List.length_singleton]; omega) ?_
  walk_at "dl"
  rw [c4]
  refine wO_addT (by rw [List.length_drop, List.length_singleton]; omega) ?_
  walk_at "dl"
  refine wO_extend (ys := bentB ss ys o v) (d1.get 0) rfl (by simp [bentA, bentB]) ?_
  have d2 := d1.set 0 (.lst (bentA ss ys ++ bentB ss ys o v))
  rw [List.set_cons_zero, Nat.add_zero] at d2
  generalize hS4 : S3.set S.length _ = S4
  replace d2 : Dr n S [.lst (bentA ss ys ++ bentB ss ys o v)] S4 := by rw [← hS4]; exact d2
  walk_at "dl"
  refine ⟨lstOf_some (d2.get 0), ?_⟩
  walk_at "dl"
  refine wO_mulT (by decide) ?_
  walk_at "dl"
  refine wO_mulT (by decide) ?_
  walk_at "dl"
  refine wO_mulT (by decide) ?_
  walk_at "dl"
  refine wO_mulT (by decide) ?_
  walk_at "dl"
  refine wO_mulT (by decide) ?_
  walk_at "dl"
  refine wO_addT (by simp) ?_
  walk_at "dl"
  rw [c5]
  refine wO_extend (ys := bentC ss ys v) (d2.get 0) rfl (by simp [bentA, bentB, bentC]) ?_
  have d3 := d2.set 0 (.lst (bentA ss ys ++ bentB ss ys o v ++ bentC ss ys v))
  rw [List.set_cons_zero, Nat.add_zero] at d3
  generalize hS5 : S4.set S.length _ = S5
  replace d3 : Dr n S [.lst (bentA ss ys ++ bentB ss ys o v ++ bentC ss ys v)] S5 := by rw [← hS5]; exact d3
  walk_at "dl"
  refine one_ref_ok (d3.src hl) (d3.get 0) (by omega) (by simp [bentA]) (by simp [bentA, bentB, bentC]) (fun x hx => (all x hx).pu) fun d S6 hd s6 => ?_
  exact (d3.st s6 hl).cut (all d hd).pu fun S'' st => q d S'' (all d hd) st
end
end K23

set_option Elab.async false
set_option linter.all false
set_option maxRecDepth 100000
namespace K23
open PySem PySem.Spec PyProof.Rows L2 DL
local macro_rules | `(tactic| walk_at "dl1") => `(tactic| first
  | with_reducible refine wS_seq ?_
  | with_reducible refine wS_set ?_
  | with_reducible refine wS_ret ?_
  | with_reducible refine wS_expr ?_
  | with_reducible refine wS_if ?_
  | with_reducible refine wS_next ?_
  | with_reducible refine wS_raise ?_
  | with_reducible refine wS_asg ?_
  | with_reducible refine wS_par ?_
  | with_reducible refine wS_par3 ?_
  | with_reducible refine wS_aug ?_
  | with_reducible refine wS_retN ?_
  | with_reducible refine wS_for ?_
  | with_reducible refine wS_break ?_
  | with_reducible refine wS_cont ?_
  | ((with_reducible refine' wO_var ?he_ ?_); (case he_ => exact rfl))
  | with_reducible refine wO_c ?_
  | with_reducible refine wO_ok ?_
  | with_reducible refine wO_isE ?_
  | with_reducible refine wO_what ?_
  | with_reducible refine wS_gone ?_
  | with_reducible refine wS_try ?_
  | ((with_reducible refine' wO_fnL ?he_ ?_); (case he_ => exact rfl))
  | with_reducible refine wO_join ?_
  | with_reducible refine wO_lCons ?_
  | with_reducible refine wO_lLam ?_
  | with_reducible refine wO_bin ?_
  | with_reducible refine wO_cons ?_
  | with_reducible refine wO_nil ?_
  | with_reducible refine wO_call ?_
  | with_reducible refine wO_fn ?_
  | with_reducible refine wO_val ?_
  | with_reducible refine wO_bnot ?_
  | with_reducible refine wO_un ?_
  | with_reducible refine wO_and ?_
  | with_reducible refine wO_or ?_
  | with_reducible refine wO_not ?_
  | with_reducible refine wO_if ?_
  | with_reducible refine wO_tup ?_
  | with_reducible refine wO_lst ?_
  | with_reducible refine wO_lstM ?_
  | with_reducible refine wO_band ?_
  | with_reducible refine wO_bor ?_
  | with_reducible refine wO_btrue ?_
  | with_reducible refine wO_bif ?_
  | with_reducible refine wO_chain ?_
  | with_reducible refine wO_lm ?_
  | with_reducible refine wO_slA ?_
  | with_reducible refine wO_oNone ?_
  | with_reducible refine wO_oSome ?_
  | with_reducible refine wO_comp ?_
  | with_reducible refine wO_compN ?_
  | with_reducible refine wO_xLst ?_
  | with_reducible refine wO_xTup ?_
  | with_reducible refine wO_xEnum ?_
  | with_reducible refine wO_xZip ?_
  | with_reducible refine wO_xRng1 ?_
  | with_reducible refine wO_xRng2 ?_
  | with_reducible refine wO_xRng ?_
  | with_reducible refine wO_add ?_
  | with_reducible refine wO_sub ?_
  | with_reducible refine wO_neg ?_
  | with_reducible refine wO_lt ?_
  | with_reducible refine wO_le ?_
  | with_reducible refine wO_gt ?_
  | with_reducible refine wO_ge ?_
  | with_reducible refine wO_eqI ?_
  | with_reducible refine wO_neI ?_
  | with_reducible refine wO_isNon ?_
  | with_reducible refine wO_eqS (b := true) (by decide +kernel) (by decide +kernel) (by decide +kernel) ?_
  | with_reducible refine wO_eqS (b := false) (by decide +kernel) (by decide +kernel) (by decide +kernel) ?_
  | with_reducible refine wO_isNotNon ?_
  | with_reducible refine wO_isB ?_
  | with_reducible refine wO_isNotB ?_
  | with_reducible refine wO_int ?_
  | with_reducible refine wO_intB ?_
  | with_reducible refine wO_max2 ?_
  | with_reducible refine wO_min2 ?_
  | with_reducible refine wO_range ?_
  | with_reducible refine wO_augAdd ?_
  | ((with_reducible refine' wO_len ?he_ ?_); (case he_ => exact rfl))
  | ((with_reducible refine' wO_tuple ?he_ ?_); (case he_ => exact rfl))
  | ((with_reducible refine' wO_list ?he_ ?_); (case he_ => exact rfl))
  | ((with_reducible refine' wO_isi ?he_ ?hm_ ?_); (case he_ => first | rfl | assumption); (case hm_ => decide))
  | ((with_reducible refine' wO_ix ?he_ ?h2_ ?_); (case he_ => first | exact rfl | exact seqOf_ref (by assumption)); (case h2_ => exact rfl))
  | ((with_reducible refine' Exists.intro _ (And.intro ?hr_ ?_)); (case hr_ => exact rfl))
  | ((with_reducible refine' And.intro ?hr_ ?_); (case hr_ => first | exact rfl | exact Nat.le_of_ble_eq_true rfl | (decide; done)))
  | ((with_reducible refine' Exists.intro _ (Exists.intro _ (And.intro ?hr_ ?_))); (case hr_ => exact rfl))
  | ((with_reducible refine' Exists.intro _ (Exists.intro _ (Exists.intro _ (And.intro ?hr_ ?_)))); (case hr_ => exact rfl))
  | with_reducible rfl)
local macro_rules | `(tactic| walk_at "dl") => `(tactic| repeat (walk_at "dl1"))
local macro_rules | `(tactic| walk_at "br") => `(tactic| ((with_reducible refine And.intro (fun hb => ?_) (fun hb => ?_)) <;> try (exfalso; first | (cases hb; done) | (simp at hb; done) | (simp at hb; omega))))
local macro_rules | `(tactic| walk_at "dlb") => `(tactic| repeat' (first | walk_at "dl1" | walk_at "br" | fail))
variable {K : PySem.W.Frag} {mg : Str → Option Value} {P : PP DL.D} {E : EE} {S : Sto}
/-! ### a store of sources -/
/-- a store of sources alone -/
def LS (S : Sto) : Prop := ∀ o ∈ S, ∃ a b, o = drw a b ∧ 0 ≤ b ∧ b < 2147483647
theorem LS.kill {S : Sto} (h : LS S) : killS S = S := by
  induction S with
  | nil => rfl
  | cons o T ih =>
    obtain ⟨a, b, rfl, _⟩ := h o (by simp)
    have := ih fun o ho => h o (by simp [ho])
    show drw a b :: killS T = _
    rw [this]
theorem LS.src {S : Sto} (h : LS S) {i : Nat} (hi : i < S.length) : Sr S i := by
  obtain ⟨a, b, e, h0, h1⟩ := h _ (List.getElem_mem hi)
  exact ⟨a, b, by rw [List.getElem?_eq_getElem hi, e], h0, h1⟩
theorem LS.st {S S' : Sto} (h : LS S) {i : Nat} (h' : St i S S') : LS S' := by
  obtain ⟨a, b, rfl, h0, h1⟩ := h'
  intro o ho
  rcases List.mem_or_eq_of_mem_set ho with z | z
  · exact h o z
  · subst z; exact ⟨a, b, rfl, h0, h1⟩
theorem LS.more {S : Sto} (h : LS S) {a b : Int} (h0 : 0 ≤ b) (h1 : b < 2147483647) : LS (S ++ [drw a b]) := fun o ho => by
  rcases List.mem_append.mp ho with z | z
  · exact h o z
  · cases List.mem_singleton.mp z; exact ⟨a, b, rfl, h0, h1⟩
/-! ### the laws' source of draws -/
theorem pool_ok {ns : List Int} {k : Nat} (hk : k < 1000) (hn : ns.length < 1000) (q : ∀ a b : Int, 0 ≤ b → b < 2147483647 → P (.ref S.length) (S ++ [drw a b])) : wO (m__law_pool K mg [.frl (ns.map DL.D.int), .int (k : Int)] S) P E := by
  have rest : ∀ i : Int, wS (sSeq (sSet 3 (eCall max2D (aCons (eCall intD (aCons (eVar 2) (aNil))) (aCons (eCall intD (aCons (eBin subD (eUn negD (eC (.int 1))) (eVar 2)) (aNil))) (aNil)))))
    (sSeq (sSet 4 (eBin modD (eCall intD (aCons (eBin mulD (eBin addD (eBin addD (eBin addD (eBin modD (eCall intD (aCons (eVar 3) (aNil))) (eC (.int 2147483629))) (eBin mulD (eBin mulD (eC (.int 7919)) (eVar 1)) (eVar 1))) (eBin mulD (eC (.int 31)) (eVar 1))) (eC (.int 17))) (eC (.int 48271))) (aNil))) (eC (.int 2147483647))))
    (sRet (eLstM (aCons (eBin mulD (eVar 3) (eCall intD (aCons (eAnd (eBin geD (eVar 3) (eBin powD (eC (.int 10)) (eC (.int 18)))) (eBin ltD (eVar 1) (eCall lenD (aCons (eVar 0) (aNil))))) (aNil)))) (aCons (eVar 4) (aNil)))))) [some (.frl (ns.map DL.D.int)), some (.int (k : Int)), some (.int i), none, none] S)
      (fun _ S1 => wO (cutM S .non S1) P E) (fun d S1 => wO (cutM S d S1) P E) (fun C w _ S1 => wO (cutX S C w S1) P E) (fun _ _ => False) (fun _ _ => False) := by
    intro i
    walk_at "dl"
    generalize (if -1 - i > i then -1 - i else i) = big
    refine wO_mod (by decide) ?_
    walk_at "dl"
    refine wO_mul (.inl (by decide)) ?_
    walk_at "dl"
    refine wO_mul (.inr (by omega)) ?_
    walk_at "dl"
    refine wO_mul (.inl (by decide)) ?_
    walk_at "dl"
    refine wO_mul (.inr (by decide)) ?_
    walk_at "dl"
    refine wO_mod (by decide) ?_
    have l1 : 0 ≤ ((big % 2147483629 + 7919 * (k : Int) * (k : Int) + 31 * (k : Int) + 17) * 48271) % 2147483647 := Int.emod_nonneg _ (by decide)
    have l2 : ((big % 2147483629 + 7919 * (k : Int) * (k : Int) + 31 * (k : Int) + 17) * 48271) % 2147483647 < 2147483647 := Int.emod_lt_of_pos _ (by decide)
    generalize ((big % 2147483629 + 7919 * (k : Int) * (k : Int) + 31 * (k : Int) + 17) * 48271) % 2147483647 = mix at *
    walk_at "dl"
    refine wO_pow (by decide) ?_
    walk_at "dl"
    have last : ∀ v : Bool, wO (intD [.bl v] S) (fun y S2 => wO (mulD (.int big) y S2) (fun x S1 => wO (aCons (eVar 4) (aNil) [some (.frl (ns.map DL.D.int)), some (.int (k : Int)), some (.int i), some (.int big), some (.int mix)] S1) (fun xs S2 => (x :: xs).length ≤ 16777216 ∧ wO (cutM S (.ref S2.length) (S2 ++ [.lst (x :: xs)])) P E) (fun C w S1 => wO (cutX S C w S1) P E)) (fun C w S1 => wO (cutX S C w S1) P E)) (fun C w S1 => wO (cutX S C w S1) P E) := by
      intro v
      walk_at "dl"
      refine wO_mul (.inr (by cases v <;> decide)) ?_
      walk_at "dl"
      exact wO_eq (cutM_new (S := S) (k := 0) (T := [drw (big * if v = true then 1 else 0) mix]) rfl rfl) (q _ _ l1 l2)
    refine ⟨fun hb => ?_, fun hb => ?_⟩
    · walk_at "dl1"
      walk_at "dl1"
      walk_at "dl1"
      walk_at "dl1"
      walk_at "dl1"
      walk_at "dl1"
      walk_at "dl1"
      walk_at "dl1"
      refine wO_nil ?_
      exact last _
    · refine wO_nil ?_
      exact last _
  refine wO_bodyM ?_
  show wS (g__law_pool K mg [some (.frl (ns.map DL.D.int)), some (.int (k : Int)), none, none, none] S) _ _ _ _ _
  unfold g__law_pool
  have hlen : seqOf S (.frl (ns.map DL.D.int)) = some (ns.map DL.D.int) := rfl
  walk_at "dl"
  rw [List.length_map]
  refine ⟨fun hb => ?_, fun hb => ?_⟩
  · have hk2 : k < ns.length := by have := of_decide_eq_true hb; omega
    walk_at "dl"
    refine wO_ix hlen (DL.atI_nat (a := DL.D.int ns[k]) (by rw [List.getElem?_map, List.getElem?_eq_getElem hk2]; rfl)) ?_
    exact rest _
  · walk_at "dl"
    refine wO_neD (okD_ints ns) rfl ?_
    walk_at "dl"
    cases ns with
    | nil =>
      refine ⟨(fun z => nomatch z), fun _ => ?_⟩
      walk_at "dl1"
      exact rest 0
    | cons i ns =>
      refine ⟨fun _ => ?_, (fun z => nomatch z)⟩
      walk_at "dl1"
      walk_at "dl1"
      walk_at "dl1"
      walk_at "dl1"
      refine wO_ix rfl (DL.atI_nat (k := 0) (a := DL.D.int i) rfl) ?_
      exact rest i
/-! ### the law -/
theorem wrong_non (o : Option Int) : (optD o).isNon = o.isNone := by cases o <;> rfl
theorem wrongK_le {d : DL.D} {i : Int} (h : wrongK d = some i) : i.natAbs < 100 := by
  unfold wrongK at h
  split at h
  · split at h
    · split at h
      · split at h
        · cases h
        · cases h; decide
      · cases h; decide
    · cases h
  · cases h; decide
theorem gd_told {k N M : Nat} {v : DL.D} (g : Gd k N v) (h8 : 8 ≤ N) (hM : 2 * (N + 2) + 3 ≤ M) : Gd (k + 1) M (.tup [.str "told", v]) :=
  gd_tup (k := k) (N := N) (fun x hx => by
    simp only [List.mem_cons, List.not_mem_nil, or_false] at hx
    rcases hx with rfl | rfl
    · exact (gd_str "told" (N := 8) (by decide +kernel) (by decide +kernel) (by decide +kernel)).mono (Nat.zero_le _) h8
    · exact g) hM
theorem law_ok (kn : KN23 K mg) (ns : List Int) (hn : ns.length ≤ 63) : ∃ S', m_law K mg [.frl (ns.map DL.D.int)] [] = .ok (.bl true) S' := by
  suffices h : wO (m_law K mg [.frl (ns.map DL.D.int)] []) (fun d _ => d = .bl true) DL.E0 by
    obtain ⟨d, S', e, rfl⟩ := wO_get h
    exact ⟨S', e⟩
  refine wO_body ?_
  show wS (g_law K mg [some (.frl (ns.map DL.D.int)), none, none, none, none, none] []) _ _ _ _ _
  unfold g_law
  refine wS_seq (wS_set ?_)
  walk_at "dl"
  refine pool_ok (k := 0) (by omega) (by omega) fun a b b0 b1 => ?_
  have l1 : LS ([] ++ [drw a b]) := LS.more (S := []) (fun o ho => by cases ho) b0 b1
  have hi : ([] : Sto).length < ([] ++ [drw a b] : Sto).length := by simp
  generalize ([] : Sto).length = i at hi
  generalize ([] ++ [drw a b] : Sto) = S1 at l1 hi
  refine wS_seq (wS_set ?_)
  refine wO_imp (P := fun d S' => ∃ sz hs, d = kD sz hs ∧ KD sz hs ∧ LS S' ∧ i < S'.length) ?_ fun d S2 ⟨sz, hs, ed, kd, l2, hi2⟩ => ?_
  · walk_at "dl"
    refine wO_take (l1.src hi) (by omega) (by omega) fun v S2 hv s2 => ?_
    have l2 := l1.st s2
    have hi2 : i < S2.length := by rw [s2.len]; exact hi
    walk_at "dl"
    refine ⟨fun _ => ?_, fun _ => ?_⟩
    · walk_at "dl"
      exact great_kind_ok (l2.src hi2) fun sz hs S3 kd s3 => ⟨sz, hs, rfl, kd, l2.st s3, by rw [s3.len]; exact hi2⟩
    · walk_at "dl"
      exact v_kind_ok (l2.src hi2) fun sz hs S3 kd s3 => ⟨sz, hs, rfl, kd, l2.st s3, by rw [s3.len]; exact hi2⟩
  subst ed
  walk_at "dl"
  refine amounts_right_ok (l2.src hi2) kd fun S3 s3 => ?_
  have l3 := l2.st s3
  have hi3 : i < S3.length := by rw [s3.len]; exact hi2
  walk_at "dlb"
  refine doors_ok kn l3.kill kd ?_
  walk_at "dlb"
  refine wO_compRngI (n := 5) (fun j acc S' => acc.length = j ∧ (∀ d ∈ acc, Gd 5 100000 d) ∧ LS S' ∧ i < S'.length) (by omega) ⟨rfl, (fun _ z => absurd z (by simp)), l3, hi3⟩ (fun j acc S' hj ⟨g1, g2, g3, g4⟩ => ?_) fun acc S4 ⟨g1, g2, l4, hi4⟩ => ?_
  · refine ⟨_, rfl, wO_btrue ⟨fun _ => ?_, fun z => nomatch z⟩⟩
    walk_at "dl"
    refine bent_kind_ok (g3.src g4) kd fun d S5 gd s5 => ⟨by simp [g1], fun x hx => ?_, g3.st s5, by rw [s5.len]; exact g4⟩
    rcases List.mem_append.mp hx with z | z
    · exact g2 x z
    · cases List.mem_singleton.mp z; exact gd
  have all : ∀ d ∈ kD sz hs :: acc, Gd 5 100000 d := fun d hd => by
    rcases List.mem_cons.mp hd with rfl | hd
    · exact kd.gd
    · exact g2 d hd
  walk_at "dl"
  refine wO_addL (by simp [g1]) ?_
  walk_at "dl"
  refine wS_forLst ([kD sz hs] ++ acc) (fun _ ρ S' => S' = S4 ∧ ∃ p q, ρ = [some (.frl (ns.map DL.D.int)), some (.ref i), some (kD sz hs), p, q, none]) ⟨rfl, _, _, rfl⟩ (fun done d rest ρ S' e ⟨e1, p, q, e2⟩ => ?_) fun ρ S' ⟨e1, p, q, e2⟩ => ?_
  · subst e1 e2
    have gd := all d (by rw [show kD sz hs :: acc = [kD sz hs] ++ acc from rfl, e]; simp)
    have od := gd.okD (by decide)
    refine ⟨_, _, rfl, ?_⟩
    walk_at "dl"
    refine law_wrong_kind_ok gd.pu od ?_
    walk_at "dl"
    refine is_kind_ok gd.pu od ?_
    walk_at "dl"
    refine wO_repr (gd_bl _) ?_
    walk_at "dl"
    rw [wrong_non]
    refine wO_repr (gd_bl _) ?_
    walk_at "dl"
    refine wO_neSame (okD_str (gd_bl (wrongK d).isNone).so) ?_
    walk_at "dlb"
    refine heardS kn l4.kill rfl ?_
    refine wO_mLam ?_
    show wO (eFn 1 (m_made_kind K mg) (aCons (eVar 0) (aNil)) [some d] _) _ _
    walk_at "dl"
    have gt : Gd 6 250000 (.tup [.str "told", d]) := gd_told gd (by decide) (by decide)
    refine made_kind_ok gd.pu od (fun hw => ?_) fun j hw => ?_
    · refine cut_self ⟨rfl, gd.pu, ?_⟩
      rw [hw]
      walk_at "dl"
      refine wO_repr gt ?_
      walk_at "dl"
      refine ⟨fun _ => ?_, fun z => nomatch z⟩
      walk_at "dl"
      refine wO_repr gt ?_
      walk_at "dl"
      refine wO_neSame (okD_str gt.so) ?_
      walk_at "dlb"
      exact ⟨_, _, rfl⟩
    · have gj : Gd 5 100000 (.int j) := (gd_int 2 (by decide) (by decide) (wrongK_le hw)).mono (by decide) (by decide)
      have gk : Gd 6 250000 (.tup [.str "kind", .int j]) := gd_word (e := .kind) gj (by decide) (by decide)
      refine cutX_self ⟨rfl, rfl, .kind, rfl, ?_⟩
      rw [hw]
      walk_at "dl"
      refine wO_repr (d := .tup [.str "kind", .int j]) gk ?_
      walk_at "dl"
      refine ⟨(fun z => nomatch z), fun _ => ?_⟩
      walk_at "dl"
      refine wO_repr (d := .tup [.str "kind", .int j]) gk ?_
      walk_at "dl"
      refine wO_neSame (okD_str gk.so) ?_
      walk_at "dlb"
      exact ⟨_, _, rfl⟩
  · subst e1 e2
    walk_at "dl"
    exact cut_tmp (S := []) (T := S') (d := .bl true) rfl rfl
end K23

open PySem PySem.W PyProof.Rows
set_option Elab.async false
set_option pp.maxSteps 60 in
set_option maxRecDepth 100000 in
set_option maxHeartbeats 0 in
theorem PySem.Challenge.cw_editlots_k23_kinds_and_amounts_holds : PySem.Challenge.rw_editlots_k23_kinds_and_amounts.Holds :=
  HdTop.hd (by
  k_fill
  refine DL.walk_ofG (n := 63) (k := 12) (x := "_law_script") (by decide +kernel) (by decide) rfl ⟨rfl, by decide, by decide⟩ ?F
  case F =>
    intro w mg fa h Y G hmg tab
    have hm_ : mg "law" = some (.ref fa) := hmg
    clear tab hmg
    refine' K23.all_mk (PySem.W.km_in_of Y) G hm_ (PySem.W.km_tabs_of Y) ?d__law_pool ?d__law_take ?d__law_great_kind ?d__law_one ?d__law_v_sizes ?d__law_v_all_amounts ?d__law_mixed ?d__law_v_kind ?d__law_is_amount ?d__law_wrong_kind ?d_is_whole ?d_is_sizes ?d_is_between ?d_is_below ?d_is_hands ?d_are_hands ?d_wrong_part ?d_made_kind ?d_state_of ?d_moved_by ?d_step_of ?d_merged_state ?d_table_of ?d__law_v_state ?d__law_v_put ?d__law_v_from_to ?d__law_v_entry ?d__law_v_table ?d_is_amount ?d_want_amount ?d_step ?d_is_state ?d_amount ?d_state_at ?d_moved ?d_made_amount ?d__law_amounts_right ?d__law_heard ?d__law_doors ?d__law_bent_kind ?d_is_kind ?d_law ?l__law_doors ?q__law_doors ?l_law ?q_law ?nd ?r ?e_BadAmount ?e_BadKind ?e_BadState ?kx_BadAmount_BadAmount ?kx_BadAmount_BadKind ?kx_BadAmount_BadState ?kx_BadKind_BadAmount ?kx_BadKind_BadKind ?kx_BadKind_BadState ?kx_BadState_BadAmount ?kx_BadState_BadKind ?kx_BadState_BadState ?b_all ?b_bool ?b_enumerate ?b_int ?b_isinstance ?b_len ?b_list ?b_max ?b_min ?b_range ?b_repr ?b_tuple ?b_zip ?c_MOST_SIZES ?c_LEAST_SIZE ?c_MOST_STATES ?fin
    (case d__law_pool => (refine' ⟨?a, L2.fun_mk ?l ?c ?k⟩; (case a => k_is); (case l => k_is); (case c => k_is); (case k => k_is)))
    (case d__law_take => (refine' ⟨?a, L2.fun_mk ?l ?c ?k⟩; (case a => k_is); (case l => k_is); (case c => k_is); (case k => k_is)))
    (case d__law_great_kind => (refine' ⟨?a, L2.fun_mk ?l ?c ?k⟩; (case a => k_is); (case l => k_is); (case c => k_is); (case k => k_is)))
    (case d__law_one => (refine' ⟨?a, L2.fun_mk ?l ?c ?k⟩; (case a => k_is); (case l => k_is); (case c => k_is); (case k => k_is)))
    (case d__law_v_sizes => (refine' ⟨?a, L2.fun_mk ?l ?c ?k⟩; (case a => k_is); (case l => k_is); (case c => k_is); (case k => k_is)))
    (case d__law_v_all_amounts => (refine' ⟨?a, L2.fun_mk ?l ?c ?k⟩; (case a => k_is); (case l => k_is); (case c => k_is); (case k => k_is)))
    (case d__law_mixed => (refine' ⟨?a, L2.fun_mk ?l ?c ?k⟩; (case a => k_is); (case l => k_is); (case c => k_is); (case k => k_is)))
    (case d__law_v_kind => (refine' ⟨?a, L2.fun_mk ?l ?c ?k⟩; (case a => k_is); (case l => k_is); (case c => k_is); (case k => k_is)))
    (case d__law_is_amount => (refine' ⟨?a, L2.fun_mk ?l ?c ?k⟩; (case a => k_is); (case l => k_is); (case c => k_is); (case k => k_is)))
    (case d__law_wrong_kind => (refine' ⟨?a, L2.fun_mk ?l ?c ?k⟩; (case a => k_is); (case l => k_is); (case c => k_is); (case k => k_is)))
    (case d_is_whole => (refine' ⟨?a, L2.fun_mk ?l ?c ?k⟩; (case a => k_is); (case l => k_is); (case c => k_is); (case k => k_is)))
    (case d_is_sizes => (refine' ⟨?a, L2.fun_mk ?l ?c ?k⟩; (case a => k_is); (case l => k_is); (case c => k_is); (case k => k_is)))
    (case d_is_between => (refine' ⟨?a, L2.fun_mk ?l ?c ?k⟩; (case a => k_is); (case l => k_is); (case c => k_is); (case k => k_is)))
    (case d_is_below => (refine' ⟨?a, L2.fun_mk ?l ?c ?k⟩; (case a => k_is); (case l => k_is); (case c => k_is); (case k => k_is)))
    (case d_is_hands => (refine' ⟨?a, L2.fun_mk ?l ?c ?k⟩; (case a => k_is); (case l => k_is); (case c => k_is); (case k => k_is)))
    (case d_are_hands => (refine' ⟨?a, L2.fun_mk ?l ?c ?k⟩; (case a => k_is); (case l => k_is); (case c => k_is); (case k => k_is)))
    (case d_wrong_part => (refine' ⟨?a, L2.fun_mk ?l ?c ?k⟩; (case a => k_is); (case l => k_is); (case c => k_is); (case k => k_is)))
    (case d_made_kind => (refine' ⟨?a, L2.fun_mk ?l ?c ?k⟩; (case a => k_is); (case l => k_is); (case c => k_is); (case k => k_is)))
    (case d_state_of => (refine' ⟨?a, L2.fun_mk ?l ?c ?k⟩; (case a => k_is); (case l => k_is); (case c => k_is); (case k => k_is)))
    (case d_moved_by => (refine' ⟨?a, L2.fun_mk ?l ?c ?k⟩; (case a => k_is); (case l => k_is); (case c => k_is); (case k => k_is)))
    (case d_step_of => (refine' ⟨?a, L2.fun_mk ?l ?c ?k⟩; (case a => k_is); (case l => k_is); (case c => k_is); (case k => k_is)))
    (case d_merged_state => (refine' ⟨?a, L2.fun_mk ?l ?c ?k⟩; (case a => k_is); (case l => k_is); (case c => k_is); (case k => k_is)))
    (case d_table_of => (refine' ⟨?a, L2.fun_mk ?l ?c ?k⟩; (case a => k_is); (case l => k_is); (case c => k_is); (case k => k_is)))
    (case d__law_v_state => (refine' ⟨?a, L2.fun_mk ?l ?c ?k⟩; (case a => k_is); (case l => k_is); (case c => k_is); (case k => k_is)))
    (case d__law_v_put => (refine' ⟨?a, L2.fun_mk ?l ?c ?k⟩; (case a => k_is); (case l => k_is); (case c => k_is); (case k => k_is)))
    (case d__law_v_from_to => (refine' ⟨?a, L2.fun_mk ?l ?c ?k⟩; (case a => k_is); (case l => k_is); (case c => k_is); (case k => k_is)))
    (case d__law_v_entry => (refine' ⟨?a, L2.fun_mk ?l ?c ?k⟩; (case a => k_is); (case l => k_is); (case c => k_is); (case k => k_is)))
    (case d__law_v_table => (refine' ⟨?a, L2.fun_mk ?l ?c ?k⟩; (case a => k_is); (case l => k_is); (case c => k_is); (case k => k_is)))
    (case d_is_amount => (refine' ⟨?a, L2.fun_mk ?l ?c ?k⟩; (case a => k_is); (case l => k_is); (case c => k_is); (case k => k_is)))
    (case d_want_amount => (refine' ⟨?a, L2.fun_mk ?l ?c ?k⟩; (case a => k_is); (case l => k_is); (case c => k_is); (case k => k_is)))
    (case d_step => (refine' ⟨?a, L2.fun_mk ?l ?c ?k⟩; (case a => k_is); (case l => k_is); (case c => k_is); (case k => k_is)))
    (case d_is_state => (refine' ⟨?a, L2.fun_mk ?l ?c ?k⟩; (case a => k_is); (case l => k_is); (case c => k_is); (case k => k_is)))
    (case d_amount => (refine' ⟨?a, L2.fun_mk ?l ?c ?k⟩; (case a => k_is); (case l => k_is); (case c => k_is); (case k => k_is)))
    (case d_state_at => (refine' ⟨?a, L2.fun_mk ?l ?c ?k⟩; (case a => k_is); (case l => k_is); (case c => k_is); (case k => k_is)))
    (case d_moved => (refine' ⟨?a, L2.fun_mk ?l ?c ?k⟩; (case a => k_is); (case l => k_is); (case c => k_is); (case k => k_is)))
    (case d_made_amount => (refine' ⟨?a, L2.fun_mk ?l ?c ?k⟩; (case a => k_is); (case l => k_is); (case c => k_is); (case k => k_is)))
    (case d__law_amounts_right => (refine' ⟨?a, L2.fun_mk ?l ?c ?k⟩; (case a => k_is); (case l => k_is); (case c => k_is); (case k => k_is)))
    (case d__law_heard => (refine' ⟨?a, L2.fun_mk ?l ?c ?k⟩; (case a => k_is); (case l => k_is); (case c => k_is); (case k => k_is)))
    (case d__law_doors => (refine' ⟨?a, L2.fun_mk ?l ?c ?k⟩; (case a => k_is); (case l => k_is); (case c => k_is); (case k => k_is)))
    (case d__law_bent_kind => (refine' ⟨?a, L2.fun_mk ?l ?c ?k⟩; (case a => k_is); (case l => k_is); (case c => k_is); (case k => k_is)))
    (case d_is_kind => (refine' ⟨?a, L2.fun_mk ?l ?c ?k⟩; (case a => k_is); (case l => k_is); (case c => k_is); (case k => k_is)))
    (case d_law => (refine' ⟨?a, L2.fun_mk ?l ?c ?k⟩; (case a => k_is); (case l => k_is); (case c => k_is); (case k => k_is)))
    (case l__law_doors => (refine' DL.LamK.of ?cd ?lk_ ?vp_ ?hd ?no; (case cd => rfl); (case lk_ => k_is); (case vp_ => rfl); (case hd => kernel_rfl); (case no => kernel_rfl)))
    (case q__law_doors => decide)
    (case l_law => (refine' DL.LamK.of ?cd ?lk_ ?vp_ ?hd ?no; (case cd => rfl); (case lk_ => k_is); (case vp_ => rfl); (case hd => kernel_rfl); (case no => kernel_rfl)))
    (case q_law => decide)
    (case nd => decide)
    (case r => (refine' DL.RfK.of ?a ?i ?ty ?lk_ ?cd ?ev ?lk2 ?v2 ?pf ?lk3 ?cls ?sup ?tp ?top; (case a => k_is); (case i => k_is); (case ty => k_is); (case lk_ => k_is); (case cd => k_is); (case ev => exact ⟨_, fun _ => rfl⟩); (case lk2 => k_is); (case v2 => rfl); (case pf => decide +kernel); (case lk3 => k_is); (case cls => k_is); (case sup => k_is); (case tp => k_is); (case top => kernel_rfl)))
    (case e_BadAmount => (refine' DL.ErrK.of ?a ?lk_ ?ve0 ?sa ?exC ?tyC ?kC ?sub' ?su ?ve ?nw ?ga ?gg ?hdC ?ha ?hn ?ht ?hm ?exm ?ini; (case a => k_is); (case lk_ => k_is); (case ve0 => decide +kernel); (case sa => k_is); (case exC => k_is); (case tyC => k_is); (case kC => k_is); (case sub' => k_is); (case su => kernel_rfl); (case ve => k_is); (case nw => k_is); (case ga => k_is); (case gg => k_is); (case hdC => k_is); (case ha => k_is); (case hn => k_is); (case ht => k_is); (case hm => k_is); (case exm => kernel_rfl); (case ini => k_is)))
    (case e_BadKind => (refine' DL.ErrK.of ?a ?lk_ ?ve0 ?sa ?exC ?tyC ?kC ?sub' ?su ?ve ?nw ?ga ?gg ?hdC ?ha ?hn ?ht ?hm ?exm ?ini; (case a => k_is); (case lk_ => k_is); (case ve0 => decide +kernel); (case sa => k_is); (case exC => k_is); (case tyC => k_is); (case kC => k_is); (case sub' => k_is); (case su => kernel_rfl); (case ve => k_is); (case nw => k_is); (case ga => k_is); (case gg => k_is); (case hdC => k_is); (case ha => k_is); (case hn => k_is); (case ht => k_is); (case hm => k_is); (case exm => kernel_rfl); (case ini => k_is)))
    (case e_BadState => (refine' DL.ErrK.of ?a ?lk_ ?ve0 ?sa ?exC ?tyC ?kC ?sub' ?su ?ve ?nw ?ga ?gg ?hdC ?ha ?hn ?ht ?hm ?exm ?ini; (case a => k_is); (case lk_ => k_is); (case ve0 => decide +kernel); (case sa => k_is); (case exC => k_is); (case tyC => k_is); (case kC => k_is); (case sub' => k_is); (case su => kernel_rfl); (case ve => k_is); (case nw => k_is); (case ga => k_is); (case gg => k_is); (case hdC => k_is); (case ha => k_is); (case hn => k_is); (case ht => k_is); (case hm => k_is); (case exm => kernel_rfl); (case ini => k_is)))
    (case kx_BadAmount_BadAmount => kernel_rfl)
    (case kx_BadAmount_BadKind => kernel_rfl)
    (case kx_BadAmount_BadState => kernel_rfl)
    (case kx_BadKind_BadAmount => kernel_rfl)
    (case kx_BadKind_BadKind => kernel_rfl)
    (case kx_BadKind_BadState => kernel_rfl)
    (case kx_BadState_BadAmount => kernel_rfl)
    (case kx_BadState_BadKind => kernel_rfl)
    (case kx_BadState_BadState => kernel_rfl)
    (case b_all => k_is)
    (case b_bool => k_is)
    (case b_enumerate => k_is)
    (case b_int => k_is)
    (case b_isinstance => k_is)
    (case b_len => k_is)
    (case b_list => k_is)
    (case b_max => k_is)
    (case b_min => k_is)
    (case b_range => k_is)
    (case b_repr => k_is)
    (case b_tuple => k_is)
    (case b_zip => k_is)
    (case c_MOST_SIZES => k_is)
    (case c_LEAST_SIZE => k_is)
    (case c_MOST_STATES => k_is)
    (case fin => exact fun k0 k1 k2 k3 k4 k5 k6 k7 k8 k9 k10 k11 ns hn => K23.law_ok ⟨k0, k1, k2, k3, k4, k5, k6, k7, k8, k9, k10, k11⟩ ns hn))
