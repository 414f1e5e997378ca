import PyProof.Rows.All
import Wide.All
import OpenK.AllK
import Wide.FinOn
import HandS.ForMost
import HandS.Lambda
import HandS.TupAny
import HandS.TupMul
import HandS.Conv
import KE.KDictKeyed
import HandS.TupLe
import HandS.Wide
import HandS.WideBits
import HandS.Style
import KE.DataCmp
import KE.DataEq
import KE.DataAny
import KE.DataIsa
import KE.SortData
import PyProof.ReprRoads
import HandS.Zip
import KE.GoesEnum
import KE.GoesMore
import HandS.EndBits
import HandS.DictComp
import KE.DataMinMax
import HandS.NoneIn
import HandS.Text
import KE.KUnpackStar
import HandS.ExcCtx
import HandS.HotCalls
import HandS.ExcIs
import HandS.ExcField
import HandS.ExcInit
import KE.KExcInit
import HandS.Small
import HandS.Defaults
import HandS.SetFor
import KE.KDictZip
import HandS.More
import HandS.Strs
import HandS.Iter
import HandS.SetBool
import HandS.EndOwn
import HandS.Comp
import KE.KDictItemsList
import KE.KDictPairs
import HandS.Sort
import KE.KDictSum
import KE.KIndexOf
import PySem.Challenge.RW_tiewheel_k43_permutations
set_option Elab.async false
set_option linter.all false
set_option maxRecDepth 100000
set_option maxHeartbeats 4000000
namespace VS
open PySem PySem.Spec PyProof.Rows L2
section
variable {X : Cx}
abbrev tupOb (us : List Value) : Obj := { cls := .type "tuple", data := .seq us.toArray }
def NewT (H : Hp) (xs : List V) (Q : VK) : Prop := ∀ p (o : Obj), H p = none → o.dict = none → Q (.ref p) (upd H p (.frz o (.tup xs)))
theorem lay_tup {pins : List (Addr × Obj)} {σ : L2.St} {H : Hp} {s : Shared} {xs : List V} {us : List Value} {Q : VK} (I : Inv X pins σ H s) (r : Vals xs us) (hz : xs.length ≤ sizeLine) (q : NewT H xs Q) : EP X pins σ Q (.ref s.heap.objs.size) { s with heap := s.heap.push (tupOb us) } :=
  ⟨.ref s.heap.objs.size, upd H s.heap.objs.size (.frz (tupOb us) (.tup xs)), I.laid (t' := s.toks) (o := .frz (tupOb us) (.tup xs)) (fun b o e => Heap.get?_push_of_some _ e) (Nat.le_refl _) ⟨Heap.get?_push_size _ rfl, hz, us, r, IsTup.new _ _⟩, rfl, q _ _ (I.hok.fresh (Nat.le_refl _)) rfl⟩
def tTupX (t : TA) : TE := fun σ H Q => t σ H fun xs H1 => xs.length ≤ sizeLine ∧ NewT H1 xs Q
theorem pe_tupX {es : List Expr} {t : TA} {pos : Pos} {x1} (h : PA X es t) : PE X (.Tuple es x1 pos) (tTupX t) := by
  refine ⟨fun pins s σ H Q I hq => wpAny_Tuple_spliced (thn (h.run pos pins s σ H _ I hq) fun us s1 ⟨xs, H1, I1, r, z, q⟩ => ⟨by rw [← r.length]; exact z, lay_tup I1 r z q⟩)⟩
theorem call_tupleX : CallR X (.type "tuple") (fun xs H Q => ∃ p ys, xs = [.ref p] ∧ ((SqL X.K H p ys ∧ NewT H ys Q) ∨ (SqT X.K H p ys ∧ Q (.ref p) H))) := by
  intro pins s σ H xs us Q I r h
  obtain ⟨p, ys, rfl, h⟩ := h
  obtain ⟨u, rfl, rx⟩ := vals1 r
  cases rx
  rcases h with ⟨hq, q⟩ | ⟨hq, q⟩
  · obtain ⟨its, r', pl, hz⟩ := I.list hq
    have hlen := r'.length
    exact call_tuple_list pl.isList (fun h' kp => lay_tup (s := { s with heap := h' }) (I.kept (t' := s.toks) kp) r' hz q) (by simp only [List.size_toArray] <;> omega)
  · obtain ⟨its, r', pl, hz⟩ := I.tuple hq
    exact call_tuple_same pl ⟨.ref p, H, I, rfl, q⟩
def tTupRgX (te : L2.St → Hp → (Int → Int → Hp → Prop) → Prop) : TE := fun σ H Q => te σ H fun a b H1 => RgOk a b ∧ NewT H1 (rgV a b) Q
theorem pe_tupRgX {e : Expr} {te : L2.St → Hp → (Int → Int → Hp → Prop) → Prop} {p pos : Pos} (hc : X.calm = true) (hg : Gl X "tuple") (hm : X.mg "tuple" = none) (he : PRg X e te) (na : starEach [e] X.env = (false, eval e X.env) :: starEach [] X.env := by rfl) : PE X (.Call (.Name "tuple" p) [e] [] pos) (tTupRgX te) := by
  refine ⟨fun pins s σ H Q I h => ?_⟩
  refine Call_ (ld_blt I hg hm boot_tuple (PyProof.Rows.callWith_type1 (args_cons (thn (he pins s σ H _ I h) fun x s1 ⟨r, a, b, t, u, v, H1, ex, hr, I1, ok, q⟩ => args_nil ?_) na) na))
  subst ex
  obtain ⟨b1, b2, b3, b4, b5⟩ := ok
  refine call_tuple_range (n := (b - a).toNat) (I1.ok.hd hc) hr (small_one b1 b2 b3 b4) (rangeSize_nat a b) b5 fun h' tk acc hk hi => ?_
  have := lay_tup (s := { s1 with heap := h', toks := tk }) (I1.kept hk) (vals_rg hi) (by rw [rgV_length, sizeLine_eq]; omega) q
  unfold tupOb at this
  rw [Array.toArray_toList] at this
  exact this
def rCatX (K : PySem.W.Frag) : R2 := fun x y H Q => ∃ a b xs ys, x = .ref a ∧ y = .ref b ∧ SqT K H a xs ∧ SqT K H b ys ∧ xs.length + ys.length ≤ sizeLine ∧
  (xs = [] → Q (.ref b) H) ∧ (xs ≠ [] → ys = [] → Q (.ref a) H) ∧ (xs ≠ [] → ys ≠ [] → NewT H (xs ++ ys) Q)
theorem op_catX : OpR X (binaryOp .Add) (rCatX X.K) := by
  intro pins s σ H x y v u Q I rx ry h
  obtain ⟨a, b, xs, ys, rfl, rfl, ha, hb, hz, q0, q1, q2⟩ := h
  cases rx
  cases ry
  obtain ⟨its, r1, p1, _⟩ := I.tuple ha
  obtain ⟨its2, r2, p2, _⟩ := I.tuple hb
  by_cases hx : xs = []
  · subst hx
    cases r1
    exact cat_tup0 p1 p2 ⟨.ref b, H, I, rfl, q0 rfl⟩
  · exact HT.cat_tup p1 p2 (fun z => hx (r1.nil_iff.mp z)) (fun z => ⟨.ref a, H, I, rfl, q1 hx (r2.nil_iff.mp z)⟩) (fun z => lay_tup I (r1.append r2) (by rw [List.length_append]; exact hz) (q2 hx fun w => z (r2.nil_iff.mpr w))) (by rw [← r1.length, ← r2.length]; exact hz)
def rSlX (K : PySem.W.Frag) : V → Option Int → Option Int → Hp → VK → Prop := fun x lo hi H Q => ∃ a xs, x = .ref a ∧ SqT K H a xs ∧
  (HT.sIx xs.length 0 lo = 0 ∧ HT.sIx xs.length xs.length hi = xs.length → Q (.ref a) H) ∧ (¬ (HT.sIx xs.length 0 lo = 0 ∧ HT.sIx xs.length xs.length hi = xs.length) → NewT H (cutV xs lo hi) Q)
theorem sl_tupX : SlR X (rSlX X.K) := by
  intro pins s σ H x v vl vu lo hi sl Q I rx hs pl pu h
  obtain ⟨a, xs, rfl, hx, q1, q2⟩ := h
  cases rx
  obtain ⟨its, r, ht, hz⟩ := I.tuple hx
  have hlen : its.toArray.size = xs.length := by rw [List.size_toArray]; exact r.length.symm
  refine ⟨"tuple", _, PyProof.Rows.slot_tuple_getitem.lookup, ht.typeIs, ?_⟩
  by_cases hw : HT.sIx xs.length 0 lo = 0 ∧ HT.sIx xs.length xs.length hi = xs.length
  · exact getItem_tuple_whole ht hs pl pu (by rw [hlen]; exact hw) ⟨.ref a, H, I, rfl, q1 hw⟩
  · refine HT.getItem_tuple_cut ht hs pl pu (by rw [hlen]; exact hw) ?_ (by rw [hlen]; exact hz)
    rw [hlen]
    exact lay_tup I ((r.drop (HT.sIx xs.length 0 lo)).take (HT.sIx xs.length xs.length hi - HT.sIx xs.length 0 lo)) (Nat.le_trans (cutV_length xs lo hi) hz) (q2 hw)
end
end VS
namespace VS
open PySem L2
structure Exn where
  cls : Str
  fld : Str
  arg : PyData
structure XI where
  a : Addr
  c : Value
  d : Option Addr
inductive Sl where
  | dat (d : PyData)
  | own (d : PyData)
  | exn (xi : XI) (x : Exn)
  | dp (d : PyData)
  | nd (es : List (PyData × PyData))
abbrev Sd := List (Option Sl)
inductive Res (α : Type) where
  | ok (a : α) (s : Sd)
  | exc (e : Exn) (s : Sd)
  | stk
abbrev M (α : Type) := Sd → Res α
@[simp] def M.ret {α : Type} (a : α) : M α := fun s => .ok a s
@[simp] def M.bind {α β : Type} (m : M α) (k : α → M β) : M β := fun s => match m s with
  | .ok a s' => k a s'
  | .exc e s' => .exc e s'
  | .stk => .stk
@[simp] def M.stk {α : Type} : M α := fun _ => .stk
@[simp] def M.of {α : Type} : Option α → M α
  | some a => M.ret a
  | none => M.stk
inductive Opd where
  | d (x : PyData)
  | own (i : Nat)
@[simp] def ownOf : Option (Option Sl) → Option PyData
  | some (some (.own d)) => some d
  | _ => none
@[simp] def Opd.get (s : Sd) : Opd → Option PyData
  | .d x => some x
  | .own i => ownOf s[i]?
def M.val (m : M Opd) : M PyData := M.bind m fun r s => match r.get s with
  | some d => .ok d s
  | none => .stk
structure Ow where
  o : Addr → Prop
  a : Addr → Prop
  c : Addr → Prop
def kD : Key → PyData
  | .inl i => .int i
  | .inr x => .str x
def KL (K : PySem.W.Frag) (a : Addr) (xs : List V) : Prop := xs.length ≤ sizeLine ∧ ∃ (its : List Value) (n : Nat), Vals xs its ∧ K.lookup a = some { cls := .type "list", data := .seq its.toArray n }
def TupE (K : PySem.W.Frag) (H : Hp) (a : Addr) (xs : List V) : Prop :=
  (∃ o, H a = some (.frz o (.tup xs)) ∧ o.dict = none) ∨ ∃ (o : Obj) (its : Array Value) (n : Nat), K.lookup a = some o ∧ o.dict = none ∧ o.cls = .type "tuple" ∧ o.data = .seq its n ∧ its.size ≤ sizeLine ∧ Vals xs its.toList
theorem TupE.sq {K : PySem.W.Frag} {H : Hp} {a : Addr} {xs : List V} (h : TupE K H a xs) : SqT K H a xs := by
  rcases h with ⟨o, e, _⟩ | ⟨o, its, n, e, _, r⟩
  · exact .inl (.inr ⟨o, e⟩)
  · exact .inr ⟨o, its, n, e, r⟩
mutual
inductive Dd (K : PySem.W.Frag) (H : Hp) (O : Ow) : V → PyData → Prop
  | non : Dd K H O .non .none
  | bl (b : Bool) : Dd K H O (.bl b) (.bool b)
  | int (i : Int) : Dd K H O (.int i) (.int i)
  | str (x : Str) : Dd K H O (.str x) (.str x)
  | lst {a : Addr} {xs : List V} {ds : List PyData} : Rd H a (.lst xs) → ¬ O.a a → Ds K H O xs ds → Dd K H O (.ref a) (.list ds)
  | lsk {a : Addr} {xs : List V} {ds : List PyData} : KL K a xs → Ds K H O xs ds → Dd K H O (.ref a) (.list ds)
  | tup {a : Addr} {xs : List V} {ds : List PyData} : TupE K H a xs → Ds K H O xs ds → Dd K H O (.ref a) (.tuple ds)
  | dct {a : Addr} {kvs : List (Key × V)} {es : List (PyData × PyData)} : Rd H a (.dK kvs) → ¬ O.a a → Dk K H O kvs es → Dd K H O (.ref a) (.dict es)
inductive Ds (K : PySem.W.Frag) (H : Hp) (O : Ow) : List V → List PyData → Prop
  | nil : Ds K H O [] []
  | cons {v : V} {vs : List V} {d : PyData} {ds : List PyData} : Dd K H O v d → Ds K H O vs ds → Ds K H O (v :: vs) (d :: ds)
inductive Dk (K : PySem.W.Frag) (H : Hp) (O : Ow) : List (Key × V) → List (PyData × PyData) → Prop
  | nil : Dk K H O [] []
  | cons {k : Key} {v : V} {kvs : List (Key × V)} {d : PyData} {es : List (PyData × PyData)} : Dd K H O v d → Dk K H O kvs es → Dk K H O ((k, v) :: kvs) ((kD k, d) :: es)
end
def OwnK : HO → Prop
  | .lst _ => True
  | .dK _ => True
  | .dT _ => True
  | .ext φ => ∀ c q, HO.ext φ ≠ LamX.CodeO c q
  | _ => False
class TabL where
  T : List (Addr × Str)
  W : Option World
variable [TabL]
abbrev TabsOk (H : Hp) : Prop := LamX.Tabs TabL.T H
def NoT (o : HO) : Prop := ∀ ps, o ≠ .tbl ps
theorem nt_lst (xs : List V) : NoT (.lst xs) := fun ps z => by cases z
theorem nt_tup (xs : List V) : NoT (.tup xs) := fun ps z => by cases z
theorem nt_dK (es : List (Key × V)) : NoT (.dK es) := fun ps z => by cases z
theorem nt_frz (o : Obj) (u : HO) : NoT (.frz o u) := fun ps z => by cases z
theorem nt_xd (fs : List (Str × V)) : NoT (.xd fs) := fun ps z => by cases z
def Lk (o o' : HO) : Prop := ∃ od kvs, o = .dK kvs ∧ o' = .frz od (.dK kvs)
def Kept (O : Ow) (a : Addr) (o : HO) (H' : Hp) : Prop := H' a = some o ∨ (¬ O.a a ∧ ∃ o', Lk o o' ∧ H' a = some o')
theorem Kept.own {O : Ow} {a : Addr} {o : HO} {H' : Hp} (h : Kept O a o H') (z : O.a a) : H' a = some o := by
  rcases h with h | ⟨n, _⟩
  · exact h
  · exact absurd z n
theorem Kept.less {O O' : Ow} {a : Addr} {o : HO} {H' : Hp} (h : Kept O' a o H') (s : ∀ p, O.a p → O'.a p) : Kept O a o H' := by
  rcases h with h | ⟨n, r⟩
  · exact .inl h
  · exact .inr ⟨fun z => n (s a z), r⟩
theorem Kept.of {O O' : Ow} {a : Addr} {o : HO} {H' : Hp} (h : Kept O' a o H') (n : ¬ O.a a) : Kept O a o H' := by
  rcases h with h | ⟨_, r⟩
  · exact .inl h
  · exact .inr ⟨n, r⟩
theorem Kept.trans {O : Ow} {a : Addr} {o : HO} {H1 H2 : Hp} (h : Kept O a o H1) (n : NoT o) (k : ∀ o, H1 a = some o → NoT o → Kept O a o H2) : Kept O a o H2 := by
  rcases h with h | ⟨na, o', ⟨od, kvs, rfl, rfl⟩, h⟩
  · exact k o h n
  · rcases k _ h (nt_frz _ _) with k | ⟨_, o', ⟨_, _, z, _⟩, _⟩
    · exact .inr ⟨na, _, ⟨od, kvs, rfl, rfl⟩, k⟩
    · cases z
def Ext (O : Ow) (H H' : Hp) : Prop := ∀ a o, H a = some o → (¬ O.o a → NoT o → Kept O a o H') ∧ ∃ o', H' a = some o'
theorem Ext.refl (O : Ow) (H : Hp) : Ext O H H := fun a o h => ⟨fun _ _ => .inl h, o, h⟩
theorem Ext.trans {O : Ow} {H H1 H2 : Hp} (a : Ext O H H1) (b : Ext O H1 H2) : Ext O H H2 := fun x o h => by
  obtain ⟨h1, o1, e1⟩ := a x o h
  exact ⟨fun n nt => (h1 n nt).trans nt fun o e t => (b x o e).1 n t, (b x o1 e1).2⟩
theorem Ext.same {O : Ow} {H H' : Hp} (s : Same H H') : Ext O H H' := fun a o h => ⟨fun _ _ => .inl (s a o h), o, s a o h⟩
theorem Ext.fresh {O : Ow} {H H' : Hp} {p : Addr} (e : Ext O H H') (h : H' p = none) : H p = none := by
  cases q : H p with
  | none => rfl
  | some o =>
    obtain ⟨_, o', e'⟩ := e p o q
    rw [h] at e'
    cases e'
theorem Ext.new {O : Ow} {H : Hp} {p : Addr} {o : HO} (h : H p = none) : Ext O H (upd H p o) := Ext.same fun a u e => by
  rw [upd_ne (ne_of_none e h)]
  exact e
def Wr (o : HO) : Prop := NoT o ∧ ∀ c q, o ≠ LamX.CodeO c q
theorem wr_lst (xs : List V) : Wr (.lst xs) := ⟨(fun ps z => by cases z), (fun c q z => by unfold LamX.CodeO at z; cases z)⟩
theorem wr_dK (es : List (Key × V)) : Wr (.dK es) := ⟨(fun ps z => by cases z), (fun c q z => by unfold LamX.CodeO at z; cases z)⟩
theorem tabs_upd {H : Hp} {p : Addr} {o o0 : HO} (h0 : H p = some o0) (w : Wr o0) (t : TabsOk H) : TabsOk (upd H p o) := fun x hx => by
  obtain ⟨ps, h1, h2, h3⟩ := t x hx
  refine ⟨ps, ?_, h2, fun pos cv hc => ?_⟩
  · rw [upd_ne fun z => ?_]
    · exact h1
    · rw [z, h0] at h1
      exact w.1 ps (Option.some.inj h1)
  · obtain ⟨c, e1, e2⟩ := h3 pos cv hc
    refine ⟨c, e1, ?_⟩
    rw [upd_ne fun z => ?_]
    · exact e2
    · rw [z, h0] at e2
      exact w.2 _ _ (Option.some.inj e2)
theorem Ext.weak {O O' : Ow} {H H' : Hp} (e : Ext O H H') (h : ∀ p, O.o p → O'.o p) (ha : ∀ p, O'.a p → O.a p ∨ O'.o p := by exact fun _ z => Or.inl z) : Ext O' H H' := fun a o q => ⟨fun n nt => by
  rcases (e a o q).1 (fun z => n (h a z)) nt with k | ⟨k, r⟩
  · exact .inl k
  · refine .inr ⟨fun z => ?_, r⟩
    rcases ha a z with z | z
    · exact k z
    · exact n z, (e a o q).2⟩
theorem Ext.less {O O' : Ow} {H H' : Hp} (e : Ext O' H H') (h : ∀ p, O'.o p → O.o p ∨ H p = none) (ha : ∀ p, O.a p → O'.a p ∨ O.o p := by exact fun _ z => Or.inl z) : Ext O H H' := fun a o q => by
  refine ⟨fun n nt => ?_, (e a o q).2⟩
  have n' : ¬ O'.o a := fun z => by
    rcases h a z with z | z
    · exact n z
    · rw [z] at q
      cases q
  rcases (e a o q).1 n' nt with k | ⟨k, r⟩
  · exact .inl k
  · refine .inr ⟨fun z => ?_, r⟩
    rcases ha a z with z | z
    · exact k z
    · exact n z
theorem Ext.at {O : Ow} {H H' : Hp} (e : Ext O H H') {a : Addr} {o : HO} (h : H a = some o) (n : ¬ O.o a) (t : NoT o) (hd : ∀ kvs, o ≠ .dK kvs := by exact fun _ z => nomatch z) : H' a = some o := by
  rcases (e a o h).1 n t with k | ⟨_, o', ⟨od, kvs, z, _⟩, _⟩
  · exact k
  · exact absurd z (hd kvs)
theorem Ext.atA {O : Ow} {H H' : Hp} (e : Ext O H H') {a : Addr} {o : HO} (h : H a = some o) (n : ¬ O.o a) (t : NoT o) (z : O.a a) : H' a = some o := ((e a o h).1 n t).own z
theorem Ext.dct {O : Ow} {H H' : Hp} (e : Ext O H H') {a : Addr} {kvs : List (Key × V)} (h : H a = some (.dK kvs)) (n : ¬ O.o a) : Rd H' a (.dK kvs) := by
  rcases (e a _ h).1 n (nt_dK _) with k | ⟨_, o', ⟨od, kvs', z, rfl⟩, k⟩
  · exact .inl k
  · cases z
    exact .inr ⟨od, k⟩
structure Kinds (H : Hp) (O : Ow) : Prop where
  sub : ∀ p, O.o p → O.a p
  kd : ∀ p, O.a p → ∃ o, H p = some o ∧ OwnK o
  cs : ∀ p, O.c p → O.o p
  tb : TabsOk H
theorem Kinds.no {H : Hp} {O : Ow} (k : Kinds H O) {a : Addr} {o : HO} (h : H a = some o) (n : ¬ OwnK o) : ¬ O.o a := fun z => by
  obtain ⟨o', e, q⟩ := k.kd a (k.sub a z)
  rw [h] at e
  cases e
  exact n q
theorem Kinds.new {H : Hp} {O : Ow} (k : Kinds H O) {p : Addr} (h : H p = none) : ¬ O.a p := fun z => by
  obtain ⟨o', e, q⟩ := k.kd p z
  rw [h] at e
  cases e
theorem Kinds.newc {H : Hp} {O : Ow} (k : Kinds H O) {p : Addr} (h : H p = none) : ¬ O.c p := fun z => k.new h (k.sub p (k.cs p z))
theorem Kinds.newo {H : Hp} {O : Ow} (k : Kinds H O) {p : Addr} (h : H p = none) : ¬ O.o p := fun z => k.new h (k.sub p z)
theorem wr_own {o : HO} (h : OwnK o) : Wr o := by
  cases o with
  | ext φ => exact ⟨fun ps z => (by cases z), h⟩
  | lst _ => exact wr_lst _
  | dK _ => exact wr_dK _
  | dT _ => exact ⟨fun ps z => (by cases z), fun c q z => (by unfold LamX.CodeO at z; cases z)⟩
  | _ => exact h.elim
theorem Ext.set {O : Ow} {H : Hp} {p : Addr} {o : HO} (h : O.o p) : Ext O H (upd H p o) := fun a u e => by
  by_cases q : a = p
  · subst q
    exact ⟨fun n => absurd h n, o, upd_same⟩
  · rw [upd_ne q]
    exact ⟨fun _ _ => .inl (by rw [upd_ne q]; exact e), u, e⟩
theorem Kinds.tbset {H : Hp} {O : Ow} {p : Addr} {o : HO} (k : Kinds H O) (h : O.a p) : TabsOk (upd H p o) := by
  obtain ⟨o0, h0, w⟩ := k.kd p h
  exact tabs_upd h0 (wr_own w) k.tb
section
variable {K : PySem.W.Frag} {H H' : Hp} {O O' : Ow}
theorem rd_keep {a : Addr} {u : HO} (k : Kinds H O) (e : Ext O H H') (h : Rd H a u) (n : ¬ O.o a ∨ ¬ OwnK u) (t : NoT u) : Rd H' a u := by
  rcases h with h | ⟨o, h⟩
  · have no : ¬ O.o a := n.elim id (k.no h)
    by_cases q : ∃ kvs, u = .dK kvs
    · obtain ⟨kvs, rfl⟩ := q
      exact e.dct h no
    · exact .inl (e.at h no t fun kvs z => q ⟨kvs, z⟩)
  · exact .inr ⟨o, e.at h (k.no h fun z => z) (nt_frz _ _)⟩
theorem sqt_keep {a : Addr} {xs : List V} (k : Kinds H O) (e : Ext O H H') (h : SqT K H a xs) : SqT K H' a xs := by
  rcases h with h | h
  · exact .inl (rd_keep k e h (.inr fun z => z) (nt_tup _))
  · exact .inr h
theorem tupe_keep {a : Addr} {xs : List V} (k : Kinds H O) (e : Ext O H H') (h : TupE K H a xs) : TupE K H' a xs := by
  rcases h with ⟨o, h, n⟩ | h
  · exact .inl ⟨o, e.at h (k.no h fun z => z) (nt_frz _ _), n⟩
  · exact .inr h
theorem rd_some {a : Addr} {u : HO} (h : Rd H a u) : ∃ o, H a = some o := by
  rcases h with h | ⟨o, h⟩
  · exact ⟨_, h⟩
  · exact ⟨_, h⟩
mutual
theorem Dd.keep (k : Kinds H O) (e : Ext O H H') (w : ∀ p, O'.a p → O.a p ∨ H p = none) : ∀ (d : PyData) (v : V), Dd K H O v d → Dd K H' O' v d
  | .none, _, h => by cases h; exact .non
  | .bool _, _, h => by cases h; exact .bl _
  | .int _, _, h => by cases h; exact .int _
  | .str _, _, h => by cases h; exact .str _
  | .list ds, _, h => by
    cases h with
    | lst r n a =>
      refine .lst (rd_keep k e r (.inl fun z => n (k.sub _ z)) (nt_lst _)) (fun z => ?_) (Ds.keep k e w ds _ a)
      rcases w _ z with z | z
      · exact n z
      · obtain ⟨o, q⟩ := rd_some r
        rw [z] at q
        cases q
    | lsk r a => exact .lsk r (Ds.keep k e w ds _ a)
  | .tuple ds, _, h => by
    cases h with
    | tup r a => exact .tup (tupe_keep k e r) (Ds.keep k e w ds _ a)
  | .dict es, _, h => by
    cases h with
    | dct r n a =>
      refine .dct (rd_keep k e r (.inl fun z => n (k.sub _ z)) (nt_dK _)) (fun z => ?_) (Dk.keep k e w es _ a)
      rcases w _ z with z | z
      · exact n z
      · obtain ⟨o, q⟩ := rd_some r
        rw [z] at q
        cases q
theorem Ds.keep (k : Kinds H O) (e : Ext O H H') (w : ∀ p, O'.a p → O.a p ∨ H p = none) : ∀ (ds : List PyData) (vs : List V), Ds K H O vs ds → Ds K H' O' vs ds
  | [], _, h => by cases h; exact .nil
  | d :: ds, _, h => by
    cases h with
    | cons h1 h2 => exact .cons (Dd.keep k e w d _ h1) (Ds.keep k e w ds _ h2)
theorem Dk.keep (k : Kinds H O) (e : Ext O H H') (w : ∀ p, O'.a p → O.a p ∨ H p = none) : ∀ (es : List (PyData × PyData)) (kvs : List (Key × V)), Dk K H O kvs es → Dk K H' O' kvs es
  | [], _, h => by cases h; exact .nil
  | (_, d) :: es, _, h => by
    cases h with
    | cons h1 h2 => exact .cons (Dd.keep k e w d _ h1) (Dk.keep k e w es _ h2)
end
mutual
theorem Dd.less (w : ∀ p, O'.a p → O.a p) : ∀ (d : PyData) (v : V), Dd K H O v d → Dd K H O' v d
  | .none, _, h => by cases h; exact .non
  | .bool _, _, h => by cases h; exact .bl _
  | .int _, _, h => by cases h; exact .int _
  | .str _, _, h => by cases h; exact .str _
  | .list ds, _, h => by
    cases h with
    | lst r n a => exact .lst r (fun z => n (w _ z)) (Ds.less w ds _ a)
    | lsk r a => exact .lsk r (Ds.less w ds _ a)
  | .tuple ds, _, h => by
    cases h with
    | tup r a => exact .tup r (Ds.less w ds _ a)
  | .dict es, _, h => by
    cases h with
    | dct r n a => exact .dct r (fun z => n (w _ z)) (Dk.less w es _ a)
theorem Ds.less (w : ∀ p, O'.a p → O.a p) : ∀ (ds : List PyData) (vs : List V), Ds K H O vs ds → Ds K H O' vs ds
  | [], _, h => by cases h; exact .nil
  | d :: ds, _, h => by
    cases h with
    | cons h1 h2 => exact .cons (Dd.less w d _ h1) (Ds.less w ds _ h2)
theorem Dk.less (w : ∀ p, O'.a p → O.a p) : ∀ (es : List (PyData × PyData)) (kvs : List (Key × V)), Dk K H O kvs es → Dk K H O' kvs es
  | [], _, h => by cases h; exact .nil
  | (_, d) :: es, _, h => by
    cases h with
    | cons h1 h2 => exact .cons (Dd.less w d _ h1) (Dk.less w es _ h2)
end
mutual
def nkOf : PyData → Option PySem.NestedKey
  | .none => some .none
  | .bool b => some (.num (if b = true then 1 else 0))
  | .int i => some (.num i)
  | .str x => some (.text x)
  | .tuple ds => (nksOf ds).map .tup
  | .list _ => none
  | .dict _ => none
def nksOf : List PyData → Option (List PySem.NestedKey)
  | [] => some []
  | d :: ds => match nkOf d, nksOf ds with
    | some k, some ks => some (k :: ks)
    | _, _ => none
end
def keyN (d : PyData) : Option PySem.NestedKey := match d with
  | .tuple ds => (match nkOf (.tuple ds) with
    | some k => if k.depth ≤ 8 then some k else none
    | none => none)
  | _ => none
abbrev NEnt := PySem.NestedKey × Addr × Value
def NRaw (a : Addr) (xs : List NEnt) (h : Heap) : Prop := ∃ w o es ep, TabL.W = some w ∧ h.get? a = some o ∧ o.ExactDict ∧ o.data = .dict es ep ∧ es.toList = xs.map fun x => (⟨x.1.hash w, .ref x.2.1, x.2.2⟩ : DictEntry)
def NdAt (H : Hp) (a : Addr) : List NEnt → Prop
  | [] => Rd H a (.dK [])
  | x :: xs => H a = some (.ext (NRaw a (x :: xs)))
inductive Dn (K : PySem.W.Frag) (H : Hp) (O : Ow) : List NEnt → List (PyData × PyData) → Prop
  | nil : Dn K H O [] []
  | cons {k : PySem.NestedKey} {b : Addr} {u : Value} {v : V} {kd d : PyData} {xs : List NEnt} {es : List (PyData × PyData)} : keyN kd = some k → Dd K H O (.ref b) kd → RelV v u → Dd K H O v d → Dn K H O xs es → Dn K H O ((k, b, u) :: xs) ((kd, d) :: es)
def NdR (K : PySem.W.Frag) (H : Hp) (O : Ow) (v : V) (es : List (PyData × PyData)) : Prop := ∃ a, v = .ref a ∧ ¬ O.a a ∧ (a == sysModules) = false ∧ ∃ xs, NdAt H a xs ∧ Dn K H O xs es ∧ (xs.map (·.1)).Nodup ∧ xs.length ≤ sizeLine
theorem nt_ext (φ : Heap → Prop) : NoT (.ext φ) := fun ps z => by cases z
theorem ndAt_some {a : Addr} {xs : List NEnt} (h : NdAt H a xs) : ∃ o, H a = some o := by
  cases xs with
  | nil => exact rd_some h
  | cons x xs => exact ⟨_, h⟩
theorem ndAt_keep {a : Addr} {xs : List NEnt} (k : Kinds H O) (e : Ext O H H') (no : ¬ O.o a) (h : NdAt H a xs) : NdAt H' a xs := by
  cases xs with
  | nil => exact rd_keep k e h (.inl no) (nt_dK _)
  | cons x xs => exact e.at h no (nt_ext _) fun kvs z => by cases z
theorem Dn.keep (k : Kinds H O) (e : Ext O H H') (w : ∀ p, O'.a p → O.a p ∨ H p = none) {xs : List NEnt} {es : List (PyData × PyData)} (h : Dn K H O xs es) : Dn K H' O' xs es := by
  induction h with
  | nil => exact .nil
  | cons h1 h2 h3 h4 _ ih => exact .cons h1 (Dd.keep k e w _ _ h2) h3 (Dd.keep k e w _ _ h4) ih
theorem Dn.less (w : ∀ p, O'.a p → O.a p) {xs : List NEnt} {es : List (PyData × PyData)} (h : Dn K H O xs es) : Dn K H O' xs es := by
  induction h with
  | nil => exact .nil
  | cons h1 h2 h3 h4 _ ih => exact .cons h1 (Dd.less w _ _ h2) h3 (Dd.less w _ _ h4) ih
theorem NdR.keep {v : V} {es : List (PyData × PyData)} (k : Kinds H O) (e : Ext O H H') (w : ∀ p, O'.a p → O.a p ∨ H p = none) (h : NdR K H O v es) : NdR K H' O' v es := by
  obtain ⟨a, rfl, na, sm, xs, h1, h2, h3⟩ := h
  refine ⟨a, rfl, fun z => ?_, sm, xs, ndAt_keep k e (fun z => na (k.sub _ z)) h1, h2.keep k e w, h3⟩
  rcases w _ z with z | z
  · exact na z
  · obtain ⟨o, q⟩ := ndAt_some h1
    rw [z] at q
    cases q
theorem NdR.less {v : V} {es : List (PyData × PyData)} (w : ∀ p, O'.a p → O.a p) (h : NdR K H O v es) : NdR K H O' v es := by
  obtain ⟨a, rfl, na, sm, xs, h1, h2, h3⟩ := h
  exact ⟨a, rfl, fun z => na (w _ z), sm, xs, h1, h2.less w, h3⟩
def XtR (K : PySem.W.Frag) (H : Hp) (O : Ow) (v : V) (ds : List PyData) : Prop := ∃ p o vs, v = .ref p ∧ H p = some (.frz o (.tup vs)) ∧ o.dict = none ∧ Ds K H O vs ds
theorem XtR.dd {v : V} {ds : List PyData} (h : XtR K H O v ds) : Dd K H O v (.tuple ds) := by
  obtain ⟨p, o, vs, rfl, e, n, a⟩ := h
  exact .tup (.inl ⟨o, e, n⟩) a
theorem XtR.less {v : V} {ds : List PyData} (w : ∀ p, O'.a p → O.a p) (h : XtR K H O v ds) : XtR K H O' v ds := by
  obtain ⟨p, o, vs, rfl, e, n, a⟩ := h
  exact ⟨p, o, vs, rfl, e, n, Ds.less w _ _ a⟩
theorem XtR.keep {v : V} {ds : List PyData} (k : Kinds H O) (e : Ext O H H') (w : ∀ p, O'.a p → O.a p ∨ H p = none) (h : XtR K H O v ds) : XtR K H' O' v ds := by
  obtain ⟨p, o, vs, rfl, e1, n, a⟩ := h
  exact ⟨p, o, vs, rfl, e.at e1 (k.no e1 fun z => z) (nt_frz _ _), n, Ds.keep k e w _ _ a⟩
theorem Ds.length : ∀ {ds : List PyData} {vs : List V}, Ds K H O vs ds → vs.length = ds.length
  | [], _, h => by cases h; rfl
  | d :: ds, _, h => by
    cases h with
    | cons h1 h2 => simp [Ds.length h2]
theorem Ds.get : ∀ {ds : List PyData} {vs : List V} {i : Nat} {d : PyData}, Ds K H O vs ds → ds[i]? = some d → ∃ v, vs[i]? = some v ∧ Dd K H O v d
  | [], _, _, _, h, e => by simp at e
  | d :: ds, _, 0, _, h, e => by
    cases h with
    | cons h1 h2 =>
      simp at e
      subst e
      exact ⟨_, rfl, h1⟩
  | d :: ds, _, i + 1, _, h, e => by
    cases h with
    | cons h1 h2 =>
      obtain ⟨v, a, b⟩ := Ds.get (i := i) h2 (by simpa using e)
      exact ⟨v, by simpa using a, b⟩
theorem Ds.at : ∀ {ds : List PyData} {vs : List V} {i : Nat} {v : V}, Ds K H O vs ds → vs[i]? = some v → ∃ d, ds[i]? = some d ∧ Dd K H O v d
  | [], _, _, _, h, e => by cases h; simp at e
  | d :: ds, _, 0, _, h, e => by
    cases h with
    | cons h1 h2 =>
      simp at e
      subst e
      exact ⟨_, rfl, h1⟩
  | d :: ds, _, i + 1, _, h, e => by
    cases h with
    | cons h1 h2 =>
      obtain ⟨v, a, b⟩ := Ds.at (i := i) h2 (by simpa using e)
      exact ⟨v, by simpa using a, b⟩
theorem Ds.app : ∀ {ds es : List PyData} {vs us : List V}, Ds K H O vs ds → Ds K H O us es → Ds K H O (vs ++ us) (ds ++ es)
  | [], _, _, _, h, e => by cases h; exact e
  | d :: ds, _, _, _, h, e => by
    cases h with
    | cons h1 h2 => exact .cons h1 (Ds.app h2 e)
theorem Ds.take : ∀ (n : Nat) {ds : List PyData} {vs : List V}, Ds K H O vs ds → Ds K H O (vs.take n) (ds.take n)
  | 0, _, _, _ => by simp; exact .nil
  | n + 1, [], _, h => by cases h; exact .nil
  | n + 1, d :: ds, _, h => by
    cases h with
    | cons h1 h2 => exact .cons h1 (Ds.take n h2)
theorem Ds.drop : ∀ (n : Nat) {ds : List PyData} {vs : List V}, Ds K H O vs ds → Ds K H O (vs.drop n) (ds.drop n)
  | 0, _, _, h => by simpa using h
  | n + 1, [], _, h => by cases h; exact .nil
  | n + 1, d :: ds, _, h => by
    cases h with
    | cons h1 h2 => exact Ds.drop n h2
theorem Ds.erase : ∀ (n : Nat) {ds : List PyData} {vs : List V}, Ds K H O vs ds → Ds K H O (vs.eraseIdx n) (ds.eraseIdx n)
  | _, [], _, h => by cases h; exact .nil
  | 0, d :: ds, _, h => by
    cases h with
    | cons h1 h2 => exact h2
  | n + 1, d :: ds, _, h => by
    cases h with
    | cons h1 h2 => exact .cons h1 (Ds.erase n h2)
theorem Ds.put {v : V} {d : PyData} (hv : Dd K H O v d) : ∀ (n : Nat) {ds : List PyData} {vs : List V}, Ds K H O vs ds → Ds K H O (vs.set n v) (ds.set n d)
  | _, [], _, h => by cases h; exact .nil
  | 0, d :: ds, _, h => by
    cases h with
    | cons h1 h2 => exact .cons hv h2
  | n + 1, d :: ds, _, h => by
    cases h with
    | cons h1 h2 => exact .cons h1 (Ds.put hv n h2)
theorem Ds.ints : ∀ (ns : List Int), Ds K H O (ns.map V.int) (ns.map PyData.int)
  | [] => .nil
  | n :: ns => .cons (.int n) (Ds.ints ns)
end
def OwnR (K : PySem.W.Frag) (H : Hp) (O : Ow) (p : Addr) : PyData → Prop
  | .list ds => ∃ vs, H p = some (.lst vs) ∧ Ds K H O vs ds
  | .dict es => ∃ kvs, H p = some (.dK kvs) ∧ Dk K H O kvs es
  | _ => False
def Arg (K : PySem.W.Frag) (H : Hp) (O : Ow) (v : V) (d : PyData) : Prop := Dd K H O v d ∨ ∃ p, v = .ref p ∧ O.o p ∧ OwnR K H O p d
inductive Args (K : PySem.W.Frag) (H : Hp) (O : Ow) : List V → List PyData → Prop
  | nil : Args K H O [] []
  | cons {v : V} {vs : List V} {d : PyData} {ds : List PyData} : Arg K H O v d → Args K H O vs ds → Args K H O (v :: vs) (d :: ds)
abbrev noO : Ow := ⟨fun _ => False, fun _ => False, fun _ => False⟩
section
variable {K : PySem.W.Frag} {H H' : Hp} {O O' : Ow} {v : V}
theorem Arg.plain {d : PyData} (h : Arg K H O v d) : Dd K H noO v d := by
  rcases h with h | ⟨p, rfl, _, h⟩
  · exact h.less (fun _ z => False.elim z) _ _
  · cases d with
    | list ds =>
      obtain ⟨vs, e, q⟩ := h
      exact .lst (.inl e) (fun z => z) (q.less (fun _ z => False.elim z) _ _)
    | dict es =>
      obtain ⟨vs, e, q⟩ := h
      exact .dct (.inl e) (fun z => z) (q.less (fun _ z => False.elim z) _ _)
    | _ => exact False.elim h
def RdL (K : PySem.W.Frag) (H : Hp) (a : Addr) (xs : List V) : Prop := Rd H a (.lst xs) ∨ KL K a xs
theorem RdL.sq {a : Addr} {xs : List V} (h : RdL K H a xs) : SqL K H a xs := by
  rcases h with h | ⟨hz, its, n, r, e⟩
  · exact .inl h
  · refine .inr ⟨_, its.toArray, n, e, rfl, rfl, rfl, ?_, r⟩
    have := r.length
    simp only [List.size_toArray]
    omega
theorem RdL.ok {X : Cx} {pins : List (Addr × Obj)} {σ : L2.St} {s : Shared} {a : Addr} {xs : List V} (h : RdL X.K H a xs) (I : L2.Inv X pins σ H s) : xs.length ≤ sizeLine ∧ ∃ (its : List Value) (n : Nat), Vals xs its ∧ s.heap.get? a = some { cls := .type "list", data := .seq its.toArray n } := by
  rcases h with h | ⟨hz, its, n, r, e⟩
  · exact h.ok I.hok
  · exact ⟨hz, its, n, r, I.kIn a _ e⟩
theorem Arg.list {ds : List PyData} (h : Arg K H O v (.list ds)) : ∃ p vs, v = .ref p ∧ RdL K H p vs ∧ Ds K H O vs ds := by
  rcases h with h | ⟨p, rfl, _, vs, e, q⟩
  · cases h with
    | lst r n a => exact ⟨_, _, rfl, .inl r, a⟩
    | lsk r a => exact ⟨_, _, rfl, .inr r, a⟩
  · exact ⟨p, vs, rfl, .inl (.inl e), q⟩
theorem Arg.tupleE {ds : List PyData} (h : Arg K H O v (.tuple ds)) : ∃ p vs, v = .ref p ∧ TupE K H p vs ∧ Ds K H O vs ds := by
  rcases h with h | ⟨p, rfl, _, h⟩
  · cases h with
    | tup r a => exact ⟨_, _, rfl, r, a⟩
  · exact False.elim h
theorem Arg.tuple {ds : List PyData} (h : Arg K H O v (.tuple ds)) : ∃ p vs, v = .ref p ∧ SqT K H p vs ∧ Ds K H O vs ds := by
  rcases h with h | ⟨p, rfl, _, h⟩
  · cases h with
    | tup r a => exact ⟨_, _, rfl, r.sq, a⟩
  · exact False.elim h
theorem Arg.dict {es : List (PyData × PyData)} (h : Arg K H O v (.dict es)) : ∃ p kvs, v = .ref p ∧ Rd H p (.dK kvs) ∧ Dk K H O kvs es := by
  rcases h with h | ⟨p, rfl, _, vs, e, q⟩
  · cases h with
    | dct r n a => exact ⟨_, _, rfl, r, a⟩
  · exact ⟨p, vs, rfl, .inl e, q⟩
theorem Arg.int {i : Int} (h : Arg K H O v (.int i)) : v = .int i := by
  rcases h with h | ⟨p, rfl, _, h⟩
  · cases h; rfl
  · exact False.elim h
theorem Arg.bool {b : Bool} (h : Arg K H O v (.bool b)) : v = .bl b := by
  rcases h with h | ⟨p, rfl, _, h⟩
  · cases h; rfl
  · exact False.elim h
theorem Arg.str {x : Str} (h : Arg K H O v (.str x)) : v = .str x := by
  rcases h with h | ⟨p, rfl, _, h⟩
  · cases h; rfl
  · exact False.elim h
theorem Arg.none (h : Arg K H O v .none) : v = .non := by
  rcases h with h | ⟨p, rfl, _, h⟩
  · cases h; rfl
  · exact False.elim h
theorem OwnR.keep {p : Addr} {d : PyData} (k : Kinds H O) (e : Ext O H H') (w : ∀ p, O'.a p → O.a p ∨ H p = none) (hp : H' p = H p) (h : OwnR K H O p d) : OwnR K H' O' p d := by
  cases d with
  | list ds =>
    obtain ⟨vs, q, a⟩ := h
    exact ⟨vs, hp.trans q, Ds.keep k e w _ _ a⟩
  | dict es =>
    obtain ⟨vs, q, a⟩ := h
    exact ⟨vs, hp.trans q, Dk.keep k e w _ _ a⟩
  | _ => exact h
theorem OwnR.there {p : Addr} {d : PyData} (h : OwnR K H O p d) : ∃ o, H p = some o ∧ OwnK o := by
  cases d with
  | list ds =>
    obtain ⟨vs, q, a⟩ := h
    exact ⟨_, q, trivial⟩
  | dict es =>
    obtain ⟨vs, q, a⟩ := h
    exact ⟨_, q, trivial⟩
  | _ => exact False.elim h
end
inductive Dcs (K : PySem.W.Frag) (H : Hp) (O : Ow) : List V → List PyData → Prop
  | nil : Dcs K H O [] []
  | cons {q : Addr} {us vs : List V} {es ds : List PyData} : O.o q → O.c q → H q = some (.lst us) → Ds K H O us es → Dcs K H O vs ds → Dcs K H O (.ref q :: vs) (.list es :: ds)
def DpR (K : PySem.W.Frag) (H : Hp) (O : Ow) (p : Addr) (d : PyData) : Prop := O.o p ∧ O.c p ∧ match d with
  | .list ds => ∃ vs, H p = some (.lst vs) ∧ Dcs K H O vs ds ∧ (V.ref p :: vs).Nodup
  | .dict es => ∃ kvs, H p = some (.dK kvs) ∧ kvs.map (fun e => kD e.1) = es.map Prod.fst ∧ Dcs K H O (kvs.map Prod.snd) (es.map Prod.snd) ∧ (V.ref p :: kvs.map Prod.snd).Nodup
  | _ => False
section
variable {K : PySem.W.Frag} {H H' : Hp} {O O' : Ow}
theorem Dcs.keep (k : Kinds H O) (e : Ext O H H') (w : ∀ p, O'.a p → O.a p ∨ H p = none) (w2 : ∀ p, O.o p → O.c p → O'.o p) (wc : ∀ p, O.c p → O'.c p) (hp : ∀ p, O.o p → O.c p → H' p = H p) {vs : List V} {ds : List PyData} (h : Dcs K H O vs ds) : Dcs K H' O' vs ds := by
  induction h with
  | nil => exact .nil
  | cons a b c d _ ih => exact .cons (w2 _ a b) (wc _ b) ((hp _ a b).trans c) (Ds.keep k e w _ _ d) ih
theorem DpR.keep (k : Kinds H O) (e : Ext O H H') (w : ∀ p, O'.a p → O.a p ∨ H p = none) (w2 : ∀ p, O.o p → O.c p → O'.o p) (wc : ∀ p, O.c p → O'.c p) (hp : ∀ p, O.o p → O.c p → H' p = H p) {p : Addr} {d : PyData} (h : DpR K H O p d) : DpR K H' O' p d := by
  obtain ⟨a, b, h⟩ := h
  refine ⟨w2 _ a b, wc _ b, ?_⟩
  cases d with
  | list ds =>
    obtain ⟨vs, h1, h2, h3⟩ := h
    exact ⟨vs, (hp _ a b).trans h1, h2.keep k e w w2 wc hp, h3⟩
  | dict es =>
    obtain ⟨kvs, h1, h2, h3, h4⟩ := h
    exact ⟨kvs, (hp _ a b).trans h1, h2, h3.keep k e w w2 wc hp, h4⟩
  | _ => exact h
theorem Dcs.less (w : ∀ p, O'.a p → O.a p) (w2 : ∀ p, O.o p → O.c p → O'.o p) (wc : ∀ p, O.o p → O.c p → O'.c p) {vs : List V} {ds : List PyData} (h : Dcs K H O vs ds) : Dcs K H O' vs ds := by
  induction h with
  | nil => exact .nil
  | cons a b c d _ ih => exact .cons (w2 _ a b) (wc _ a b) c (Ds.less w _ _ d) ih
theorem DpR.less (w : ∀ p, O'.a p → O.a p) (w2 : ∀ p, O.o p → O.c p → O'.o p) (wc : ∀ p, O.o p → O.c p → O'.c p) {p : Addr} {d : PyData} (h : DpR K H O p d) : DpR K H O' p d := by
  obtain ⟨a, b, h⟩ := h
  refine ⟨w2 _ a b, wc _ a b, ?_⟩
  cases d with
  | list ds =>
    obtain ⟨vs, h1, h2, h3⟩ := h
    exact ⟨vs, h1, h2.less w w2 wc, h3⟩
  | dict es =>
    obtain ⟨kvs, h1, h2, h3, h4⟩ := h
    exact ⟨kvs, h1, h2, h3.less w w2 wc, h4⟩
  | _ => exact h
end
end VS
namespace VS
open PySem L2
variable [TabL]
structure Sg where
  XR : Hp → Ow → Exn → Value → Option Addr → Prop
  W : Value → Option Addr → L2.St → Hp → Prop
  mono : ∀ H O O' e c d, (∀ p, O'.a p → O.a p) → XR H O e c d → XR H O' e c d
def addO (O : Ow) (p : Addr) : Ow := ⟨fun q => O.o q ∨ q = p, fun q => O.a q ∨ q = p, O.c⟩
def XF (K : PySem.W.Frag) (H : Hp) (O : Ow) (x : Exn) (d : Option Addr) : Prop := (x.fld = "" ∧ d = none) ∨ (x.fld ≠ "" ∧ ∃ dd v, d = some dd ∧ H dd = some (.xd [(x.fld, v)]) ∧ Dd K H O v x.arg)
def SlotR (K : PySem.W.Frag) (H : Hp) (O : Ow) (v : V) : Sl → Prop
  | .dat d => Dd K H O v d
  | .own d => ∃ p, v = .ref p ∧ (O.o p ∧ ¬ O.c p) ∧ OwnR K H O p d
  | .dp d => ∃ p, v = .ref p ∧ DpR K H O p d
  | .nd es => NdR K H O v es
  | .exn xi x => v = .ref xi.a ∧ XF K H O x xi.d
structure Rep (K : PySem.W.Frag) (H : Hp) (O : Ow) (σ : L2.St) (sd : Sd) : Prop where
  len : sd.length = σ.length
  slot : ∀ (i : Nat) (s : Sl), sd[i]? = some (some s) → ∃ v, σ[i]? = some (some v) ∧ SlotR K H O v s
  inj : ∀ (i j : Nat) (p : Addr) (s t : PyData), σ[i]? = some (some (.ref p)) → ownOf sd[i]? = some s → σ[j]? = some (some (.ref p)) → ownOf sd[j]? = some t → i = j
  kind : Kinds H O
theorem ownOf_some {o : Option (Option Sl)} {d : PyData} (h : ownOf o = some d) : o = some (some (.own d)) := by
  rcases o with _ | (_ | s)
  · cases h
  · cases h
  · cases s with
    | dat _ => cases h
    | own e => cases h; rfl
    | exn _ _ => cases h
    | dp _ => cases h
    | nd _ => cases h
section
variable {K : PySem.W.Frag} {g : Sg} {H H' : Hp} {O O' : Ow} {σ : L2.St} {sd : Sd}
theorem Rep.owned (R : Rep K H O σ sd) {i : Nat} {d : PyData} (h : ownOf sd[i]? = some d) : ∃ p, σ[i]? = some (some (.ref p)) ∧ O.o p ∧ OwnR K H O p d := by
  obtain ⟨v, e, p, rfl, a, b⟩ := R.slot i _ (ownOf_some h)
  exact ⟨p, e, a.1, b⟩
theorem Rep.ownedC (R : Rep K H O σ sd) {i : Nat} {d : PyData} {p : Addr} (h : ownOf sd[i]? = some d) (hi : σ[i]? = some (some (.ref p))) : ¬ O.c p := by
  obtain ⟨v, e, q, rfl, a, b⟩ := R.slot i _ (ownOf_some h)
  rw [hi] at e
  cases e
  exact a.2
theorem XF.keep {x : Exn} {d : Option Addr} (k : Kinds H O) (e : Ext O H H') (w : ∀ p, O'.a p → O.a p ∨ H p = none) (h : XF K H O x d) : XF K H' O' x d := by
  rcases h with h | ⟨h, dd, v, h1, h2, h3⟩
  · exact .inl h
  · exact .inr ⟨h, dd, v, h1, e.at h2 (k.no h2 fun z => z) (nt_xd _), Dd.keep k e w _ _ h3⟩
theorem XF.less {x : Exn} {d : Option Addr} (w : ∀ p, O'.a p → O.a p) (h : XF K H O x d) : XF K H O' x d := by
  rcases h with h | ⟨h, dd, v, h1, h2, h3⟩
  · exact .inl h
  · exact .inr ⟨h, dd, v, h1, h2, Dd.less w _ _ h3⟩
theorem SlotR.keep {v : V} {s : Sl} (k : Kinds H O) (e : Ext O H H') (w : ∀ p, O'.a p → O.a p ∨ H p = none) (w2 : ∀ p, O.o p → O'.o p) (hp : ∀ p, O.o p → H' p = H p) (h : SlotR K H O v s) (wc : ∀ p, O.c p → O'.c p := by exact fun _ z => z) (wd : ∀ p, O'.c p → O.c p ∨ H p = none := by exact fun _ z => Or.inl z) : SlotR K H' O' v s := by
  cases s with
  | dat d => exact Dd.keep k e w d v h
  | nd es => exact NdR.keep k e w h
  | own d =>
    obtain ⟨p, rfl, a, b⟩ := h
    refine ⟨p, rfl, ⟨w2 p a.1, fun z => ?_⟩, b.keep k e w (hp p a.1)⟩
    rcases wd p z with z | z
    · exact a.2 z
    · obtain ⟨o, e, _⟩ := b.there
      rw [z] at e
      cases e
  | dp d =>
    obtain ⟨p, rfl, a⟩ := h
    exact ⟨p, rfl, a.keep k e w (fun q z _ => w2 q z) wc fun q z _ => hp q z⟩
  | exn xi x => exact ⟨h.1, h.2.keep k e w⟩
theorem Rep.same (R : Rep K H O σ sd) (s : Same H H') : Rep K H' O σ sd where
  len := R.len
  slot := fun i t h => by
    obtain ⟨v, a, b⟩ := R.slot i t h
    refine ⟨v, a, b.keep R.kind (Ext.same s) (fun p z => .inl z) (fun _ z => z) fun p z => ?_⟩
    obtain ⟨o, e, _⟩ := R.kind.kd p (R.kind.sub p z)
    rw [e]
    exact s p o e
  inj := R.inj
  kind := ⟨R.kind.sub, fun p z => by
    obtain ⟨o, e, q⟩ := R.kind.kd p z
    exact ⟨o, s p o e, q⟩, R.kind.cs, R.kind.tb.ext s⟩
def FreshAt (σ : L2.St) (sd : Sd) (p : Addr) : Prop := ∀ (i : Nat) (d : PyData), ownOf sd[i]? = some d → σ[i]? ≠ some (some (.ref p))
theorem Rep.freshAt (R : Rep K H O σ sd) {p : Addr} (h : H p = none) : FreshAt σ sd p := fun i d e z => by
  obtain ⟨q, a, b, c⟩ := R.owned e
  rw [z] at a
  cases a
  exact R.kind.newo h b
theorem Rep.add (R : Rep K H O σ sd) {p : Addr} {o : HO} (h : H p = none) (hk : OwnK o) : Rep K (upd H p o) (addO O p) σ sd where
  len := R.len
  slot := fun i t e => by
    obtain ⟨v, a, b⟩ := R.slot i t e
    refine ⟨v, a, b.keep R.kind (Ext.new h) (fun q z => ?_) (fun _ z => .inl z) fun q z => ?_⟩
    · rcases z with z | rfl
      · exact .inl z
      · exact .inr h
    · exact upd_ne fun e => R.kind.newo h (e ▸ z)
  inj := R.inj
  kind := ⟨fun q z => by
    rcases z with z | rfl
    · exact .inl (R.kind.sub q z)
    · exact .inr rfl, fun q z => by
    rcases z with z | rfl
    · obtain ⟨u, e, k⟩ := R.kind.kd q z
      exact ⟨u, (upd_ne (show q ≠ p from fun y => R.kind.new h (y ▸ z))).trans e, k⟩
    · exact ⟨o, upd_same, hk⟩, fun q z => .inl (R.kind.cs q z), R.kind.tb.ext fun b x e => (upd_ne (ne_of_none e h)).trans e⟩
theorem Rep.less {p : Addr} (R : Rep K H (addO O p) σ sd) (f : FreshAt σ sd p) (ks : ∀ q, O.o q → O.a q) (nc : ¬ O.c p) (cs : ∀ q, O.c q → O.o q) : Rep K H O σ sd where
  len := R.len
  slot := fun i t e => by
    obtain ⟨v, a, b⟩ := R.slot i t e
    refine ⟨v, a, ?_⟩
    have own : ∀ q d, v = .ref q → ownOf sd[i]? = some d → (addO O p).o q → O.o q := fun q d e1 e2 z => by
      rcases z with z | rfl
      · exact z
      · subst e1
        exact absurd a (f i d e2)
    have lessR : ∀ q d, OwnR K H (addO O p) q d → OwnR K H O q d := fun q d z => by
      cases d with
      | list ds =>
        obtain ⟨vs, q1, q2⟩ := z
        exact ⟨vs, q1, q2.less (fun _ y => Or.inl y) _ _⟩
      | dict ds =>
        obtain ⟨vs, q1, q2⟩ := z
        exact ⟨vs, q1, q2.less (fun _ y => Or.inl y) _ _⟩
      | _ => exact z
    cases t with
    | dat d => exact Dd.less (fun _ y => Or.inl y) d v b
    | nd es => exact NdR.less (fun _ y => Or.inl y) b
    | own d =>
      obtain ⟨q, e1, z, y⟩ := b
      exact ⟨q, e1, ⟨own q d e1 (by rw [e]; rfl) z.1, z.2⟩, lessR q d y⟩
    | dp d =>
      obtain ⟨q, e1, y⟩ := b
      refine ⟨q, e1, DpR.less (O := addO O p) (O' := O) (fun _ y => Or.inl y) (fun x z1 z2 => ?_) (fun _ _ z => z) y⟩
      rcases z1 with z1 | rfl
      · exact z1
      · exact absurd z2 nc
    | exn xi x => exact ⟨b.1, b.2.less fun _ y => Or.inl y⟩
  inj := R.inj
  kind := ⟨ks, fun q z => R.kind.kd q (.inl z), cs, R.kind.tb⟩
def ExcB (K : PySem.W.Frag) (g : Sg) (O : Ow) (σ : L2.St) (H : Hp) (e : Exn) (sd' : Sd) : Prop := ∀ c d H', Ext O H H' → Rep K H' O σ sd' → g.XR H' O e c d → g.W c d σ H'
def Aft {α : Type} (K : PySem.W.Frag) (g : Sg) (O : Ow) (σ : L2.St) (H : Hp) (r : Res α) (P : α → Sd → Hp → Prop) : Prop := match r with
  | .ok a sd' => ∀ H', Ext O H H' → Rep K H' O σ sd' → P a sd' H'
  | .exc e sd' => ExcB K g O σ H e sd'
  | .stk => False
theorem Aft.mono {α : Type} {r : Res α} {P P' : α → Sd → Hp → Prop} (h : Aft K g O σ H r P) (f : ∀ a sd' H', r = .ok a sd' → Ext O H H' → Rep K H' O σ sd' → P a sd' H' → P' a sd' H') : Aft K g O σ H r P' := by
  cases r with
  | ok a sd' => exact fun H' e R => f a sd' H' rfl e R (h H' e R)
  | exc e sd' => exact h
  | stk => exact h
theorem Aft.bind {α β : Type} {m : M α} {k : α → M β} {P : β → Sd → Hp → Prop} (h : Aft K g O σ H (M.bind m k sd) P) : Aft K g O σ H (m sd) fun a sd1 H1 => Aft K g O σ H1 (k a sd1) P := by
  unfold M.bind at h
  cases e : m sd with
  | ok a sd1 =>
    rw [e] at h
    intro H1 e1 R1
    have h : Aft K g O σ H (k a sd1) P := h
    cases e2 : k a sd1 with
    | ok b sd2 =>
      rw [e2] at h
      exact fun H2 x2 R2 => h H2 (e1.trans x2) R2
    | exc x sd2 =>
      rw [e2] at h
      exact fun c d H2 x2 R2 => h c d H2 (e1.trans x2) R2
    | stk =>
      rw [e2] at h
      exact h
  | exc x sd1 =>
    rw [e] at h
    exact h
  | stk =>
    rw [e] at h
    exact h
theorem Aft.now {α : Type} {a : α} {P : α → Sd → Hp → Prop} (R : Rep K H O σ sd) (h : Aft K g O σ H (.ok a sd) P) : P a sd H := h H (Ext.refl _ _) R
@[simp] def getM (x : Opd) : M PyData := fun s => match x.get s with
  | some d => .ok d s
  | none => .stk
@[simp] def getsM : List Opd → M (List PyData)
  | [] => M.ret []
  | x :: xs => M.bind (getM x) fun d => M.bind (getsM xs) fun ds => M.ret (d :: ds)
theorem Aft.get {β : Type} {x : Opd} {k : PyData → M β} {P : β → Sd → Hp → Prop} (h : Aft K g O σ H (M.bind (getM x) k sd) P) : ∃ d, x.get sd = some d ∧ Aft K g O σ H (k d sd) P := by
  unfold M.bind getM at h
  cases e : x.get sd with
  | none =>
    rw [e] at h
    exact False.elim h
  | some d =>
    rw [e] at h
    exact ⟨d, rfl, h⟩
theorem Aft.of {α β : Type} {o : Option α} {k : α → M β} {P : β → Sd → Hp → Prop} (h : Aft K g O σ H (M.bind (M.of o) k sd) P) : ∃ d, o = some d ∧ Aft K g O σ H (k d sd) P := by
  cases o with
  | none => exact False.elim h
  | some d => exact ⟨d, rfl, h⟩
theorem Aft.of1 {α : Type} {o : Option α} {P : α → Sd → Hp → Prop} (h : Aft K g O σ H (M.of o sd) P) : ∃ d, o = some d ∧ Aft K g O σ H (.ok d sd) P := by
  cases o with
  | none => exact False.elim h
  | some d => exact ⟨d, rfl, h⟩
def getsO (s : Sd) : List Opd → Option (List PyData)
  | [] => some []
  | x :: xs => (x.get s).bind fun d => (getsO s xs).map fun ds => d :: ds
theorem Aft.gets {β : Type} : ∀ {xs : List Opd} {k : List PyData → M β} {P : β → Sd → Hp → Prop}, Aft K g O σ H (M.bind (getsM xs) k sd) P → ∃ ds, getsO sd xs = some ds ∧ Aft K g O σ H (k ds sd) P
  | [], k, P, h => ⟨[], rfl, h⟩
  | x :: xs, k, P, h => by
    have h' : Aft K g O σ H (M.bind (getM x) (fun d => M.bind (getsM xs) fun ds => k (d :: ds)) sd) P := by
      unfold getsM M.bind at h
      unfold M.bind
      cases e : getM x sd with
      | ok d s1 =>
        rw [e] at h
        simp only [] at h ⊢
        cases e2 : getsM xs s1 with
        | ok ds s2 =>
          rw [e2] at h
          exact h
        | exc _ _ =>
          rw [e2] at h
          exact h
        | stk =>
          rw [e2] at h
          exact h
      | exc _ _ =>
        rw [e] at h
        exact h
      | stk =>
        rw [e] at h
        exact h
    obtain ⟨d, e1, h1⟩ := h'.get
    obtain ⟨ds, e2, h2⟩ := Aft.gets h1
    refine ⟨d :: ds, ?_, h2⟩
    unfold getsO
    rw [e1, e2]
    rfl
def OpdR (K : PySem.W.Frag) (H : Hp) (O : Ow) (σ : L2.St) (v : V) : Opd → Prop
  | .d x => Dd K H O v x
  | .own i => σ[i]? = some (some v)
theorem OpdR.keep {v : V} {r : Opd} (h : OpdR K H O σ v r) (k : Kinds H O) (e : Ext O H H') : OpdR K H' O σ v r := by
  cases r with
  | d x => exact Dd.keep k e (fun _ z => .inl z) x v h
  | own i => exact h
theorem OpdR.arg {v : V} {r : Opd} {d : PyData} (h : OpdR K H O σ v r) (R : Rep K H O σ sd) (e : r.get sd = some d) : Arg K H O v d := by
  cases r with
  | d x =>
    cases e
    exact .inl h
  | own i =>
    obtain ⟨p, a, b, c⟩ := R.owned (i := i) e
    have h' : σ[i]? = some (some v) := h
    rw [a] at h'
    cases h'
    exact .inr ⟨p, rfl, b, c⟩
inductive OpdsR (K : PySem.W.Frag) (H : Hp) (O : Ow) (σ : L2.St) : List V → List Opd → Prop
  | nil : OpdsR K H O σ [] []
  | cons {v : V} {vs : List V} {r : Opd} {rs : List Opd} : OpdR K H O σ v r → OpdsR K H O σ vs rs → OpdsR K H O σ (v :: vs) (r :: rs)
theorem OpdsR.keep {vs : List V} {rs : List Opd} (h : OpdsR K H O σ vs rs) (k : Kinds H O) (e : Ext O H H') : OpdsR K H' O σ vs rs := by
  induction h with
  | nil => exact .nil
  | cons h1 _ ih => exact .cons (h1.keep k e) ih
theorem OpdsR.args {vs : List V} {rs : List Opd} (h : OpdsR K H O σ vs rs) (R : Rep K H O σ sd) : ∀ {ds : List PyData}, getsO sd rs = some ds → Args K H O vs ds := by
  induction h with
  | nil =>
    intro ds e
    cases e
    exact .nil
  | cons h1 _ ih =>
    intro ds e
    unfold getsO at e
    rename_i r rs _
    cases e1 : r.get sd with
    | none =>
      rw [e1] at e
      cases e
    | some d =>
      rw [e1] at e
      cases e2 : getsO sd rs with
      | none =>
        rw [e2] at e
        cases e
      | some ds' =>
        rw [e2] at e
        cases e
        exact .cons (h1.arg R e1) (ih e2)
end
def tD (K : PySem.W.Frag) (g : Sg) (m : M Opd) : TE := fun σ H Q => ∃ sd O, Rep K H O σ sd ∧ Aft K g O σ H (m sd) fun r _ H' => ∀ v, OpdR K H' O σ v r → Q v H'
def tT (K : PySem.W.Frag) (g : Sg) (m : M Bool) : TT := fun σ H Q => ∃ sd O, Rep K H O σ sd ∧ Aft K g O σ H (m sd) fun b _ H' => Q b H'
def tA (K : PySem.W.Frag) (g : Sg) (m : M (List Opd)) : TA := fun σ H Q => ∃ sd O, Rep K H O σ sd ∧ Aft K g O σ H (m sd) fun rs _ H' => ∀ vs, OpdsR K H' O σ vs rs → Q vs H'
def AftF (K : PySem.W.Frag) (g : Sg) (O : Ow) (σ : L2.St) (H : Hp) (r : Res PyData) (Q : VK) : Prop := match r with
  | .ok d sd' => ∀ p H', Ext O H H' → H p = none → Rep K H' (addO O p) σ sd' → FreshAt σ sd' p → OwnR K H' (addO O p) p d → Q (.ref p) H'
  | .exc e sd' => ExcB K g O σ H e sd'
  | .stk => False
def tF (K : PySem.W.Frag) (g : Sg) (m : M PyData) : TE := fun σ H Q => ∃ sd O, Rep K H O σ sd ∧ AftF K g O σ H (m sd) Q
theorem AftF.bind {α : Type} {K : PySem.W.Frag} {g : Sg} {O : Ow} {σ : L2.St} {H : Hp} {sd : Sd} {m : M α} {k : α → M PyData} {Q : VK} (h : AftF K g O σ H (M.bind m k sd) Q) : Aft K g O σ H (m sd) fun a sd1 H1 => AftF K g O σ H1 (k a sd1) Q := by
  unfold M.bind at h
  cases e : m sd with
  | ok a sd1 =>
    rw [e] at h
    intro H1 e1 R1
    have h : AftF K g O σ H (k a sd1) Q := h
    cases e2 : k a sd1 with
    | ok b sd2 =>
      rw [e2] at h
      exact fun p H2 x2 hp => h p H2 (e1.trans x2) (e1.fresh hp)
    | exc x sd2 =>
      rw [e2] at h
      exact fun c d H2 x2 R2 => h c d H2 (e1.trans x2) R2
    | stk =>
      rw [e2] at h
      exact h
  | exc x sd1 =>
    rw [e] at h
    exact h
  | stk =>
    rw [e] at h
    exact h
section
variable {K : PySem.W.Frag} {g : Sg} {O : Ow} {σ : L2.St} {H : Hp} {sd : Sd} {Q : VK}
theorem AftF.get {x : Opd} {k : PyData → M PyData} (h : AftF K g O σ H (M.bind (getM x) k sd) Q) : ∃ d, x.get sd = some d ∧ AftF K g O σ H (k d sd) Q := by
  unfold M.bind getM at h
  cases e : x.get sd with
  | none =>
    rw [e] at h
    exact False.elim h
  | some d =>
    rw [e] at h
    exact ⟨d, rfl, h⟩
theorem AftF.of {o : Option PyData} (h : AftF K g O σ H (M.of o sd) Q) : ∃ d, o = some d ∧ AftF K g O σ H (.ok d sd) Q := by
  cases o with
  | none => exact False.elim h
  | some d => exact ⟨d, rfl, h⟩
theorem AftF.gets : ∀ {xs : List Opd} {k : List PyData → M PyData}, AftF K g O σ H (M.bind (getsM xs) k sd) Q → ∃ ds, getsO sd xs = some ds ∧ AftF K g O σ H (k ds sd) Q
  | [], k, h => ⟨[], rfl, h⟩
  | x :: xs, k, h => by
    have h' : AftF K g O σ H (M.bind (getM x) (fun d => M.bind (getsM xs) fun ds => k (d :: ds)) sd) Q := by
      unfold getsM M.bind at h
      unfold M.bind
      cases e : getM x sd with
      | ok d s1 =>
        rw [e] at h
        simp only [] at h ⊢
        cases e2 : getsM xs s1 with
        | ok ds s2 =>
          rw [e2] at h
          exact h
        | exc _ _ =>
          rw [e2] at h
          exact h
        | stk =>
          rw [e2] at h
          exact h
      | exc _ _ =>
        rw [e] at h
        exact h
      | stk =>
        rw [e] at h
        exact h
    obtain ⟨d, e1, h1⟩ := h'.get
    obtain ⟨ds, e2, h2⟩ := AftF.gets h1
    refine ⟨d :: ds, ?_, h2⟩
    unfold getsO
    rw [e1, e2]
    rfl
theorem AftF.end {d : PyData} (h : AftF K g O σ H (.ok d sd) Q) (R : Rep K H O σ sd) : ∀ p H', Same H H' → H p = none → OwnR K H' (addO O p) p d → Q (.ref p) H' := fun p H' s hp o => by
  refine h p H' (Ext.same s) hp ?_ ?_ o
  · have R' := R.same s
    obtain ⟨u, e, k⟩ := o.there
    refine ⟨R'.len, fun i t q => ?_, R'.inj, ⟨fun q z => ?_, fun q z => ?_, fun q z => .inl (R.kind.cs q z), R'.kind.tb⟩⟩
    · obtain ⟨v, a, b⟩ := R.slot i t q
      refine ⟨v, a, b.keep R.kind (Ext.same s) (fun q z => ?_) (fun _ z => .inl z) fun q z => ?_⟩
      · rcases z with z | rfl
        · exact .inl z
        · exact .inr hp
      · obtain ⟨o1, e1, _⟩ := R.kind.kd q (R.kind.sub q z)
        rw [e1]
        exact s q o1 e1
    · exact z.elim (fun z => .inl (R.kind.sub q z)) .inr
    · rcases z with z | rfl
      · exact R'.kind.kd q z
      · exact ⟨u, e, k⟩
  · exact R.freshAt hp
end
theorem PE_of {X : Cx} {e : Expr} {t t' : TE} (h : PE X e t) (w : ∀ σ H Q, t' σ H Q → t σ H Q) : PE X e t' := ⟨fun pins s σ H Q I q => h.run pins s σ H Q I (w σ H Q q)⟩
theorem PT_of {X : Cx} {e : Expr} {t t' : TT} (h : PT X e t) (w : ∀ σ H Q, t' σ H Q → t σ H Q) : PT X e t' := ⟨fun pins s σ H Q I q => h.run pins s σ H Q I (w σ H Q q)⟩
theorem PW_of {X : Cx} {e : Expr} {t t' : TT} (h : PW X e t) (w : ∀ σ H Q, t' σ H Q → t σ H Q) : PW X e t' := ⟨fun wh pins s σ H Q I q => h.run wh pins s σ H Q I (w σ H Q q)⟩
theorem PA_of {X : Cx} {e : List Expr} {t t' : TA} (h : PA X e t) (w : ∀ σ H Q, t' σ H Q → t σ H Q) : PA X e t' := ⟨fun pos pins s σ H Q I q => h.run pos pins s σ H Q I (w σ H Q q)⟩
theorem PS_of {X : Cx} {e : Stmt} {t t' : TS} (h : PS X e t) (w : ∀ D σ H, t' D σ H → t D σ H) : PS X e t' := ⟨fun pins s σ H D I q => h.run pins s σ H D I (w D σ H q)⟩
theorem PSs_of {X : Cx} {e : List Stmt} {t t' : TS} (h : PSs X e t) (w : ∀ D σ H, t' D σ H → t D σ H) : PSs X e t' := ⟨fun pins s σ H D I q => h.run pins s σ H D I (w D σ H q)⟩
theorem OpR_of {X : Cx} {f : Value → Value → Sem Value} {r r' : R2} (h : OpR X f r) (w : ∀ x y H Q, r' x y H Q → r x y H Q) : OpR X f r' := fun pins s σ H x y v u Q I rx ry q => h pins s σ H x y v u Q I rx ry (w x y H Q q)
theorem CallR_of {X : Cx} {f : Value} {r r' : List V → Hp → VK → Prop} (h : CallR X f r) (w : ∀ xs H Q, r' xs H Q → r xs H Q) : CallR X f r' := fun pins s σ H xs us Q I rx q => h pins s σ H xs us Q I rx (w xs H Q q)
theorem IxR_of {X : Cx} {r r' : R2} (h : IxR X r) (w : ∀ x y H Q, r' x y H Q → r x y H Q) : IxR X r' := fun va sl pins s σ H x y v u Q I rx ry q hs => h va sl pins s σ H x y v u Q I rx ry (w _ _ _ _ q) hs
section
variable {X : Cx} {g : Sg}
@[simp] def dF (m : M PyData) : M Opd := M.bind m fun d => M.ret (.d d)
theorem own_dd {K : PySem.W.Frag} {H : Hp} {O : Ow} {p : Addr} {d : PyData} (h : OwnR K H (addO O p) p d) (n : ¬ O.a p) : Dd K H O (.ref p) d := by
  cases d with
  | list ds =>
    obtain ⟨vs, q1, q2⟩ := h
    exact .lst (.inl q1) n (q2.less (fun _ y => Or.inl y) _ _)
  | dict ds =>
    obtain ⟨vs, q1, q2⟩ := h
    exact .dct (.inl q1) n (q2.less (fun _ y => Or.inl y) _ _)
  | _ => exact False.elim h
theorem d_F {e : Expr} {m : M PyData} (h : PE X e (tF X.K g m)) : PE X e (tD X.K g (dF m)) := PE_of h fun σ H Q q => by
  obtain ⟨sd, O, R, a⟩ := q
  refine ⟨sd, O, R, ?_⟩
  unfold dF M.bind at a
  cases e1 : m sd with
  | ok d sd' =>
    rw [e1] at a
    intro p H' x hp R' f o
    exact a H' x (R'.less f R.kind.sub (R.kind.newc hp) R.kind.cs) (.ref p) (own_dd o (R.kind.new hp))
  | exc y sd' =>
    rw [e1] at a
    exact a
  | stk =>
    rw [e1] at a
    exact a
@[simp] def mVar (i : Nat) : M Opd := fun s => match s[i]? with
  | some (some (.dat d)) => .ok (.d d) s
  | some (some (.own _)) => .ok (.own i) s
  | _ => .stk
@[simp] def mC (d : PyData) : M Opd := M.ret (.d d)
theorem d_var (i : Nat) {x : Str} {pos : Pos} (hN : X.N[i]? = some x := by rfl) (hv : Vis X.env.scope x := by first | exact Or.inl rfl | exact Or.inr (Or.inl rfl) | exact Or.inr (Or.inr rfl)) (hd : (x == ("__debug__" : Str)) = false := by decide)
    (hcd : (x == ("__classdict__" : Str)) = false := by decide) : PE X (.Name x pos) (tD X.K g (mVar i)) := PE_of (pe_var hN hv hd hcd) fun σ H Q q => by
  obtain ⟨sd, O, R, a⟩ := q
  unfold mVar at a
  cases e : sd[i]? with
  | none =>
    rw [e] at a
    exact False.elim a
  | some o =>
    rw [e] at a
    cases o with
    | none => exact False.elim a
    | some s =>
      obtain ⟨v, h1, h2⟩ := R.slot i s e
      cases s with
      | dat d => exact ⟨v, h1, a.now R v h2⟩
      | own d => exact ⟨v, h1, a.now R v h1⟩
      | exn xi x => exact False.elim a
      | dp d => exact False.elim a
      | nd d => exact False.elim a
theorem d_c {e : Expr} {v : V} {d : PyData} (h : PE X e (tC v)) (hv : ∀ H O, Dd X.K H O v d) : PE X e (tD X.K g (mC d)) := PE_of h fun σ H Q q => by
  obtain ⟨sd, O, R, a⟩ := q
  exact a.now R v (hv H O)
theorem d_int {i : Int} {j pos} : PE X (.Constant (.int i) j pos) (tD X.K g (mC (.int i))) := d_c pe_int fun _ _ => .int i
theorem d_bool {b : Bool} {j pos} : PE X (.Constant (.bool b) j pos) (tD X.K g (mC (.bool b))) := d_c pe_bl fun _ _ => .bl b
theorem d_none {j pos} : PE X (.Constant .none j pos) (tD X.K g (mC .none)) := d_c pe_non fun _ _ => .non
theorem d_str {x : Str} {j pos} : PE X (.Constant (.str x) j pos) (tD X.K g (mC (.str x))) := d_c pe_str fun _ _ => .str x
theorem d_globI {x : Str} {i : Int} {t : Tok} {pos : Pos} (hg : Gl X x) (hm : X.mg x = some (.int i t)) (hd : (x == ("__debug__" : Str)) = false := by decide) : PE X (.Name x pos) (tD X.K g (mC (.int i))) :=
  d_c (pe_glob hg hm (v := .int i) ⟨t, rfl⟩ hd) fun _ _ => .int i
def r2 (K : PySem.W.Frag) (f : PyData → PyData → Option PyData) : R2 := fun x y H Q => ∃ O d e z, Kinds H O ∧ Arg K H O x d ∧ Arg K H O y e ∧ f d e = some z ∧ ∀ v H', Same H H' → Dd K H' O v z → Q v H'
def r2F (K : PySem.W.Frag) (f : PyData → PyData → Option PyData) : R2 := fun x y H Q => ∃ O d e z, Kinds H O ∧ Arg K H O x d ∧ Arg K H O y e ∧ f d e = some z ∧ ∀ p H', Same H H' → H p = none → OwnR K H' (addO O p) p z → Q (.ref p) H'
def r1 (K : PySem.W.Frag) (f : PyData → Option PyData) : V → Hp → VK → Prop := fun x H Q => ∃ O d z, Kinds H O ∧ Arg K H O x d ∧ f d = some z ∧ ∀ v H', Same H H' → Dd K H' O v z → Q v H'
def rn (K : PySem.W.Frag) (f : List PyData → Option PyData) : List V → Hp → VK → Prop := fun xs H Q => ∃ O ds z, Kinds H O ∧ Args K H O xs ds ∧ f ds = some z ∧ ∀ v H', Same H H' → Dd K H' O v z → Q v H'
def rnF (K : PySem.W.Frag) (f : List PyData → Option PyData) : List V → Hp → VK → Prop := fun xs H Q => ∃ O ds z, Kinds H O ∧ Args K H O xs ds ∧ f ds = some z ∧ ∀ p H', Same H H' → H p = none → OwnR K H' (addO O p) p z → Q (.ref p) H'
@[simp] def m2 (f : PyData → PyData → Option PyData) (ma mb : M Opd) : M Opd := M.bind ma fun x => M.bind mb fun y => M.bind (getM x) fun d => M.bind (getM y) fun e => M.bind (M.of (f d e)) fun z => M.ret (.d z)
@[simp] def m2F (f : PyData → PyData → Option PyData) (ma mb : M Opd) : M PyData := M.bind ma fun x => M.bind mb fun y => M.bind (getM x) fun d => M.bind (getM y) fun e => M.of (f d e)
@[simp] def m1 (f : PyData → Option PyData) (ma : M Opd) : M Opd := M.bind ma fun x => M.bind (getM x) fun d => M.bind (M.of (f d)) fun z => M.ret (.d z)
@[simp] def mN (f : List PyData → Option PyData) (ma : M (List Opd)) : M Opd := M.bind ma fun xs => M.bind (getsM xs) fun ds => M.bind (M.of (f ds)) fun z => M.ret (.d z)
@[simp] def mNF (f : List PyData → Option PyData) (ma : M (List Opd)) : M PyData := M.bind ma fun xs => M.bind (getsM xs) fun ds => M.of (f ds)
variable {f : PyData → PyData → Option PyData} {f1 : PyData → Option PyData} {fn : List PyData → Option PyData} {ma mb mc : M Opd} {mas : M (List Opd)} {σ : L2.St} {H : Hp} {Q : VK} {K : PySem.W.Frag}
theorem two_of {β : Type} {k : Opd → Opd → M β} {P : β → Sd → Hp → Prop} {sd : Sd} {O : Ow} (R : Rep K H O σ sd) (h : Aft K g O σ H (M.bind ma (fun x => M.bind mb fun y => k x y) sd) P) {r : V → V → Hp → Prop}
    (hr : ∀ x y v u sd2 H2, Ext O H H2 → Rep K H2 O σ sd2 → OpdR K H2 O σ v x → OpdR K H2 O σ u y → Aft K g O σ H2 (k x y sd2) P → r v u H2) :
    tD K g ma σ H fun v H1 => tD K g mb σ H1 fun u H2 => r v u H2 :=
  ⟨sd, O, R, h.bind.mono fun x sd1 H1 _ e1 R1 h1 v hv => ⟨sd1, O, R1, h1.bind.mono fun y sd2 H2 _ e2 R2 h2 u hu => hr x y v u sd2 H2 (e1.trans e2) R2 (hv.keep R1.kind e2) hu h2⟩⟩
theorem t2_of (h : tD K g (m2 f ma mb) σ H Q) : tOp (r2 K f) (tD K g ma) (tD K g mb) σ H Q := by
  obtain ⟨sd, O, R, a⟩ := h
  refine two_of R a fun x y v u sd2 H2 e2 R2 hv hu h2 => ?_
  obtain ⟨d, g1, h3⟩ := h2.get
  obtain ⟨e, g2, h4⟩ := h3.get
  obtain ⟨z, g3, h5⟩ := h4.of
  exact ⟨O, d, e, z, R2.kind, hv.arg R2 g1, hu.arg R2 g2, g3, fun w H' s q => h5 H' (Ext.same s) (R2.same s) w q⟩
theorem t2F_of (h : tF K g (m2F f ma mb) σ H Q) : tOp (r2F K f) (tD K g ma) (tD K g mb) σ H Q := by
  obtain ⟨sd, O, R, a⟩ := h
  refine ⟨sd, O, R, a.bind.mono fun x sd1 H1 _ e1 R1 h1 v hv => ⟨sd1, O, R1, h1.bind.mono fun y sd2 H2 _ e2 R2 h2 u hu => ?_⟩⟩
  obtain ⟨d, g1, h3⟩ := h2.get
  obtain ⟨e, g2, h4⟩ := h3.get
  obtain ⟨z, g3, h5⟩ := h4.of
  exact ⟨O, d, e, z, R2.kind, (hv.keep R1.kind e2).arg R2 g1, hu.arg R2 g2, g3, h5.end R2⟩
theorem t1_of {r : V → Hp → VK → Prop} (hr : ∀ x H Q, r1 K f1 x H Q → r x H Q) (h : tD K g (m1 f1 ma) σ H Q) : tUn r (tD K g ma) σ H Q := by
  obtain ⟨sd, O, R, a⟩ := h
  refine ⟨sd, O, R, a.bind.mono fun x sd1 H1 _ e1 R1 h1 v hv => hr _ _ _ ?_⟩
  obtain ⟨d, g1, h3⟩ := h1.get
  obtain ⟨z, g3, h5⟩ := h3.of
  exact ⟨O, d, z, R1.kind, hv.arg R1 g1, g3, fun w H' s q => h5 H' (Ext.same s) (R1.same s) w q⟩
theorem tN_of (h : tD K g (mN fn mas) σ H Q) : tCB (rn K fn) (tA K g mas) σ H Q := by
  obtain ⟨sd, O, R, a⟩ := h
  refine ⟨sd, O, R, a.bind.mono fun xs sd1 H1 _ e1 R1 h1 vs hv => ?_⟩
  obtain ⟨ds, g1, h3⟩ := h1.gets
  obtain ⟨z, g3, h5⟩ := h3.of
  exact ⟨O, ds, z, R1.kind, hv.args R1 g1, g3, fun w H' s q => h5 H' (Ext.same s) (R1.same s) w q⟩
theorem tNF_of (h : tF K g (mNF fn mas) σ H Q) : tCB (rnF K fn) (tA K g mas) σ H Q := by
  obtain ⟨sd, O, R, a⟩ := h
  refine ⟨sd, O, R, a.bind.mono fun xs sd1 H1 _ e1 R1 h1 vs hv => ?_⟩
  obtain ⟨ds, g1, h3⟩ := h1.gets
  obtain ⟨z, g3, h5⟩ := h3.of
  exact ⟨O, ds, z, R1.kind, hv.args R1 g1, g3, h5.end R1⟩
variable {a b c : Expr} {pos : Pos}
theorem d_op {op : Operator} (ho : OpR X (binaryOp op) (r2 X.K f)) (ha : PE X a (tD X.K g ma)) (hb : PE X b (tD X.K g mb)) : PE X (.BinOp a op b pos) (tD X.K g (m2 f ma mb)) := PE_of (pe_op ho ha hb) fun _ _ _ h => t2_of h
theorem f_op {op : Operator} (ho : OpR X (binaryOp op) (r2F X.K f)) (ha : PE X a (tD X.K g ma)) (hb : PE X b (tD X.K g mb)) : PE X (.BinOp a op b pos) (tF X.K g (m2F f ma mb)) := PE_of (pe_op ho ha hb) fun _ _ _ h => t2F_of h
theorem d_cmp {op : CmpOp} (ho : OpR X (compareOp op) (r2 X.K f)) (ha : PE X a (tD X.K g ma)) (hb : PE X b (tD X.K g mb)) (hm : behindInMarks op b = false := by first | exact nomark _ | rfl) : PE X (.Compare a [op] [b] pos) (tD X.K g (m2 f ma mb)) := PE_of (pe_cmpR ho ha hb hm) fun _ _ _ h => t2_of h
theorem d_un {op : UnaryOp} {r : V → Hp → VK → Prop} (ho : UnR X (unaryOp op) r) (hr : ∀ x H Q, r1 X.K f1 x H Q → r x H Q) (ha : PE X a (tD X.K g ma)) : PE X (.UnaryOp op a pos) (tD X.K g (m1 f1 ma)) := PE_of (pe_un ho ha) fun _ _ _ h => t1_of hr h
theorem d_ix (ho : IxR X (r2 X.K f)) (ha : PE X a (tD X.K g ma)) (hb : PE X b (tD X.K g mb)) (hs : PlainIx b := by exact fun _ _ => rfl) : PE X (.Subscript a b pos) (tD X.K g (m2 f ma mb)) := PE_of (pe_ix ho ha hb hs) fun _ _ _ h => t2_of h
@[simp] def mNil : M (List Opd) := M.ret []
@[simp] def mCons (ma : M Opd) (mas : M (List Opd)) : M (List Opd) := M.bind ma fun x => M.bind mas fun xs => M.ret (x :: xs)
theorem a_nil : PA X [] (tA X.K g mNil) := PA_of pa_nil fun σ H Q h => by
  obtain ⟨sd, O, R, a⟩ := h
  exact a.now R [] .nil
theorem tcons_of {QA : List V → Hp → Prop} (h : tA K g (mCons ma mas) σ H QA) : tCons (tD K g ma) (tA K g mas) σ H QA := by
  obtain ⟨sd, O, R, a⟩ := h
  refine ⟨sd, O, R, a.bind.mono fun x sd1 H1 _ e1 R1 h1 v hv => ⟨sd1, O, R1, h1.bind.mono fun xs sd2 H2 _ e2 R2 h2 vs hvs => ?_⟩⟩
  exact h2.now R2 (v :: vs) (.cons (hv.keep R1.kind e2) hvs)
theorem a_cons {es : List Expr} (ha : PE X a (tD X.K g ma)) (hr : PA X es (tA X.K g mas)) (hs : starEach (a :: es) X.env = (false, eval a X.env) :: starEach es X.env := by rfl) : PA X (a :: es) (tA X.K g (mCons ma mas)) := PA_of (pa_cons ha hr hs) fun _ _ _ h => tcons_of h
@[simp] def tupD (ds : List PyData) : Option PyData := if ds.length ≤ sizeLine then some (.tuple ds) else none
@[simp] def lstD (ds : List PyData) : Option PyData := if ds.length ≤ sizeLine then some (.list ds) else none
@[simp] def datsO : List Opd → Option (List PyData)
  | [] => some []
  | .d x :: xs => (datsO xs).map fun ds => x :: ds
  | .own _ :: _ => none
@[simp] def mTup (mas : M (List Opd)) : M Opd := M.bind mas fun xs => M.bind (M.of (datsO xs)) fun ds => M.bind (M.of (tupD ds)) fun z => M.ret (.d z)
@[simp] def mLst (mas : M (List Opd)) : M PyData := M.bind mas fun xs => M.bind (M.of (datsO xs)) fun ds => M.of (lstD ds)
theorem dats_of {O : Ow} {vs : List V} {rs : List Opd} (h : OpdsR K H O σ vs rs) : ∀ {ds : List PyData}, datsO rs = some ds → Ds K H O vs ds := by
  induction h with
  | nil =>
    intro ds e
    cases e
    exact .nil
  | cons h1 _ ih =>
    intro ds e
    rename_i r rs _
    cases r with
    | own i => cases e
    | d x =>
      unfold datsO at e
      cases e2 : datsO rs with
      | none =>
        rw [e2] at e
        cases e
      | some ds' =>
        rw [e2] at e
        cases e
        exact .cons h1 (ih e2)
theorem tupD_some {ds : List PyData} {z : PyData} (h : tupD ds = some z) : ds.length ≤ sizeLine ∧ z = .tuple ds := by
  unfold tupD at h
  split at h
  · cases h
    exact ⟨by assumption, rfl⟩
  · cases h
theorem lstD_some {ds : List PyData} {z : PyData} (h : lstD ds = some z) : ds.length ≤ sizeLine ∧ z = .list ds := by
  unfold lstD at h
  split at h
  · cases h
    exact ⟨by assumption, rfl⟩
  · cases h
theorem same_new {H : Hp} {p : Addr} {o : HO} (h : H p = none) : Same H (upd H p o) := fun b x e => by
  rw [upd_ne (ne_of_none e h)]
  exact e
theorem dd_same {O : Ow} {H' : Hp} {v : V} {d : PyData} (k : Kinds H O) (s : Same H H') (h : Dd K H O v d) : Dd K H' O v d := Dd.keep k (Ext.same s) (fun _ z => .inl z) d v h
theorem ds_same {O : Ow} {H' : Hp} {v : List V} {d : List PyData} (k : Kinds H O) (s : Same H H') (h : Ds K H O v d) : Ds K H' O v d := Ds.keep k (Ext.same s) (fun _ z => .inl z) d v h
theorem dd_tup {O : Ow} {p : Addr} {vs : List V} {ds : List PyData} (k : Kinds H O) (hp : H p = none) {o : Obj} (ho : o.dict = none) (h : Ds K H O vs ds) : Dd K (upd H p (.frz o (.tup vs))) O (.ref p) (.tuple ds) :=
  .tup (.inl ⟨o, upd_same, ho⟩) (ds_same k (same_new hp) h)
theorem own_lst {O : Ow} {p : Addr} {vs : List V} {ds : List PyData} (k : Kinds H O) (hp : H p = none) (h : Ds K H O vs ds) : OwnR K (upd H p (.lst vs)) (addO O p) p (.list ds) :=
  ⟨vs, upd_same, Ds.keep k (Ext.new hp) (fun q z => by
    rcases z with z | rfl
    · exact .inl z
    · exact .inr hp) ds vs h⟩
theorem d_tup {es : List Expr} {x1} (h : PA X es (tA X.K g mas)) : PE X (.Tuple es x1 pos) (tD X.K g (mTup mas)) := PE_of (pe_tupX h) fun σ H Q q => by
  obtain ⟨sd, O, R, a⟩ := q
  refine ⟨sd, O, R, a.bind.mono fun xs sd1 H1 _ e1 R1 h1 vs hv => ?_⟩
  obtain ⟨ds, g1, h3⟩ := h1.of
  obtain ⟨z, g3, h5⟩ := h3.of
  obtain ⟨hz, rfl⟩ := tupD_some g3
  have hd := dats_of hv g1
  refine ⟨by rw [hd.length]; exact hz, fun p ob hp ho => ?_⟩
  exact h5 _ (Ext.new hp) (R1.same (same_new hp)) _ (dd_tup R1.kind hp ho hd)
theorem f_lst {es : List Expr} (h : PA X es (tA X.K g mas)) : PE X (.List es pos) (tF X.K g (mLst mas)) := PE_of (pe_lst h) fun σ H Q q => by
  obtain ⟨sd, O, R, a⟩ := q
  refine ⟨sd, O, R, a.bind.mono fun xs sd1 H1 _ e1 R1 h1 vs hv => ?_⟩
  obtain ⟨ds, g1, h3⟩ := AftF.bind (m := M.of (datsO xs)) (k := fun ds => M.of (lstD ds)) h1 |>.of1
  obtain ⟨z, g3, h5⟩ := AftF.of (h3.now R1)
  obtain ⟨hz, rfl⟩ := lstD_some g3
  have hd := dats_of hv g1
  refine ⟨by rw [hd.length]; exact hz, fun p hp => ?_⟩
  exact h5.end R1 p _ (same_new hp) hp (own_lst R1.kind hp hd)
end
end VS
namespace VS
open PySem L2
variable [TabL]
mutual
def hasL : PyData → Bool
  | .list _ => true
  | .tuple xs => hasLs xs
  | .dict es => hasLk es
  | _ => false
def hasLs : List PyData → Bool
  | [] => false
  | x :: xs => hasL x || hasLs xs
def hasLk : List (PyData × PyData) → Bool
  | [] => false
  | (_, v) :: es => hasL v || hasLk es
end
section
variable {X : Cx} {pins : List (Addr × Obj)} {σ : L2.St} {H : Hp} {s : Shared} {O : Ow}
mutual
theorem Dd.reads (I : Inv X pins σ H s) : ∀ (d : PyData) (v : V) (u : Value), Dd X.K H O v d → RelV v u → ∃ as, Reads s.heap u d as ∧ (hasL d = false → sysModules ∉ as)
  | .none, _, _, h, r => by
    cases h; cases r
    exact ⟨_, .none, fun _ z => nomatch z⟩
  | .bool b, _, _, h, r => by
    cases h; cases r
    exact ⟨_, .bool b, fun _ z => nomatch z⟩
  | .int i, _, _, h, r => by
    cases h
    obtain ⟨t, rfl⟩ := r
    exact ⟨_, .int i t, fun _ z => nomatch z⟩
  | .str x, _, _, h, r => by
    cases h
    obtain ⟨t, rfl⟩ := r
    exact ⟨_, .str x t, fun _ z => nomatch z⟩
  | .list ds, _, _, h, r => by
    cases h with
    | lst hs _ ha =>
      cases r
      obtain ⟨its, rv, ⟨o, n, ho, hc, _, hd⟩, _⟩ := I.list (.inl hs)
      obtain ⟨as, hr, _⟩ := Ds.reads I ds _ its ha rv
      exact ⟨_, .list ho hc hd hr, fun z => by cases z⟩
    | lsk hs ha =>
      cases r
      obtain ⟨_, its, n, rv, ho⟩ := RdL.ok (.inr hs) I
      obtain ⟨as, hr, _⟩ := Ds.reads I ds _ its ha rv
      exact ⟨_, .list ho rfl rfl hr, fun z => by cases z⟩
  | .tuple ds, _, _, h, r => by
    cases h with
    | tup hs ha =>
      cases r
      obtain ⟨its, rv, ⟨o, ho, hc, n, hd⟩, _⟩ := I.tuple hs.sq
      obtain ⟨as, hr, hn⟩ := Ds.reads I ds _ its ha rv
      exact ⟨_, .tuple ho hc hd hr, fun z => hn (by unfold hasL at z; exact z)⟩
  | .dict es, _, _, h, r => by
    cases h with
    | dct hs _ ha =>
      cases r
      obtain ⟨_, ne, vs, kv, o, ents, ep, ho, hx, hd, _, hp, _⟩ := dk_rd I.hok hs
      obtain ⟨k1, bs, k2, k3⟩ := Dk.reads I es _ vs ents.toList ha kv hp
      refine ⟨_, .dict ho hx.1 hd k1 k2, fun z => ?_⟩
      simp only [List.append_nil, List.cons_append, List.nil_append, List.mem_cons, not_or]
      exact ⟨fun e => by rw [e] at ne; simp at ne, k3 (by unfold hasL at z; exact z)⟩
theorem Ds.reads (I : Inv X pins σ H s) : ∀ (ds : List PyData) (vs : List V) (us : List Value), Ds X.K H O vs ds → Vals vs us → ∃ as, ReadsAll s.heap us ds as ∧ (hasLs ds = false → sysModules ∉ as)
  | [], _, _, h, r => by
    cases h; cases r
    exact ⟨_, .nil, fun _ z => nomatch z⟩
  | d :: ds, _, _, h, r => by
    cases h with
    | cons h1 h2 =>
      cases r with
      | cons r1 r2 =>
        obtain ⟨as, q1, n1⟩ := Dd.reads I d _ _ h1 r1
        obtain ⟨bs, q2, n2⟩ := Ds.reads I ds _ _ h2 r2
        refine ⟨_, .cons q1 q2, fun z => ?_⟩
        unfold hasLs at z
        rw [Bool.or_eq_false_iff] at z
        simp only [List.mem_append, not_or]
        exact ⟨n1 z.1, n2 z.2⟩
theorem Dk.reads (I : Inv X pins σ H s) : ∀ (es : List (PyData × PyData)) (kvs : List (Key × V)) (vs : List (Key × Value)) (ents : List DictEntry), Dk X.K H O kvs es → KV kvs vs → Pairs (mixKind X.prog X.w) ents vs →
    ReadsAll s.heap (ents.map (·.key)) (es.map (·.1)) [] ∧ ∃ bs, ReadsAll s.heap (ents.map (·.val)) (es.map (·.2)) bs ∧ (hasLk es = false → sysModules ∉ bs)
  | [], _, _, _, h, r, p => by
    cases h; cases r; cases p
    exact ⟨.nil, _, .nil, fun _ z => nomatch z⟩
  | (_, d) :: es, _, _, _, h, r, p => by
    cases h with
    | cons h1 h2 =>
      cases r with
      | cons r1 r2 =>
        cases p with
        | cons p1 p2 p3 =>
          rename_i k v kvs kv kvs' e ents
          obtain ⟨e1, rv⟩ := r1
          obtain ⟨k1, bs, k2, k3⟩ := Dk.reads I es _ _ _ h2 r2 p3
          obtain ⟨as, q1, n1⟩ := Dd.reads I d _ _ h1 rv
          have e1' : k = kv.1 := e1
          subst e1'
          have kr : Reads s.heap e.key (kD kv.1) [] := by
            rcases keyIs_shape p1 with ⟨i, t, a, b⟩ | ⟨x, t, a, b⟩
            · rw [a, b]
              exact .int i t
            · rw [a, b]
              exact .str x t
          refine ⟨ReadsAll.cons (as := []) kr k1, as ++ bs, ReadsAll.cons (show Reads s.heap e.val d as by rw [p2]; exact q1) k2, fun z => ?_⟩
          unfold hasLk at z
          rw [Bool.or_eq_false_iff] at z
          simp only [List.mem_append, not_or]
          exact ⟨n1 z.1, k3 z.2⟩
end
theorem Arg.reads {v : V} {u : Value} {d : PyData} (I : Inv X pins σ H s) (h : Arg X.K H O v d) (r : RelV v u) : ∃ as, Reads s.heap u d as ∧ (hasL d = false → sysModules ∉ as) := Dd.reads I d v u h.plain r
end
section
variable {X : Cx}
@[simp] def iop (c : Int → Int → Bool) (f : Int → Int → PyData) : PyData → PyData → Option PyData
  | .int i, .int j => if c i j then some (f i j) else none
  | _, _ => none
theorem iop_some {c : Int → Int → Bool} {f : Int → Int → PyData} {d e z : PyData} (h : iop c f d e = some z) : ∃ i j, d = .int i ∧ e = .int j ∧ c i j = true ∧ z = f i j := by
  unfold iop at h
  split at h
  · split at h
    · cases h
      exact ⟨_, _, rfl, rfl, by assumption, rfl⟩
    · cases h
  · cases h
theorem Same.rfl' {H : Hp} : Same H H := fun _ _ h => h
theorem r2_int {F : Value → Value → Sem Value} {C : Int → Int → Prop} {fV : Int → Int → Int} {c : Int → Int → Bool} (ho : OpR X F (rI C fun i j => .int (fV i j))) (hc : ∀ i j, c i j = true → C i j) : OpR X F (r2 X.K (iop c fun i j => .int (fV i j))) :=
  OpR_of ho fun x y H Q h => by
    obtain ⟨O, d, e, z, k, ha, hb, hf, q⟩ := h
    obtain ⟨i, j, rfl, rfl, hc', rfl⟩ := iop_some hf
    exact ⟨i, j, ha.int, hb.int, hc i j hc', q _ _ Same.rfl' (.int _)⟩
@[simp] def subD := iop (fun _ _ => true) fun i j => .int (i - j)
def mulD := iop (fun i j => (decide (-18446744073709551616 < i) && decide (i < 18446744073709551616)) || (decide (-18446744073709551616 < j) && decide (j < 18446744073709551616))) fun i j => .int (i * j)
def modD := iop (fun _ j => decide (0 < j)) fun i j => .int (i % j)
def fdivD := iop (fun i j => decide (0 < j) && (decide (j < 1073741824) || decide (i.natAbs < 2 ^ 4000))) fun i j => .int (i / j)
def powD := iop (fun i j => decide (0 ≤ j) && decide (j ≤ 100000) && decide (i.natAbs < 2 ^ 1000)) fun i j => .int (i ^ j.toNat)
theorem o_mul : OpR X (binaryOp .Mult) (r2 X.K mulD) := r2_int op_mul fun i j h => by
  simp only [Bool.or_eq_true, Bool.and_eq_true, decide_eq_true_eq] at h
  exact h
theorem o_mod : OpR X (binaryOp .Mod) (r2 X.K modD) := r2_int op_mod fun i j h => of_decide_eq_true h
theorem bits_le {i : Int} {n : Nat} (h : i.natAbs < 2 ^ n) : Builtin.Int.intBits i ≤ n := by
  unfold Builtin.Int.intBits
  split
  · exact Nat.zero_le _
  · rename_i hz
    have h0 : i.natAbs ≠ 0 := fun z => hz (by simp [Int.natAbs_eq_zero.mp z])
    have := (Nat.log2_lt h0).mpr h
    omega
theorem op_fdP : OpR X (binaryOp .FloorDiv) (rI CDivP fun i j => .int (i / j)) := opI fun i j _ _ _ _ _ hc q => by
  rw [← Int.fdiv_eq_ediv_of_nonneg i (Int.le_of_lt hc.1)] at q
  exact PyProof.Rows.floordiv_int (by have := hc.1; omega) q (.inl hc.2)
theorem o_fdiv : OpR X (binaryOp .FloorDiv) (r2 X.K fdivD) := OpR_of (OpR.or op_fdiv op_fdP) fun x y H Q h => by
    obtain ⟨O, d, e, z, k, ha, hb, hf, q⟩ := h
    obtain ⟨i, j, rfl, rfl, hc', rfl⟩ := iop_some hf
    simp only [Bool.or_eq_true, Bool.and_eq_true, decide_eq_true_eq] at hc'
    rcases hc'.2 with h2 | h2
    · exact .inl ⟨i, j, ha.int, hb.int, ⟨hc'.1, h2⟩, q _ _ Same.rfl' (.int _)⟩
    · exact .inr ⟨i, j, ha.int, hb.int, divp_ok hc'.1 (Nat.le_trans (bits_le h2) (by omega)), q _ _ Same.rfl' (.int _)⟩
theorem op_powW : OpR X (binaryOp .Pow) (rI (fun i j => 0 ≤ j ∧ (Builtin.Int.intBits i : Int) * j ≤ 2 ^ 27) fun i j => .int (i ^ j.toNat)) := opI fun _ _ _ _ _ _ _ hc q => PyProof.Rows.pow_int hc.1 hc.2 q
theorem o_pow : OpR X (binaryOp .Pow) (r2 X.K powD) := r2_int op_powW fun i j h => by
  simp only [Bool.and_eq_true, decide_eq_true_eq] at h
  obtain ⟨⟨h0, h1⟩, h2⟩ := h
  refine ⟨h0, ?_⟩
  have b : (Builtin.Int.intBits i : Int) ≤ 1000 := by
    have := bits_le h2
    omega
  calc (Builtin.Int.intBits i : Int) * j ≤ 1000 * j := Int.mul_le_mul_of_nonneg_right b h0
    _ ≤ 1000 * 100000 := Int.mul_le_mul_of_nonneg_left h1 (by decide)
    _ ≤ 2 ^ 27 := by decide
end
end VS
namespace VS
open PySem L2
variable [TabL]
section
variable {X : Cx} {g : Sg}
@[simp] def addD : PyData → PyData → Option PyData
  | .int i, .int j => some (.int (i + j))
  | .str x, .str y => if x.length + y.length ≤ sizeLine then some (.str (x ++ y)) else none
  | .tuple xs, .tuple ys => if xs.length + ys.length ≤ sizeLine then some (.tuple (xs ++ ys)) else none
  | _, _ => none
theorem addD_some {d e z : PyData} (h : addD d e = some z) : (∃ i j, d = .int i ∧ e = .int j ∧ z = .int (i + j)) ∨ (∃ x y, d = .str x ∧ e = .str y ∧ x.length + y.length ≤ sizeLine ∧ z = .str (x ++ y)) ∨
    ∃ xs ys, d = .tuple xs ∧ e = .tuple ys ∧ xs.length + ys.length ≤ sizeLine ∧ z = .tuple (xs ++ ys) := by
  unfold addD at h
  split at h
  · cases h
    exact .inl ⟨_, _, rfl, rfl, rfl⟩
  · split at h
    · cases h
      exact .inr (.inl ⟨_, _, rfl, rfl, by assumption, rfl⟩)
    · cases h
  · split at h
    · cases h
      exact .inr (.inr ⟨_, _, rfl, rfl, by assumption, rfl⟩)
    · cases h
  · cases h
theorem o_add : OpR X (binaryOp .Add) (r2 X.K addD) := OpR_of (OpR.or op_add (OpR.or op_add_str op_catX)) fun x y H Q h => by
  obtain ⟨O, d, e, z, k, ha, hb, hf, q⟩ := h
  rcases addD_some hf with ⟨i, j, rfl, rfl, rfl⟩ | ⟨i, j, rfl, rfl, hl, rfl⟩ | ⟨xs, ys, rfl, rfl, hl, rfl⟩
  · exact .inl ⟨i, j, ha.int, hb.int, q _ _ Same.rfl' (.int _)⟩
  · exact .inr (.inl ⟨i, j, ha.str, hb.str, hl, q _ _ Same.rfl' (.str _)⟩)
  · obtain ⟨p, vs, rfl, a1, a2⟩ := ha.tupleE
    obtain ⟨p', vs', rfl, b1, b2⟩ := hb.tupleE
    refine .inr (.inr ⟨p, p', vs, vs', rfl, rfl, a1.sq, b1.sq, by rw [a2.length, b2.length]; exact hl, fun z => ?_, fun z z' => ?_, fun z z' n ob hn ho => ?_⟩)
    · subst z
      cases a2
      exact q _ _ Same.rfl' (.tup b1 b2)
    · subst z'
      cases b2
      rw [List.append_nil] at q
      exact q _ _ Same.rfl' (.tup a1 a2)
    · exact q _ _ (same_new hn) (dd_tup k hn ho (a2.app b2))
def catD : PyData → PyData → Option PyData
  | .list xs, .list ys => if xs.length + ys.length ≤ sizeLine then some (.list (xs ++ ys)) else none
  | _, _ => none
theorem catD_some {d e z : PyData} (h : catD d e = some z) : ∃ xs ys, d = .list xs ∧ e = .list ys ∧ xs.length + ys.length ≤ sizeLine ∧ z = .list (xs ++ ys) := by
  unfold catD at h
  split at h
  · split at h
    · cases h
      exact ⟨_, _, rfl, rfl, by assumption, rfl⟩
    · cases h
  · cases h
theorem o_catF : OpR X (binaryOp .Add) (r2F X.K catD) := by
  intro pins s σ H x y v u Q I rx ry h
  obtain ⟨O, d, e, z, k, ha, hb, hf, q⟩ := h
  obtain ⟨xs, ys, rfl, rfl, hl, rfl⟩ := catD_some hf
  obtain ⟨p, vs, rfl, a1, a2⟩ := ha.list
  obtain ⟨p', ws, rfl, b1, b2⟩ := hb.list
  cases rx
  cases ry
  obtain ⟨z1, its, n, r1, e1⟩ := a1.ok I
  obtain ⟨z2, jts, m, r2, e2⟩ := b1.ok I
  have hlen : vs.length + ws.length ≤ sizeLine := by
    rw [a2.length, b2.length]
    exact hl
  have l1 := r1.length
  have l2 := r2.length
  refine PySem.P.add_list e1 e2 ?_ (by simp only [List.size_toArray]; omega)
  have ea : its.toArray ++ jts.toArray = (its ++ jts).toArray := by simp
  rw [ea]
  exact ⟨.ref _, _, I.lnew (t' := s.toks) (r1.append r2) (by simp only [List.length_append]; exact hlen), rfl, q _ _ (same_new I.fresh) I.fresh (own_lst k I.fresh (a2.app b2))⟩
def cmpOk (d e : PyData) : Bool := d.plain && e.plain && decide (min d.depth e.depth ≤ 60)
def lenOff : PyData → PyData → Bool
  | .list xs, .list ys => xs.length != ys.length
  | _, _ => false
def eqD (d e : PyData) : Option PyData := if cmpOk d e then some (.bool (PyData.eqv d e)) else if lenOff d e then some (.bool false) else none
def neD (d e : PyData) : Option PyData := if cmpOk d e then some (.bool (!PyData.eqv d e)) else if lenOff d e then some (.bool true) else none
theorem lenOff_at {s : Shared} {v u : Value} {d e : PyData} {as bs : List Addr} (r1 : Reads s.heap v d as) (r2 : Reads s.heap u e bs) (h : lenOff d e = true) : ∃ (l l' : Addr) (vs vs' : Array Value), v = .ref l ∧ u = .ref l' ∧ s.heap.IsList l vs ∧ s.heap.IsList l' vs' ∧ (vs.size != vs'.size) = true := by
  unfold lenOff at h
  split at h
  · rename_i xs ys
    cases r1 with
    | @list l o vs n _ as₁ h1 h2 h3 h4 =>
      cases r2 with
      | @list l' o' vs' n' _ bs₁ k1 k2 k3 k4 =>
        have n1 : vs.size = xs.length := by simpa using PySem.SeqAt.ReadsAll.length _ _ _ h4
        have n2 : vs'.size = ys.length := by simpa using PySem.SeqAt.ReadsAll.length _ _ _ k4
        exact ⟨l, l', vs, vs', rfl, rfl, ⟨_, h1, h2, _, h3⟩, ⟨_, k1, k2, _, k3⟩, by rw [n1, n2]; exact h⟩
  · cases h
theorem ite_some {α : Type} {c : Bool} {a b : α} (h : (if c = true then some a else none) = some b) : c = true ∧ b = a := by
  split at h
  · cases h
    exact ⟨by assumption, rfl⟩
  · cases h
theorem cmpOk_of {d e : PyData} (h : cmpOk d e = true) : d.plain = true ∧ e.plain = true ∧ min d.depth e.depth ≤ 60 := by
  unfold cmpOk at h
  simp only [Bool.and_eq_true, decide_eq_true_eq] at h
  exact ⟨h.1.1, h.1.2, h.2⟩
theorem ep_bool {pins : List (Addr × Obj)} {σ : L2.St} {H : Hp} {s : Shared} {O : Ow} {Q : VK} {b : Bool} (I : L2.Inv X pins σ H s) (q : ∀ v H', Same H H' → Dd X.K H' O v (.bool b) → Q v H') : EP X pins σ Q (.bool b) s :=
  ⟨.bl b, H, I, rfl, q _ _ Same.rfl' (.bl b)⟩
theorem o_eq (hu : X.A.units + 64 < cLine) : OpR X (compareOp .Eq) (r2 X.K eqD) := by
  intro pins s σ H x y v u Q I rx ry h
  obtain ⟨O, d, e, z, k, ha, hb, hf, q⟩ := h
  obtain ⟨as, r1, _⟩ := ha.reads I rx
  obtain ⟨bs, r2, _⟩ := hb.reads I ry
  unfold eqD at hf
  split at hf
  · rename_i hc
    cases hf
    obtain ⟨c1, c2, c3⟩ := cmpOk_of hc
    exact PySem.SeqAt.eq_plain r1 r2 c1 c2 (by omega) (ep_bool I q)
  · obtain ⟨hc, rfl⟩ := ite_some hf
    obtain ⟨l, l', vs, vs', rfl, rfl, h1, h2, h3⟩ := lenOff_at r1 r2 hc
    exact PySem.SeqAt.RcAt.lists_lengths h1 h2 h3 (by omega) _ _ _ _ (ep_bool I q)
theorem o_ne (hu : X.A.units + 64 < cLine) : OpR X (compareOp .NotEq) (r2 X.K neD) := by
  intro pins s σ H x y v u Q I rx ry h
  obtain ⟨O, d, e, z, k, ha, hb, hf, q⟩ := h
  obtain ⟨as, r1, _⟩ := ha.reads I rx
  obtain ⟨bs, r2, _⟩ := hb.reads I ry
  unfold neD at hf
  split at hf
  · rename_i hc
    cases hf
    obtain ⟨c1, c2, c3⟩ := cmpOk_of hc
    exact PySem.SeqAt.ne_plain r1 r2 c1 c2 (by omega) (ep_bool I q)
  · obtain ⟨hc, rfl⟩ := ite_some hf
    obtain ⟨l, l', vs, vs', rfl, rfl, h1, h2, h3⟩ := lenOff_at r1 r2 hc
    exact PySem.SeqAt.RcNeAt.lists_lengths h1 h2 h3 (by omega) _ _ _ _ (ep_bool I q)
def isNone : PyData → Bool
  | .none => true
  | _ => false
def ordOk (d e : PyData) : Bool := PySem.W.alike d e && !isNone d && decide (min d.depth e.depth ≤ 60)
def ltD (d e : PyData) : Option PyData := if ordOk d e then some (.bool (PySem.W.dataLt d e)) else none
def gtD (d e : PyData) : Option PyData := if ordOk d e then some (.bool (PySem.W.dataLt e d)) else none
def leD (d e : PyData) : Option PyData := if ordOk d e then some (.bool (!PySem.W.dataLt e d)) else none
def geD (d e : PyData) : Option PyData := if ordOk d e then some (.bool (!PySem.W.dataLt d e)) else none
theorem ordOk_of {d e : PyData} (h : ordOk d e = true) : PySem.W.alike d e = true ∧ d ≠ .none ∧ min d.depth e.depth ≤ 60 := by
  unfold ordOk at h
  simp only [Bool.and_eq_true, decide_eq_true_eq, Bool.not_eq_true'] at h
  refine ⟨h.1.1, ?_, h.2⟩
  intro z
  subst z
  exact Bool.noConfusion h.1.2
theorem o_lt (hu : X.A.units + 64 < cLine) : OpR X (compareOp .Lt) (r2 X.K ltD) := by
  intro pins s σ H x y v u Q I rx ry h
  obtain ⟨O, d, e, z, k, ha, hb, hf, q⟩ := h
  obtain ⟨hc, rfl⟩ := ite_some hf
  obtain ⟨c1, c2, c3⟩ := ordOk_of hc
  obtain ⟨as, r1, _⟩ := ha.reads I rx
  obtain ⟨bs, r2, _⟩ := hb.reads I ry
  exact PySem.W.lt_data r1 r2 c1 c2 (by omega) (ep_bool I q)
theorem o_gt (hu : X.A.units + 64 < cLine) : OpR X (compareOp .Gt) (r2 X.K gtD) := by
  intro pins s σ H x y v u Q I rx ry h
  obtain ⟨O, d, e, z, k, ha, hb, hf, q⟩ := h
  obtain ⟨hc, rfl⟩ := ite_some hf
  obtain ⟨c1, c2, c3⟩ := ordOk_of hc
  obtain ⟨as, r1, _⟩ := ha.reads I rx
  obtain ⟨bs, r2, _⟩ := hb.reads I ry
  exact PySem.W.gt_data r1 r2 c1 c2 (by omega) (ep_bool I q)
theorem o_le (hu : X.A.units + 64 < cLine) : OpR X (compareOp .LtE) (r2 X.K leD) := by
  intro pins s σ H x y v u Q I rx ry h
  obtain ⟨O, d, e, z, k, ha, hb, hf, q⟩ := h
  obtain ⟨hc, rfl⟩ := ite_some hf
  obtain ⟨c1, c2, c3⟩ := ordOk_of hc
  obtain ⟨as, r1, _⟩ := ha.reads I rx
  obtain ⟨bs, r2, _⟩ := hb.reads I ry
  exact PySem.W.le_data r1 r2 c1 c2 (by omega) (ep_bool I q)
theorem o_ge (hu : X.A.units + 64 < cLine) : OpR X (compareOp .GtE) (r2 X.K geD) := by
  intro pins s σ H x y v u Q I rx ry h
  obtain ⟨O, d, e, z, k, ha, hb, hf, q⟩ := h
  obtain ⟨hc, rfl⟩ := ite_some hf
  obtain ⟨c1, c2, c3⟩ := ordOk_of hc
  obtain ⟨as, r1, _⟩ := ha.reads I rx
  obtain ⟨bs, r2, _⟩ := hb.reads I ry
  exact PySem.W.ge_data r1 r2 c1 c2 (by omega) (ep_bool I q)
def keyOf : PyData → Option Key
  | .int i => some (.inl i)
  | .str x => some (.inr x)
  | _ => none
def keyEq : PyData → PyData → Bool
  | .int i, .int j => decide (i = j)
  | .str x, .str y => decide (x = y)
  | _, _ => false
@[simp] def memD (x : PyData) : PyData → Option Bool
  | .list xs => if PyData.plainAll xs && x.plain && decide (x.depth ≤ 60) then some (xs.any fun y => PyData.eqv y x) else none
  | .tuple xs => if PyData.plainAll xs && x.plain && decide (x.depth ≤ 60) then some (xs.any fun y => PyData.eqv y x) else none
  | .dict es => if (keyOf x).isSome then some (es.any fun e => keyEq e.1 x) else none
  | _ => none
@[simp] def inD (x c : PyData) : Option PyData := (memD x c).map .bool
@[simp] def notInD (x c : PyData) : Option PyData := (memD x c).map fun b => .bool (!b)
theorem keyOf_some {x : PyData} {k : Key} (h : keyOf x = some k) : x = kD k := by
  unfold keyOf at h
  split at h
  · cases h; rfl
  · cases h; rfl
  · cases h
theorem keyEq_kD (a b : Key) : keyEq (kD a) (kD b) = decide (a = b) := by
  cases a with
  | inl i =>
    cases b with
    | inl j => exact (decide_eq_decide.mpr ⟨fun e => by rw [e], fun e => Sum.inl.inj e⟩)
    | inr j => exact (decide_eq_false fun e => nomatch e).symm
  | inr i =>
    cases b with
    | inl j => exact (decide_eq_false fun e => nomatch e).symm
    | inr j => exact (decide_eq_decide.mpr ⟨fun e => by rw [e], fun e => Sum.inr.inj e⟩)
theorem dk_any {K : PySem.W.Frag} {H : Hp} {O : Ow} (k : Key) : ∀ {es : List (PyData × PyData)} {kvs : List (Key × V)}, Dk K H O kvs es → (es.any fun e => keyEq e.1 (kD k)) = (valV kvs k).isSome
  | [], _, h => by cases h; rfl
  | (_, d) :: es, _, h => by
    cases h with
    | cons h1 h2 =>
      rename_i k' v kvs
      rw [List.any_cons, keyEq_kD, dk_any k h2, ← valV_any, ← valV_any, List.any_cons]
theorem rowOk_of {xs : List PyData} {x : PyData} (h : (PyData.plainAll xs && x.plain && decide (x.depth ≤ 60)) = true) : PyData.plainAll xs = true ∧ x.plain = true ∧ x.depth ≤ 60 := by
  simp only [Bool.and_eq_true, decide_eq_true_eq] at h
  exact ⟨h.1.1, h.1.2, h.2⟩
theorem o_notIn (hu : X.A.units + 64 < cLine) : OpR X (compareOp .NotIn) (r2 X.K notInD) := by
  intro pins s σ H x y v u Q I rx ry h
  obtain ⟨O, d, e, z, k, ha, hb, hf, q⟩ := h
  obtain ⟨b, hm, rfl⟩ := Option.map_eq_some_iff.mp hf
  unfold memD at hm
  split at hm
  · obtain ⟨hc, rfl⟩ := ite_some hm
    obtain ⟨c1, c2, c3⟩ := rowOk_of hc
    obtain ⟨as, r1, _⟩ := ha.reads I rx
    obtain ⟨bs, r2, _⟩ := hb.reads I ry
    exact PySem.SeqAt.notIn_list_data r2 r1 c1 c2 (by omega) (ep_bool I q)
  · obtain ⟨hc, rfl⟩ := ite_some hm
    obtain ⟨c1, c2, c3⟩ := rowOk_of hc
    obtain ⟨as, r1, _⟩ := ha.reads I rx
    obtain ⟨bs, r2, _⟩ := hb.reads I ry
    exact PySem.SeqAt.notIn_tuple_data r2 r1 c1 c2 (by omega) (ep_bool I q)
  · obtain ⟨hc, rfl⟩ := ite_some hm
    obtain ⟨ky, hk⟩ := Option.isSome_iff_exists.mp hc
    have e1 := keyOf_some hk
    subst e1
    obtain ⟨p, kvs, rfl, a1, a2⟩ := hb.dict
    cases ry
    have ex : x = kV ky := by
      cases ky with
      | inl i => exact ha.int
      | inr i => exact ha.str
    subst ex
    rw [dk_any ky a2] at q
    exact d_notIn (by omega) I (.inl ⟨kvs, ky, a1, rfl, rfl⟩) rx fun s' I' => ep_bool I' q
  · cases hm
@[simp] def isD : PyData → PyData → Option PyData
  | .bool a, .bool b => some (.bool (decide (a = b)))
  | d, .none => some (.bool (isNone d))
  | _, _ => none
@[simp] def isNotD : PyData → PyData → Option PyData
  | .bool a, .bool b => some (.bool (!decide (a = b)))
  | d, .none => some (.bool (!isNone d))
  | _, _ => none
def ixD : PyData → PyData → Option PyData
  | .list xs, .int i => atI xs i
  | .tuple xs, .int i => atI xs i
  | .str z, .int i => if z.length ≤ sizeLine then (atI z.cps.toList i).map fun c => .str ⟨#[c]⟩ else none
  | _, _ => none
theorem atI_ds {K : PySem.W.Frag} {H : Hp} {O : Ow} {vs : List V} {ds : List PyData} {i : Int} {d : PyData} (h : Ds K H O vs ds) (e : atI ds i = some d) : ∃ v, atI vs i = some v ∧ Dd K H O v d := by
  unfold atI at e ⊢
  rw [h.length]
  cases hx : ixN ds.length i with
  | none =>
    rw [hx] at e
    cases e
  | some j =>
    rw [hx] at e
    exact h.get e
theorem o_ix : IxR X (r2 X.K ixD) := IxR_of ix_seq fun x y H Q h => by
  obtain ⟨O, d, e, z, k, ha, hb, hf, q⟩ := h
  unfold ixD at hf
  split at hf
  · obtain ⟨p, vs, rfl, a1, a2⟩ := ha.list
    obtain ⟨v, e1, e2⟩ := atI_ds a2 hf
    exact .inl ⟨p, vs, _, v, rfl, hb.int, a1.sq, e1, q _ _ Same.rfl' e2⟩
  · obtain ⟨p, vs, rfl, a1, a2⟩ := ha.tuple
    obtain ⟨v, e1, e2⟩ := atI_ds a2 hf
    exact .inr (.inl ⟨p, vs, _, v, rfl, hb.int, a1, e1, q _ _ Same.rfl' e2⟩)
  · split at hf
    · obtain ⟨c, e1, rfl⟩ := Option.map_eq_some_iff.mp hf
      exact .inr (.inr ⟨_, _, c, ha.str, hb.int, by assumption, e1, q _ _ Same.rfl' (.str _)⟩)
    · cases hf
  · cases hf
def getD (d y : PyData) : Option PyData := match d with
  | .dict es => if (keyOf y).isSome then (es.find? fun e => keyEq e.1 y).map (·.2) else none
  | _ => none
def cutL (xs : List PyData) (lo hi : Option Int) : List PyData := (xs.drop (HT.sIx xs.length 0 lo)).take (HT.sIx xs.length xs.length hi - HT.sIx xs.length 0 lo)
theorem cut_ds {K : PySem.W.Frag} {H : Hp} {O : Ow} {vs : List V} {ds : List PyData} (h : Ds K H O vs ds) (lo hi : Option Int) : Ds K H O (cutV vs lo hi) (cutL ds lo hi) := by
  unfold cutV cutL
  rw [h.length]
  exact (h.drop _).take _
@[simp] def sliceD (d : PyData) (lo hi : Option Int) : Option PyData := match d with
  | .tuple xs => some (.tuple (cutL xs lo hi))
  | _ => none
@[simp] def sliceDF (d : PyData) (lo hi : Option Int) : Option PyData := match d with
  | .list xs => some (.list (cutL xs lo hi))
  | _ => none
def tO (K : PySem.W.Frag) (g : Sg) (m : M (Option Int)) : TO := fun σ H Q => ∃ sd O, Rep K H O σ sd ∧ Aft K g O σ H (m sd) fun b _ H' => Q b H'
@[simp] def intM (m : M Opd) : M (Option Int) := M.bind m fun x => M.bind (getM x) fun d => match d with
  | .int i => M.ret (some i)
  | _ => M.stk
theorem PO_of {e : Option Expr} {t t' : TO} (h : PO X e t) (w : ∀ σ H Q, t' σ H Q → t σ H Q) : PO X e t' := ⟨fun pins s σ H Q I q => h.run pins s σ H Q I (w σ H Q q)⟩
theorem p_none : PO X none (tO X.K g (M.ret none)) := PO_of po_none fun σ H Q h => by
  obtain ⟨sd, O, R, a⟩ := h
  exact a.now R
theorem p_some {e : Expr} {m : M Opd} (he : PE X e (tD X.K g m)) : PO X (some e) (tO X.K g (intM m)) := PO_of (po_some he) fun σ H Q h => by
  obtain ⟨sd, O, R, a⟩ := h
  refine ⟨sd, O, R, a.bind.mono fun x sd1 H1 _ e1 R1 h1 v hv => ?_⟩
  obtain ⟨d, g1, h3⟩ := h1.get
  split at h3
  · exact ⟨_, (hv.arg R1 g1).int, h3.now R1⟩
  · exact False.elim h3
@[simp] def mSl (ma : M Opd) (ml mh : M (Option Int)) : M Opd := M.bind ma fun x => M.bind ml fun lo => M.bind mh fun hi => M.bind (getM x) fun d => M.bind (M.of (sliceD d lo hi)) fun z => M.ret (.d z)
@[simp] def mSlF (ma : M Opd) (ml mh : M (Option Int)) : M PyData := M.bind ma fun x => M.bind ml fun lo => M.bind mh fun hi => M.bind (getM x) fun d => M.of (sliceDF d lo hi)
theorem d_slice {e : Expr} {lo hi : Option Expr} {p2 pos : Pos} {ma : M Opd} {ml mh : M (Option Int)} (he : PE X e (tD X.K g ma)) (hl : PO X lo (tO X.K g ml)) (hh : PO X hi (tO X.K g mh)) : PE X (.Subscript e (.Slice lo hi none p2) pos) (tD X.K g (mSl ma ml mh)) :=
  PE_of (pe_slice sl_tupX he hl hh) fun σ H Q h => by
  obtain ⟨sd, O, R, a⟩ := h
  refine ⟨sd, O, R, a.bind.mono fun x sd1 H1 _ e1 R1 h1 v hv => ⟨sd1, O, R1, h1.bind.mono fun lo' sd2 H2 _ e2 R2 h2 => ⟨sd2, O, R2, h2.bind.mono fun hi' sd3 H3 _ e3 R3 h3 => ?_⟩⟩⟩
  obtain ⟨d, g1, h4⟩ := h3.get
  obtain ⟨z, g3, h5⟩ := h4.of
  have A1 := ((hv.keep R1.kind e2).keep R2.kind e3).arg R3 g1
  unfold sliceD at g3
  split at g3
  · cases g3
    obtain ⟨p, vs, rfl, a1, a2⟩ := A1.tupleE
    have cut := cut_ds a2 lo' hi'
    refine ⟨p, vs, rfl, a1.sq, fun hw => ?_, fun hw n ob hn ho => ?_⟩
    · refine h5.now R3 _ (.tup a1 ?_)
      have e4 : cutV vs lo' hi' = vs := by
        unfold cutV
        rw [hw.1, hw.2]
        simp
      rw [e4] at cut
      exact cut
    · exact h5 _ (Ext.new hn) (R3.same (same_new hn)) _ (dd_tup R3.kind hn ho cut)
  · cases g3
end
end VS
namespace VS
open PySem L2
variable [TabL]
section
variable {X : Cx} {g : Sg} {K : PySem.W.Frag} {H : Hp} {O : Ow}
theorem Args.one {xs : List V} {d : PyData} (h : Args K H O xs [d]) : ∃ v, xs = [v] ∧ Arg K H O v d := by
  cases h with
  | cons a b =>
    cases b
    exact ⟨_, rfl, a⟩
theorem Args.two {xs : List V} {d e : PyData} (h : Args K H O xs [d, e]) : ∃ v w, xs = [v, w] ∧ Arg K H O v d ∧ Arg K H O w e := by
  cases h with
  | cons a b =>
    cases b with
    | cons b c =>
      cases c
      exact ⟨_, _, rfl, a, b⟩
@[simp] def one (f : PyData → Option PyData) : List PyData → Option PyData
  | [d] => f d
  | _ => none
@[simp] def two (f : PyData → PyData → Option PyData) : List PyData → Option PyData
  | [d, e] => f d e
  | _ => none
theorem one_some {f : PyData → Option PyData} {ds : List PyData} {z : PyData} (h : one f ds = some z) : ∃ d, ds = [d] ∧ f d = some z := by
  unfold one at h
  split at h
  · exact ⟨_, rfl, h⟩
  · cases h
theorem two_some {f : PyData → PyData → Option PyData} {ds : List PyData} {z : PyData} (h : two f ds = some z) : ∃ d e, ds = [d, e] ∧ f d e = some z := by
  unfold two at h
  split at h
  · exact ⟨_, _, rfl, h⟩
  · cases h
theorem d_callB {x : Str} {id : String} {p pos : Pos} {e : Expr} {es : List Expr} {fn : List PyData → Option PyData} {mas : M (List Opd)} (hc : CallR X (.builtin id) (rn X.K fn)) (hg : Gl X x) (hm : X.mg x = none) (hv : bootBuiltins x = some (.builtin id)) (ha : PA X (e :: es) (tA X.K g mas))
    (hn : x ≠ "__name__" := by decide) (hdb : (x == ("__debug__" : Str)) = false := by decide) (he : starEach (e :: es) X.env = (false, eval e X.env) :: starEach es X.env := by rfl) (hpl : (backTo pos (starEach es X.env)).any (·.1) = false := by rfl) :
    PE X (.Call (.Name x p) (e :: es) [] pos) (tD X.K g (mN fn mas)) := PE_of (pe_callB hc hg hm hv ha hn hdb he hpl) fun _ _ _ h => tN_of h
theorem d_callT {x : Str} {T : String} {p pos : Pos} {e : Expr} {es : List Expr} {fn : List PyData → Option PyData} {mas : M (List Opd)} (hc : CallR X (.type T) (rn X.K fn)) (hg : Gl X x) (hm : X.mg x = none) (hv : bootBuiltins x = some (.type T)) (ha : PA X (e :: es) (tA X.K g mas))
    (hn : x ≠ "__name__" := by decide) (hdb : (x == ("__debug__" : Str)) = false := by decide) (he : starEach (e :: es) X.env = (false, eval e X.env) :: starEach es X.env := by rfl) (hpl : (backTo pos (starEach es X.env)).any (·.1) = false := by rfl) :
    PE X (.Call (.Name x p) (e :: es) [] pos) (tD X.K g (mN fn mas)) := PE_of (pe_callTy hc hg hm hv ha hn hdb he hpl) fun _ _ _ h => tN_of h
theorem f_callB {x : Str} {id : String} {p pos : Pos} {e : Expr} {es : List Expr} {fn : List PyData → Option PyData} {mas : M (List Opd)} (hc : CallR X (.builtin id) (rnF X.K fn)) (hg : Gl X x) (hm : X.mg x = none) (hv : bootBuiltins x = some (.builtin id)) (ha : PA X (e :: es) (tA X.K g mas))
    (hn : x ≠ "__name__" := by decide) (hdb : (x == ("__debug__" : Str)) = false := by decide) (he : starEach (e :: es) X.env = (false, eval e X.env) :: starEach es X.env := by rfl) (hpl : (backTo pos (starEach es X.env)).any (·.1) = false := by rfl) :
    PE X (.Call (.Name x p) (e :: es) [] pos) (tF X.K g (mNF fn mas)) := PE_of (pe_callB hc hg hm hv ha hn hdb he hpl) fun _ _ _ h => tNF_of h
theorem f_callT {x : Str} {T : String} {p pos : Pos} {e : Expr} {es : List Expr} {fn : List PyData → Option PyData} {mas : M (List Opd)} (hc : CallR X (.type T) (rnF X.K fn)) (hg : Gl X x) (hm : X.mg x = none) (hv : bootBuiltins x = some (.type T)) (ha : PA X (e :: es) (tA X.K g mas))
    (hn : x ≠ "__name__" := by decide) (hdb : (x == ("__debug__" : Str)) = false := by decide) (he : starEach (e :: es) X.env = (false, eval e X.env) :: starEach es X.env := by rfl) (hpl : (backTo pos (starEach es X.env)).any (·.1) = false := by rfl) :
    PE X (.Call (.Name x p) (e :: es) [] pos) (tF X.K g (mNF fn mas)) := PE_of (pe_callTy hc hg hm hv ha hn hdb he hpl) fun _ _ _ h => tNF_of h
@[simp] def lenD : PyData → Option PyData
  | .list xs => some (.int xs.length)
  | .tuple xs => some (.int xs.length)
  | .str x => if x.length ≤ sizeLine then some (.int x.length) else none
  | .dict es => some (.int es.length)
  | _ => none
theorem Dk.length : ∀ {es : List (PyData × PyData)} {kvs : List (Key × V)}, Dk K H O kvs es → kvs.length = es.length
  | [], _, h => by cases h; rfl
  | d :: ds, _, h => by
    cases h with
    | cons h1 h2 => simp [Dk.length h2]
theorem c_len : CallR X (.builtin "len") (rn X.K (one lenD)) := by
  intro pins s σ H xs us Q I r h
  obtain ⟨O, ds, z, k, ha0, hf0, q⟩ := h
  obtain ⟨d, rfl, hf⟩ := one_some hf0
  obtain ⟨v, rfl, ha⟩ := ha0.one
  unfold lenD at hf
  split at hf
  · cases hf
    obtain ⟨p, vs, rfl, a1, a2⟩ := ha.list
    refine call_len pins s σ H _ us Q I r ⟨_, vs.length, rfl, .inl ⟨vs, a1.sq, rfl⟩, ?_⟩
    rw [a2.length]
    exact q _ _ Same.rfl' (.int _)
  · cases hf
    obtain ⟨p, vs, rfl, a1, a2⟩ := ha.tuple
    refine call_len pins s σ H _ us Q I r ⟨_, vs.length, rfl, .inr ⟨vs, a1, rfl⟩, ?_⟩
    rw [a2.length]
    exact q _ _ Same.rfl' (.int _)
  · split at hf
    · cases hf
      have e := ha.str
      subst e
      exact call_len pins s σ H _ us Q I r ⟨_, _, rfl, ⟨by assumption, rfl⟩, q _ _ Same.rfl' (.int _)⟩
    · cases hf
  · cases hf
    obtain ⟨p, kvs, rfl, a1, a2⟩ := ha.dict
    rw [Vals.ref1 r]
    refine d_len I a1 fun t s' I' => ⟨.int kvs.length, H, I', ⟨t, rfl⟩, ?_⟩
    rw [a2.length]
    exact q _ _ Same.rfl' (.int _)
  · cases hf
@[simp] def absD : PyData → Option PyData
  | .int i => some (.int (if i < 0 then -i else i))
  | _ => none
@[simp] def intD : PyData → Option PyData
  | .int i => some (.int i)
  | .bool b => some (.int (if b then 1 else 0))
  | _ => none
def maxD2 : PyData → PyData → Option PyData
  | .int i, .int j => some (.int (if j > i then j else i))
  | _, _ => none
def minD2 : PyData → PyData → Option PyData
  | .int i, .int j => some (.int (if j < i then j else i))
  | _, _ => none
theorem c_abs : CallR X (.builtin "abs") (rn X.K (one absD)) := CallR_of call_abs fun xs H Q h => by
  obtain ⟨O, ds, z, k, ha0, hf0, q⟩ := h
  obtain ⟨d, rfl, hf⟩ := one_some hf0
  obtain ⟨v, rfl, ha⟩ := ha0.one
  unfold absD at hf
  split at hf
  · cases hf
    exact ⟨_, by rw [ha.int], q _ _ Same.rfl' (.int _)⟩
  · cases hf
theorem c_int : CallR X (.type "int") (rn X.K (one intD)) := CallR_of call_int1 fun xs H Q h => by
  obtain ⟨O, ds, z, k, ha0, hf0, q⟩ := h
  obtain ⟨d, rfl, hf⟩ := one_some hf0
  obtain ⟨v, rfl, ha⟩ := ha0.one
  unfold intD at hf
  split at hf
  · cases hf
    exact .inl ⟨_, by rw [ha.int], q _ _ Same.rfl' (.int _)⟩
  · cases hf
    exact .inr ⟨_, by rw [ha.bool], q _ _ Same.rfl' (.int _)⟩
  · cases hf
theorem c_max2 (hc : X.calm = true) : CallR X (.builtin "max") (rn X.K (two maxD2)) := CallR_of (call_max2 hc) fun xs H Q h => by
  obtain ⟨O, ds, z, k, ha0, hf0, q⟩ := h
  obtain ⟨d, e, rfl, hf⟩ := two_some hf0
  obtain ⟨v, w, rfl, ha, hb⟩ := ha0.two
  unfold maxD2 at hf
  split at hf
  · cases hf
    exact ⟨_, _, by rw [ha.int, hb.int], q _ _ Same.rfl' (.int _)⟩
  · cases hf
theorem c_min2 (hc : X.calm = true) : CallR X (.builtin "min") (rn X.K (two minD2)) := CallR_of (call_min2 hc) fun xs H Q h => by
  obtain ⟨O, ds, z, k, ha0, hf0, q⟩ := h
  obtain ⟨d, e, rfl, hf⟩ := two_some hf0
  obtain ⟨v, w, rfl, ha, hb⟩ := ha0.two
  unfold minD2 at hf
  split at hf
  · cases hf
    exact ⟨_, _, by rw [ha.int, hb.int], q _ _ Same.rfl' (.int _)⟩
  · cases hf
@[simp] def listD : PyData → Option PyData
  | .list xs => some (.list xs)
  | .tuple xs => some (.list xs)
  | _ => none
@[simp] def tupleD : PyData → Option PyData
  | .list xs => some (.tuple xs)
  | .tuple xs => some (.tuple xs)
  | _ => none
theorem c_list : CallR X (.type "list") (rnF X.K (one listD)) := CallR_of call_list_of fun xs H Q h => by
  obtain ⟨O, ds, z, k, ha0, hf0, q⟩ := h
  obtain ⟨d, rfl, hf⟩ := one_some hf0
  obtain ⟨v, rfl, ha⟩ := ha0.one
  unfold listD at hf
  split at hf
  · cases hf
    obtain ⟨p, vs, rfl, a1, a2⟩ := ha.list
    exact ⟨p, vs, rfl, .inl a1.sq, fun l hl => q _ _ (same_new hl) hl (own_lst k hl a2)⟩
  · cases hf
    obtain ⟨p, vs, rfl, a1, a2⟩ := ha.tuple
    exact ⟨p, vs, rfl, .inr a1, fun l hl => q _ _ (same_new hl) hl (own_lst k hl a2)⟩
  · cases hf
theorem c_tuple : CallR X (.type "tuple") (rn X.K (one tupleD)) := CallR_of call_tupleX fun xs H Q h => by
  obtain ⟨O, ds, z, k, ha0, hf0, q⟩ := h
  obtain ⟨d, rfl, hf⟩ := one_some hf0
  obtain ⟨v, rfl, ha⟩ := ha0.one
  unfold tupleD at hf
  split at hf
  · cases hf
    obtain ⟨p, vs, rfl, a1, a2⟩ := ha.list
    exact ⟨p, vs, rfl, .inl ⟨a1.sq, fun l ob hl ho => q _ _ (same_new hl) (dd_tup k hl ho a2)⟩⟩
  · cases hf
    obtain ⟨p, vs, rfl, a1, a2⟩ := ha.tupleE
    exact ⟨p, vs, rfl, .inr ⟨a1.sq, q _ _ Same.rfl' (.tup a1 a2)⟩⟩
  · cases hf
@[simp] def mIs (f : PyData → Bool) (ma : M Opd) : M Opd := M.bind ma fun x => M.bind (getM x) fun d => M.ret (.d (.bool (f d)))
def IsT (T : String) (f : PyData → Bool) : Prop := ∀ (prog : Program) (w : World) (A : Around) (E : Value → Shared → Prop) (s : Shared) (v : Value) (d : PyData) (as : List Addr) (Q : Value → Shared → Prop), Reads s.heap v d as → (∀ tk, s.toks ≤ tk → Q (.bool (f d)) { s with toks := tk }) →
  wpAny (model prog w) A (call (.builtin "isinstance") [v, .type T]) Q E s
theorem isT_int : IsT "int" PyData.isInt := fun _ _ _ _ _ _ _ _ _ r h => PySem.W.isinstance_int_data r h
theorem isT_bool : IsT "bool" PyData.isBool := fun _ _ _ _ _ _ _ _ _ r h => PySem.W.isinstance_bool_data r h
theorem isT_tuple : IsT "tuple" PyData.isTuple := fun _ _ _ _ _ _ _ _ _ r h => PySem.W.isinstance_tuple_data r h
def rIs (K : PySem.W.Frag) (T : String) (f : PyData → Bool) : List V → Hp → VK → Prop := fun xs H Q => ∃ O d v, xs = [v, .ty T] ∧ Arg K H O v d ∧ Q (.bl (f d)) H
theorem c_is {T : String} {f : PyData → Bool} (h : IsT T f) : CallR X (.builtin "isinstance") (rIs X.K T f) := by
  intro pins s σ H xs us Q I r hh
  obtain ⟨O, d, v, rfl, ha, q⟩ := hh
  obtain ⟨u, w, rfl, r1, r2⟩ := vals2 r
  cases (show w = Value.type T from r2)
  obtain ⟨as, rd, _⟩ := ha.reads I r1
  exact h _ _ _ _ _ _ _ _ _ rd fun tk _ => ⟨.bl (f d), H, I.tok _, rfl, q⟩
theorem d_isi {T : String} {f : PyData → Bool} {xT : Str} {p p2 pos : Pos} {e : Expr} {ma : M Opd} (h : IsT T f) (hg : Gl X "isinstance") (hm : X.mg "isinstance" = none) (hgT : Gl X xT) (hmT : X.mg xT = none) (hvT : bootBuiltins xT = some (.type T)) (he : PE X e (tD X.K g ma))
    (hnT : xT ≠ "__name__" := by decide) (hdT : (xT == ("__debug__" : Str)) = false := by decide) (hv : bootBuiltins "isinstance" = some (.builtin "isinstance") := by decide +kernel)
    (h1 : starEach (e :: [.Name xT p2]) X.env = (false, eval e X.env) :: starEach [.Name xT p2] X.env := by rfl) (h2 : starEach [.Name xT p2] X.env = (false, eval (.Name xT p2) X.env) :: starEach [] X.env := by rfl) (h3 : (backTo pos (starEach [.Name xT p2] X.env)).any (·.1) = false := by rfl) :
    PE X (.Call (.Name "isinstance" p) [e, .Name xT p2] [] pos) (tD X.K g (mIs f ma)) :=
  PE_of (pe_callB (c_is h) hg hm hv (pa_cons he (pa_cons (pe_bltn (v := .ty T) hgT hmT hvT rfl hnT hdT) pa_nil h2) h1) (by decide) (by decide) h1 h3) fun σ H Q q => by
  obtain ⟨sd, O, R, a⟩ := q
  refine ⟨sd, O, R, a.bind.mono fun x sd1 H1 _ e1 R1 h1 v hv => ?_⟩
  obtain ⟨d, g1, h3⟩ := h1.get
  exact ⟨O, d, v, rfl, hv.arg R1 g1, h3.now R1 _ (.bl _)⟩
def mixO (d : PyData) : Bool := !d.hasDict || !hasL d
def mixT (d : PyData) : Bool := mixO d || (match d with | .tuple xs => xs.all mixO | _ => false)
def showOk (d : PyData) : Bool := d.showable && decide (d.depth ≤ 60) && decide (d.shown.length ≤ sizeLine) && mixT d
def reprD (d : PyData) : Option PyData := if showOk d then some (.str d.shown) else none
theorem repr_data {prog : Program} {w : World} {A : Around} {E : Value → Shared → Prop} {s : Shared} {v : Value} {d : PyData} {as : List Addr} {Q : Value → Shared → Prop} (r : Reads s.heap v d as) (h1 : d.showable = true) (h2 : d.hasDict = true → sysModules ∉ as) (hg : A.guards = some [])
    (hu : A.units + (d.depth + 1) < cLine) (hz : d.shown.length ≤ sizeLine) (hQ : ∀ h' u tk, (∀ b o, s.heap.get? b = some o → h'.get? b = some o) → Q (.str d.shown u) { s with heap := h', toks := tk }) : wpAny (model prog w) A (call (.builtin "repr") [v]) Q E s := by
  have here : Q (.str d.shown s.toks) { s with toks := s.toks + 1 } := hQ s.heap s.toks (s.toks + 1) fun _ _ e => e
  cases r with
  | none => exact PySem.P.repr_of_none (by simpa only [PyData.shown] using here)
  | bool b => exact PySem.P.repr_of_bool (by simpa only [PyData.shown] using here)
  | int i t => exact PySem.P.repr_of_int (by simpa [PyData.showable] using h1) (by simpa only [PyData.shown] using here)
  | str x t => exact PySem.P.repr_of_str (by simpa only [PyData.shown] using here) (by simpa only [PyData.shown] using hz)
  | list a b c e => exact repr_of_reads' (.list a b c e) h1 h2 hg hu (fun _ _ e => e) hQ hz
  | tuple a b c e => exact repr_of_reads' (.tuple a b c e) h1 h2 hg hu (fun _ _ e => e) hQ hz
  | dict a b c e f => exact repr_of_reads' (.dict a b c e f) h1 h2 hg hu (fun _ _ e => e) hQ hz
theorem Ds.repr {pins : List (Addr × Obj)} {σ : L2.St} {H : Hp} {s : Shared} {O : Ow} (I : Inv X pins σ H s) : ∀ (ds : List PyData) (vs : List V) (us : List Value), Ds X.K H O vs ds → Vals vs us → PyData.showableAll ds = true → (∀ d ∈ ds, mixO d = true) → (∀ t ∈ PyData.shownAll ds, t.length ≤ sizeLine) →
    ∃ as bs, ReadsAll s.heap us ds as ∧ ReadAtMost s.heap (PyData.depthAll ds) bs ∧ ReprAllK X.prog X.w bs s.heap (PyData.depthAll ds) us (PyData.shownAll ds)
  | [], _, _, h, r, _, _, _ => by
    cases h; cases r
    refine ⟨_, [], .nil, (fun _ z => nomatch z), ?_⟩
    simp only [PyData.shownAll]
    exact .nil
  | d :: ds, _, _, h, r, hs, hm, hz => by
    cases h with
    | cons h1 h2 =>
      cases r with
      | cons r1 r2 =>
        simp only [PyData.showableAll, Bool.and_eq_true] at hs
        simp only [PyData.shownAll] at hz
        obtain ⟨as, q1, n1⟩ := Dd.reads I d _ _ h1 r1
        obtain ⟨cs, bs, q2, c2, k2⟩ := Ds.repr I ds _ _ h2 r2 hs.2 (fun x hx => hm x (List.mem_cons_of_mem _ hx)) (fun t ht => hz t (List.mem_cons_of_mem _ ht))
        have hd := hm d List.mem_cons_self
        obtain ⟨b1, c1, k1⟩ := ReprK.of_reads (prog := X.prog) (w := X.w) q1 hs.1 (fun e => n1 (by
          unfold mixO at hd
          rw [e] at hd
          simpa using hd)) (hz _ List.mem_cons_self)
        refine ⟨as ++ cs, b1 ++ bs, .cons q1 q2, ?_, ?_⟩
        · simp only [PyData.depthAll]
          exact (c1.mono (Nat.le_max_left _ _)).append (c2.mono (Nat.le_max_right _ _))
        · simp only [PyData.depthAll, PyData.shownAll]
          exact .cons ((k1.more fun b h => List.mem_append_left _ h).level_le (Nat.le_max_left _ _)) (k2.more_le (fun b h => List.mem_append_right _ h) (Nat.le_max_right _ _))
theorem c_repr (hG : X.A.guards = some []) (hu : X.A.units + 64 < cLine) : CallR X (.builtin "repr") (rn X.K (one reprD)) := by
  intro pins s σ H xs us Q I r h
  obtain ⟨O, ds, z, k, ha0, hf0, q⟩ := h
  obtain ⟨d, rfl, hf⟩ := one_some hf0
  obtain ⟨v, rfl, ha⟩ := ha0.one
  obtain ⟨hc, rfl⟩ := ite_some hf
  unfold showOk at hc
  simp only [Bool.and_eq_true, decide_eq_true_eq] at hc
  obtain ⟨⟨⟨c1, c2⟩, c3⟩, c4⟩ := hc
  obtain ⟨u, rfl, rx⟩ := vals1 r
  obtain ⟨as, rd, hn⟩ := ha.reads I rx
  unfold mixT at c4
  rw [Bool.or_eq_true] at c4
  have fin : ∀ (h' : Heap) (u : Tok) (tk : Nat), (∀ b o, s.heap.get? b = some o → h'.get? b = some o) → EP X pins σ Q (.str d.shown u) { s with heap := h', toks := tk } := fun h' u tk hk =>
    ⟨.str d.shown, H, I.kept (t' := tk) hk, ⟨u, rfl⟩, q _ _ Same.rfl' (.str _)⟩
  rcases c4 with c4 | c4
  · have hs : d.hasDict = true → sysModules ∉ as := fun e => hn (by
      unfold mixO at c4
      rw [e] at c4
      simpa using c4)
    exact repr_data rd c1 hs hG (by omega) c3 fin
  · cases d with
    | tuple ds =>
      obtain ⟨p, vs, rfl, sq, da⟩ := ha.tuple
      cases rx
      obtain ⟨its, rv, ⟨o, ho, hc, n, hd⟩, _⟩ := I.tuple sq
      simp only [PyData.shown] at c3 fin
      simp only [PyData.showable] at c1
      simp only [PyData.depth] at c2
      obtain ⟨as', bs, q1, q2, q3⟩ := Ds.repr I ds _ _ da rv c1 (List.all_eq_true.mp c4) fun t ht => Nat.le_trans (tupleText_mem_le ht) c3
      have rp : Reads s.heap (.ref p) (.tuple ds) as' := .tuple ho hc hd (by simpa using q1)
      have na : p ∉ bs := not_mem_of_deeper rp (by simp only [PyData.depth]; omega) q2
      exact call_repr_slot (by omega) ⟨o, ho, hc⟩ F.slot_tuple_repr (call_tuple_reprK ho hc hd na (by simpa using q3) hG (fun b _ => Clear.nil b) (by show X.A.units + 1 + (PyData.depthAll ds + 1) < cLine; omega) (fun _ _ e => e) (fun h' u tk hk => ⟨_, _, rfl, fin h' u tk hk⟩) c3)
    | _ => cases c4
def boolsOf : List PyData → Option (List Bool)
  | [] => some []
  | .bool b :: ds => (boolsOf ds).map fun bs => b :: bs
  | _ => none
def allD : PyData → Option PyData
  | .list ds => (boolsOf ds).map fun bs => .bool (bs.all id)
  | _ => none
theorem bools_vs : ∀ {ds : List PyData} {vs : List V} {bs : List Bool}, Ds K H O vs ds → boolsOf ds = some bs → vs = bs.map V.bl
  | [], _, _, h, e => by
    cases h
    cases e
    rfl
  | d :: ds, _, _, h, e => by
    cases h with
    | cons h1 h2 =>
      cases d with
      | bool b =>
        obtain ⟨bs', e1, rfl⟩ := Option.map_eq_some_iff.mp e
        cases h1
        rw [bools_vs h2 e1]
        rfl
      | _ => cases e
theorem c_all (hc : X.calm = true) : CallR X (.builtin "all") (rn X.K (one allD)) := CallR_of (cr_all hc) fun xs H Q h => by
  obtain ⟨O, ds, z, k, ha0, hf0, q⟩ := h
  obtain ⟨d, rfl, hf⟩ := one_some hf0
  obtain ⟨v, rfl, ha⟩ := ha0.one
  unfold allD at hf
  split at hf
  · obtain ⟨bs, e1, rfl⟩ := Option.map_eq_some_iff.mp hf
    obtain ⟨p, vs, rfl, a1, a2⟩ := ha.list
    have e2 := bools_vs a2 e1
    subst e2
    exact ⟨p, bs, rfl, a1.sq, q _ _ Same.rfl' (.bl _)⟩
  · cases hf
end
end VS
namespace VS
open PySem L2
variable [TabL]
section
open PySem.W PyProof.Rows
variable {prog : Program} {w : World} {A : Around} {E : Value → Shared → Prop} {s : Shared}
theorem collect_row {T : String} (hT : T = "list" ∨ T = "tuple") {l : Addr} {vs : List Value} {o : Obj} {n : Nat} {Q : List Value → Shared → Prop} (ho : s.heap.get? l = some o) (hc : o.cls = .type T) (hd : o.data = .seq vs.toArray n) (hL : vs.length ≤ sizeLine)
    (h : Q vs { s with heap := (s.heap.push (seqObj "list" #[] 0)).update s.heap.objs.size (Obj.mapSeq (· ++ vs.toArray)) }) :
    wpAny (model prog w) A (collect (.ref l)) Q E s := by
  let hp := s.heap.push (seqObj "list" #[] 0)
  have eo : hp.get? l = some o := Heap.get?_push_of_some _ ho
  have en : hp.get? s.heap.objs.size = some (seqObj "list" #[] 0) := Heap.get?_push_size _ rfl
  unfold collect
  refine wpAny_bind (wpAny_runValue (codeAny_builtin entry_proto_collect' ?_))
  show wpAny _ _ (do again (.builtin "list.__iadd__" ⟨[← newList [], .ref l], []⟩)) _ _ s
  refine wpAny_bind (wpAny_newList (wpAny_pure ⟨Code.quiet_builtin _ (by decide +kernel), codeAny_builtin entry_list_iadd' ?_⟩))
  show wpAny _ _ (Builtin.List.listExtendWith (.ref s.heap.objs.size) (.ref l) (.ref s.heap.objs.size)) _ _ { s with heap := hp }
  unfold Builtin.List.listExtendWith
  refine wpAny_bind (wpAny_typeOf (T := T) ⟨o, eo, hc⟩ ?_)
  rw [if_pos (by rcases hT with rfl | rfl <;> simp)]
  refine wpAny_bind (listItems_at eo hd ?_)
  refine wpAny_bind (listItems_at (xs := #[]) (n := 0) en rfl ?_)
  rw [if_neg (by simp)]
  have hsz : (#[] ++ vs.toArray).size ≤ sizeLine + 1 := by
    simp only [Array.size_append, List.size_toArray, List.length_nil]
    omega
  refine wpAny_bind (listUpdate_at (xs := #[]) (n := 0) en rfl ?_ (Nat.zero_le _) hsz)
  refine wpAny_pure ?_
  show wpAny (model prog w) A (load s.heap.objs.size >>= _) Q E _
  refine wpAny_bind (wpAny_load (get?_update_seq en _) ?_)
  have ev : ((#[] : Array Value) ++ vs.toArray).toList = vs := by simp
  show wpAny _ _ (pure ((#[] : Array Value) ++ vs.toArray).toList) Q E _
  rw [ev]
  exact wpAny_pure h
theorem sorted_row {T : String} (hT : T = "list" ∨ T = "tuple") {l : Addr} {vs : List Value} {o : Obj} {n : Nat} {β : Type} {bs : List β} {enc : β → PyData} {R : Value → β → Prop} {Q : Value → Shared → Prop} (ho : s.heap.get? l = some o) (hc : o.cls = .type T) (hd : o.data = .seq vs.toArray n)
    (e : EachIs R vs bs) (er : EachIs (fun v b => ∃ as, Reads s.heap v (enc b) as) vs bs) (hal : AllAlike (bs.map enc)) (hk : Sortable (bs.map enc)) (hL : bs.length ≤ sizeLine)
    (hu : ∀ b, b ∈ bs → A.units + 2 + (enc b).depth < cLine) (h : ∀ out, out.length = bs.length → EachIs R out (bs.mergeSort (dataLe false enc)) → Q (.ref (s.heap.objs.size + 1)) { s with heap := sortedAll s.heap vs (List.toArray out) }) :
    wpAny (model prog w) A (call (.builtin "sorted") [.ref l]) Q E s := by
  have hv : vs.length ≤ sizeLine := by
    rw [e.length]
    exact hL
  have er' : EachIs (fun v b => ∃ as, Reads (sortingHeap (copyHeap s.heap vs) (s.heap.objs.size + 1) vs) v (enc b) as) vs bs := er.mono fun _ _ ⟨as, r⟩ => ⟨as, PyProof.Rows.Reads.keeps (fun _ _ => sorting_copy_old) r⟩
  have ha1 : argsOk "sorted" ⟨[.ref l], []⟩ := args_sorted1 _
  refine call_function_entry_kw (kw := []) kind_sorted plain_sorted entry_sorted ha1 ?_
  unfold Builtin.«sorted»
  refine wpAny_bind (m := checkCount "sorted" 1 1 _) (wpAny_pure ?_)
  refine wpAny_bind (collect_row hT ho hc hd hv ?_)
  refine wpAny_bind (wpAny_newList ?_ hv)
  have hsz : ((s.heap.push (seqObj "list" #[] 0)).update s.heap.objs.size (Obj.mapSeq (· ++ vs.toArray))).objs.size = s.heap.objs.size + 1 := by
    rw [Heap.size_update, size_push']
  show wpAny _ _ _ _ _ { s with heap := copyHeap s.heap vs }
  rw [hsz]
  refine wpAny_bind (wpAny_holding (wpAny_call_entry_kw (kw := []) slot_list_sort ⟨_, copyHeap_at s.heap vs, rfl⟩ entry_list_sort ?body (args_list_sort _)))
  case body =>
    show wpAny (model prog w) A.in1.in1 (Builtin.«list.sort» ⟨[.ref (s.heap.objs.size + 1)], []⟩) _ _ _
    refine list_sort_vals (s := { s with heap := copyHeap s.heap vs }) (κ := dataKind (sortingHeap (copyHeap s.heap vs) (s.heap.objs.size + 1) vs) (bs.map enc)) (copyHeap_at s.heap vs) ?_ hv ?_
    · exact SortsAt.data (s := { s with heap := sortingHeap (copyHeap s.heap vs) (s.heap.objs.size + 1) vs }) (each_map (R := fun v d => ∃ as, Reads (sortingHeap (copyHeap s.heap vs) (s.heap.objs.size + 1) vs) v d as) enc er') hal hk (bound_map hu)
    · exact ⟨_, rfl, wpAny_pure ⟨_, rfl, h _ (by rw [sortVals_length false rfl]; exact e.length) (sortVals_data false e er' hal)⟩⟩
end
section
variable {X : Cx} {g : Sg}
def sortD (ds : List PyData) : List PyData := ds.mergeSort (PySem.W.dataLe false id)
def isTup1 : PyData → Bool
  | .tuple (_ :: _) => true
  | _ => false
def isOther : PyData → Bool
  | .none => false
  | .tuple _ => false
  | _ => true
def sortOk (ds : List PyData) : Bool := (ds.all fun d => ds.all fun e => PySem.W.alike d e) && (ds.all isTup1 || ds.all isOther) && (ds.all fun d => decide (d.depth ≤ 50)) && decide (ds.length ≤ sizeLine)
def sortedD : PyData → Option PyData
  | .list ds => if sortOk ds then some (.list (sortD ds)) else none
  | .tuple ds => if sortOk ds then some (.list (sortD ds)) else none
  | _ => none
theorem sortOk_of {ds : List PyData} (h : sortOk ds = true) : PySem.W.AllAlike ds ∧ PySem.W.Sortable ds ∧ (∀ d ∈ ds, d.depth ≤ 50) ∧ ds.length ≤ sizeLine := by
  unfold sortOk at h
  simp only [Bool.and_eq_true, Bool.or_eq_true, List.all_eq_true, decide_eq_true_eq] at h
  obtain ⟨⟨⟨h1, h2⟩, h3⟩, h4⟩ := h
  refine ⟨fun d hd e he => h1 d hd e he, ?_, h3, h4⟩
  rcases h2 with h2 | h2
  · refine .inl fun d hd => ?_
    have q := h2 d hd
    unfold isTup1 at q
    split at q
    · exact ⟨_, _, rfl⟩
    · cases q
  · refine .inr fun d hd => ?_
    have q := h2 d hd
    refine ⟨fun e => ?_, fun xs e => ?_⟩
    · rw [e] at q
      cases q
    · rw [e] at q
      cases q
theorem each_of {pins : List (Addr × Obj)} {σ : L2.St} {H : Hp} {s : Shared} {O : Ow} (I : L2.Inv X pins σ H s) : ∀ {ds : List PyData} {vs : List V} {us : List Value}, Ds X.K H O vs ds → Vals vs us →
    PySem.W.EachIs (fun u (b : V × PyData) => RelV b.1 u ∧ Dd X.K H O b.1 b.2) us (vs.zip ds) ∧ PySem.W.EachIs (fun u (b : V × PyData) => ∃ as, Reads s.heap u b.2 as) us (vs.zip ds) ∧ (vs.zip ds).map (·.2) = ds ∧ (vs.zip ds).map (·.1) = vs
  | [], _, _, h, r => by
    cases h; cases r
    exact ⟨.nil, .nil, rfl, rfl⟩
  | d :: ds, _, _, h, r => by
    cases h with
    | cons h1 h2 =>
      cases r with
      | cons r1 r2 =>
        obtain ⟨a, b, c, e⟩ := each_of I h2 r2
        obtain ⟨as, q, _⟩ := Dd.reads I d _ _ h1 r1
        exact ⟨.cons ⟨r1, h1⟩ a, .cons ⟨as, q⟩ b, by simp [c], by simp [e]⟩
theorem out_of {K : PySem.W.Frag} {H : Hp} {O : Ow} : ∀ {out : List Value} {zs : List (V × PyData)}, PySem.W.EachIs (fun u (b : V × PyData) => RelV b.1 u ∧ Dd K H O b.1 b.2) out zs → Vals (zs.map (·.1)) out ∧ Ds K H O (zs.map (·.1)) (zs.map (·.2))
  | _, _, .nil => ⟨.nil, .nil⟩
  | _, _, .cons h t => by
    obtain ⟨a, b⟩ := out_of t
    exact ⟨.cons h.1 a, .cons h.2 b⟩
theorem sortD_zip (zs : List (V × PyData)) : (zs.mergeSort (PySem.W.dataLe false (·.2))).map (·.2) = sortD (zs.map (·.2)) := by
  unfold sortD
  exact List.map_mergeSort fun _ _ _ _ => rfl
theorem c_sorted (hu : X.A.units + 64 < cLine) : CallR X (.builtin "sorted") (rnF X.K (one sortedD)) := by
  intro pins s σ H xs us Q I r h
  obtain ⟨O, ds0, z, k, ha0, hf0, q⟩ := h
  obtain ⟨d, rfl, hf⟩ := one_some hf0
  obtain ⟨v, rfl, ha⟩ := ha0.one
  have fin : ∀ (T : String), (T = "list" ∨ T = "tuple") → ∀ (p : Addr) (o : Obj) (n : Nat) (ds : List PyData) (vs : List V) (its : List Value), v = .ref p → s.heap.get? p = some o → o.cls = .type T → o.data = .seq its.toArray n → Vals vs its → Ds X.K H O vs ds → sortOk ds = true → z = .list (sortD ds) →
      wpAny (model X.prog X.w) X.A (call (.builtin "sorted") us) (EP X pins σ Q) X.xe s := fun T hT p o n ds vs its ev ho hc hd rv hds hok ez => by
    subst ev
    subst ez
    obtain ⟨c1, c2, c3, c4⟩ := sortOk_of hok
    obtain ⟨e1, e2, e3, e4⟩ := each_of I hds rv
    rw [Vals.ref1 r]
    have hlen : (vs.zip ds).length = ds.length := by
      rw [← List.length_map (f := fun z : V × PyData => z.2), e3]
    refine sorted_row hT ho hc hd (enc := fun b : V × PyData => b.2) e1 e2 (by rw [e3]; exact c1) (by rw [e3]; exact c2) (by rw [hlen]; exact c4) (fun b hb => ?_) fun out ho2 hout => ?_
    · have : b.2 ∈ ds := by
        rw [← e3]
        exact List.mem_map_of_mem hb
      have := c3 _ this
      omega
    · obtain ⟨ep, he'⟩ := PyProof.Rows.sortedAll_at s.heap its out.toArray
      obtain ⟨w1, w2⟩ := out_of hout
      rw [sortD_zip, e3] at w2
      have hz : (((vs.zip ds).mergeSort (PySem.W.dataLe false (·.2))).map (·.1)).length ≤ sizeLine := by
        rw [List.length_map, List.length_mergeSort, hlen]
        exact c4
      have hn : H (s.heap.objs.size + 1) = none := I.hok.fresh (Nat.le_succ _)
      exact ⟨.ref _, upd H (s.heap.objs.size + 1) (.lst _), I.laid (t' := s.toks) (fun _ _ => PyProof.Rows.sortedAll_old) (Nat.le_succ _) ⟨hz, out, ep, w1, he'⟩, rfl, q _ _ (same_new hn) hn (own_lst k hn w2)⟩
  unfold sortedD at hf
  split at hf
  · obtain ⟨hc, rfl⟩ := ite_some hf
    obtain ⟨p, vs, rfl, a1, a2⟩ := ha.list
    obtain ⟨its, rv, ⟨o, n, e1, e2, _, e3⟩, _⟩ := I.list a1.sq
    exact fin "list" (.inl rfl) p o n _ vs its rfl e1 e2 e3 rv a2 hc rfl
  · obtain ⟨hc, rfl⟩ := ite_some hf
    obtain ⟨p, vs, rfl, a1, a2⟩ := ha.tuple
    obtain ⟨its, rv, ⟨o, e1, e2, n, e3⟩, _⟩ := I.tuple a1
    exact fin "tuple" (.inr rfl) p o n _ vs its rfl e1 e2 e3 rv a2 hc rfl
  · cases hf
def rgL (a b : Int) : List PyData := (List.range (b - a).toNat).map fun i => .int (a + (i : Nat))
def rgOkB (a b : Int) : Bool := decide (-(2 ^ 62) ≤ a) && decide (a < 2 ^ 62) && decide (-(2 ^ 62) ≤ b) && decide (b < 2 ^ 62) && decide ((b - a).toNat ≤ 2 ^ 24)
theorem rgOk_of {a b : Int} (h : rgOkB a b = true) : RgOk a b := by
  unfold rgOkB at h
  simp only [Bool.and_eq_true, decide_eq_true_eq] at h
  exact ⟨h.1.1.1.1, h.1.1.1.2, h.1.1.2, h.1.2, h.2⟩
theorem rg_ds {K : PySem.W.Frag} {H : Hp} {O : Ow} (a b : Int) : Ds K H O (rgV a b) (rgL a b) := by
  unfold rgV rgL
  generalize List.range (b - a).toNat = l
  induction l with
  | nil => exact .nil
  | cons x l ih => exact .cons (.int _) ih
def tR (K : PySem.W.Frag) (g : Sg) (m : M (Int × Int)) : L2.St → Hp → (Int → Int → Hp → Prop) → Prop := fun σ H Q => ∃ sd O, Rep K H O σ sd ∧ Aft K g O σ H (m sd) fun b _ H' => Q b.1 b.2 H'
@[simp] def mI (m : M Opd) : M Int := M.bind m fun x => M.bind (getM x) fun d => match d with
  | .int i => M.ret i
  | _ => M.stk
@[simp] def mR1 (m : M Opd) : M (Int × Int) := M.bind (mI m) fun i => M.ret (0, i)
@[simp] def mR2 (m m' : M Opd) : M (Int × Int) := M.bind m fun x => M.bind m' fun y => M.bind (getM x) fun d => M.bind (getM y) fun e => match d, e with
  | .int i, .int j => M.ret (i, j)
  | _, _ => M.stk
theorem PRg_of {e : Expr} {t t' : L2.St → Hp → (Int → Int → Hp → Prop) → Prop} (h : PRg X e t) (w : ∀ σ H Q, t' σ H Q → t σ H Q) : PRg X e t' := fun pins s σ H R I q => h pins s σ H R I (w σ H R q)
theorem bind_assoc {α β γ : Type} (m : M α) (f : α → M β) (k : β → M γ) : M.bind (M.bind m f) k = M.bind m fun a => M.bind (f a) k := by
  funext s
  unfold M.bind
  cases m s <;> rfl
theorem g_1 {a : Expr} {ma : M Opd} {p pos : Pos} (hg : Gl X "range") (hm : X.mg "range" = none) (ha : PE X a (tD X.K g ma)) (na : starEach [a] X.env = (false, eval a X.env) :: starEach [] X.env := by rfl) : PRg X (.Call (.Name "range" p) [a] [] pos) (tR X.K g (mR1 ma)) :=
  PRg_of (prg_1 hg hm ha na) fun σ H Q h => by
  obtain ⟨sd, O, R, a⟩ := h
  unfold mR1 mI at a
  rw [bind_assoc] at a
  refine ⟨sd, O, R, a.bind.mono fun x sd1 H1 _ e1 R1 h1 v hv => ?_⟩
  simp only [bind_assoc] at h1
  obtain ⟨d, g1, h3⟩ := h1.get
  split at h3
  · exact ⟨_, (hv.arg R1 g1).int, h3.now R1⟩
  · exact False.elim h3
@[simp] def mLR (m : M (Int × Int)) : M PyData := M.bind m fun r => if rgOkB r.1 r.2 then M.ret (.list (rgL r.1 r.2)) else M.stk
@[simp] def mTR (m : M (Int × Int)) : M Opd := M.bind m fun r => if rgOkB r.1 r.2 then M.ret (.d (.tuple (rgL r.1 r.2))) else M.stk
theorem f_listRg {e : Expr} {m : M (Int × Int)} {p pos : Pos} (hc : X.calm = true) (hg : Gl X "list") (hm : X.mg "list" = none) (he : PRg X e (tR X.K g m)) (na : starEach [e] X.env = (false, eval e X.env) :: starEach [] X.env := by rfl) : PE X (.Call (.Name "list" p) [e] [] pos) (tF X.K g (mLR m)) :=
  PE_of (pe_listRg hc hg hm he na) fun σ H Q h => by
  obtain ⟨sd, O, R, a⟩ := h
  refine ⟨sd, O, R, a.bind.mono fun r sd1 H1 _ e1 R1 h1 => ?_⟩
  split at h1
  · rename_i hr
    exact ⟨rgOk_of hr, fun p hp => AftF.end h1 R1 p _ (same_new hp) hp (own_lst R1.kind hp (rg_ds _ _))⟩
  · exact False.elim h1
theorem d_tupRg {e : Expr} {m : M (Int × Int)} {p pos : Pos} (hc : X.calm = true) (hg : Gl X "tuple") (hm : X.mg "tuple" = none) (he : PRg X e (tR X.K g m)) (na : starEach [e] X.env = (false, eval e X.env) :: starEach [] X.env := by rfl) : PE X (.Call (.Name "tuple" p) [e] [] pos) (tD X.K g (mTR m)) :=
  PE_of (pe_tupRgX hc hg hm he na) fun σ H Q h => by
  obtain ⟨sd, O, R, a⟩ := h
  refine ⟨sd, O, R, a.bind.mono fun r sd1 H1 _ e1 R1 h1 => ?_⟩
  split at h1
  · rename_i hr
    exact ⟨rgOk_of hr, fun p ob hp ho => h1 _ (Ext.new hp) (R1.same (same_new hp)) _ (dd_tup R1.kind hp ho (rg_ds _ _))⟩
  · exact False.elim h1
end
end VS
namespace VS
open PySem L2
variable [TabL]
section
variable {X : Cx} {g : Sg} {a b c : Expr} {pos : Pos} {ma mb mc : M Opd} {f f' : PyData → PyData → Option PyData}
theorem Aft.grow {α : Type} {K : PySem.W.Frag} {O : Ow} {σ : L2.St} {H H1 : Hp} {r : Res α} {P : α → Sd → Hp → Prop} (h : Aft K g O σ H r P) (e : Ext O H H1) : Aft K g O σ H1 r P := by
  cases r with
  | ok a sd' => exact fun H' e' R => h H' (e.trans e') R
  | exc x sd' => exact fun c d H' e' R => h c d H' (e.trans e') R
  | stk => exact h
@[simp] def truthD : PyData → Option Bool
  | .none => some false
  | .bool b => some b
  | .int i => some (i != 0)
  | .str y => if y.length ≤ sizeLine then some ((y.length : Int) != 0) else none
  | .list xs => some (!xs.isEmpty)
  | .tuple xs => some (!xs.isEmpty)
  | .dict _ => none
@[simp] def boolD : PyData → Option Bool
  | .bool b => some b
  | _ => none
@[simp] def mTest (m : M Opd) : M Bool := M.bind m fun x => M.bind (getM x) fun d => M.of (truthD d)
@[simp] def mTB (m : M Opd) : M Bool := M.bind m fun x => M.bind (getM x) fun d => M.of (boolD d)
theorem Ds.empty {K : PySem.W.Frag} {H : Hp} {O : Ow} {vs : List V} {ds : List PyData} (h : Ds K H O vs ds) : vs.isEmpty = ds.isEmpty := by
  cases h <;> rfl
theorem t_val (ha : PE X a (tD X.K g ma)) (he : ∀ whole, isTrue a X.env whole = (do let v ← whole; standAt a.pos; holding [v] (truthy v)) := by intro _; rfl) : PT X a (tT X.K g (mTest ma)) := PT_of (pt_truth ha he) fun σ H Q h => by
  obtain ⟨sd, O, R, h0⟩ := h
  refine ⟨sd, O, R, h0.bind.mono fun x sd1 H1 _ e1 R1 h1 v hv => ?_⟩
  obtain ⟨d, g1, h3⟩ := h1.get
  obtain ⟨k, g2, h4⟩ := h3.of1
  refine ⟨k, ?_, h4.now R1⟩
  have A1 := hv.arg R1 g1
  unfold truthD at g2
  split at g2
  · cases g2
    rw [A1.none]
    exact rfl
  · cases g2
    rw [A1.bool]
    exact rfl
  · cases g2
    rw [A1.int]
    exact rfl
  · split at g2
    · cases g2
      rw [A1.str]
      exact ⟨by assumption, rfl⟩
    · cases g2
  · cases g2
    obtain ⟨p, vs, rfl, a1, a2⟩ := A1.list
    exact .inl ⟨vs, a1.sq, by rw [a2.empty]⟩
  · cases g2
    obtain ⟨p, vs, rfl, a1, a2⟩ := A1.tuple
    exact .inr (.inl ⟨vs, a1, by rw [a2.empty]⟩)
  · cases g2
theorem tB_of {K : PySem.W.Frag} {m : M Opd} {σ : L2.St} {H : Hp} {QB : Bool → Hp → Prop} (h : tT K g (mTB m) σ H QB) : tTest (tD K g m) σ H QB := by
  obtain ⟨sd, O, R, h0⟩ := h
  refine ⟨sd, O, R, h0.bind.mono fun x sd1 H1 _ e1 R1 h1 v hv => ?_⟩
  obtain ⟨d, g1, h3⟩ := h1.get
  obtain ⟨k, g2, h4⟩ := h3.of1
  have A1 := hv.arg R1 g1
  unfold boolD at g2
  split at g2
  · cases g2
    exact ⟨k, A1.bool, h4.now R1⟩
  · cases g2
theorem t_cmp {op : CmpOp} (ho : OpR X (compareOp op) (r2 X.K f)) (ha : PE X a (tD X.K g ma)) (hb : PE X b (tD X.K g mb)) (hm : behindInMarks op b = false := by first | exact nomark _ | rfl) : PT X (.Compare a [op] [b] pos) (tT X.K g (mTB (m2 f ma mb))) :=
  PT_of (pt_cmpR ho ha hb hm) fun σ H Q h => t2_of (tB_of h)
@[simp] def mChain (f f' : PyData → PyData → Option PyData) (ma mb mc : M Opd) : M Opd := M.bind ma fun x => M.bind mb fun y => M.bind (getM x) fun d => M.bind (getM y) fun e => M.bind (M.of ((f d e).bind boolD)) fun k =>
  if k then M.bind mc fun w => M.bind (getM y) fun e' => M.bind (getM w) fun r => M.bind (M.of (f' e' r)) fun z => M.ret (.d z) else M.ret (.d (.bool false))
theorem chain_of {K : PySem.W.Frag} {σ : L2.St} {H : Hp} {Q : VK} (h : tD K g (mChain f f' ma mb mc) σ H Q) : tChain (r2 K f) (r2 K f') (tD K g ma) (tD K g mb) (tD K g mc) σ H Q := by
  obtain ⟨sd, O, R, a⟩ := h
  refine two_of R a fun x y v u sd2 H2 e2 R2 hv hu h2 => ?_
  obtain ⟨d, g1, h3⟩ := h2.get
  obtain ⟨e, g2, h4⟩ := h3.get
  obtain ⟨k, g3, h5⟩ := h4.of
  obtain ⟨z, g4, g5⟩ := Option.bind_eq_some_iff.mp g3
  refine ⟨O, d, e, z, R2.kind, hv.arg R2 g1, hu.arg R2 g2, g4, fun w H3 s3 q3 => ?_⟩
  unfold boolD at g5
  split at g5
  · cases g5
    cases q3
    refine ⟨k, rfl, ?_⟩
    have R3 := R2.same s3
    have h6 := h5.grow (Ext.same s3)
    cases k with
    | false =>
      rw [if_neg Bool.false_ne_true] at h6 ⊢
      exact h6.now R3 _ (.bl _)
    | true =>
      rw [if_pos rfl] at h6 ⊢
      refine ⟨sd2, O, R3, h6.bind.mono fun w sd4 H4 _ e4 R4 h7 wv hw => ?_⟩
      obtain ⟨e', g6, h8⟩ := h7.get
      obtain ⟨r, g7, h9⟩ := h8.get
      obtain ⟨z', g8, h10⟩ := h9.of
      exact ⟨O, e', r, z', R4.kind, ((hu.keep R2.kind (Ext.same s3)).keep R3.kind e4).arg R4 g6, hw.arg R4 g7, g8, fun w' H' s q => h10 H' (Ext.same s) (R4.same s) w' q⟩
  · cases g5
theorem d_chain {op op' : CmpOp} (ho : OpR X (compareOp op) (r2 X.K f)) (ho' : OpR X (compareOp op') (r2 X.K f')) (ha : PE X a (tD X.K g ma)) (hb : PE X b (tD X.K g mb)) (hc : PE X c (tD X.K g mc)) (hm : lastMarks [op, op'] [b, c] = false := by with_unfolding_all rfl) :
    PE X (.Compare a [op, op'] [b, c] pos) (tD X.K g (mChain f f' ma mb mc)) := PE_of (pe_chain ho ho' ha hb hc hm) fun _ _ _ h => chain_of h
theorem t_chain {op op' : CmpOp} (ho : OpR X (compareOp op) (r2 X.K f)) (ho' : OpR X (compareOp op') (r2 X.K f')) (ha : PE X a (tD X.K g ma)) (hb : PE X b (tD X.K g mb)) (hc : PE X c (tD X.K g mc)) (hm : lastMarks [op, op'] [b, c] = false := by with_unfolding_all rfl) :
    PT X (.Compare a [op, op'] [b, c] pos) (tT X.K g (mTB (mChain f f' ma mb mc))) := PT_of (pt_chain ho ho' ha hb hc hm) fun _ _ _ h => chain_of (tB_of h)
@[simp] def mAnd (t u : M Bool) : M Bool := M.bind t fun b => if b then u else M.ret false
@[simp] def mOr (t u : M Bool) : M Bool := M.bind t fun b => if b then M.ret true else u
@[simp] def mNot (t : M Bool) : M Bool := M.bind t fun b => M.ret (!b)
variable {t u : M Bool} {rest : List Expr}
theorem and_of {K : PySem.W.Frag} {σ : L2.St} {H : Hp} {Q : Bool → Hp → Prop} (h : tT K g (mAnd t u) σ H Q) : tAnd (tT K g t) (tT K g u) σ H Q := by
  obtain ⟨sd, O, R, h0⟩ := h
  refine ⟨sd, O, R, h0.bind.mono fun b sd1 H1 _ e1 R1 h1 => ?_⟩
  cases b with
  | true => exact ⟨sd1, O, R1, h1⟩
  | false => exact h1.now R1
theorem or_of {K : PySem.W.Frag} {σ : L2.St} {H : Hp} {Q : Bool → Hp → Prop} (h : tT K g (mOr t u) σ H Q) : tOr (tT K g t) (tT K g u) σ H Q := by
  obtain ⟨sd, O, R, h0⟩ := h
  refine ⟨sd, O, R, h0.bind.mono fun b sd1 H1 _ e1 R1 h1 => ?_⟩
  cases b with
  | true => exact h1.now R1
  | false => exact ⟨sd1, O, R1, h1⟩
theorem w_and1 (ha : PT X a (tT X.K g t)) : PW X (.BoolOp .And [a] pos) (tT X.K g t) := pw_and1 ha
theorem w_or1 (ha : PT X a (tT X.K g t)) : PW X (.BoolOp .Or [a] pos) (tT X.K g t) := pw_or1 ha
theorem w_and (ha : PT X a (tT X.K g t)) (hb : PW X (.BoolOp .And (b :: rest) pos) (tT X.K g u)) : PW X (.BoolOp .And (a :: b :: rest) pos) (tT X.K g (mAnd t u)) := PW_of (pw_and ha hb) fun _ _ _ h => and_of h
theorem w_or (ha : PT X a (tT X.K g t)) (hb : PW X (.BoolOp .Or (b :: rest) pos) (tT X.K g u)) : PW X (.BoolOp .Or (a :: b :: rest) pos) (tT X.K g (mOr t u)) := PW_of (pw_or ha hb) fun _ _ _ h => or_of h
theorem t_not (ha : PT X a (tT X.K g t)) : PT X (.UnaryOp .Not a pos) (tT X.K g (mNot t)) := PT_of (pt_not ha) fun σ H Q h => by
  obtain ⟨sd, O, R, h0⟩ := h
  exact ⟨sd, O, R, h0.bind.mono fun b sd1 H1 _ e1 R1 h1 => h1.now R1⟩
@[simp] def mAndV (ma mb : M Opd) : M Opd := M.bind ma fun x => M.bind (getM x) fun d => M.bind (M.of (boolD d)) fun k => if k then mb else M.ret (.d (.bool false))
@[simp] def mOrV (ma mb : M Opd) : M Opd := M.bind ma fun x => M.bind (getM x) fun d => M.bind (M.of (boolD d)) fun k => if k then M.ret (.d (.bool true)) else mb
@[simp] def mNotV (ma : M Opd) : M Opd := M.bind ma fun x => M.bind (getM x) fun d => M.bind (M.of (boolD d)) fun k => M.ret (.d (.bool (!k)))
theorem boolD_some {d : PyData} {k : Bool} (h : boolD d = some k) : d = .bool k := by
  unfold boolD at h
  split at h
  · cases h; rfl
  · cases h
theorem d_one {op} (h : PE X a (tD X.K g ma)) : PE X (.BoolOp op [a] pos) (tD X.K g ma) := pe_one h
theorem d_and (ha : PE X a (tD X.K g ma)) (hb : PE X (.BoolOp .And (b :: rest) pos) (tD X.K g mb)) : PE X (.BoolOp .And (a :: b :: rest) pos) (tD X.K g (mAndV ma mb)) := PE_of (pe_and ha hb) fun σ H Q h => by
  obtain ⟨sd, O, R, h0⟩ := h
  refine ⟨sd, O, R, h0.bind.mono fun x sd1 H1 _ e1 R1 h1 v hv => ?_⟩
  obtain ⟨d, g1, h3⟩ := h1.get
  obtain ⟨k, g2, h4⟩ := h3.of
  have A1 := hv.arg R1 g1
  rw [boolD_some g2] at A1
  refine ⟨k, A1.bool, ?_⟩
  cases k with
  | true => exact ⟨sd1, O, R1, h4⟩
  | false => exact h4.now R1 _ (.bl _)
theorem d_not (ha : PE X a (tD X.K g ma)) : PE X (.UnaryOp .Not a pos) (tD X.K g (mNotV ma)) := PE_of (pe_not ha) fun σ H Q h => by
  obtain ⟨sd, O, R, h0⟩ := h
  refine ⟨sd, O, R, h0.bind.mono fun x sd1 H1 _ e1 R1 h1 v hv => ?_⟩
  obtain ⟨d, g1, h3⟩ := h1.get
  obtain ⟨k, g2, h4⟩ := h3.of
  have A1 := hv.arg R1 g1
  rw [boolD_some g2] at A1
  exact ⟨k, A1.bool, h4.now R1 _ (.bl _)⟩
@[simp] def mIf {α : Type} (t : M Bool) (ma mb : M α) : M α := M.bind t fun k => if k then ma else mb
theorem d_ifExp (hc : PT X c (tT X.K g t)) (ha : PE X a (tD X.K g ma)) (hb : PE X b (tD X.K g mb)) : PE X (.IfExp c a b pos) (tD X.K g (mIf t ma mb)) := PE_of (pe_ifExp hc ha hb) fun σ H Q h => by
  obtain ⟨sd, O, R, h0⟩ := h
  refine ⟨sd, O, R, h0.bind.mono fun k sd1 H1 _ e1 R1 h1 => ?_⟩
  cases k with
  | true => exact ⟨sd1, O, R1, h1⟩
  | false => exact ⟨sd1, O, R1, h1⟩
@[simp] def negD : PyData → Option PyData
  | .int i => some (.int (-i))
  | _ => none
theorem d_neg (ha : PE X a (tD X.K g ma)) : PE X (.UnaryOp .USub a pos) (tD X.K g (m1 negD ma)) := d_un un_neg (fun x H Q h => by
  obtain ⟨O, d, z, k, ha, hf, q⟩ := h
  unfold negD at hf
  split at hf
  · cases hf
    exact ⟨_, ha.int, q _ _ Same.rfl' (.int _)⟩
  · cases hf) ha
end
inductive Rt where
  | dat (d : PyData)
  | frs (d : PyData)
  | xt (ds : List PyData)
inductive Fl where
  | nx | bk | ct
  | rt (r : Rt)
abbrev MS := M Fl
structure Fm where
  H0 : Hp
  O0 : Ow
  md : List Bool
  io : List (Option Addr)
  cps : List (Hp × Ow)
def Fm.cp (F : Fm) (c : List (Hp × Ow)) : Fm := ⟨F.H0, F.O0, F.md, F.io, c⟩
structure Nw (H : Hp) (O O' : Ow) : Prop where
  so : ∀ p, O.o p → O'.o p
  sa : ∀ p, O.a p → O'.a p
  no : ∀ p, O'.o p → O.o p ∨ H p = none
  na : ∀ p, O'.a p → O.a p ∨ H p = none
theorem Nw.refl {H : Hp} {O : Ow} : Nw H O O := ⟨fun _ z => z, fun _ z => z, fun _ z => .inl z, fun _ z => .inl z⟩
theorem Nw.add {H : Hp} {O O' : Ow} {p : Addr} (n : Nw H O O') (h : H p = none) : Nw H O (addO O' p) := ⟨fun q z => .inl (n.so q z), fun q z => .inl (n.sa q z), fun q z => by
  rcases z with z | rfl
  · exact n.no q z
  · exact .inr h, fun q z => by
  rcases z with z | rfl
  · exact n.na q z
  · exact .inr h⟩
structure Nb (H : Hp) (O O' : Ow) : Prop where
  no : ∀ p, O'.o p → O.o p ∨ H p = none
  na : ∀ p, O'.a p → O.a p ∨ H p = none
  sb : ∀ p, O.a p → O'.a p ∨ O.o p ∨ H p = none
theorem Nb.refl {H : Hp} {O : Ow} : Nb H O O := ⟨fun _ z => .inl z, fun _ z => .inl z, fun _ z => .inl z⟩
theorem Nb.add {H : Hp} {O O' : Ow} {p : Addr} (n : Nb H O O') (h : H p = none) : Nb H O (addO O' p) := ⟨fun q z => by
  rcases z with z | rfl
  · exact n.no q z
  · exact .inr h, fun q z => by
  rcases z with z | rfl
  · exact n.na q z
  · exact .inr h, fun q z => (n.sb q z).imp .inl id⟩
structure Cp (c : Hp × Ow) (H : Hp) (O : Ow) : Prop where
  ext : Ext c.2 c.1 H
  nw : Nb c.1 c.2 O
structure RepH (K : PySem.W.Frag) (F : Fm) (H : Hp) (O : Ow) (σ : L2.St) (sd : Sd) : Prop where
  rep : Rep K H O σ sd
  ext : Ext F.O0 F.H0 H
  nw : Nw F.H0 F.O0 O
  io : ∀ (i : Nat) (p : Addr), F.io[i]? = some (some p) → F.md[i]? = some true ∧ σ[i]? = some (some (.ref p))
  k0 : Kinds F.H0 F.O0
  o0 : ∀ p, F.O0.o p → ∃ i : Nat, F.io[i]? = some (some p)
  cp : ∀ c ∈ F.cps, Cp c H O
def RtR (K : PySem.W.Frag) (F : Fm) (H : Hp) (O : Ow) (v : V) : Rt → Prop
  | .dat d => Dd K H F.O0 v d
  | .frs d => ∃ p, v = .ref p ∧ F.H0 p = none ∧ O.o p ∧ OwnR K H O p d
  | .xt ds => XtR K H F.O0 v ds
def FinS (K : PySem.W.Frag) (g : Sg) (F : Fm) (D : Ends) : Res Fl → Prop
  | .ok .nx sd' => ∀ σ' H' O', RepH K F H' O' σ' sd' → D.nx σ' H'
  | .ok .bk sd' => ∀ σ' H' O', RepH K F H' O' σ' sd' → D.bk σ' H'
  | .ok .ct sd' => ∀ σ' H' O', RepH K F H' O' σ' sd' → D.ct σ' H'
  | .ok (.rt r) sd' => ∀ v σ' H' O', RepH K F H' O' σ' sd' → RtR K F H' O' v r → D.rt v H'
  | .exc e sd' => ∀ c d σ' H' O', RepH K F H' O' σ' sd' → g.XR H' O' e c d → g.W c d σ' H'
  | .stk => False
def tS (K : PySem.W.Frag) (g : Sg) (F : Fm) (m : MS) : TS := fun D σ H => ∃ sd O, RepH K F H O σ sd ∧ FinS K g F D (m sd)
section
variable {K : PySem.W.Frag} {g : Sg} {F : Fm} {H H' : Hp} {O : Ow} {σ : L2.St} {sd sd' : Sd} {D : Ends}
theorem ext_stepG {O1 : Ow} {H1 : Hp} (R1 : Ext O1 H1 H) (n : ∀ p, O.o p → O1.o p ∨ H1 p = none) (sb : ∀ p, O1.a p → O.a p ∨ O1.o p ∨ H1 p = none) (e : Ext O H H') : Ext O1 H1 H' := fun a o q => by
  obtain ⟨h1, o1, e1⟩ := R1 a o q
  refine ⟨fun na nt => (h1 na nt).trans nt fun o' e' t' => ?_, (e a o1 e1).2⟩
  have no : ¬ O.o a := fun z => by
    rcases n a z with z | z
    · exact na z
    · rw [z] at q
      cases q
  rcases (e a o' e').1 no t' with k | ⟨k, r⟩
  · exact .inl k
  · refine .inr ⟨fun z => ?_, r⟩
    rcases sb a z with z | z | z
    · exact k z
    · exact na z
    · rw [z] at q
      cases q
theorem Cp.step {c : Hp × Ow} (C : Cp c H O) (e : Ext O H H') : Cp c H' O := ⟨ext_stepG C.ext C.nw.no C.nw.sb e, C.nw⟩
theorem Cp.stepF {c : Hp × Ow} {p : Addr} (C : Cp c H O) (e : Ext O H H') (hp : H p = none) : Cp c H' (addO O p) := ⟨ext_stepG C.ext C.nw.no C.nw.sb e, C.nw.add (C.ext.fresh hp)⟩
theorem RepH.step (R : RepH K F H O σ sd) (e : Ext O H H') (R' : Rep K H' O σ sd') : RepH K F H' O σ sd' where
  rep := R'
  ext := ext_stepG R.ext R.nw.no (fun p z => .inl (R.nw.sa p z)) e
  nw := R.nw
  io := R.io
  k0 := R.k0
  o0 := R.o0
  cp := fun c hc => (R.cp c hc).step e
theorem RepH.fresh0 (R : RepH K F H O σ sd) {p : Addr} (h : H p = none) : F.H0 p = none := R.ext.fresh h
theorem RepH.stepF {p : Addr} (R : RepH K F H O σ sd) (e : Ext O H H') (hp : H p = none) (R' : Rep K H' (addO O p) σ sd') : RepH K F H' (addO O p) σ sd' where
  rep := R'
  ext := ext_stepG R.ext R.nw.no (fun p z => .inl (R.nw.sa p z)) e
  nw := R.nw.add (R.fresh0 hp)
  io := R.io
  k0 := R.k0
  o0 := R.o0
  cp := fun c hc => (R.cp c hc).stepF e hp
theorem RepH.push (R : RepH K F H O σ sd) : RepH K (F.cp ((H, O) :: F.cps)) H O σ sd := ⟨R.rep, R.ext, R.nw, R.io, R.k0, R.o0, fun c hc => by
  rcases List.mem_cons.mp hc with rfl | hc
  · exact ⟨Ext.refl _ _, Nb.refl⟩
  · exact R.cp c hc⟩
theorem RepH.pop {c : Hp × Ow} (R : RepH K (F.cp (c :: F.cps)) H O σ sd) : RepH K F H O σ sd ∧ Cp c H O := ⟨⟨R.rep, R.ext, R.nw, R.io, R.k0, R.o0, fun c hc => R.cp c (List.mem_cons_of_mem _ hc)⟩, R.cp c List.mem_cons_self⟩
theorem aft_of {α : Type} {m : M α} {k : α → MS} (R : RepH K F H O σ sd) (h : FinS K g F D (M.bind m k sd)) : Aft K g O σ H (m sd) fun a sd1 H1 => RepH K F H1 O σ sd1 ∧ FinS K g F D (k a sd1) := by
  unfold M.bind at h
  cases e : m sd with
  | ok a sd1 =>
    rw [e] at h
    exact fun H1 e1 R1 => ⟨R.step e1 R1, h⟩
  | exc x sd1 =>
    rw [e] at h
    exact fun c d H1 e1 R1 xr => h c d σ H1 O (R.step e1 R1) xr
  | stk =>
    rw [e] at h
    exact h
theorem aftF_of {m : M PyData} {k : PyData → MS} {Q : VK} (R : RepH K F H O σ sd) (h : FinS K g F D (M.bind m k sd))
    (q : ∀ d sd1 p H1, RepH K F H1 (addO O p) σ sd1 → H p = none → FreshAt σ sd1 p → OwnR K H1 (addO O p) p d → FinS K g F D (k d sd1) → Q (.ref p) H1) : AftF K g O σ H (m sd) Q := by
  unfold M.bind at h
  cases e : m sd with
  | ok a sd1 =>
    rw [e] at h
    exact fun p H1 e1 hp R1 f o => q a sd1 p H1 (R.stepF e1 hp R1) hp f o h
  | exc x sd1 =>
    rw [e] at h
    exact fun c d H1 e1 R1 xr => h c d σ H1 O (R.step e1 R1) xr
  | stk =>
    rw [e] at h
    exact h
theorem getElem?_set' {α : Type} {l : List α} {i j : Nat} {a : α} : (l.set i a)[j]? = if i = j ∧ j < l.length then some a else l[j]? := by
  rw [List.getElem?_set]
  by_cases h : i = j
  · subst h
    by_cases h2 : i < l.length
    · simp [h2]
    · simp [h2]
  · simp [h]
theorem Rep.put (R : Rep K H O σ sd) {i : Nat} {v : V} {s : Sl} (hs : SlotR K H O v s) (hi : ∀ p d, v = .ref p → ownOf (some (some s)) = some d → FreshAt σ sd p) : Rep K H O (σ.set i (some v)) (sd.set i (some s)) where
  len := by rw [List.length_set, List.length_set, R.len]
  slot := fun j t h => by
    rw [getElem?_set'] at h ⊢
    split at h
    · rename_i hc
      cases h
      refine ⟨v, if_pos ⟨hc.1, by rw [← R.len]; exact hc.2⟩, hs⟩
    · rename_i hc
      obtain ⟨u, a, b⟩ := R.slot j t h
      exact ⟨u, by rw [if_neg (by rw [← R.len]; exact hc)]; exact a, b⟩
  inj := fun j k p d e h1 h2 h3 h4 => by
    rw [getElem?_set'] at h1 h2 h3 h4
    rw [← R.len] at h1 h3
    by_cases c1 : i = j ∧ j < sd.length
    · by_cases c2 : i = k ∧ k < sd.length
      · rw [← c1.1, ← c2.1]
      · rw [if_pos c1] at h1 h2
        rw [if_neg c2] at h3 h4
        cases h1
        exact absurd h3 (hi p d rfl h2 k e h4)
    · rw [if_neg c1] at h1 h2
      by_cases c2 : i = k ∧ k < sd.length
      · rw [if_pos c2] at h3 h4
        cases h3
        exact absurd h1 (hi p e rfl h4 j d h2)
      · rw [if_neg c2] at h3 h4
        exact R.inj j k p d e h1 h2 h3 h4
  kind := R.kind
theorem Rep.drop (R : Rep K H O σ sd) (i : Nat) : Rep K H O σ (sd.set i none) where
  len := by rw [List.length_set, R.len]
  slot := fun j t h => by
    rw [getElem?_set'] at h
    split at h
    · cases h
    · exact R.slot j t h
  inj := fun j k p d e h1 h2 h3 h4 => by
    rw [getElem?_set'] at h2 h4
    split at h2
    · cases h2
    · split at h4
      · cases h4
      · exact R.inj j k p d e h1 h2 h3 h4
  kind := R.kind
theorem RepH.put (R : RepH K F H O σ sd) {i : Nat} {v : V} {s : Sl} (hm : (F.md[i]? == some true) = false) (hs : SlotR K H O v s) (hi : ∀ p d, v = .ref p → ownOf (some (some s)) = some d → FreshAt σ sd p) : RepH K F H O (σ.set i (some v)) (sd.set i (some s)) where
  rep := R.rep.put hs hi
  ext := R.ext
  nw := R.nw
  io := fun j p h => by
    obtain ⟨a, b⟩ := R.io j p h
    refine ⟨a, ?_⟩
    rw [getElem?_set']
    rw [if_neg]
    · exact b
    · rintro ⟨rfl, _⟩
      rw [a] at hm
      simp at hm
  k0 := R.k0
  o0 := R.o0
  cp := R.cp
theorem RepH.drop (R : RepH K F H O σ sd) (i : Nat) : RepH K F H O σ (sd.set i none) := ⟨R.rep.drop i, R.ext, R.nw, R.io, R.k0, R.o0, R.cp⟩
end
@[simp] def putS (i : Nat) (s : Sl) : M Unit := fun sd => .ok () (sd.set i (some s))
@[simp] def mPut (i : Nat) (r : Opd) : M Unit := fun sd => match r with
  | .d x => .ok () (sd.set i (some (.dat x)))
  | .own j => match sd[j]? with
    | some (some (.own d)) => .ok () ((sd.set j none).set i (some (.own d)))
    | _ => .stk
@[simp] def sNx : MS := M.ret .nx
@[simp] def mSet (i : Nat) (m : M Opd) : MS := M.bind m fun r => M.bind (mPut i r) fun _ => sNx
@[simp] def mSetF (i : Nat) (m : M PyData) : MS := M.bind m fun d => M.bind (putS i (.own d)) fun _ => sNx
@[simp] def mSeq (m k : MS) : MS := M.bind m fun f => match f with
  | .nx => k
  | f => M.ret f
@[simp] def ioOk : List Bool → Sd → Bool
  | [], _ => true
  | true :: md, s :: sd => (ownOf (some s)).isSome && ioOk md sd
  | true :: _, [] => false
  | false :: md, sd => ioOk md sd.tail
@[simp] def mRet (md : List Bool) (m : M Opd) : MS := M.bind m fun r sd => match r with
  | .d x => .ok (.rt (.dat x)) sd
  | .own j => match ownOf sd[j]? with
    | some d => if ioOk md sd && !(md[j]? == some true) then .ok (.rt (.frs d)) sd else .stk
    | none => .stk
theorem ioOk_at : ∀ {md : List Bool} {sd : Sd} {i : Nat}, ioOk md sd = true → md[i]? = some true → ∃ d, ownOf sd[i]? = some d
  | [], _, _, _, h => by simp at h
  | true :: md, s :: sd, 0, h, _ => by
    unfold ioOk at h
    rw [Bool.and_eq_true] at h
    exact Option.isSome_iff_exists.mp h.1
  | true :: md, s :: sd, i + 1, h, e => by
    unfold ioOk at h
    rw [Bool.and_eq_true] at h
    exact ioOk_at (i := i) h.2 (by simpa using e)
  | true :: _, [], _, h, _ => by cases h
  | false :: md, sd, 0, h, e => by simp at e
  | false :: md, [], i + 1, h, e => by
    obtain ⟨d, q⟩ := ioOk_at (md := md) (sd := []) (i := i) h (by simpa using e)
    exact ⟨d, by simpa using q⟩
  | false :: md, s :: sd, i + 1, h, e => by
    obtain ⟨d, q⟩ := ioOk_at (md := md) (sd := sd) (i := i) h (by simpa using e)
    exact ⟨d, by simpa using q⟩
@[simp] def mRetF (m : M PyData) : MS := M.bind m fun d => M.ret (.rt (.frs d))
@[simp] def mDrop (m : M Opd) : MS := M.bind m fun _ => sNx
section
variable {X : Cx} {g : Sg} {F : Fm}
theorem dd_weak {K : PySem.W.Frag} {H : Hp} {O O' : Ow} {v : V} {d : PyData} (h : Dd K H O v d) (w : ∀ p, O'.a p → O.a p) : Dd K H O' v d := Dd.less w d v h
theorem s_nil : PSs X [] (tS X.K g F sNx) := PSs_of pss_nil fun D σ H h => by
  obtain ⟨sd, O, R, a⟩ := h
  exact a σ H O R
theorem seq_of {K : PySem.W.Frag} {m k : MS} {D : Ends} {σ : L2.St} {H : Hp} (h : tS K g F (mSeq m k) D σ H) : tSeq (tS K g F m) (tS K g F k) D σ H := by
  obtain ⟨sd, O, R, a⟩ := h
  refine ⟨sd, O, R, ?_⟩
  unfold mSeq M.bind at a
  cases e : m sd with
  | ok f sd' =>
    rw [e] at a
    cases f with
    | nx => exact fun σ' H' O' R' => ⟨sd', O', R', a⟩
    | bk => exact a
    | ct => exact a
    | rt r => exact a
  | exc x sd' =>
    rw [e] at a
    exact a
  | stk =>
    rw [e] at a
    exact a
theorem s_cons {st : Stmt} {rest : List Stmt} {m k : MS} (h1 : PS X st (tS X.K g F m)) (h2 : PSs X rest (tS X.K g F k)) : PSs X (st :: rest) (tS X.K g F (mSeq m k)) := PSs_of (pss_cons h1 h2) fun _ _ _ h => seq_of h
theorem s_one {st : Stmt} {m : MS} (h1 : PS X st (tS X.K g F m)) : PSs X [st] (tS X.K g F m) := pss_one h1
theorem s_never {st : Stmt} : PS X st (tS X.K g F M.stk) := PS_of ps_never fun D σ H h => by
  obtain ⟨sd, O, R, a⟩ := h
  exact a
theorem s_expr {e : Expr} {m : M Opd} {pos : Pos} (he : PE X e (tD X.K g m)) (hs : swapsWith e none pos.line X.env = pure false := by rfl) : PS X (.Expr e pos) (tS X.K g F (mDrop m)) := PS_of (ps_expr he hs) fun D σ H h => by
  obtain ⟨sd, O, R, a⟩ := h
  exact ⟨sd, O, R.rep, (aft_of R a).mono fun r sd1 H1 _ e1 R1 h1 v hv => h1.2 σ H1 O h1.1⟩
theorem s_ret {e : Expr} {m : M Opd} {pos : Pos} {md : List Bool} (hmd : F.md = md) (he : PE X e (tD X.K g m)) : PS X (.Return (some e) pos) (tS X.K g F (mRet md m)) := PS_of (ps_ret he) fun D σ H h => by
  obtain ⟨sd, O, R, a⟩ := h
  refine ⟨sd, O, R.rep, (aft_of R a).mono fun r sd1 H1 _ e1 R1 h1 v hv => ?_⟩
  obtain ⟨R2, h2⟩ := h1
  cases r with
  | d x => exact h2 v σ H1 O R2 (dd_weak hv R2.nw.sa)
  | own j =>
    have h2 : FinS X.K g F D (match ownOf sd1[j]? with | some d => if ioOk md sd1 && !(md[j]? == some true) then .ok (.rt (.frs d)) sd1 else .stk | none => .stk) := h2
    split at h2
    · rename_i d hj
      split at h2
      · rename_i hio
        rw [Bool.and_eq_true] at hio
        obtain ⟨p, a1, a2, a3⟩ := R1.owned (i := j) hj
        have hv' : σ[j]? = some (some v) := hv
        rw [a1] at hv'
        cases hv'
        rcases R2.nw.no p a2 with z | z
        · exfalso
          obtain ⟨i, q1⟩ := R2.o0 p z
          obtain ⟨q2, q3⟩ := R2.io i p q1
          rw [hmd] at q2
          obtain ⟨d', q4⟩ := ioOk_at hio.1 q2
          have q5 := R1.inj i j p d' d q3 q4 a1 hj
          subst q5
          rw [q2] at hio
          simp at hio
        · exact h2 _ σ H1 O R2 ⟨p, rfl, z, a2, a3⟩
      · exact False.elim h2
    · exact False.elim h2
theorem s_retF {e : Expr} {m : M PyData} {pos : Pos} (he : PE X e (tF X.K g m)) : PS X (.Return (some e) pos) (tS X.K g F (mRetF m)) := PS_of (ps_ret he) fun D σ H h => by
  obtain ⟨sd, O, R, a⟩ := h
  refine ⟨sd, O, R.rep, aftF_of R a fun d sd1 p H1 R1 hp f o h1 => ?_⟩
  exact h1 _ σ H1 _ R1 ⟨p, rfl, R.fresh0 hp, .inr rfl, o⟩
theorem s_if {c : Expr} {a b : List Stmt} {t : M Bool} {ma mb : MS} {pos : Pos} (hc : PT X c (tT X.K g t)) (ha : PSs X a (tS X.K g F ma)) (hb : PSs X b (tS X.K g F mb)) : PS X (.If c a b pos) (tS X.K g F (mIf t ma mb)) := PS_of (ps_if hc ha hb) fun D σ H h => by
  obtain ⟨sd, O, R, h0⟩ := h
  refine ⟨sd, O, R.rep, (aft_of R h0).mono fun k sd1 H1 _ e1 R1 h1 => ?_⟩
  cases k with
  | true => exact ⟨sd1, O, h1.1, h1.2⟩
  | false => exact ⟨sd1, O, h1.1, h1.2⟩
theorem put_of {K : PySem.W.Frag} {D : Ends} {σ : L2.St} {H : Hp} {O : Ow} {sd : Sd} {i : Nat} {r : Opd} {v : V} {k : MS} (hm : (F.md[i]? == some true) = false) (R : RepH K F H O σ sd) (hv : OpdR K H O σ v r) (h : FinS K g F D (M.bind (mPut i r) (fun _ => k) sd)) :
    ∃ sd', RepH K F H O (σ.set i (some v)) sd' ∧ FinS K g F D (k sd') := by
  cases r with
  | d x => exact ⟨_, R.put (s := .dat x) hm hv (fun p d _ e => by cases e), h⟩
  | own j =>
    unfold M.bind mPut at h
    simp only [] at h
    cases e : sd[j]? with
    | none =>
      rw [e] at h
      exact False.elim h
    | some o =>
      rw [e] at h
      cases o with
      | none => exact False.elim h
      | some s =>
        cases s with
        | dat d => exact False.elim h
        | exn _ _ => exact False.elim h
        | dp _ => exact False.elim h
        | nd _ => exact False.elim h
        | own d =>
          obtain ⟨p, a1, a2, a3⟩ := R.rep.owned (i := j) (d := d) (by rw [e]; rfl)
          have hv' : σ[j]? = some (some v) := hv
          rw [a1] at hv'
          cases hv'
          refine ⟨_, (R.drop j).put (s := .own d) hm ⟨p, rfl, ⟨a2, R.rep.ownedC (i := j) (d := d) (by rw [e]; rfl) a1⟩, a3⟩ fun q d' eq ed => ?_, h⟩
          cases eq
          cases ed
          intro l c ho hl
          rw [getElem?_set'] at ho
          split at ho
          · cases ho
          · rename_i hc
            have hjl := R.rep.inj j l p d c a1 (by rw [e]; rfl) hl ho
            subst hjl
            apply hc
            refine ⟨rfl, ?_⟩
            have := (List.getElem?_eq_some_iff.mp e).1
            exact this
theorem s_set {i : Nat} {x : Str} {e : Expr} {m : M Opd} {pos pos' : Pos} (hN : X.N.Nodup) (hi : X.N[i]? = some x) (hx : Loc X.env.scope x) (he : PE X e (tD X.K g m)) (hm : (F.md[i]? == some true) = false := by rfl) (hs : swapsWith e (some (.Name x pos')) pos.line X.env = pure false := by rfl)
    (hf : X.fn x = true ∨ X.env.scope.names.lookup x = some .local := by first | exact .inl rfl | exact .inr rfl | assumption) : PS X (.Assign [.Name x pos'] e pos) (tS X.K g F (mSet i m)) := PS_of (ps_set hN hi hx he hs hf) fun D σ H h => by
  obtain ⟨sd, O, R, a⟩ := h
  refine ⟨sd, O, R.rep, (aft_of R a).mono fun r sd1 H1 _ e1 R1 h1 v hv => ?_⟩
  obtain ⟨sd2, R2, h2⟩ := put_of hm h1.1 hv h1.2
  exact h2 _ _ _ R2
theorem s_setF {i : Nat} {x : Str} {e : Expr} {m : M PyData} {pos pos' : Pos} (hN : X.N.Nodup) (hi : X.N[i]? = some x) (hx : Loc X.env.scope x) (he : PE X e (tF X.K g m)) (hm : (F.md[i]? == some true) = false := by rfl) (hs : swapsWith e (some (.Name x pos')) pos.line X.env = pure false := by rfl)
    (hf : X.fn x = true ∨ X.env.scope.names.lookup x = some .local := by first | exact .inl rfl | exact .inr rfl | assumption) : PS X (.Assign [.Name x pos'] e pos) (tS X.K g F (mSetF i m)) := PS_of (ps_set hN hi hx he hs hf) fun D σ H h => by
  obtain ⟨sd, O, R, a⟩ := h
  refine ⟨sd, O, R.rep, aftF_of R a fun d sd1 p H1 R1 hp f o h1 => ?_⟩
  exact h1 _ _ _ (R1.put (s := .own d) hm ⟨p, rfl, ⟨.inr rfl, R.rep.kind.newc hp⟩, o⟩ fun q d' eq ed => by cases eq; exact f)
end
end VS
namespace VS
open PySem L2
variable [TabL]
inductive Tg where
  | nm (i : Nat)
  | tp (ts : List Tg)
mutual
def Tg.ix : Tg → List Nat
  | .nm i => [i]
  | .tp ts => Tg.ixs ts
def Tg.ixs : List Tg → List Nat
  | [] => []
  | t :: ts => t.ix ++ Tg.ixs ts
end
mutual
@[simp] def binds : Tg → PyData → Option (List (Nat × PyData))
  | .nm i, d => some [(i, d)]
  | .tp ts, .tuple ds => bindsL ts ds
  | .tp _, _ => none
@[simp] def bindsL : List Tg → List PyData → Option (List (Nat × PyData))
  | [], [] => some []
  | t :: ts, d :: ds => (binds t d).bind fun a => (bindsL ts ds).map fun b => a ++ b
  | _, _ => none
end
def setsV (σ : L2.St) : List (Nat × V) → L2.St
  | [] => σ
  | (i, v) :: r => setsV (σ.set i (some v)) r
@[simp] def setsD (sd : Sd) : List (Nat × PyData) → Sd
  | [] => sd
  | (i, d) :: r => setsD (sd.set i (some (.dat d))) r
inductive DsB (K : PySem.W.Frag) (H : Hp) (O : Ow) : List (Nat × V) → List (Nat × PyData) → Prop
  | nil : DsB K H O [] []
  | cons {i : Nat} {v : V} {vs : List (Nat × V)} {d : PyData} {ds : List (Nat × PyData)} : Dd K H O v d → DsB K H O vs ds → DsB K H O ((i, v) :: vs) ((i, d) :: ds)
section
variable {K : PySem.W.Frag} {g : Sg} {F : Fm} {H H' : Hp} {O O' : Ow} {σ : L2.St} {sd sd' : Sd} {D : Ends}
theorem DsB.app {vs ws : List (Nat × V)} {ds es : List (Nat × PyData)} (h : DsB K H O vs ds) (h' : DsB K H O ws es) : DsB K H O (vs ++ ws) (ds ++ es) := by
  induction h with
  | nil => exact h'
  | cons a _ ih => exact .cons a ih
theorem setsV_app (vs ws : List (Nat × V)) : ∀ σ : L2.St, setsV σ (vs ++ ws) = setsV (setsV σ vs) ws := by
  induction vs with
  | nil => exact fun _ => rfl
  | cons a vs ih => exact fun σ => ih _
theorem Rep.sets {vs : List (Nat × V)} {bs : List (Nat × PyData)} (h : DsB K H O vs bs) : ∀ {σ : L2.St} {sd : Sd}, Rep K H O σ sd → Rep K H O (setsV σ vs) (setsD sd bs) := by
  induction h with
  | nil => exact fun R => R
  | cons a _ ih => exact fun R => ih (R.put (s := .dat _) a fun p d _ e => by cases e)
theorem RepH.sets {vs : List (Nat × V)} {bs : List (Nat × PyData)} (h : DsB K H O vs bs) (hm : ∀ b ∈ bs, (F.md[b.1]? == some true) = false) : ∀ {σ : L2.St} {sd : Sd}, RepH K F H O σ sd → RepH K F H O (setsV σ vs) (setsD sd bs) := by
  induction h with
  | nil => exact fun R => R
  | cons a _ ih => exact fun R => ih (fun b hb => hm b (List.mem_cons_of_mem _ hb)) (R.put (s := .dat _) (hm _ List.mem_cons_self) a fun p d _ e => by cases e)
def gT (K : PySem.W.Frag) (t : Tg) : TG := fun v σ H Q => ∃ O d bs, Dd K H O v d ∧ binds t d = some bs ∧ ∀ vs, DsB K H O vs bs → Q (setsV σ vs) H
def gTs (K : PySem.W.Frag) (ts : List Tg) : TGs := fun us σ H Q => ∃ O ds bs, Ds K H O us ds ∧ bindsL ts ds = some bs ∧ ∀ vs, DsB K H O vs bs → Q (setsV σ vs) H
mutual
theorem binds_ix : ∀ {t : Tg} {d : PyData} {bs : List (Nat × PyData)}, binds t d = some bs → ∀ b ∈ bs, b.1 ∈ t.ix
  | .nm i, d, bs, h, b, hb => by
    cases h
    simp at hb
    subst hb
    exact List.mem_singleton_self _
  | .tp ts, .tuple ds, bs, h, b, hb => by
    unfold Tg.ix
    exact bindsL_ix (by unfold binds at h; exact h) b hb
  | .tp _, .none, _, h, _, _ => by cases h
  | .tp _, .bool _, _, h, _, _ => by cases h
  | .tp _, .int _, _, h, _, _ => by cases h
  | .tp _, .str _, _, h, _, _ => by cases h
  | .tp _, .list _, _, h, _, _ => by cases h
  | .tp _, .dict _, _, h, _, _ => by cases h
theorem bindsL_ix : ∀ {ts : List Tg} {ds : List PyData} {bs : List (Nat × PyData)}, bindsL ts ds = some bs → ∀ b ∈ bs, b.1 ∈ Tg.ixs ts
  | [], [], bs, h, b, hb => by
    cases h
    cases hb
  | t :: ts, d :: ds, bs, h, b, hb => by
    unfold bindsL at h
    obtain ⟨a, h1, h2⟩ := Option.bind_eq_some_iff.mp h
    obtain ⟨c, h3, rfl⟩ := Option.map_eq_some_iff.mp h2
    unfold Tg.ixs
    rcases List.mem_append.mp hb with hb | hb
    · exact List.mem_append_left _ (binds_ix h1 b hb)
    · exact List.mem_append_right _ (bindsL_ix h3 b hb)
  | [], _ :: _, _, h, _, _ => by cases h
  | _ :: _, [], _, h, _, _ => by cases h
end
end
section
variable {X : Cx} {g : Sg} {F : Fm}
theorem PG_of {e : Expr} {t t' : TG} (h : PG X e t) (w : ∀ v σ H Q, t' v σ H Q → t v σ H Q) : PG X e t' := ⟨fun pins s σ H v u Q I r q => h.run pins s σ H v u Q I r (w _ _ _ _ q)⟩
theorem PGs_of {e : List Expr} {t t' : TGs} (h : PGs X e t) (w : ∀ v σ H Q, t' v σ H Q → t v σ H Q) : PGs X e t' := ⟨fun pins s σ H v u Q I r q => h.run pins s σ H v u Q I r (w _ _ _ _ q)⟩
theorem t_nm {i : Nat} {x : Str} {pos : Pos} (hN : X.N.Nodup) (hi : X.N[i]? = some x) (hx : Loc X.env.scope x) (hf : X.fn x = true ∨ X.env.scope.names.lookup x = some .local := by first | exact .inl rfl | exact .inr rfl | assumption) : PG X (.Name x pos) (gT X.K (.nm i)) :=
  PG_of (pg_name hN hi hx hf) fun v σ H Q h => by
  obtain ⟨O, d, bs, hv, hb, q⟩ := h
  cases hb
  exact q [(i, v)] (.cons hv .nil)
theorem ts_nil : PGs X [] (gTs X.K []) := PGs_of pgs_nil fun v σ H Q h => by
  obtain ⟨O, ds, bs, hv, hb, q⟩ := h
  cases ds with
  | nil =>
    cases hv
    cases hb
    exact ⟨rfl, q [] .nil⟩
  | cons d ds => cases hb
theorem ts_cons {e : Expr} {es : List Expr} {t : Tg} {ts : List Tg} (h1 : PG X e (gT X.K t)) (h2 : PGs X es (gTs X.K ts)) (hs : (assignEach (e :: es) X.env).map (·.2) = assign e X.env :: (assignEach es X.env).map (·.2) := by rfl) : PGs X (e :: es) (gTs X.K (t :: ts)) :=
  PGs_of (pgs_cons h1 h2 hs) fun v σ H Q h => by
  obtain ⟨O, ds, bs, hv, hb, q⟩ := h
  cases ds with
  | nil => cases hb
  | cons d ds =>
    cases hv with
    | cons hv1 hv2 =>
      unfold bindsL at hb
      obtain ⟨a, b1, b2⟩ := Option.bind_eq_some_iff.mp hb
      obtain ⟨c, b3, rfl⟩ := Option.map_eq_some_iff.mp b2
      refine ⟨_, _, rfl, O, d, a, hv1, b1, fun vs hvs => ⟨O, ds, c, hv2, b3, fun ws hws => ?_⟩⟩
      have := q (vs ++ ws) (hvs.app hws)
      rw [setsV_app] at this
      exact this
theorem bindsL_len : ∀ {ts : List Tg} {ds : List PyData} {bs : List (Nat × PyData)}, bindsL ts ds = some bs → ds.length = ts.length
  | [], [], _, _ => rfl
  | t :: ts, d :: ds, bs, h => by
    unfold bindsL at h
    obtain ⟨a, h1, h2⟩ := Option.bind_eq_some_iff.mp h
    obtain ⟨c, h3, rfl⟩ := Option.map_eq_some_iff.mp h2
    simp [bindsL_len h3]
  | [], _ :: _, _, h => by cases h
  | _ :: _, [], _, h => by cases h
theorem t_tp {es : List Expr} {k : Nat} {ts : List Tg} {pos : Pos} (hc : X.calm = true) (h : PGs X es (gTs X.K ts)) (hn : (assignEach es X.env).length = ts.length := by rfl) (hst : (assignEach es X.env).findIdx? (·.1) = none := by rfl) : PG X (.Tuple es k pos) (gT X.K (.tp ts)) :=
  PG_of (pg_tup hc h hn hst) fun v σ H Q h => by
  obtain ⟨O, d, bs, hv, hb, q⟩ := h
  cases d with
  | tuple ds =>
    unfold binds at hb
    cases hv with
    | tup a1 a2 => exact ⟨_, _, rfl, a1.sq, by rw [a2.length]; exact bindsL_len hb, O, ds, bs, a2, hb, q⟩
  | _ => cases hb
@[simp] def mUnp (t : Tg) (m : M Opd) : MS := M.bind m fun r => match r with
  | .d x => M.bind (M.of (binds t x)) fun bs sd => .ok .nx (setsD sd bs)
  | .own _ => M.stk
def noIo (md : List Bool) (is : List Nat) : Bool := is.all fun i => !(md[i]? == some true)
theorem noIo_of {md : List Bool} {is : List Nat} (h : noIo md is = true) {i : Nat} (hi : i ∈ is) : (md[i]? == some true) = false := by
  have := List.all_eq_true.mp h i hi
  simpa using this
theorem unp_of {K : PySem.W.Frag} {σ : L2.St} {H : Hp} {O : Ow} {sd : Sd} {t : Tg} {v : V} {d : PyData} (hm : noIo F.md t.ix = true) (R : RepH K F H O σ sd) (hv : Dd K H O v d) {bs : List (Nat × PyData)} (hb : binds t d = some bs) {Q : L2.St → Hp → Prop}
    (q : ∀ σ', RepH K F H O σ' (setsD sd bs) → Q σ' H) : gT K t v σ H Q :=
  ⟨O, d, bs, hv, hb, fun vs hvs => q _ (RepH.sets hvs (fun b hb' => noIo_of hm (binds_ix hb b hb')) R)⟩
theorem s_unp {tg e : Expr} {t : Tg} {m : M Opd} {pos : Pos} (he : PE X e (tD X.K g m)) (hg : PG X tg (gT X.K t)) (hm : noIo F.md t.ix = true := by rfl) (hs : swapsWithSole [tg] e pos.line X.env = pure false := by rfl) (hw : swappedStores [tg] e X.env = pure none := by rfl)
    (hq : (assignEach [tg] X.env).map (·.2) = [assign tg X.env] := by rfl) : PS X (.Assign [tg] e pos) (tS X.K g F (mUnp t m)) := PS_of (ps_asg he hg hs hw hq) fun D σ H h => by
  obtain ⟨sd, O, R, a⟩ := h
  refine ⟨sd, O, R.rep, (aft_of R a).mono fun r sd1 H1 _ e1 R1 h1 v hv => ?_⟩
  obtain ⟨R2, h2⟩ := h1
  cases r with
  | own j => exact False.elim h2
  | d x =>
    have h2 : FinS X.K g F D (M.bind (M.of (binds t x)) (fun bs sd => .ok .nx (setsD sd bs)) sd1) := h2
    cases e2 : binds t x with
    | none =>
      rw [e2] at h2
      exact False.elim h2
    | some bs =>
      rw [e2] at h2
      exact unp_of hm R2 hv e2 fun σ' R3 => h2 σ' H1 O R3
structure Src where
  xs : List PyData
  gd : List (Nat × PyData)
def wid (O : Ow) : Ow := ⟨O.a, O.a, fun _ => False⟩
theorem Kinds.wid {H : Hp} {O : Ow} (k : Kinds H O) : Kinds H (VS.wid O) := ⟨fun _ z => z, k.kd, fun _ z => z.elim, k.tb⟩
structure Later (K : PySem.W.Frag) (σ : L2.St) (O : Ow) (H1 : Hp) (gd : List (Nat × PyData)) (H : Hp) (O' : Ow) (σ' : L2.St) (sd : Sd) : Prop where
  ext : Ext (wid O) H1 H
  nw : Nb H1 O O'
  rep : Rep K H O' σ' sd
  gd : ∀ j ∈ gd, ownOf sd[j.1]? = some j.2 ∧ σ'[j.1]? = σ[j.1]?
structure Wk (K : PySem.W.Frag) (σ : L2.St) (O : Ow) (H1 : Hp) (J : It) (s : Src) : Prop where
  go : ∀ H O' σ' sd i x, Later K σ O H1 s.gd H O' σ' sd → s.xs[i]? = some x → J.go i H ∧ ∀ v H', J.yld i H v H' → Same H H' ∧ Dd K H' O' v x
  stop : ∀ H O' σ' sd i, Later K σ O H1 s.gd H O' σ' sd → s.xs.length = i → J.stop i H
def tI (K : PySem.W.Frag) (g : Sg) (m : M Src) : TI := fun σ H R => ∃ sd O, Rep K H O σ sd ∧ Aft K g O σ H (m sd) fun s _ H' => ∀ J, Wk K σ O H' J s → R J H'
theorem PI_of {tg e : Expr} {t t' : TI} (h : PI X tg e t) (w : ∀ σ H Q, t' σ H Q → t σ H Q) : PI X tg e t' := ⟨fun pins s σ H R I q => h.run pins s σ H R I (w σ H R q)⟩
def rgOk1 (a b : Int) : Bool := decide (-(2 ^ 62) ≤ a) && decide (a < 2 ^ 62) && decide (-(2 ^ 62) ≤ b) && decide (b < 2 ^ 62)
@[simp] def mRg (m : M (Int × Int)) : M Src := M.bind m fun r => if rgOk1 r.1 r.2 then M.ret ⟨rgL r.1 r.2, []⟩ else M.stk
theorem rgL_get {a b : Int} {i : Nat} {x : PyData} (h : (rgL a b)[i]? = some x) : i < (b - a).toNat ∧ x = .int (a + (i : Nat)) := by
  unfold rgL at h
  rw [List.getElem?_map] at h
  obtain ⟨j, h1, rfl⟩ := Option.map_eq_some_iff.mp h
  have := List.getElem?_eq_some_iff.mp h1
  obtain ⟨h2, h3⟩ := this
  simp at h2 h3
  subst h3
  exact ⟨by simpa using h2, rfl⟩
theorem rgL_length (a b : Int) : (rgL a b).length = (b - a).toNat := by unfold rgL; simp
theorem wk_range {K : PySem.W.Frag} {σ : L2.St} {O : Ow} {H1 : Hp} (a b : Int) : Wk K σ O H1 (Itr a (b - a).toNat) ⟨rgL a b, []⟩ where
  go := fun H O' σ' sd i x L h => by
    obtain ⟨h1, rfl⟩ := rgL_get h
    refine ⟨h1, fun v H' hy => ?_⟩
    obtain ⟨rfl, rfl⟩ := hy
    exact ⟨Same.rfl', .int _⟩
  stop := fun H O' σ' sd i L h => by
    have h : (rgL a b).length = i := h
    rw [rgL_length] at h
    exact Nat.le_of_eq h
theorem i_range1 {tg a : Expr} {ma : M Opd} {p pos : Pos} (hg : Gl X "range") (hm : X.mg "range" = none) (ha : PE X a (tD X.K g ma)) (hs : starEach [a] X.env = [(false, eval a X.env)] := by rfl) (hs2 : starEach [a] X.env = (false, eval a X.env) :: starEach [] X.env := by rfl) : PI X tg (.Call (.Name "range" p) [a] [] pos) (tI X.K g (mRg (mR1 ma))) :=
  PI_of (pi_range1 hg hm (pa_cons ha pa_nil hs2) hs) fun σ H R h => by
  obtain ⟨sd, O, R0, a⟩ := h
  unfold mRg mR1 mI at a
  simp only [bind_assoc] at a
  refine ⟨sd, O, R0, a.bind.mono fun x sd1 H1 _ e1 R1 h1 v hv => ?_⟩
  obtain ⟨d, g1, h3⟩ := h1.get
  split at h3
  · rename_i j
    have h3 : Aft X.K g O σ H1 ((if rgOk1 0 j then M.ret ⟨rgL 0 j, []⟩ else M.stk : M Src) sd1) _ := h3
    split at h3
    · rename_i hr
      unfold rgOk1 at hr
      simp only [Bool.and_eq_true, decide_eq_true_eq] at hr
      refine ⟨j, by rw [(hv.arg R1 g1).int], hr.1.2, hr.2, ?_⟩
      have := h3.now R1 _ (wk_range 0 j)
      simpa using this
    · exact False.elim h3
  · exact False.elim h3
@[simp] def rowOf : PyData → Option (List PyData)
  | .list xs => some xs
  | .tuple xs => some xs
  | _ => none
@[simp] def gdOf (d : PyData) : Opd → List (Nat × PyData)
  | .d _ => []
  | .own j => [(j, d)]
@[simp] def mRow (m : M Opd) : M Src := M.bind m fun r => M.bind (getM r) fun d => M.bind (M.of (rowOf d)) fun xs => M.ret ⟨xs, gdOf d r⟩
theorem later_list {K : PySem.W.Frag} {σ : L2.St} {O : Ow} {H1 : Hp} {sd1 : Sd} {v : V} {r : Opd} {xs : List PyData} (R1 : Rep K H1 O σ sd1) (hv : OpdR K H1 O σ v r) (hg : r.get sd1 = some (.list xs)) :
    ∃ p, v = .ref p ∧ (∃ vs, SqL K H1 p vs) ∧ ∀ H O' σ' sd, Later K σ O H1 (gdOf (.list xs) r) H O' σ' sd → ∃ vs, SqL K H p vs ∧ Ds K H O' vs xs := by
  cases r with
  | d x =>
    cases hg
    cases hv with
    | lst a n b =>
      refine ⟨_, rfl, ⟨_, .inl a⟩, fun H O' σ' sd L => ⟨_, .inl (rd_keep R1.kind.wid L.ext a (.inl n) (nt_lst _)), Ds.keep R1.kind.wid L.ext L.nw.na _ _ (Ds.less (O := O) (O' := wid O) (fun _ z => z) _ _ b)⟩⟩
    | lsk a b => exact ⟨_, rfl, ⟨_, RdL.sq (.inr a)⟩, fun H O' σ' sd L => ⟨_, RdL.sq (.inr a), Ds.keep R1.kind.wid L.ext L.nw.na _ _ (Ds.less (O := O) (O' := wid O) (fun _ z => z) _ _ b)⟩⟩
  | own j =>
    obtain ⟨p, a1, a2, vs, a3, a4⟩ := R1.owned (i := j) hg
    have hv' : σ[j]? = some (some v) := hv
    rw [a1] at hv'
    cases hv'
    refine ⟨p, rfl, ⟨vs, .inl (.inl a3)⟩, fun H O' σ' sd L => ?_⟩
    obtain ⟨e1, e2⟩ := L.gd (j, .list xs) List.mem_cons_self
    obtain ⟨p', b1, b2, ws, b3, b4⟩ := L.rep.owned (i := j) e1
    rw [e2, a1] at b1
    cases b1
    exact ⟨ws, .inl (.inl b3), b4⟩
theorem later_tup {K : PySem.W.Frag} {σ : L2.St} {O : Ow} {H1 : Hp} {sd1 : Sd} {v : V} {r : Opd} {xs : List PyData} (R1 : Rep K H1 O σ sd1) (hv : OpdR K H1 O σ v r) (hg : r.get sd1 = some (.tuple xs)) {gd : List (Nat × PyData)} :
    ∃ p, v = .ref p ∧ (∃ vs, SqT K H1 p vs) ∧ ∀ H O' σ' sd, Later K σ O H1 gd H O' σ' sd → ∃ vs, SqT K H p vs ∧ Ds K H O' vs xs := by
  cases r with
  | d x =>
    cases hg
    cases hv with
    | tup a b => exact ⟨_, rfl, ⟨_, a.sq⟩, fun H O' σ' sd L => ⟨_, sqt_keep R1.kind.wid L.ext a.sq, Ds.keep R1.kind.wid L.ext L.nw.na _ _ (Ds.less (O := O) (O' := wid O) (fun _ z => z) _ _ b)⟩⟩
  | own j =>
    obtain ⟨p, a1, a2, a3⟩ := R1.owned (i := j) hg
    exact False.elim a3
theorem pi_row {tg l : Expr} {tl : TE} (hl : PE X l tl) : PI X tg l (fun σ H R => tl σ H fun x H1 => ∃ a, x = .ref a ∧ ((∃ xs, SqL X.K H1 a xs ∧ R (Itl X.K a) H1) ∨ ∃ xs, SqT X.K H1 a xs ∧ R (Itt X.K a) H1)) := by
  constructor
  intro pins s σ H R I h
  have both := hl.run pins s σ H _ I h
  refine thn both fun v s1 w => ?_
  obtain ⟨x, H1, I1, r1, a, rfl, q⟩ := w
  obtain rfl : v = Value.ref a := r1
  have fp : ∀ b ∈ [s1.heap.objs.size], FpOk X pins H1 b := fun b hb => by
    rw [List.mem_singleton] at hb
    rw [hb]
    exact I1.fpOk (Nat.le_refl _) (I1.hok.fresh (Nat.le_refl _))
  rcases q with ⟨xs, hq, q⟩ | ⟨xs, hq, q⟩
  · obtain ⟨its, rv, pl, _⟩ := I1.list hq
    exact wpAny_pyIter_list pl.isList ⟨_, [s1.heap.objs.size], _, Itl X.K a, H1, rfl, I1.kept (t' := s1.toks) (fun b o e => Heap.get?_push_of_some _ e), turn_list a _, ⟨_, Heap.get?_push_size _ rfl, rfl, rfl⟩, fp, q⟩
  · obtain ⟨its, rv, pl, _⟩ := I1.tuple hq
    exact wpAny_pyIter_tuple (show s1.heap.IsTuple a its.toArray from pl) ⟨_, [s1.heap.objs.size], _, Itt X.K a, H1, rfl, I1.kept (t' := s1.toks) (fun b o e => Heap.get?_push_of_some _ e), turn_tuple a _, ⟨_, Heap.get?_push_size _ rfl, rfl, rfl⟩, fp, q⟩
theorem i_row {tg l : Expr} {ml : M Opd} (hl : PE X l (tD X.K g ml)) : PI X tg l (tI X.K g (mRow ml)) := PI_of (pi_row hl) fun σ H R h => by
  obtain ⟨sd, O, R0, a⟩ := h
  refine ⟨sd, O, R0, a.bind.mono fun r sd1 H1 _ e1 R1 h1 v hv => ?_⟩
  obtain ⟨d, g1, h3⟩ := h1.get
  obtain ⟨xs, g2, h4⟩ := h3.of
  unfold rowOf at g2
  split at g2
  · cases g2
    obtain ⟨p, rfl, ⟨ys, hq⟩, L0⟩ := later_list R1 hv g1
    refine ⟨p, rfl, .inl ⟨ys, hq, h4.now R1 _ ⟨fun H O' σ' sd i x L hx => ?_, fun H O' σ' sd i L hx => ?_⟩⟩⟩
    · obtain ⟨vs, l1, l2⟩ := L0 H O' σ' sd L
      obtain ⟨v, v1, v2⟩ := l2.get hx
      refine ⟨⟨vs, v, l1, v1⟩, fun w H' hy => ?_⟩
      obtain ⟨rfl, hy⟩ := hy
      have := hy vs l1
      rw [v1] at this
      cases this
      exact ⟨Same.rfl', v2⟩
    · obtain ⟨vs, l1, l2⟩ := L0 H O' σ' sd L
      exact ⟨vs, l1, by rw [l2.length]; exact Nat.le_of_eq hx⟩
  · cases g2
    obtain ⟨p, rfl, ⟨ys, hq⟩, L0⟩ := later_tup R1 hv g1 (gd := gdOf (.tuple xs) r)
    refine ⟨p, rfl, .inr ⟨ys, hq, h4.now R1 _ ⟨fun H O' σ' sd i x L hx => ?_, fun H O' σ' sd i L hx => ?_⟩⟩⟩
    · obtain ⟨vs, l1, l2⟩ := L0 H O' σ' sd L
      obtain ⟨v, v1, v2⟩ := l2.get hx
      refine ⟨⟨vs, v, l1, v1⟩, fun w H' hy => ?_⟩
      obtain ⟨rfl, hy⟩ := hy
      have := hy vs l1
      rw [v1] at this
      cases this
      exact ⟨Same.rfl', v2⟩
    · obtain ⟨vs, l1, l2⟩ := L0 H O' σ' sd L
      exact ⟨vs, l1, by rw [l2.length]; exact Nat.le_of_eq hx⟩
  · cases g2
def loopF (t : Tg) (mb : MS) : List PyData → MS
  | [] => sNx
  | x :: xs => M.bind (M.of (binds t x)) fun bs sd => M.bind mb (fun f => match f with
    | .nx => loopF t mb xs
    | .ct => loopF t mb xs
    | .bk => sNx
    | .rt r => M.ret (.rt r)) (setsD sd bs)
@[simp] def mFor (ms : M Src) (t : Tg) (mb : MS) : MS := M.bind ms fun s => if s.gd.isEmpty then loopF t mb s.xs else M.stk
theorem PSs_ex {body : List Stmt} {mb : MS} (hb : ∀ c, PSs X body (tS X.K g (F.cp c) mb)) : PSs X body (fun D σ H => ∃ c, tS X.K g (F.cp c) mb D σ H) := ⟨fun pins s σ H D I h => by
  obtain ⟨c, h⟩ := h
  exact (hb c).run pins s σ H D I h⟩
def LoopAt (K : PySem.W.Frag) (g : Sg) (F : Fm) (D : Ends) (O : Ow) (H1 : Hp) (m : MS) (σ' : L2.St) (H' : Hp) : Prop := ∃ sd' O', RepH K F H' O' σ' sd' ∧ Cp (H1, O) H' O' ∧ FinS K g F D (m sd')
theorem body_of {K : PySem.W.Frag} {D : Ends} {σ : L2.St} {H H1 : Hp} {O O' : Ow} {sd : Sd} {mb k : MS} {N : L2.St → Hp → Prop} (R : RepH K F H O' σ sd) (C : Cp (H1, O) H O') (h : FinS K g F D (M.bind mb (fun f => match f with
    | .nx => k
    | .ct => k
    | .bk => sNx
    | .rt r => M.ret (.rt r)) sd)) (hN : ∀ σ' H', LoopAt K g F D O H1 k σ' H' → N σ' H') : ∃ c, tS K g (F.cp c) mb { D with nx := N, ct := N, bk := D.nx } σ H := by
  have R1 : RepH K (F.cp ((H1, O) :: F.cps)) H O' σ sd := ⟨R.rep, R.ext, R.nw, R.io, R.k0, R.o0, fun c hc => by
    rcases List.mem_cons.mp hc with rfl | hc
    · exact C
    · exact R.cp c hc⟩
  refine ⟨(H1, O) :: F.cps, sd, O', R1, ?_⟩
  unfold M.bind at h
  cases e3 : mb sd with
  | ok f sd4 =>
    rw [e3] at h
    cases f with
    | nx => exact fun σ5 H5 O5 R6 => hN _ _ ⟨sd4, O5, R6.pop.1, R6.pop.2, h⟩
    | ct => exact fun σ5 H5 O5 R6 => hN _ _ ⟨sd4, O5, R6.pop.1, R6.pop.2, h⟩
    | bk => exact fun σ5 H5 O5 R6 => h σ5 H5 O5 R6.pop.1
    | rt r => exact fun v σ5 H5 O5 R6 rr => h v σ5 H5 O5 R6.pop.1 rr
  | exc x sd4 =>
    rw [e3] at h
    exact fun c d σ5 H5 O5 R6 => h c d σ5 H5 O5 R6.pop.1
  | stk =>
    rw [e3] at h
    exact h
theorem s_for {tg iter : Expr} {body : List Stmt} {ms : M Src} {t : Tg} {mb : MS} {pos : Pos} (hp : PassesOwn (model X.prog X.w) X.A X.env X.xe) (hc : X.calm = true) (hi : PI X tg iter (tI X.K g ms)) (hg : PG X tg (gT X.K t)) (hb : ∀ c, PSs X body (tS X.K g (F.cp c) mb)) (hm : noIo F.md t.ix = true := by rfl)
    (hs : ∀ x, foldedSetIterable iter X.env x = pure x := by intro _; rfl) : PS X (.For tg iter body [] pos) (tS X.K g F (mFor ms t mb)) := PS_of (ps_for hp hc hi hg (PSs_ex hb) hs) fun D σ H h => by
  obtain ⟨sd, O, R, a⟩ := h
  refine ⟨sd, O, R.rep, (aft_of R a).mono fun s sd1 H1 _ e1 R1 h1 J wk => ?_⟩
  obtain ⟨R2, h2⟩ := h1
  split at h2
  · rename_i hgd
    have gd0 : s.gd = [] := List.isEmpty_iff.mp hgd
    refine ⟨fun i m σ' H' => i + m = s.xs.length ∧ LoopAt X.K g F D O H1 (loopF t mb (s.xs.drop i)) σ' H', ⟨s.xs.length, by omega, sd1, O, R2, ⟨Ext.refl _ _, Nb.refl⟩, by simpa using h2⟩, fun i m σ' H' hW => ?_⟩
    obtain ⟨em, sd', O', R3, C, h3⟩ := hW
    have L : Later X.K σ O H1 s.gd H' O' σ' sd' := ⟨C.ext.weak R1.kind.sub, C.nw, R3.rep, by rw [gd0]; intro j hj; cases hj⟩
    by_cases hi : i < s.xs.length
    · have hx := List.getElem?_eq_getElem hi
      obtain ⟨go, yl⟩ := wk.go H' O' σ' sd' i _ L hx
      rw [List.drop_eq_getElem_cons hi] at h3
      refine .inr ⟨go, LoopAt X.K g F D O H1 (loopF t mb (s.xs.drop (i + 1))), fun σ2 H2 hN => ⟨m - 1, by omega, by omega, hN⟩, fun v H2 hy => ?_⟩
      obtain ⟨sm, dd⟩ := yl v H2 hy
      have R4 : RepH X.K F H2 O' σ' sd' := R3.step (Ext.same sm) (R3.rep.same sm)
      unfold loopF at h3
      cases e2 : binds t s.xs[i] with
      | none =>
        rw [e2] at h3
        exact False.elim h3
      | some bs =>
        rw [e2] at h3
        exact unp_of hm R4 dd e2 fun σ3 R5 => body_of R5 (C.step (Ext.same sm)) h3 fun _ _ z => z
    · refine .inl ⟨wk.stop H' O' σ' sd' i L (by omega), ?_⟩
      rw [List.drop_of_length_le (by omega)] at h3
      exact h3 σ' H' O' R3
  · exact False.elim h2
def mWhile (t : M Bool) (mb : MS) : Nat → MS
  | 0 => M.stk
  | n + 1 => M.bind t fun k => if k then M.bind mb (fun f => match f with
    | .nx => mWhile t mb n
    | .ct => mWhile t mb n
    | .bk => sNx
    | .rt r => M.ret (.rt r)) else sNx
theorem s_while {c : Expr} {body : List Stmt} {t : M Bool} {mb : MS} {pos : Pos} (n : Nat) (hp : PassesOwn (model X.prog X.w) X.A X.env X.xe) (hc : PT X c (tT X.K g t)) (hb : ∀ c, PSs X body (tS X.K g (F.cp c) mb)) : PS X (.While c body [] pos) (tS X.K g F (mWhile t mb n)) :=
  PS_of (ps_while hp hc (PSs_ex hb)) fun D σ H h => by
  refine ⟨fun m σ' H' => tS X.K g F (mWhile t mb m) D σ' H', ⟨n, h⟩, fun m σ' H' hW => ?_⟩
  obtain ⟨sd, O, R, a⟩ := hW
  cases m with
  | zero => exact False.elim a
  | succ m =>
    refine ⟨sd, O, R.rep, (aft_of R a).mono fun k sd1 H1 _ e1 R1 h1 => ?_⟩
    obtain ⟨R2, h2⟩ := h1
    cases k with
    | true =>
      rw [if_pos rfl] at h2 ⊢
      refine ⟨fun σ2 H2 => tS X.K g F (mWhile t mb m) D σ2 H2, fun σ2 H2 z => ⟨m, Nat.lt_succ_self m, z⟩, ?_⟩
      exact body_of (H1 := H1) (O := O) R2 ⟨Ext.refl _ _, Nb.refl⟩ h2 fun σ2 H2 z => by
        obtain ⟨sd', O', z1, _, z3⟩ := z
        exact ⟨sd', O', z1, z3⟩
    | false =>
      rw [if_neg Bool.false_ne_true] at h2 ⊢
      exact h2 σ' H1 O R2
end
end VS
namespace VS
open PySem PySem.Spec PyProof.Rows L2
variable [TabL]
set_option maxHeartbeats 1000000 in
theorem meets_enum1 {v : Value} {o : Obj} {Hq : Heap → Prop} (B : Begins v o Hq) :
    Meets (Builtin.«enumerate.__new__» ⟨[.type "enumerate", v], []⟩) (fun _ R s => Hq s.heap ∧
      R (.ok (.ret (.ref (s.heap.push o).objs.size))) { s with heap := (s.heap.push o).push { cls := .type "enumerate", data := .fields #[.none, .bool false, .ref s.heap.objs.size, rawInt 0, .none, .none] } }) := by
  refine .of_wp fun prog w A R s h => ?_
  obtain ⟨hp, g, d, tk, os⟩ := s
  obtain ⟨hq, hr⟩ := h
  have subE := sub_enumerate
  have it1 : ∀ {A' : Around} {E : Value → Shared → Prop} {Q : Value → Shared → Prop}, Q (.ref hp.objs.size) ⟨hp.push o, g, d, tk, os⟩ → wpAny (model prog w) A' (pyIter v) Q E ⟨hp, g, d, tk, os⟩ := fun q =>
    B.iter prog w _ _ ⟨hp, g, d, tk, os⟩ _ hq q
  wp_walk using it1
  refine wpAny_stack_any fun st => wpAny_pure ?_
  split
  · rename_i c _ _ _ _ _
    cases (c == Value.type "enumerate") <;> (wp_walk using it1; exact ⟨_, rfl, hr⟩)
  · wp_walk using it1
    exact ⟨_, rfl, hr⟩
theorem call_enum1 {prog : Program} {w : World} {A : Around} {E : Value → Shared → Prop} {s : Shared} {v : Value} {o : Obj} {Hq : Heap → Prop} {Q : Value → Shared → Prop} (B : Begins v o Hq) (hq : Hq s.heap)
    (h : ∀ h', IsEnum h' (s.heap.objs.size + 1) s.heap.objs.size 0 .none → h'.get? s.heap.objs.size = some o → (∀ b o, s.heap.get? b = some o → h'.get? b = some o) → Q (.ref (s.heap.objs.size + 1)) { s with heap := h' }) :
    wpAny (model prog w) A (call (.type "enumerate") [v]) Q E s := by
  refine callType_new F.called_enumerate (by decide) (F.typeCall_enumerate_1 _) (F.newCall_enumerate_1 _) (fun obj => F.args_object_init_2 obj _) F.entry_enumerate_new (meets_enum1 B) ⟨hq, ?_⟩
  have z1 : (s.heap.push o).objs.size = s.heap.objs.size + 1 := Heap.size_push ..
  show _ ∧ _
  rw [z1]
  let eo : Obj := { cls := .type "enumerate", data := .fields #[.none, .bool false, .ref s.heap.objs.size, rawInt 0, .none, .none] }
  have en : IsEnum ((s.heap.push o).push eo) (s.heap.objs.size + 1) s.heap.objs.size 0 .none := by
    have q := Heap.get?_push_size (s.heap.push o) (o := eo) rfl
    rw [z1] at q
    exact q
  exact ⟨⟨_, en, rfl⟩, h _ en (Heap.get?_push_of_some _ (Heap.get?_push_size _ B.free)) fun b u x => Heap.get?_push_of_some _ (Heap.get?_push_of_some _ x)⟩
def IteT (K : PySem.W.Frag) (a : Addr) : It :=
  ⟨fun i H => ∃ (xs : List V) (x : V), SqT K H a xs ∧ xs[i]? = some x, fun i H v H' => ∃ T o x, v = .ref T ∧ H T = none ∧ o.dict = none ∧ H' = upd H T (.frz o (.tup [.int (i : Nat), x])) ∧ ∀ xs, SqT K H a xs → xs[i]? = some x, fun i H => ∃ xs : List V, SqT K H a xs ∧ xs.length = i⟩
theorem turn_enumT {P : Program} {w : World} {K : PySem.W.Frag} {elts : List Expr} {kk : Nat} {tpos : Pos} (a e it : Addr) :
    Turn P w K (.Tuple elts kk tpos) (IteT K a) [e, it] e (fun i h => (∃ old, IsEnum h e it ((i : Nat) : Int) old) ∧ h.IsTupleIter it a i ∧ e ≠ it ∧ a ≠ it ∧ a ≠ e) where
  mem := List.mem_cons_self
  obj := fun i h st b hb => by
    obtain ⟨⟨old, he⟩, ⟨o, ho, _, hd⟩, _⟩ := st
    rcases List.mem_cons.mp hb with rfl | hb
    · exact ⟨_, he, fun v q => nomatch q⟩
    · rw [List.mem_singleton] at hb
      subst hb
      exact ⟨o, ho, fun v q => by rw [hd] at q; cases q⟩
  keep := fun i h h' st k => by
    obtain ⟨⟨old, he⟩, hi, rest⟩ := st
    exact ⟨⟨old, k e List.mem_cons_self _ he⟩, hi.at fun o q => k it (List.mem_cons_of_mem _ List.mem_cons_self) o q, rest⟩
  item := by
    rintro X rfl rfl rfl hc i pins s σ H E I hf ⟨⟨old, he⟩, hit, hne, hai, hae⟩ ⟨xs, x, hq, hx⟩
    obtain ⟨its, rv, pl, _⟩ := I.tuple hq
    obtain ⟨u, hu, ru⟩ := rv.get hx
    have le : e < s.heap.objs.size := Heap.lt_size he
    have li : it < s.heap.objs.size := by
      obtain ⟨_, q, _⟩ := hit
      exact Heap.lt_size q
    have hlt : i < its.toArray.size := by
      have := (List.getElem?_eq_some_iff.mp hu).1
      simpa using this
    have D := Draws.tuple (prog := X.prog) (w := X.w) (A := X.A.in1) (I.ok.hd hc) it a hai its.toArray
    refine wpAny_pyNext_enum_itemD D he ⟨hit, pl⟩ hlt hne (by simp [hne, Ne.symm hae]) fun y h' tk hy ho hst hT hsz hk => ?_
    have ey : y = u := by
      have : its.toArray[i]? = some y := hy
      simp only [List.getElem?_toArray] at this
      rw [hu] at this
      exact (Option.some.inj this).symm
    subst ey
    refine ⟨_, rfl, wpAny_letOwnedTupleGo_enum (s := { s with heap := h', toks := tk + 1 }) ho fun h2 he2 sb => ?_⟩
    have hT2 : h2.get? s.heap.objs.size = some { cls := .type "tuple", data := .seq #[.int i tk, y] } := (sb.2 _ (Nat.ne_of_gt le)).trans hT
    have two : ([V.int (i : Nat), x] : List V).length ≤ sizeLine := by
      rw [sizeLine_eq]
      show 2 ≤ 16777216
      decide
    have new : ObjOk X.prog X.w (upd H s.heap.objs.size (.frz { cls := .type "tuple", data := .seq #[.int i tk, y] } (.tup [.int (i : Nat), x]))) h2 s.heap.objs.size (.frz { cls := .type "tuple", data := .seq #[.int i tk, y] } (.tup [.int (i : Nat), x])) := ⟨hT2, two, [.int i tk, y], .cons ⟨_, rfl⟩ (.cons ru .nil), ⟨_, hT2, rfl, _, rfl⟩⟩
    have J := I.turnedNew (t' := tk + 1) (ch := [e, it]) (fun b ob hb q => (sb.2 b (fun z => hb (by simp [z]))).trans (hk b ob (fun z => hb (by simp [z])) (fun z => hb (by simp [z])) q)) hf (Nat.le_refl _) new
    refine ⟨.ref s.heap.objs.size, _, J, rfl, ⟨_, { cls := .type "tuple", data := .seq #[.int i tk, y] }, x, rfl, I.fresh, rfl, rfl, fun ys hy2 => by rw [I.tuple_inj hy2 hq]; exact hx⟩, ⟨⟨y, ?_⟩, hst.1.at fun o q => (sb.2 it (Ne.symm hne)).trans q, hne, hai, hae⟩, fun b hb => ?_⟩
    · rw [show ((i + 1 : Nat) : Int) = (i : Int) + 1 by omega]
      exact he2
    · have lb : b < s.heap.objs.size := by
        rcases List.mem_cons.mp hb with rfl | hb
        · exact le
        · rw [List.mem_singleton] at hb
          rw [hb]
          exact li
      rw [upd_ne (Nat.ne_of_lt lb)]
      exact (hf b hb).1
  done := by
    rintro X rfl rfl rfl hc i pins s σ H E I hf ⟨⟨old, he⟩, hit, hne, hai, hae⟩ ⟨xs, hq, hx⟩
    obtain ⟨its, rv, pl, _⟩ := I.tuple hq
    obtain ⟨f0, f1, f2, f3, f4, f5⟩ := hf it (List.mem_cons_of_mem _ List.mem_cons_self)
    have hl := rv.length
    have ei : its.toArray.size = i := by
      rw [List.size_toArray]
      omega
    have D := Draws.tuple (prog := X.prog) (w := X.w) (A := X.A.in1) (I.ok.hd hc) it a hai its.toArray
    refine wpAny_pyNext_enum_endD D he ⟨by rw [ei]; exact hit, pl⟩ fun h' eb => ⟨rfl, I.turned (t' := s.toks) (fun b o hb q => eb b o hb q) f0 f1 f3 f4 f5⟩
  self := fun A i s Q E st h => by
    obtain ⟨⟨_, he⟩, _⟩ := st
    exact wpAny_pyIter_enum he h
def IteL (K : PySem.W.Frag) (a : Addr) : It :=
  ⟨fun i H => ∃ (xs : List V) (x : V), SqL K H a xs ∧ xs[i]? = some x, fun i H v H' => ∃ T o x, v = .ref T ∧ H T = none ∧ o.dict = none ∧ H' = upd H T (.frz o (.tup [.int (i : Nat), x])) ∧ ∀ xs, SqL K H a xs → xs[i]? = some x, fun i H => ∃ xs : List V, SqL K H a xs ∧ xs.length = i⟩
theorem turn_enumL {P : Program} {w : World} {K : PySem.W.Frag} {elts : List Expr} {kk : Nat} {tpos : Pos} (a e it : Addr) :
    Turn P w K (.Tuple elts kk tpos) (IteL K a) [e, it] e (fun i h => (∃ old, IsEnum h e it ((i : Nat) : Int) old) ∧ h.IsListIter it a i ∧ e ≠ it ∧ a ≠ it ∧ a ≠ e) where
  mem := List.mem_cons_self
  obj := fun i h st b hb => by
    obtain ⟨⟨old, he⟩, ⟨o, ho, _, hd⟩, _⟩ := st
    rcases List.mem_cons.mp hb with rfl | hb
    · exact ⟨_, he, fun v q => nomatch q⟩
    · rw [List.mem_singleton] at hb
      subst hb
      exact ⟨o, ho, fun v q => by rw [hd] at q; cases q⟩
  keep := fun i h h' st k => by
    obtain ⟨⟨old, he⟩, hi, rest⟩ := st
    exact ⟨⟨old, k e List.mem_cons_self _ he⟩, hi.at fun o q => k it (List.mem_cons_of_mem _ List.mem_cons_self) o q, rest⟩
  item := by
    rintro X rfl rfl rfl hc i pins s σ H E I hf ⟨⟨old, he⟩, hit, hne, hai, hae⟩ ⟨xs, x, hq, hx⟩
    obtain ⟨its, rv, pl, _⟩ := I.list hq
    obtain ⟨u, hu, ru⟩ := rv.get hx
    have le : e < s.heap.objs.size := Heap.lt_size he
    have li : it < s.heap.objs.size := by
      obtain ⟨_, q, _⟩ := hit
      exact Heap.lt_size q
    have hlt : i < its.toArray.size := by
      have := (List.getElem?_eq_some_iff.mp hu).1
      simpa using this
    have D := Draws.list (prog := X.prog) (w := X.w) (A := X.A.in1) (I.ok.hd hc) it a hai its.toArray
    refine wpAny_pyNext_enum_itemD D he ⟨hit, pl.isList⟩ hlt hne (by simp [hne, Ne.symm hae]) fun y h' tk hy ho hst hT hsz hk => ?_
    have ey : y = u := by
      have : its.toArray[i]? = some y := hy
      simp only [List.getElem?_toArray] at this
      rw [hu] at this
      exact (Option.some.inj this).symm
    subst ey
    refine ⟨_, rfl, wpAny_letOwnedTupleGo_enum (s := { s with heap := h', toks := tk + 1 }) ho fun h2 he2 sb => ?_⟩
    have hT2 : h2.get? s.heap.objs.size = some { cls := .type "tuple", data := .seq #[.int i tk, y] } := (sb.2 _ (Nat.ne_of_gt le)).trans hT
    have two : ([V.int (i : Nat), x] : List V).length ≤ sizeLine := by
      rw [sizeLine_eq]
      show 2 ≤ 16777216
      decide
    have new : ObjOk X.prog X.w (upd H s.heap.objs.size (.frz { cls := .type "tuple", data := .seq #[.int i tk, y] } (.tup [.int (i : Nat), x]))) h2 s.heap.objs.size (.frz { cls := .type "tuple", data := .seq #[.int i tk, y] } (.tup [.int (i : Nat), x])) := ⟨hT2, two, [.int i tk, y], .cons ⟨_, rfl⟩ (.cons ru .nil), ⟨_, hT2, rfl, _, rfl⟩⟩
    have J := I.turnedNew (t' := tk + 1) (ch := [e, it]) (fun b ob hb q => (sb.2 b (fun z => hb (by simp [z]))).trans (hk b ob (fun z => hb (by simp [z])) (fun z => hb (by simp [z])) q)) hf (Nat.le_refl _) new
    refine ⟨.ref s.heap.objs.size, _, J, rfl, ⟨_, { cls := .type "tuple", data := .seq #[.int i tk, y] }, x, rfl, I.fresh, rfl, rfl, fun ys hy2 => by rw [I.list_inj hy2 hq]; exact hx⟩, ⟨⟨y, ?_⟩, hst.1.at fun o q => (sb.2 it (Ne.symm hne)).trans q, hne, hai, hae⟩, fun b hb => ?_⟩
    · rw [show ((i + 1 : Nat) : Int) = (i : Int) + 1 by omega]
      exact he2
    · have lb : b < s.heap.objs.size := by
        rcases List.mem_cons.mp hb with rfl | hb
        · exact le
        · rw [List.mem_singleton] at hb
          rw [hb]
          exact li
      rw [upd_ne (Nat.ne_of_lt lb)]
      exact (hf b hb).1
  done := by
    rintro X rfl rfl rfl hc i pins s σ H E I hf ⟨⟨old, he⟩, hit, hne, hai, hae⟩ ⟨xs, hq, hx⟩
    obtain ⟨its, rv, pl, _⟩ := I.list hq
    obtain ⟨f0, f1, f2, f3, f4, f5⟩ := hf it (List.mem_cons_of_mem _ List.mem_cons_self)
    have hl := rv.length
    have ei : its.toArray.size = i := by
      rw [List.size_toArray]
      omega
    have D := Draws.list (prog := X.prog) (w := X.w) (A := X.A.in1) (I.ok.hd hc) it a hai its.toArray
    refine wpAny_pyNext_enum_endD D he ⟨by rw [ei]; exact hit, pl.isList⟩ fun h' eb => ⟨rfl, I.turned (t' := s.toks) (fun b o hb q => eb b o hb q) f0 f1 f3 f4 f5⟩
  self := fun A i s Q E st h => by
    obtain ⟨⟨_, he⟩, _⟩ := st
    exact wpAny_pyIter_enum he h
def stTT (z TI TO i1 i2 a b : Addr) (i : Nat) (h : Heap) : Prop := IsZip h z TI TO .none ∧ IsTupOf2 h TI (.ref i1) (.ref i2) ∧ (∃ x y, IsTupOf2 h TO x y) ∧ h.IsTupleIter i1 a i ∧ h.IsTupleIter i2 b i
theorem stTT.at {z TI TO i1 i2 a b : Addr} {i : Nat} {h h' : Heap} (st : stTT z TI TO i1 i2 a b i h) (k : ∀ c ∈ [z, TI, TO, i1, i2], ∀ o, h.get? c = some o → h'.get? c = some o) : stTT z TI TO i1 i2 a b i h' := by
  obtain ⟨s1, s2, ⟨x, y, s3⟩, s4, s5⟩ := st
  exact ⟨k z (by simp) _ s1, k TI (by simp) _ s2, ⟨x, y, k TO (by simp) _ s3⟩, s4.at fun o e => k i1 (by simp) o e, s5.at fun o e => k i2 (by simp) o e⟩
def stLL (z TI TO i1 i2 a b : Addr) (i : Nat) (h : Heap) : Prop := IsZip h z TI TO .none ∧ IsTupOf2 h TI (.ref i1) (.ref i2) ∧ (∃ x y, IsTupOf2 h TO x y) ∧ h.IsListIter i1 a i ∧ h.IsListIter i2 b i
theorem stLL.at {z TI TO i1 i2 a b : Addr} {i : Nat} {h h' : Heap} (st : stLL z TI TO i1 i2 a b i h) (k : ∀ c ∈ [z, TI, TO, i1, i2], ∀ o, h.get? c = some o → h'.get? c = some o) : stLL z TI TO i1 i2 a b i h' := by
  obtain ⟨s1, s2, ⟨x, y, s3⟩, s4, s5⟩ := st
  exact ⟨k z (by simp) _ s1, k TI (by simp) _ s2, ⟨x, y, k TO (by simp) _ s3⟩, s4.at fun o e => k i1 (by simp) o e, s5.at fun o e => k i2 (by simp) o e⟩
section
variable {X : Cx} {g : Sg} {F : Fm}
theorem pi_enumT {e : Expr} {ta : TA} {p pos tpos : Pos} {elts : List Expr} {kk : Nat} (hg : Gl X "enumerate") (hm : X.mg "enumerate" = none) (ha : PA X [e] ta) (hs : starEach [e] X.env = [(false, eval e X.env)] := by rfl) :
    PI X (.Tuple elts kk tpos) (.Call (.Name "enumerate" p) [e] [] pos) (fun σ H R => ta σ H fun vs H1 => ∃ a, vs = [.ref a] ∧ ((∃ xs, SqL X.K H1 a xs ∧ R (IteL X.K a) H1) ∨ ∃ xs, SqT X.K H1 a xs ∧ R (IteT X.K a) H1)) := by
  constructor
  intro pins s σ H R I h
  refine PyProof.Rows.Call_ (ld_blt I hg hm PyProof.Rows.boot_enumerate (PyProof.Rows.callWith_type1 (thn (ha.run pos pins s σ H _ I h) fun us s1 w => ?_) hs rfl))
  obtain ⟨vs, H1, I1, r1, a, rfl, q⟩ := w
  rw [Vals.ref1 r1]
  have fp : ∀ b ∈ [s1.heap.objs.size + 1, s1.heap.objs.size], FpOk X pins H1 b := fun b hb => by
    have hle : s1.heap.objs.size ≤ b := by
      rcases List.mem_cons.mp hb with rfl | hb
      · exact Nat.le_succ _
      · rw [List.mem_singleton] at hb
        exact Nat.le_of_eq hb.symm
    exact I1.fpOk hle (I1.hok.fresh hle)
  rcases q with ⟨xs, hq, q⟩ | ⟨xs, hq, q⟩
  · obtain ⟨its, rv, pl, _⟩ := I1.list hq
    have la : a < s1.heap.objs.size := pl.lt
    refine call_enum1 (begins_list a its.toArray) pl.isList fun h' he hit hk => wpAny_pyIter_enum he ?_
    exact ⟨_, _, _, IteL X.K a, H1, rfl, I1.kept (t' := s1.toks) hk, turn_enumL a _ _, ⟨⟨.none, he⟩, ⟨_, hit, rfl, rfl⟩, Nat.succ_ne_self _, Nat.ne_of_lt la, Nat.ne_of_lt (Nat.lt_succ_of_lt la)⟩, fp, q⟩
  · obtain ⟨its, rv, pl, _⟩ := I1.tuple hq
    have la : a < s1.heap.objs.size := by
      obtain ⟨o, ho, _⟩ := pl
      exact Heap.lt_size ho
    refine call_enum1 (begins_tuple a its.toArray) pl fun h' he hit hk => wpAny_pyIter_enum he ?_
    exact ⟨_, _, _, IteT X.K a, H1, rfl, I1.kept (t' := s1.toks) hk, turn_enumT a _ _, ⟨⟨.none, he⟩, ⟨_, hit, rfl, rfl⟩, Nat.succ_ne_self _, Nat.ne_of_lt la, Nat.ne_of_lt (Nat.lt_succ_of_lt la)⟩, fp, q⟩
def enumL (xs : List PyData) : List PyData := (List.range xs.length).map fun i => .tuple [.int (i : Nat), xs.getD i .none]
theorem enumL_length (xs : List PyData) : (enumL xs).length = xs.length := by unfold enumL; simp
theorem enumL_get {xs : List PyData} {i : Nat} {x : PyData} (h : (enumL xs)[i]? = some x) : ∃ y, xs[i]? = some y ∧ x = .tuple [.int (i : Nat), y] := by
  unfold enumL at h
  rw [List.getElem?_map] at h
  obtain ⟨j, h1, rfl⟩ := Option.map_eq_some_iff.mp h
  obtain ⟨h2, h3⟩ := List.getElem?_eq_some_iff.mp h1
  simp at h2 h3
  subst h3
  have hi : i < xs.length := by simpa using h2
  refine ⟨xs[i], List.getElem?_eq_getElem hi, ?_⟩
  simp [List.getD, List.getElem?_eq_getElem hi]
@[simp] def mEnum (m : M Opd) : M Src := M.bind m fun r => M.bind (getM r) fun d => M.bind (M.of (rowOf d)) fun xs => M.ret ⟨enumL xs, gdOf d r⟩
theorem dd_pair {K : PySem.W.Frag} {H : Hp} {O : Ow} {T : Addr} {v u : V} {d e : PyData} (k : Kinds H O) (hT : H T = none) {o : Obj} (ho : o.dict = none) (h1 : Dd K H O v d) (h2 : Dd K H O u e) : Dd K (upd H T (.frz o (.tup [v, u]))) O (.ref T) (.tuple [d, e]) := dd_tup k hT ho (.cons h1 (.cons h2 .nil))
theorem i_enum {e : Expr} {me : M Opd} {p pos tpos : Pos} {elts : List Expr} {kk : Nat} (hg : Gl X "enumerate") (hm : X.mg "enumerate" = none) (he : PE X e (tD X.K g me)) (hs : starEach [e] X.env = [(false, eval e X.env)] := by rfl) (hs2 : starEach [e] X.env = (false, eval e X.env) :: starEach [] X.env := by rfl) :
    PI X (.Tuple elts kk tpos) (.Call (.Name "enumerate" p) [e] [] pos) (tI X.K g (mEnum me)) := PI_of (pi_enumT hg hm (pa_cons he pa_nil hs2) hs) fun σ H R h => by
  obtain ⟨sd, O, R0, a⟩ := h
  refine ⟨sd, O, R0, a.bind.mono fun r sd1 H1 _ e1 R1 h1 v hv => ?_⟩
  obtain ⟨d, g1, h3⟩ := h1.get
  obtain ⟨xs, g2, h4⟩ := h3.of
  unfold rowOf at g2
  split at g2
  · cases g2
    obtain ⟨p, rfl, ⟨ys, hq⟩, L0⟩ := later_list R1 hv g1
    refine ⟨p, rfl, .inl ⟨ys, hq, h4.now R1 _ ⟨fun H O' σ' sd i x L hx => ?_, fun H O' σ' sd i L hx => ?_⟩⟩⟩
    · obtain ⟨vs, l1, l2⟩ := L0 H O' σ' sd L
      obtain ⟨y, y1, rfl⟩ := enumL_get hx
      obtain ⟨v, v1, v2⟩ := l2.get y1
      refine ⟨⟨vs, v, l1, v1⟩, fun w H' hy => ?_⟩
      obtain ⟨T, o, x', rfl, hT, ho, rfl, hy⟩ := hy
      have := hy vs l1
      rw [v1] at this
      cases this
      exact ⟨same_new hT, dd_pair L.rep.kind hT ho (.int _) v2⟩
    · obtain ⟨vs, l1, l2⟩ := L0 H O' σ' sd L
      have hx : (enumL xs).length = i := hx
      rw [enumL_length] at hx
      exact ⟨vs, l1, by rw [l2.length]; omega⟩
  · cases g2
    obtain ⟨p, rfl, ⟨ys, hq⟩, L0⟩ := later_tup R1 hv g1 (gd := gdOf (.tuple xs) r)
    refine ⟨p, rfl, .inr ⟨ys, hq, h4.now R1 _ ⟨fun H O' σ' sd i x L hx => ?_, fun H O' σ' sd i L hx => ?_⟩⟩⟩
    · obtain ⟨vs, l1, l2⟩ := L0 H O' σ' sd L
      obtain ⟨y, y1, rfl⟩ := enumL_get hx
      obtain ⟨v, v1, v2⟩ := l2.get y1
      refine ⟨⟨vs, v, l1, v1⟩, fun w H' hy => ?_⟩
      obtain ⟨T, o, x', rfl, hT, ho, rfl, hy⟩ := hy
      have := hy vs l1
      rw [v1] at this
      cases this
      exact ⟨same_new hT, dd_pair L.rep.kind hT ho (.int _) v2⟩
    · obtain ⟨vs, l1, l2⟩ := L0 H O' σ' sd L
      have hx : (enumL xs).length = i := hx
      rw [enumL_length] at hx
      exact ⟨vs, l1, by rw [l2.length]; omega⟩
  · cases g2
@[simp] def zipL : List PyData → List PyData → List PyData
  | x :: xs, y :: ys => .tuple [x, y] :: zipL xs ys
  | _, _ => []
@[simp] def zipRow : PyData → PyData → Option (List PyData)
  | .list xs, .list ys => some (zipL xs ys)
  | .tuple xs, .tuple ys => some (zipL xs ys)
  | _, _ => none
@[simp] def mZip (ma mb : M Opd) : M Src := M.bind ma fun r => M.bind mb fun q => M.bind (getM r) fun d => M.bind (getM q) fun e => M.bind (M.of (zipRow d e)) fun xs => M.ret ⟨xs, gdOf d r ++ gdOf e q⟩
end
end VS
namespace VS
open PySem L2
variable [TabL]
section
variable {K : PySem.W.Frag} {g : Sg} {F : Fm} {H H' : Hp} {O O' : Ow} {σ σ2 : L2.St} {sd sd' : Sd} {D : Ends} {p : Addr}
theorem ds_set {o : HO} {vs : List V} {ds : List PyData} (k : Kinds H O) (hp : O.o p) (h : Ds K H O vs ds) : Ds K (upd H p o) O vs ds := Ds.keep k (Ext.set hp) (fun _ z => .inl z) ds vs h
theorem dk_set {o : HO} {vs : List (Key × V)} {ds : List (PyData × PyData)} (k : Kinds H O) (hp : O.o p) (h : Dk K H O vs ds) : Dk K (upd H p o) O vs ds := Dk.keep k (Ext.set hp) (fun _ z => .inl z) ds vs h
theorem own_other {o : HO} {q : Addr} {d : PyData} (k : Kinds H O) (hp : O.o p) (hq : q ≠ p) (h : OwnR K H O q d) : OwnR K (upd H p o) O q d := h.keep k (Ext.set hp) (fun _ z => .inl z) (upd_ne hq)
theorem kinds_set {o : HO} (k : Kinds H O) (hp : O.o p) (ho : OwnK o) : Kinds (upd H p o) O := ⟨k.sub, fun q z => by
  by_cases e : q = p
  · subst e
    exact ⟨o, upd_same, ho⟩
  · rw [upd_ne e]
    exact k.kd q z, k.cs, k.tbset (k.sub p hp)⟩
theorem Rep.setFree {o : HO} (R : Rep K H O σ sd) (hp : O.o p) (f : FreshAt σ sd p) (ho : OwnK o) (nc : ¬ O.c p) : Rep K (upd H p o) O σ sd where
  len := R.len
  slot := fun i s h => by
    obtain ⟨v, a, b⟩ := R.slot i s h
    refine ⟨v, a, ?_⟩
    cases s with
    | dat d => exact Dd.keep R.kind (Ext.set hp) (fun _ z => .inl z) d v b
    | nd es => exact NdR.keep R.kind (Ext.set hp) (fun _ z => .inl z) b
    | own d =>
      obtain ⟨q, rfl, c1, c2⟩ := b
      refine ⟨q, rfl, c1, own_other R.kind hp (fun e => ?_) c2⟩
      subst e
      exact f i d (by rw [h]; rfl) a
    | dp d =>
      obtain ⟨q, e, b⟩ := b
      exact ⟨q, e, b.keep R.kind (Ext.set hp) (fun _ z => .inl z) (fun _ z _ => z) (fun _ z => z) fun r _ z => upd_ne fun e => nc (e ▸ z)⟩
    | exn xi x => exact ⟨b.1, b.2.keep R.kind (Ext.set hp) fun _ z => .inl z⟩
  inj := R.inj
  kind := kinds_set R.kind hp ho
theorem Rep.setOwn {o : HO} {i : Nat} {d d' : PyData} (R : Rep K H O σ sd) (hi : σ[i]? = some (some (.ref p))) (hd : ownOf sd[i]? = some d) (hp : O.o p) (ho : OwnR K (upd H p o) O p d') : Rep K (upd H p o) O σ (sd.set i (some (.own d'))) where
  len := by rw [List.length_set, R.len]
  slot := fun j s h => by
    rw [getElem?_set'] at h
    split at h
    · rename_i hc
      cases h
      refine ⟨.ref p, by rw [← hc.1]; exact hi, p, rfl, ⟨hp, R.ownedC hd hi⟩, ho⟩
    · rename_i hc
      obtain ⟨v, a, b⟩ := R.slot j s h
      refine ⟨v, a, ?_⟩
      cases s with
      | dat d => exact Dd.keep R.kind (Ext.set hp) (fun _ z => .inl z) d v b
      | nd es => exact NdR.keep R.kind (Ext.set hp) (fun _ z => .inl z) b
      | own e =>
        obtain ⟨q, rfl, c1, c2⟩ := b
        refine ⟨q, rfl, c1, own_other R.kind hp (fun e => ?_) c2⟩
        subst e
        have := R.inj i j q d e hi hd a (by rw [h]; rfl)
        subst this
        apply hc
        refine ⟨rfl, (List.getElem?_eq_some_iff.mp h).1⟩
      | dp d =>
        obtain ⟨q, e, b⟩ := b
        exact ⟨q, e, b.keep R.kind (Ext.set hp) (fun _ z => .inl z) (fun _ z _ => z) (fun _ z => z) fun r _ z => upd_ne fun e => R.ownedC hd hi (e ▸ z)⟩
      | exn xi x => exact ⟨b.1, b.2.keep R.kind (Ext.set hp) fun _ z => .inl z⟩
  inj := fun j k q a b h1 h2 h3 h4 => by
    have back : ∀ (l : Nat) (c : PyData), ownOf (sd.set i (some (.own d')))[l]? = some c → ∃ c', ownOf sd[l]? = some c' := fun l c hc => by
      rw [getElem?_set'] at hc
      split at hc
      · rename_i hl
        rw [← hl.1]
        exact ⟨d, hd⟩
      · exact ⟨c, hc⟩
    obtain ⟨a', h2'⟩ := back j a h2
    obtain ⟨b', h4'⟩ := back k b h4
    exact R.inj j k q a' b' h1 h2' h3 h4'
  kind := kinds_set R.kind hp (by
    obtain ⟨u, e, k⟩ := ho.there
    rw [upd_same] at e
    cases e
    exact k)
def hidO (O : Ow) (p : Addr) : Ow := ⟨O.o, fun q => O.a q ∨ q = p, O.c⟩
theorem Dd.same {v : V} {d : PyData} {O1 O2 : Ow} (e : O1.a = O2.a) (h : Dd K H O1 v d) : Dd K H O2 v d := Dd.less (fun q z => by rw [e]; exact z) d v h
theorem Ds.same {v : List V} {d : List PyData} {O1 O2 : Ow} (e : O1.a = O2.a) (h : Ds K H O1 v d) : Ds K H O2 v d := Ds.less (fun q z => by rw [e]; exact z) d v h
theorem NdR.same {v : V} {es : List (PyData × PyData)} {O1 O2 : Ow} (e : O1.a = O2.a) (h : NdR K H O1 v es) : NdR K H O2 v es := NdR.less (fun p z => by rw [e]; exact z) h
theorem OwnR.same {d : PyData} {O1 O2 : Ow} (e : O1.a = O2.a) (h : OwnR K H O1 p d) : OwnR K H O2 p d := by
  cases d with
  | list ds =>
    obtain ⟨vs, q1, q2⟩ := h
    exact ⟨vs, q1, q2.same e⟩
  | dict ds =>
    obtain ⟨vs, q1, q2⟩ := h
    exact ⟨vs, q1, q2.less (fun q z => by rw [e]; exact z) _ _⟩
  | _ => exact h
theorem hid_a : (hidO O p).a = (addO O p).a := rfl
theorem Rep.unhide (R : Rep K H (hidO O p) σ sd) : Rep K H (addO O p) σ sd where
  len := R.len
  slot := fun i s h => by
    obtain ⟨v, a, b⟩ := R.slot i s h
    refine ⟨v, a, ?_⟩
    cases s with
    | dat d => exact Dd.same hid_a b
    | nd es => exact NdR.same hid_a b
    | own d =>
      obtain ⟨q, e, c1, c2⟩ := b
      exact ⟨q, e, ⟨.inl c1.1, c1.2⟩, c2.same hid_a⟩
    | dp d =>
      obtain ⟨q, e, b⟩ := b
      exact ⟨q, e, DpR.less (O := hidO O p) (O' := addO O p) (fun _ z => z) (fun _ z _ => .inl z) (fun _ _ z => z) b⟩
    | exn xi x => exact ⟨b.1, XF.less (O := hidO O p) (O' := addO O p) (fun _ z => z) b.2⟩
  inj := R.inj
  kind := ⟨fun q z => z.elim (fun z => R.kind.sub q z) .inr, R.kind.kd, fun q z => .inl (R.kind.cs q z), R.kind.tb⟩
theorem Rep.hide (R : Rep K H (addO O p) σ sd) (f : FreshAt σ sd p) (ks : ∀ q, O.o q → O.a q) (cs : ∀ q, O.c q → O.o q) (nc : ¬ O.c p) : Rep K H (hidO O p) σ sd where
  len := R.len
  slot := fun i s h => by
    obtain ⟨v, a, b⟩ := R.slot i s h
    refine ⟨v, a, ?_⟩
    cases s with
    | dat d => exact Dd.same hid_a.symm b
    | nd es => exact NdR.same hid_a.symm b
    | own d =>
      obtain ⟨q, e, c1, c2⟩ := b
      refine ⟨q, e, ⟨?_, c1.2⟩, c2.same hid_a.symm⟩
      rcases c1.1 with c1 | rfl
      · exact c1
      · subst e
        exact absurd a (f i d (by rw [h]; rfl))
    | dp d =>
      obtain ⟨q, e, b⟩ := b
      refine ⟨q, e, DpR.less (O := addO O p) (O' := hidO O p) (fun _ z => z) (fun x z1 z2 => ?_) (fun _ _ z => z) b⟩
      rcases z1 with z1 | rfl
      · exact z1
      · exact absurd z2 nc
    | exn xi x => exact ⟨b.1, XF.less (O := addO O p) (O' := hidO O p) (fun _ z => z) b.2⟩
  inj := R.inj
  kind := ⟨fun q z => .inl (ks q z), R.kind.kd, cs, R.kind.tb⟩
theorem Rep.hidFresh (R : Rep K H (hidO O p) σ sd) (n : ¬ O.o p) : FreshAt σ sd p := fun i d e z => by
  obtain ⟨q, a, b, c⟩ := R.owned e
  rw [z] at a
  cases a
  exact n b
theorem Rep.hidSet {o : HO} (R : Rep K H (hidO O p) σ sd) (n : ¬ O.o p) (ks : ∀ q, O.o q → O.a q) (ho : OwnK o) : Rep K (upd H p o) (hidO O p) σ sd :=
  (R.unhide.setFree (.inr rfl) (R.hidFresh n) ho fun z => n (R.kind.cs p z)).hide (R.hidFresh n) ks R.kind.cs fun z => n (R.kind.cs p z)
theorem ds_hidSet {o : HO} {vs : List V} {ds : List PyData} (k : Kinds H (hidO O p)) (h : Ds K H (hidO O p) vs ds) : Ds K (upd H p o) (hidO O p) vs ds :=
  (ds_set (O := addO O p) ⟨fun q z => z.elim (fun z => k.sub q z) .inr, k.kd, fun q z => .inl (k.cs q z), k.tb⟩ (.inr rfl) (h.same hid_a)).same hid_a.symm
theorem Rep.hidNew {o : HO} (R : Rep K H O σ sd) (hp : H p = none) (ho : OwnK o) : Rep K (upd H p o) (hidO O p) σ sd := (R.add hp ho).hide (R.freshAt hp) R.kind.sub R.kind.cs (R.kind.newc hp)
@[simp] def wipeD (sd : Sd) : List Nat → Sd
  | [] => sd
  | v :: vs => (wipeD sd vs).set v none
theorem wipeD_length (sd : Sd) : ∀ vs, (wipeD sd vs).length = sd.length
  | [] => rfl
  | v :: vs => by
    unfold wipeD
    rw [List.length_set, wipeD_length sd vs]
theorem wipeD_some {i : Nat} {s : Sl} : ∀ {vs : List Nat}, (wipeD sd vs)[i]? = some (some s) → sd[i]? = some (some s) ∧ i ∉ vs
  | [], h => ⟨h, by simp⟩
  | v :: vs, h => by
    unfold wipeD at h
    rw [getElem?_set'] at h
    split at h
    · cases h
    · rename_i hc
      obtain ⟨h1, h2⟩ := wipeD_some h
      refine ⟨h1, ?_⟩
      rw [List.mem_cons, not_or]
      refine ⟨fun e => hc ⟨e.symm, ?_⟩, h2⟩
      exact (List.getElem?_eq_some_iff.mp h).1
theorem ownOf_wipe {i : Nat} {d : PyData} {vs : List Nat} (h : ownOf (wipeD sd vs)[i]? = some d) : ownOf sd[i]? = some d ∧ i ∉ vs := by
  obtain ⟨a, b⟩ := wipeD_some (ownOf_some h)
  exact ⟨by rw [a]; rfl, b⟩
theorem wipe_at {vs : List Nat} (e : wipe σ2 vs = wipe σ vs) {i : Nat} (hi : i ∉ vs) : σ2[i]? = σ[i]? := by
  rw [← wipe_out (σ := σ2) hi, e, wipe_out hi]
theorem Rep.back {vs : List Nat} (R : Rep K H O σ2 sd) (e : wipe σ2 vs = wipe σ vs) : Rep K H O σ (wipeD sd vs) where
  len := by
    have := congrArg List.length e
    rw [wipe_length, wipe_length] at this
    rw [wipeD_length, R.len, this]
  slot := fun i s h => by
    obtain ⟨a, b⟩ := wipeD_some h
    obtain ⟨v, c1, c2⟩ := R.slot i s a
    exact ⟨v, by rw [← wipe_at e b]; exact c1, c2⟩
  inj := fun i j q a b h1 h2 h3 h4 => by
    obtain ⟨k1, k2⟩ := ownOf_wipe h2
    obtain ⟨l1, l2⟩ := ownOf_wipe h4
    exact R.inj i j q a b (by rw [wipe_at e k2]; exact h1) k1 (by rw [wipe_at e l2]; exact h3) l1
  kind := R.kind
theorem wipe_set {vs : List Nat} {v : Option V} {i : Nat} (hi : i ∈ vs) : wipe (σ.set i v) vs = wipe σ vs := by
  apply List.ext_getElem?
  intro j
  by_cases hj : j ∈ vs
  · by_cases hl : j < σ.length
    · have h1 : ∀ τ : L2.St, τ.length = σ.length → (wipe τ vs)[j]? = some none := fun τ ht => by
        cases e : (wipe τ vs)[j]? with
        | none =>
          have := List.getElem?_eq_none_iff.mp e
          rw [wipe_length, ht] at this
          omega
        | some o =>
          cases o with
          | none => rfl
          | some x => exact absurd hj (wipe_some e).2
      rw [h1 _ (by simp), h1 _ rfl]
    · rw [List.getElem?_eq_none (by rw [wipe_length]; simp; omega), List.getElem?_eq_none (by rw [wipe_length]; omega)]
  · rw [wipe_out hj, wipe_out hj, List.getElem?_set_ne]
    intro e
    subst e
    exact hj hi
theorem wipe_wipe {vs : List Nat} : wipe (wipe σ vs) vs = wipe σ vs := by
  apply List.ext_getElem?
  intro j
  by_cases hj : j ∈ vs
  · by_cases hl : j < σ.length
    · have h1 : ∀ τ : L2.St, τ.length = σ.length → (wipe τ vs)[j]? = some none := fun τ ht => by
        cases e : (wipe τ vs)[j]? with
        | none =>
          have := List.getElem?_eq_none_iff.mp e
          rw [wipe_length, ht] at this
          omega
        | some o =>
          cases o with
          | none => rfl
          | some x => exact absurd hj (wipe_some e).2
      rw [h1 _ (by rw [wipe_length]), h1 _ rfl]
    · rw [List.getElem?_eq_none (by rw [wipe_length, wipe_length]; omega), List.getElem?_eq_none (by rw [wipe_length]; omega)]
  · rw [wipe_out hj]
theorem wipe_sets {vs : List Nat} : ∀ {ws : List (Nat × V)}, (∀ w ∈ ws, w.1 ∈ vs) → ∀ σ : L2.St, wipe (setsV σ ws) vs = wipe σ vs
  | [], _, _ => rfl
  | (i, v) :: ws, h, σ => by
    show wipe (setsV (σ.set i (some v)) ws) vs = wipe σ vs
    rw [wipe_sets (fun w hw => h w (List.mem_cons_of_mem _ hw)), wipe_set (h _ List.mem_cons_self)]
theorem DsB.ix {vs : List (Nat × V)} {bs : List (Nat × PyData)} (h : DsB K H O vs bs) {ws : List Nat} (hb : ∀ b ∈ bs, b.1 ∈ ws) : ∀ w ∈ vs, w.1 ∈ ws := by
  induction h with
  | nil => intro w hw; cases hw
  | cons a _ ih =>
    intro w hw
    rcases List.mem_cons.mp hw with rfl | hw
    · exact hb _ List.mem_cons_self
    · exact ih (fun b hb' => hb b (List.mem_cons_of_mem _ hb')) w hw
end
noncomputable def gdB (gd : List (Nat × PyData)) (sd : Sd) : Bool := @decide (∀ j ∈ gd, ownOf sd[j.1]? = some j.2) (Classical.propDecidable _)
def stepC (vs : List Nat) (t : Tg) (mt : M Bool) (me : M Opd) (x : PyData) (acc : List PyData) : M (List PyData) := fun sd => match binds t x with
  | none => .stk
  | some bs => match mt (setsD (wipeD sd vs) bs) with
    | .ok false s1 => .ok acc s1
    | .ok true s1 => match me s1 with
      | .ok (.d d) s2 => if acc.length < sizeLine then .ok (acc ++ [d]) s2 else .stk
      | _ => .stk
    | _ => .stk
noncomputable def loopC (gd : List (Nat × PyData)) (vs : List Nat) (t : Tg) (mt : M Bool) (me : M Opd) : List PyData → List PyData → M PyData
  | [], acc => fun sd => if gdB gd sd then .ok (.list acc) (wipeD sd vs) else .stk
  | x :: xs, acc => fun sd => if gdB gd sd then (match stepC vs t mt me x acc sd with
    | .ok acc' s' => loopC gd vs t mt me xs acc' (wipeD s' vs)
    | _ => .stk) else .stk
@[simp] noncomputable def mLc (ms : M Src) (t : Tg) (mt : M Bool) (me : M Opd) (vs : List Nat) : M PyData := M.bind ms fun s => loopC s.gd vs t mt me s.xs []
def inL (is vs : List Nat) : Bool := is.all fun i => vs.contains i
theorem inL_of {is vs : List Nat} (h : inL is vs = true) {i : Nat} (hi : i ∈ is) : i ∈ vs := by
  have := List.all_eq_true.mp h i hi
  simpa using this
section
variable {X : Cx} {g g' : Sg} {F : Fm}
theorem turn_of {K : PySem.W.Frag} {σ : L2.St} {H : Hp} {O : Ow} {p : Addr} {sd s' : Sd} {t : Tg} {mt : M Bool} {me : M Opd} {vs : List Nat} {x : PyData} {v : V} {acc acc' : List PyData} {ws : List V} {Nx : Hp → Prop} (hv : inL t.ix vs = true)
    (R : Rep K H (hidO O p) σ sd) (np : ¬ O.o p) (ks : ∀ q, O.o q → O.a q) (hp : H p = some (.lst ws)) (ha : Ds K H (hidO O p) ws acc) (dd : Dd K H (hidO O p) v x) (h : stepC vs t mt me x acc sd = .ok acc' s')
    (q : ∀ H' ws', Rep K H' (hidO O p) σ (wipeD s' vs) → H' p = some (.lst ws') → Ds K H' (hidO O p) ws' acc' → (∀ a o, H a = some o → a ≠ p → ¬ O.o a → NoT o → Kept O a o H') → (∀ a o, H a = some o → ∃ o', H' a = some o') → Nx H') :
    gT K t v (wipe σ vs) H fun σ2 H2 => wipe σ2 vs = wipe σ vs ∧ tT K g' mt σ2 H2 fun b H3 => if b = true then tD K g' me σ2 H3 fun y H4 => ∃ acc, H4 p = some (.lst acc) ∧ acc.length < sizeLine ∧ Nx (upd H4 p (.lst (acc ++ [y]))) else Nx H3 := by
  unfold stepC at h
  cases e1 : binds t x with
  | none =>
    rw [e1] at h
    cases h
  | some bs =>
    rw [e1] at h
    refine ⟨hidO O p, x, bs, dd, e1, fun us hus => ?_⟩
    have hin : ∀ w ∈ us, w.1 ∈ vs := hus.ix fun b hb => inL_of hv (binds_ix e1 b hb)
    have ew : wipe (setsV (wipe σ vs) us) vs = wipe σ vs := by rw [wipe_sets hin, wipe_wipe]
    have R1 : Rep K H (hidO O p) (wipe σ vs) (wipeD sd vs) := R.back (by rw [wipe_wipe])
    have R2 := Rep.sets hus R1
    refine ⟨ew, setsD (wipeD sd vs) bs, hidO O p, R2, ?_⟩
    have h : (match mt (setsD (wipeD sd vs) bs) with
      | .ok false s1 => .ok acc s1
      | .ok true s1 => match me s1 with
        | .ok (.d d) s2 => if acc.length < sizeLine then .ok (acc ++ [d]) s2 else .stk
        | _ => .stk
      | _ => .stk) = Res.ok acc' s' := h
    cases e2 : mt (setsD (wipeD sd vs) bs) with
    | exc _ _ =>
      rw [e2] at h
      cases h
    | stk =>
      rw [e2] at h
      cases h
    | ok b s1 =>
      rw [e2] at h
      intro H3 x3 R3
      have hp3 : H3 p = some (.lst ws) := x3.atA hp np (nt_lst _) (.inr rfl)
      have ha3 : Ds K H3 (hidO O p) ws acc := Ds.keep R.kind x3 (fun _ z => .inl z) _ _ ha
      cases b with
      | false =>
        cases h
        show Nx H3
        exact q H3 ws (R3.back ew) hp3 ha3 (fun a o e _ no nt => ((x3 a o e).1 no nt).less fun _ z => .inl z) fun a o e => (x3 a o e).2
      | true =>
        show tD K g' me _ H3 _
        refine ⟨s1, hidO O p, R3, ?_⟩
        have h : (match me s1 with
          | .ok (.d d) s2 => if acc.length < sizeLine then .ok (acc ++ [d]) s2 else .stk
          | _ => .stk) = Res.ok acc' s' := h
        cases e3 : me s1 with
        | exc _ _ =>
          rw [e3] at h
          cases h
        | stk =>
          rw [e3] at h
          cases h
        | ok r s2 =>
          rw [e3] at h
          cases r with
          | own j => cases h
          | d d =>
            have h : (if acc.length < sizeLine then Res.ok (acc ++ [d]) s2 else .stk) = Res.ok acc' s' := h
            split at h
            · rename_i hl
              cases h
              intro H4 x4 R4 y hy
              have hp4 : H4 p = some (.lst ws) := x4.atA hp3 np (nt_lst _) (.inr rfl)
              have ha4 : Ds K H4 (hidO O p) ws acc := Ds.keep R3.kind x4 (fun _ z => .inl z) _ _ ha3
              refine ⟨ws, hp4, by rw [ha3.length]; exact hl, ?_⟩
              refine q _ (ws ++ [y]) (Rep.back (R4.hidSet np ks trivial) ew) upd_same (ds_hidSet R4.kind (ha4.app (.cons hy .nil))) (fun a o e ne no nt => ?_) fun a o e => ?_
              · unfold Kept
                rw [upd_ne ne]
                exact (((x3 a o e).1 no nt).trans nt fun o e t => (x4 a o e).1 no t).less fun _ z => .inl z
              · by_cases ea : a = p
                · subst ea
                  exact ⟨_, upd_same⟩
                · rw [upd_ne ea]
                  obtain ⟨o1, e1⟩ := (x3 a o e).2
                  exact (x4 a o1 e1).2
            · cases h
theorem gdB_of {gd : List (Nat × PyData)} {sd : Sd} (h : gdB gd sd = true) : ∀ j ∈ gd, ownOf sd[j.1]? = some j.2 := by
  unfold gdB at h
  exact @of_decide_eq_true _ (Classical.propDecidable _) h
structure CompAt (K : PySem.W.Frag) (O : Ow) (H1 : Hp) (p : Addr) (σ : L2.St) (H : Hp) (sd : Sd) (acc : List PyData) : Prop where
  rep : Rep K H (hidO O p) σ sd
  at_ : ∃ ws, H p = some (.lst ws) ∧ Ds K H (hidO O p) ws acc
  ext : Ext O H1 H
theorem lc_of {K : PySem.W.Frag} {σ : L2.St} {H : Hp} {Q : VK} {ms : M Src} {t : Tg} {mt : M Bool} {me : M Opd} {vs : List Nat} (hv : inL t.ix vs = true) (h : tF K g (mLc ms t mt me vs) σ H Q) : tLc (tI K g ms) (gT K t) (tT K g' mt) (tD K g' me) vs σ H Q := by
  obtain ⟨sd, O, R0, a⟩ := h
  refine ⟨sd, O, R0, a.bind.mono fun s sd1 H1 _ e1 R1 h1 J wk p hp => ?_⟩
  have np : ¬ O.o p := R1.kind.newo hp
  refine ⟨fun i m H' => i + m = s.xs.length ∧ ∃ sd' acc, CompAt K O H1 p σ H' sd' acc ∧ AftF K g O σ H1 (loopC s.gd vs t mt me (s.xs.drop i) acc sd') Q,
    ⟨s.xs.length, by omega, sd1, [], ⟨R1.hidNew hp trivial, ⟨[], upd_same, .nil⟩, Ext.new hp⟩, by simpa using h1⟩, fun i m H' hW => ?_⟩
  obtain ⟨em, sd', acc, ⟨R2, ⟨ws, hw, ha⟩, x2⟩, h2⟩ := hW
  by_cases hi : i < s.xs.length
  · rw [List.drop_eq_getElem_cons hi] at h2
    unfold loopC at h2
    split at h2
    · rename_i hgd
      have L : Later K σ O H1 s.gd H' (hidO O p) σ sd' := ⟨x2.weak R1.kind.sub, ⟨fun _ z => .inl z, fun q z => by
        rcases z with z | rfl
        · exact .inl z
        · exact .inr hp, fun q z => .inl (.inl z)⟩, R2, fun j hj => ⟨gdB_of hgd j hj, rfl⟩⟩
      obtain ⟨go, yl⟩ := wk.go H' _ σ sd' i _ L (List.getElem?_eq_getElem hi)
      cases e3 : stepC vs t mt me s.xs[i] acc sd' with
      | exc _ _ =>
        rw [e3] at h2
        exact False.elim h2
      | stk =>
        rw [e3] at h2
        exact False.elim h2
      | ok acc' s' =>
        rw [e3] at h2
        refine .inr ⟨go, fun H2 => ∃ sd2 acc2, CompAt K O H1 p σ H2 sd2 acc2 ∧ AftF K g O σ H1 (loopC s.gd vs t mt me (s.xs.drop (i + 1)) acc2 sd2) Q, fun H2 hN => ⟨m - 1, by omega, by omega, hN⟩, fun v H2 hy => ?_⟩
        obtain ⟨sm, dd⟩ := yl v H2 hy
        refine turn_of hv (R2.same sm) np R1.kind.sub (sm p _ hw) (ds_same R2.kind sm ha) dd e3 fun H3 ws3 R3 hw3 ha3 x3 x4 => ⟨_, acc', ⟨R3, ⟨ws3, hw3, ha3⟩, fun b o e => ?_⟩, h2⟩
        have nbp : b ≠ p := ne_of_none e hp
        obtain ⟨y1, o1, y2⟩ := x2 b o e
        exact ⟨fun no nt => (y1 no nt).trans nt fun o e t => x3 b o (sm b o e) nbp no t, x4 b o1 (sm b o1 y2)⟩
    · exact False.elim h2
  · have ei : s.xs.length = i := by omega
    rw [List.drop_of_length_le (by omega)] at h2
    unfold loopC at h2
    split at h2
    · rename_i hgd
      have L : Later K σ O H1 s.gd H' (hidO O p) σ sd' := ⟨x2.weak R1.kind.sub, ⟨fun _ z => .inl z, fun q z => by
        rcases z with z | rfl
        · exact .inl z
        · exact .inr hp, fun q z => .inl (.inl z)⟩, R2, fun j hj => ⟨gdB_of hgd j hj, rfl⟩⟩
      refine .inl ⟨wk.stop H' _ σ sd' i L ei, ?_⟩
      have R3 : Rep K H' (hidO O p) σ (wipeD sd' vs) := R2.back rfl
      exact h2 p H' x2 hp R3.unhide (R3.hidFresh np) ⟨ws, hw, ha.same hid_a⟩
    · exact False.elim h2
theorem f_lc {elt tg iter : Expr} {ifs : List Expr} {scope : Scope} {own : List (Str × Nat)} {pos : Pos} {ms : M Src} {t : Tg} {mt : M Bool} {me : M Opd} (hc : X.calm = true) (hN : X.N.Nodup) (hi : PI X tg iter (tI X.K g ms)) (ok : BlkOk X.N X.env.scope scope own)
    (hg : ∀ (s : Shared) (H : Hp) (C : Addr) (cl : List (Str × Addr)) (fp : List Addr), PG (X.blk s H scope (compEnvC scope cl C X.env) fp) tg (gT X.K t)) (ht : ∀ (s : Shared) (H : Hp) (C : Addr) (cl : List (Str × Addr)) (fp : List Addr), PTs (X.blk s H scope (compEnvC scope cl C X.env) fp) ifs (tT X.K g' mt))
    (he : ∀ (s : Shared) (H : Hp) (C : Addr) (cl : List (Str × Addr)) (fp : List Addr), PE (X.blk s H scope (compEnvC scope cl C X.env) fp) elt (tD X.K g' me)) (hv : inL t.ix (own.map (·.2)) = true := by rfl) (hs : ∀ x, foldedSetIterable iter X.env x = pure x := by intro _; rfl) :
    PE X (.ListComp elt [⟨tg, iter, ifs, 0⟩] scope pos) (tF X.K g (mLc ms t mt me (own.map (·.2)))) := PE_of (pe_lc hc hN hi ok hg ht he hs) fun _ _ _ h => lc_of hv h
end
end VS
namespace VS
open PySem L2
variable [TabL]
section
variable {X : Cx} {g : Sg} {F : Fm} {K : PySem.W.Frag}
@[simp] def ownL (i : Nat) : M (List PyData) := fun sd => match ownOf sd[i]? with
  | some (.list xs) => .ok xs sd
  | _ => .stk
@[simp] def putL (i : Nat) (xs : List PyData) : M Unit := fun sd => .ok () (sd.set i (some (.own (.list xs))))
theorem ownL_ok {i : Nat} {sd sd' : Sd} {xs : List PyData} (h : ownL i sd = .ok xs sd') : ownOf sd[i]? = some (.list xs) ∧ sd' = sd := by
  unfold ownL at h
  split at h
  · cases h
    exact ⟨by assumption, rfl⟩
  · cases h
theorem Aft.ownL {β : Type} {O : Ow} {σ : L2.St} {H : Hp} {sd : Sd} {i : Nat} {k : List PyData → M β} {P : β → Sd → Hp → Prop} (h : Aft K g O σ H (M.bind (VS.ownL i) k sd) P) : ∃ xs, ownOf sd[i]? = some (.list xs) ∧ Aft K g O σ H (k xs sd) P := by
  unfold M.bind at h
  cases e : VS.ownL i sd with
  | ok xs sd' =>
    rw [e] at h
    obtain ⟨h1, rfl⟩ := ownL_ok e
    exact ⟨xs, h1, h⟩
  | exc _ _ =>
    unfold VS.ownL at e
    split at e <;> cases e
  | stk =>
    rw [e] at h
    exact False.elim h
@[simp] def mMut (i : Nat) (f : List PyData → List PyData → Option (List PyData × PyData)) (mas : M (List Opd)) : M Opd := M.bind (ownL i) fun _ => M.bind mas fun rs => M.bind (M.of (datsO rs)) fun ds => M.bind (ownL i) fun xs => M.bind (M.of (f xs ds)) fun r => M.bind (putL i r.1) fun _ => M.ret (.d r.2)
def MutR (K : PySem.W.Frag) (f : List PyData → List PyData → Option (List PyData × PyData)) (r : V → List V → Hp → VK → Prop) : Prop :=
  ∀ (H : Hp) (O : Ow) (p : Addr) (vs us : List V) (xs ds xs' : List PyData) (z : PyData) (Q : VK), Kinds H O → H p = some (.lst vs) → Ds K H O vs xs → Ds K H O us ds → f xs ds = some (xs', z) → (∀ vs' y, Ds K H O vs' xs' → Dd K H O y z → Q y (upd H p (.lst vs'))) → r (.ref p) us H Q
theorem mut_end {O : Ow} {σ : L2.St} {H : Hp} {sd : Sd} {i : Nat} {p : Addr} {xs xs' : List PyData} {vs' : List V} {z : PyData} {y : V} {P : Opd → Sd → Hp → Prop} (R : Rep K H O σ sd) (hi : σ[i]? = some (some (.ref p))) (ho : ownOf sd[i]? = some (.list xs)) (hp : O.o p)
    (h : Aft K g O σ H (M.bind (putL i xs') (fun _ => M.ret (.d z)) sd) P) (hv : Ds K H O vs' xs') (hy : Dd K H O y z) : P (.d z) (sd.set i (some (.own (.list xs')))) (upd H p (.lst vs')) ∧ Dd K (upd H p (.lst vs')) O y z := by
  refine ⟨h _ (Ext.set hp) (R.setOwn hi ho hp ⟨vs', upd_same, ds_set R.kind hp hv⟩), Dd.keep R.kind (Ext.set hp) (fun _ z => .inl z) z y hy⟩
theorem mut_of {f : List PyData → List PyData → Option (List PyData × PyData)} {r : V → List V → Hp → VK → Prop} {mas : M (List Opd)} {i : Nat} {σ : L2.St} {H : Hp} {Q : VK} (hr : MutR K f r) (h : tD K g (mMut i f mas) σ H Q) : tBM K "list" r (tVar i) (tA K g mas) σ H Q := by
  obtain ⟨sd, O, R, a⟩ := h
  obtain ⟨xs0, o0, a1⟩ := a.ownL
  obtain ⟨p, c1, c2, vs0, c3, c4⟩ := R.owned o0
  refine ⟨.ref p, c1, .inl ⟨rfl, vs0, .inl (.inl c3)⟩, sd, O, R, a1.bind.mono fun rs sd1 H1 _ e1 R1 h1 us hu => ?_⟩
  obtain ⟨ds, g1, h2⟩ := h1.of
  obtain ⟨xs, o1, h3⟩ := h2.ownL
  obtain ⟨⟨xs', z⟩, g2, h4⟩ := h3.of
  obtain ⟨p', d1, d2, vs, d3, d4⟩ := R1.owned o1
  rw [c1] at d1
  cases d1
  exact hr H1 O p vs us xs ds xs' z Q R1.kind d3 d4 (dats_of hu g1) g2 fun vs' y hv hy => (fun w => w.1 y w.2) (mut_end R1 c1 o1 d2 h4 hv hy)
@[simp] def appF : List PyData → List PyData → Option (List PyData × PyData)
  | xs, [d] => if xs.length < sizeLine then some (xs ++ [d], .none) else none
  | _, _ => none
theorem app_mut : MutR K appF rAppend := fun H O p vs us xs ds xs' z Q k hp hv hu hf q => by
  unfold appF at hf
  split at hf
  · split at hf
    · cases hf
      cases hu with
      | cons h1 h2 =>
        cases h2
        exact ⟨p, vs, _, rfl, rfl, hp, by rw [hv.length]; assumption, q _ _ (hv.app (.cons h1 .nil)) .non⟩
    · cases hf
  · cases hf
@[simp] def popF : List PyData → List PyData → Option (List PyData × PyData)
  | xs, [.int i] => if decide (-(2 ^ 63) ≤ i) && decide (i < 2 ^ 63) then (match seqIndex? i xs.length with
    | some k => xs[k]?.map fun d => (xs.eraseIdx k, d)
    | none => none) else none
  | _, _ => none
theorem pop_mut : MutR K popF rPopAt := fun H O p vs us xs ds xs' z Q k hp hv hu hf q => by
  unfold popF at hf
  split at hf
  · split at hf
    · rename_i hb
      rw [Bool.and_eq_true, decide_eq_true_eq, decide_eq_true_eq] at hb
      split at hf
      · rename_i j hj
        obtain ⟨d, e1, e2⟩ := Option.map_eq_some_iff.mp hf
        cases e2
        cases hu with
        | cons h1 h2 =>
          cases h2
          cases h1
          obtain ⟨v, v1, v2⟩ := hv.get e1
          exact ⟨p, vs, _, j, v, rfl, rfl, hp, hb.1, hb.2, by rw [hv.length]; exact hj, v1, q _ _ (hv.erase j) v2⟩
      · cases hf
    · cases hf
  · cases hf
theorem m_append {i : Nat} {x : Str} {e : Expr} {me : M Opd} {p apos cpos : Pos} (hx : PE X (.Name x p) (tVar i)) (he : PE X e (tD X.K g me)) (hbase : attributeBase (.Name x p) "append" X.env (eval (.Name x p) X.env) = eval (.Name x p) X.env := by rfl)
    (hfew : ((backTo cpos (starEach (e :: []) X.env)).all (fun x => !x.1) && (backToKw cpos (keywordEach [] X.env)).all (fun x => x.1.isSome) && decide ((e :: ([] : List Expr)).length + ([] : List Keyword).length + (if ([] : List Keyword).isEmpty then 0 else 1) < 30)) = true := by rfl)
    (hline : (apos.endLine == cpos.line) = true := by rfl) (hs : starEach (e :: []) X.env = (false, eval e X.env) :: starEach [] X.env := by rfl) (hpl : (backTo cpos (starEach [] X.env)).any (·.1) = false := by rfl) :
    PE X (.Call (.Attribute (.Name x p) "append" apos) [e] [] cpos) (tD X.K g (mMut i appF (mCons me mNil))) :=
  PE_of (pe_bm PySem.F.plainAttrs_list PySem.F.slot_list_append PySem.F.type_list_append mt_append hx (a_cons he a_nil hs) hbase hfew hline hs hpl) fun _ _ _ h => mut_of app_mut h
theorem m_popAt {i : Nat} {x : Str} {e : Expr} {me : M Opd} {p apos cpos : Pos} (hx : PE X (.Name x p) (tVar i)) (he : PE X e (tD X.K g me)) (hbase : attributeBase (.Name x p) "pop" X.env (eval (.Name x p) X.env) = eval (.Name x p) X.env := by rfl)
    (hfew : ((backTo cpos (starEach (e :: []) X.env)).all (fun x => !x.1) && (backToKw cpos (keywordEach [] X.env)).all (fun x => x.1.isSome) && decide ((e :: ([] : List Expr)).length + ([] : List Keyword).length + (if ([] : List Keyword).isEmpty then 0 else 1) < 30)) = true := by rfl)
    (hline : (apos.endLine == cpos.line) = true := by rfl) (hs : starEach (e :: []) X.env = (false, eval e X.env) :: starEach [] X.env := by rfl) (hpl : (backTo cpos (starEach [] X.env)).any (·.1) = false := by rfl) :
    PE X (.Call (.Attribute (.Name x p) "pop" apos) [e] [] cpos) (tD X.K g (mMut i popF (mCons me mNil))) :=
  PE_of (pe_bm PySem.F.plainAttrs_list PySem.F.slot_list_pop PySem.F.type_list_pop mt_popAt hx (a_cons he a_nil hs) hbase hfew hline hs hpl) fun _ _ _ h => mut_of pop_mut h
@[simp] def extF : List PyData → List PyData → Option (List PyData × PyData)
  | xs, [d] => match rowOf d with
    | some ys => if xs.length + ys.length ≤ sizeLine then some (xs ++ ys, .none) else none
    | none => none
  | _, _ => none
@[simp] def mSub (i : Nat) (mi me : M Opd) : MS := M.bind me fun r => M.bind (ownL i) fun _ => M.bind mi fun y => M.bind (getM y) fun k => M.bind (ownL i) fun xs => match r, k with
  | .d d, .int j => (match ixN xs.length j with
    | some n => M.bind (putL i (xs.set n d)) fun _ => sNx
    | none => M.stk)
  | _, _ => M.stk
end
end VS
namespace VS
open PySem PySem.Spec PyProof.Rows L2
variable [TabL]
structure FnG (P : Program) (w : World) (K : PySem.W.Frag) (mg : Str → Option Value) (base : Heap) (CX : CXT) (k : Nat) (f : Addr) (fd : FuncData) (ps : List Str) (sp : Sp) : Prop where
  len : ∀ vs H Q E, sp vs H Q E → vs.length = ps.length
  run : ∀ (A : Around) (outer : List Env) (s : Shared) (H : Hp) (args : PySem.Args) (us : List Value) (vs : List V) (Q : VK) (E : XK), A.guards = some [] → Room k A → Env0 P w K mg base A outer s H →
    BindsTo s fd args (ps.zip us) → Vals vs us → sp vs H Q E → codeAny (model P w) A (.call (.ref f) args) (CR CX outer P w H s Q E) s
section
variable {P : Program} {w : World} {K : PySem.W.Frag} {mg : Str → Option Value} {base : Heap}
theorem FnG.mono {CX : CXT} {j k : Nat} {f : Addr} {fd : FuncData} {ps : List Str} {sp : Sp} (G : FnG P w K mg base CX j f fd ps sp) (h : j ≤ k) : FnG P w K mg base CX k f fd ps sp :=
  ⟨G.len, fun A outer s H args us vs Q E hG hr => G.run A outer s H args us vs Q E hG (hr.mono h)⟩
theorem fnG_of {x qual : Str} {st : Stmt} {f : Addr} {fd : FuncData} {N ps : List Str} {k : Nat} {sp : Sp} (F : Fun K x qual st f fd) (S : FnScope N ps (defScope st)) (len : ∀ vs H Q E, sp vs H Q E → vs.length = ps.length)
    (hbody : ∀ (cdv : Value) (A : Around) (outer : List Env) (s : Shared) (H : Hp) (vs : List V) (Q : VK) (E : XK), A.guards = some [] → Room k (A.deeper (envOfC qual (defScope st) s.heap.objs.size f cdv)) → sp vs H Q E →
      ∃ t, PSs (cxOf CX0 P w K mg base N qual (defScope st) f cdv A outer s H E).nox (defBody st) t ∧ t { nx := fun _ H' => Q .non H', rt := Q } (start N vs) H) : FnG P w K mg base CX0 (k + 1) f fd ps sp := by
  obtain ⟨oc, od, kV, doc, pm, an, cdv, ct, osl, rfl, lk, hcd⟩ := F.ex
  constructor
  · exact len
  intro A outer s H args us vs Q E hG hr e0 hb r hsp
  have inh : ∀ b o, base.get? b = some o → s.heap.get? b = some o := fun b o e => (e0.bs b o e).1
  have kin := e0.mod.kin.keeps inh
  have nol := e0.mod.nolimit.keeps inh
  have kinds : ∀ y ∈ ps.zip us, (defScope st).names.lookup y.1 = some .local ∨ ((defScope st).names.lookup y.1 = some .cell ∧ ((cellsFrom (s.heap.objs.size + 1) (defScope st).names []).lookup y.1).isSome = true) := by
    rintro ⟨n, v⟩ hy
    exact (S.par n (List.of_mem_zip hy).1).elim .inl fun q => .inr ⟨q, PySem.W.cellsFrom_some _ _ _ (.inl q)⟩
  refine codeAny_call_function hr.depth (kin _ _ lk) rfl S.co S.gen rfl (PySem.W.codeRec_of kin hcd) (hb _ _ _ _ ?_)
  refine wpAny_newFunctionEnv_cells S.kind kinds fun env he s1 ic => ?_
  subst he
  refine ⟨nol.keeps ic.toInCall.keep, codeAny_func ?_⟩
  obtain ⟨t, ht, hq⟩ := hbody cdv A outer s H vs Q E hG (hr.deeper _) hsp
  have I := inv_start (CX := CX0) (E := E) S hr.hd e0 (len _ _ _ _ hsp) r ic
  refine wpAny_mono (ht.nox.run [] s1 (start N vs) H _ I hq) (fun fl s' hs => ?_) fun e s' hs => hs
  cases fl with
  | ret u =>
    obtain ⟨v, _, H', J, rv, q⟩ := hs
    exact ⟨v, H', J.os, J.bare, J.base, J.hok, rv, q⟩
  | next =>
    obtain ⟨_, H', J, q⟩ := hs
    exact ⟨.non, H', J.os, J.bare, J.base, J.hok, rfl, q⟩
  | brk => exact hs.elim fun _ z => z.elim fun _ z => z.2.elim
  | cont => exact hs.elim fun _ z => z.elim fun _ z => z.2.elim
end
section
variable {X : Cx} {g : Sg}
theorem pe_callG {CX : CXT} {k : Nat} {f : Addr} {fd : FuncData} {ps : List Str} {sp : Sp} {E : XK} {x : Str} {p pos : Pos} {e : Expr} {es : List Expr} {t : TA} (G : FnG X.prog X.w X.K X.mg X.base CX k f fd ps sp) (hG : X.A.guards = some []) (hr : Room k X.A) (hg : Gl X x) (hm : X.mg x = some (.ref f))
    (hk : PySem.W.keepIn X.K (.ref f) = true) (hb : Binds X.K fd ps []) (hx : Passes CX X E) (ha : PA X (e :: es) t) (hdb : (x == ("__debug__" : Str)) = false := by decide) (he : starEach (e :: es) X.env = (false, eval e X.env) :: starEach es X.env := by rfl)
    (hpl : (backTo pos (starEach es X.env)).any (·.1) = false := by rfl) : PE X (.Call (.Name x p) (e :: es) [] pos) (fun σ H Q => t σ H fun vs H1 => sp vs H1 Q E) := by
  constructor
  intro pins s σ H Q I h
  refine wpAny_Call_Name_kw (ld_glob I hg hm ?_ hdb)
  refine PySem.W.callWith_K (h₀ := X.base) I.ok.mod.kin hk (thn (ha.run pos pins s σ H _ I h) fun us s1 w => ?_) he hpl
  obtain ⟨vs, H1, I1, r, q⟩ := w
  refine ⟨I1.kIn, wpAny_call ?_⟩
  have hl : us.length = ps.length := by
    rw [← r.length]
    exact G.len _ _ _ _ q
  have bd := hb s1 us I1.kIn (by simpa using hl)
  rw [List.append_nil] at bd
  refine codeAny_mono (G.run X.A X.stack s1 H1 ⟨us, []⟩ us vs Q E hG hr I1.env0 bd r q) fun res s' hq => ?_
  cases res with
  | error e => exact hx pins σ H1 s1 e s' I1 hq
  | ok fl =>
    cases fl with
    | ret u => exact I1.after hq
    | next => exact hq.elim
    | brk => exact hq.elim
    | cont => exact hq.elim
end
@[simp] def pad (N : Nat) (as : List Sl) : Sd := as.map some ++ List.replicate (N - as.length) none
structure CallRep (K : PySem.W.Frag) (H : Hp) (O : Ow) (md : List Bool) (vs : List V) (as : List Sl) : Prop where
  rep : Rep K H O (vs.map some) (as.map some)
  mode : ∀ (i : Nat) (s : Sl), as[i]? = some s → md[i]? = some true → ∃ d, s = .own d
  o0 : ∀ p, O.o p → ∃ i : Nat, md[i]? = some true ∧ vs[i]? = some (.ref p)
structure CallEnd (K : PySem.W.Frag) (H : Hp) (O : Ow) (md : List Bool) (vs : List V) (sf : Sd) (H' : Hp) (O' : Ow) : Prop where
  ext : Ext O H H'
  nw : Nw H O O'
  kind : Kinds H' O'
  io : ∀ (i : Nat) (p : Addr), md[i]? = some true → vs[i]? = some (.ref p) → ∃ d, ownOf sf[i]? = some d ∧ OwnR K H' O' p d
def RetR (K : PySem.W.Frag) (H : Hp) (O : Ow) (H' : Hp) (O' : Ow) (v : V) : Rt → Prop
  | .dat d => Dd K H' O v d
  | .frs d => ∃ p, v = .ref p ∧ H p = none ∧ O'.o p ∧ OwnR K H' O' p d
  | .xt ds => XtR K H' O v ds
@[simp] def retOf (md : List Bool) : Res Fl → Res Rt
  | .ok (.rt r) sf => if ioOk md sf then .ok r sf else .stk
  | .ok .nx sf => if ioOk md sf then .ok (.dat .none) sf else .stk
  | .exc e sf => .exc e sf
  | _ => .stk
def spV (K : PySem.W.Frag) (m : MS) (N : Nat) (md : List Bool) : Sp := fun vs H Q _ => ∃ (as : List Sl) (O : Ow) (r : Rt) (sf : Sd), vs.length = md.length ∧ as.length = md.length ∧ CallRep K H O md vs as ∧ retOf md (m (pad N as)) = .ok r sf ∧
  ∀ v H' O', CallEnd K H O md vs sf H' O' → RetR K H O H' O' v r → Q v H'
theorem getElem?_pad {α : Type} {l : List α} {n i : Nat} {a : α} (h : (l.map some ++ List.replicate n none)[i]? = some (some a)) : l[i]? = some a := by
  by_cases hi : i < l.length
  · rw [List.getElem?_append_left (by simpa using hi), List.getElem?_map] at h
    obtain ⟨b, h1, h2⟩ := Option.map_eq_some_iff.mp h
    cases h2
    exact h1
  · rw [List.getElem?_append_right (by simpa using hi), List.getElem?_replicate] at h
    split at h <;> cases h
theorem pad_get {α : Type} {l : List α} {n i : Nat} {a : α} (h : l[i]? = some a) : (l.map some ++ List.replicate n none)[i]? = some (some a) := by
  have hi := (List.getElem?_eq_some_iff.mp h).1
  rw [List.getElem?_append_left (by simpa using hi), List.getElem?_map, h]
  rfl
theorem Rep.pad {K : PySem.W.Frag} {H : Hp} {O : Ow} {vs : List V} {as : List Sl} (R : Rep K H O (vs.map some) (as.map some)) (n : Nat) : Rep K H O (vs.map some ++ List.replicate n none) (as.map some ++ List.replicate n none) where
  len := by
    have := R.len
    simp only [List.length_map] at this
    simp [this]
  slot := fun i s h => by
    have h1 : (as.map some)[i]? = some (some s) := by
      rw [List.getElem?_map, getElem?_pad h]
      rfl
    obtain ⟨v, a, b⟩ := R.slot i s h1
    refine ⟨v, pad_get ?_, b⟩
    rw [List.getElem?_map] at a
    obtain ⟨v', a1, a2⟩ := Option.map_eq_some_iff.mp a
    cases a2
    exact a1
  inj := fun i j p s t h1 h2 h3 h4 => by
    have back : ∀ (l : Nat) (c : PyData), ownOf (as.map some ++ List.replicate n none)[l]? = some c → ownOf (as.map some)[l]? = some c := fun l c hc => by
      rw [List.getElem?_map, getElem?_pad (ownOf_some hc)]
      rfl
    have backV : ∀ (l : Nat), (vs.map some ++ List.replicate n none)[l]? = some (some (V.ref p)) → (vs.map some)[l]? = some (some (V.ref p)) := fun l hc => by
      rw [List.getElem?_map, getElem?_pad hc]
      rfl
    exact R.inj i j p s t (backV i h1) (back i s h2) (backV j h3) (back j t h4)
  kind := R.kind
def ioV : List Bool → List V → List (Option Addr)
  | true :: md, .ref p :: vs => some p :: ioV md vs
  | _ :: md, _ :: vs => none :: ioV md vs
  | _, _ => []
theorem ioV_some : ∀ {md : List Bool} {vs : List V} {i : Nat} {p : Addr}, (ioV md vs)[i]? = some (some p) ↔ md[i]? = some true ∧ vs[i]? = some (.ref p)
  | [], vs, i, p => by cases vs <;> simp [ioV]
  | b :: md, [], i, p => by cases b <;> simp [ioV]
  | b :: md, v :: vs, 0, p => by
    cases b with
    | false => simp [ioV]
    | true => cases v <;> simp [ioV]
  | b :: md, v :: vs, i + 1, p => by
    cases b with
    | false =>
      have := ioV_some (md := md) (vs := vs) (i := i) (p := p)
      simpa [ioV] using this
    | true =>
      have := ioV_some (md := md) (vs := vs) (i := i) (p := p)
      cases v <;> simpa [ioV] using this
theorem fnV_of {P : Program} {w : World} {K : PySem.W.Frag} {mg : Str → Option Value} {base : Heap} {x qual : Str} {st : Stmt} {f : Addr} {fd : FuncData} {N ps : List Str} {k : Nat} {m : MS} {md : List Bool} (F : Fun K x qual st f fd) (S : FnScope N ps (defScope st)) (hl : md.length = ps.length)
    (hbody : ∀ (cdv : Value) (A : Around) (outer : List Env) (s : Shared) (H : Hp) (E : XK) (H0 : Hp) (O0 : Ow) (io : List (Option Addr)) (g : Sg), A.guards = some [] → Room k (A.deeper (envOfC qual (defScope st) s.heap.objs.size f cdv)) →
      PSs (cxOf CX0 P w K mg base N qual (defScope st) f cdv A outer s H E).nox (defBody st) (tS K g ⟨H0, O0, md, io, []⟩ m)) : FnG P w K mg base CX0 (k + 1) f fd ps (spV K m N.length md) := by
  refine fnG_of F S (fun vs H Q E h => ?_) fun cdv A outer s H vs Q E hG hr h => ?_
  · obtain ⟨as, O, r, sf, h1, _⟩ := h
    rw [h1, hl]
  · obtain ⟨as, O, r, sf, l1, l2, C, hm, q⟩ := h
    refine ⟨_, hbody cdv A outer s H E H O (ioV md vs) ⟨fun _ _ _ _ _ => True, fun _ _ _ _ => False, fun _ _ _ _ _ _ _ _ => trivial⟩ hG hr, pad N.length as, O, ?_, ?_⟩
    · refine ⟨?_, Ext.refl _ _, Nw.refl, fun i p h => ?_, C.rep.kind, fun p z => ?_, fun c hc => nomatch hc⟩
      · have := C.rep.pad (N.length - as.length)
        unfold L2.start VS.pad
        rw [l1, ← l2]
        exact this
      · obtain ⟨h1, h2⟩ := ioV_some.mp h
        exact ⟨h1, pad_get h2⟩
      · obtain ⟨i, z1, z2⟩ := C.o0 p z
        exact ⟨i, ioV_some.mpr ⟨z1, z2⟩⟩
    · have fin : ∀ {σ' : L2.St} {H' : Hp} {O' : Ow} {sd' : Sd}, RepH K ⟨H, O, md, ioV md vs, []⟩ H' O' σ' sd' → ioOk md sd' = true → CallEnd K H O md vs sd' H' O' := fun R hio => ⟨R.ext, R.nw, R.rep.kind, fun i p h1 h2 => by
        obtain ⟨d, e⟩ := ioOk_at hio h1
        obtain ⟨_, e2⟩ := R.io i p (ioV_some.mpr ⟨h1, h2⟩)
        obtain ⟨p', a1, _, a3⟩ := R.rep.owned e
        rw [e2] at a1
        cases a1
        exact ⟨d, e, a3⟩⟩
      cases e : m (pad N.length as) with
      | stk =>
        rw [e] at hm
        cases hm
      | exc y sd' =>
        rw [e] at hm
        cases hm
      | ok fl sd' =>
        rw [e] at hm
        cases fl with
        | nx =>
          have hm : (if ioOk md sd' then Res.ok (Rt.dat .none) sd' else .stk) = .ok r sf := hm
          split at hm
          · rename_i hio
            cases hm
            exact fun σ' H' O' R => q _ H' O' (fin R hio) .non
          · cases hm
        | rt r' =>
          have hm : (if ioOk md sd' then Res.ok r' sd' else .stk) = .ok r sf := hm
          split at hm
          · rename_i hio
            cases hm
            refine fun v σ' H' O' R rr => q v H' O' (fin R hio) ?_
            cases r with
            | dat d => exact rr
            | frs d => exact rr
            | xt ds => exact rr
          · cases hm
        | bk => cases hm
        | ct => cases hm
end VS
namespace VS
open PySem PySem.Spec PyProof.Rows L2
variable [TabL]
@[simp] def argsS (sd : Sd) : List Bool → List Opd → Option (List Sl)
  | [], [] => some []
  | true :: md, .own j :: rs => (ownOf sd[j]?).bind fun d => (argsS sd md rs).map fun as => .own d :: as
  | false :: md, .d x :: rs => (argsS sd md rs).map fun as => .dat x :: as
  | _, _ => none
@[simp] def ioP (n : Nat) : List Bool → List Opd → List (Nat × Nat)
  | true :: md, .own j :: rs => (n, j) :: ioP (n + 1) md rs
  | _ :: md, _ :: rs => ioP (n + 1) md rs
  | _, _ => []
@[simp] def wb (sf : Sd) : Sd → List (Nat × Nat) → Sd
  | sd, [] => sd
  | sd, (i, j) :: r => wb sf (sd.set j (sf.getD i none)) r
@[simp] def mCall (m : MS) (N : Nat) (md : List Bool) (mas : M (List Opd)) : M Rt := M.bind mas fun rs sd => match argsS sd md rs with
  | none => .stk
  | some as => if ((ioP 0 md rs).map (·.2)).Nodup then (match retOf md (m (pad N as)) with
    | .ok r sf => .ok r (wb sf sd (ioP 0 md rs))
    | _ => .stk) else .stk
@[simp] def rtD : Rt → PyData
  | .dat d => d
  | .frs d => d
  | .xt ds => .tuple ds
@[simp] def mCallD (m : MS) (N : Nat) (md : List Bool) (mas : M (List Opd)) : M Opd := M.bind (mCall m N md mas) fun r => M.ret (.d (rtD r))
@[simp] def mCallF (m : MS) (N : Nat) (md : List Bool) (mas : M (List Opd)) : M PyData := M.bind (mCall m N md mas) fun r => match r with
  | .frs d => M.ret d
  | _ => M.stk
section
variable {K : PySem.W.Frag} {g : Sg} {H H1 H' : Hp} {O Oc O' : Ow} {σ : L2.St} {sd sf : Sd}
theorem ioP_mem : ∀ {md : List Bool} {rs : List Opd} {n i j : Nat}, (i, j) ∈ ioP n md rs → ∃ k, i = n + k ∧ md[k]? = some true ∧ rs[k]? = some (.own j)
  | [], rs, n, i, j, h => by cases rs <;> cases h
  | b :: md, [], n, i, j, h => by cases b <;> cases h
  | b :: md, r :: rs, n, i, j, h => by
    have rest : (i, j) ∈ ioP (n + 1) md rs → ∃ k, i = n + k ∧ (b :: md)[k]? = some true ∧ (r :: rs)[k]? = some (.own j) := fun h => by
      obtain ⟨k, h1, h2, h3⟩ := ioP_mem h
      exact ⟨k + 1, by omega, by simpa using h2, by simpa using h3⟩
    cases b with
    | false => exact rest (by cases r <;> exact h)
    | true =>
      cases r with
      | d x => exact rest h
      | own l =>
        rcases List.mem_cons.mp h with h | h
        · cases h
          exact ⟨0, rfl, rfl, rfl⟩
        · exact rest h
theorem mem_ioP : ∀ {md : List Bool} {rs : List Opd} {n k j : Nat}, md[k]? = some true → rs[k]? = some (.own j) → (n + k, j) ∈ ioP n md rs
  | [], _, _, _, _, h, _ => by simp at h
  | b :: md, [], _, _, _, _, h => by simp at h
  | b :: md, r :: rs, n, 0, j, h1, h2 => by
    simp at h1 h2
    subst h1
    subst h2
    exact List.mem_cons_self
  | b :: md, r :: rs, n, k + 1, j, h1, h2 => by
    have := mem_ioP (n := n + 1) (k := k) (j := j) (md := md) (rs := rs) (by simpa using h1) (by simpa using h2)
    rw [show n + (k + 1) = n + 1 + k by omega]
    cases b with
    | false => cases r <;> exact this
    | true =>
      cases r with
      | d x => exact this
      | own l => exact List.mem_cons_of_mem _ this
theorem wb_length : ∀ (ps : List (Nat × Nat)) (sd : Sd), (wb sf sd ps).length = sd.length
  | [], _ => rfl
  | (i, j) :: r, sd => by
    show (wb sf (sd.set j (sf.getD i none)) r).length = _
    rw [wb_length r, List.length_set]
theorem wb_out : ∀ {ps : List (Nat × Nat)} {sd : Sd} {k : Nat}, (∀ i, (i, k) ∉ ps) → (wb sf sd ps)[k]? = sd[k]?
  | [], _, _, _ => rfl
  | (i, j) :: r, sd, k, h => by
    show (wb sf (sd.set j (sf.getD i none)) r)[k]? = _
    rw [wb_out fun l hl => h l (List.mem_cons_of_mem _ hl), List.getElem?_set_ne]
    intro e
    subst e
    exact h i List.mem_cons_self
theorem wb_in : ∀ {ps : List (Nat × Nat)} {sd : Sd} {i k : Nat}, (ps.map (·.2)).Nodup → (i, k) ∈ ps → k < sd.length → (wb sf sd ps)[k]? = some (sf.getD i none)
  | (a, j) :: r, sd, i, k, hn, h, hk => by
    show (wb sf (sd.set j (sf.getD a none)) r)[k]? = _
    rw [List.map_cons, List.nodup_cons] at hn
    rcases List.mem_cons.mp h with h | h
    · cases h
      rw [wb_out fun l hl => hn.1 (List.mem_map.mpr ⟨_, hl, rfl⟩), List.getElem?_set_self hk]
    · exact wb_in hn.2 h (by rw [List.length_set]; exact hk)
theorem argsS_at : ∀ {md : List Bool} {rs : List Opd} {as : List Sl}, argsS sd md rs = some as → as.length = md.length ∧ rs.length = md.length ∧ ∀ (i : Nat) (s : Sl), as[i]? = some s → (∃ x, md[i]? = some false ∧ rs[i]? = some (Opd.d x) ∧ s = Sl.dat x) ∨ ∃ (j : Nat) (d : PyData), md[i]? = some true ∧ rs[i]? = some (Opd.own j) ∧ ownOf sd[j]? = some d ∧ s = Sl.own d
  | [], [], as, h => by
    cases h
    exact ⟨rfl, rfl, fun i s hs => by simp at hs⟩
  | true :: md, .own j :: rs, as, h => by
    unfold argsS at h
    obtain ⟨d, h1, h2⟩ := Option.bind_eq_some_iff.mp h
    obtain ⟨as', h3, rfl⟩ := Option.map_eq_some_iff.mp h2
    obtain ⟨l1, l2, l3⟩ := argsS_at h3
    refine ⟨by simp [l1], by simp [l2], fun i s hs => ?_⟩
    cases i with
    | zero =>
      simp at hs
      exact .inr ⟨j, d, rfl, rfl, h1, hs.symm⟩
    | succ i => simpa using l3 i s (by simpa using hs)
  | false :: md, .d x :: rs, as, h => by
    unfold argsS at h
    obtain ⟨as', h3, rfl⟩ := Option.map_eq_some_iff.mp h
    obtain ⟨l1, l2, l3⟩ := argsS_at h3
    refine ⟨by simp [l1], by simp [l2], fun i s hs => ?_⟩
    cases i with
    | zero =>
      simp at hs
      exact .inl ⟨x, rfl, rfl, hs.symm⟩
    | succ i => simpa using l3 i s (by simpa using hs)
  | [], _ :: _, _, h => by cases h
  | true :: _, [], _, h => by cases h
  | false :: _, [], _, h => by cases h
  | true :: _, .d _ :: _, _, h => by cases h
  | false :: _, .own _ :: _, _, h => by cases h
theorem OpdsR.at {vs : List V} {rs : List Opd} (h : OpdsR K H O σ vs rs) : ∀ {i : Nat} {r : Opd}, rs[i]? = some r → ∃ v, vs[i]? = some v ∧ OpdR K H O σ v r := by
  induction h with
  | nil =>
    intro i r e
    simp at e
  | cons h1 _ ih =>
    intro i r e
    cases i with
    | zero =>
      simp at e
      subst e
      exact ⟨_, rfl, h1⟩
    | succ i =>
      obtain ⟨v, a, b⟩ := ih (i := i) (by simpa using e)
      exact ⟨v, by simpa using a, b⟩
theorem OpdsR.length {vs : List V} {rs : List Opd} (h : OpdsR K H O σ vs rs) : vs.length = rs.length := by
  induction h with
  | nil => rfl
  | cons _ _ ih => simp [ih]
theorem snd_one {l : List (Nat × Nat)} (hp : l.Pairwise fun x y => x.2 ≠ y.2) {i j a : Nat} (q1 : (i, a) ∈ l) (q2 : (j, a) ∈ l) : (i, a) = (j, a) := by
  induction hp with
  | nil => cases q1
  | cons h _ ih =>
    rcases List.mem_cons.mp q1 with e | q1
    · rcases List.mem_cons.mp q2 with e' | q2
      · rw [e, e']
      · exact absurd rfl (e ▸ h _ q2)
    · rcases List.mem_cons.mp q2 with e' | q2
      · exact absurd rfl (e' ▸ h _ q1)
      · exact ih q1 q2
def ioO (O : Ow) (σ : L2.St) (ps : List (Nat × Nat)) : Ow := ⟨fun p => ∃ i j, (i, j) ∈ ps ∧ σ[j]? = some (some (.ref p)) ∧ O.o p, O.a, fun _ => False⟩
theorem io_a {ps : List (Nat × Nat)} : O.a = (ioO O σ ps).a := rfl
theorem callRep_of {md : List Bool} {rs : List Opd} {vs : List V} {as : List Sl} (R : Rep K H O σ sd) (hv : OpdsR K H O σ vs rs) (ha : argsS sd md rs = some as) (hn : ((ioP 0 md rs).map (·.2)).Nodup) : CallRep K H (ioO O σ (ioP 0 md rs)) md vs as := by
  obtain ⟨l1, l2, l3⟩ := argsS_at ha
  have own : ∀ (i : Nat) (d : PyData), ownOf (as.map some)[i]? = some d → ∃ j, md[i]? = some true ∧ rs[i]? = some (.own j) ∧ ownOf sd[j]? = some d := fun i d h => by
    have h1 := ownOf_some h
    rw [List.getElem?_map] at h1
    obtain ⟨s, h2, h3⟩ := Option.map_eq_some_iff.mp h1
    cases h3
    rcases l3 i _ h2 with ⟨x, _, _, e⟩ | ⟨j, d', a, b, c, e⟩
    · cases e
    · cases e
      exact ⟨j, a, b, c⟩
  have kinds : Kinds H (ioO O σ (ioP 0 md rs)) := ⟨fun p z => by
    obtain ⟨_, _, _, _, z⟩ := z
    exact R.kind.sub p z, R.kind.kd, fun _ z => z.elim, R.kind.tb⟩
  have val : ∀ (i j : Nat) (d : PyData), rs[i]? = some (.own j) → ownOf sd[j]? = some d → ∃ p, vs[i]? = some (.ref p) ∧ σ[j]? = some (some (.ref p)) ∧ O.o p ∧ OwnR K H O p d := fun i j d h1 h2 => by
    obtain ⟨v, a, b⟩ := hv.at h1
    obtain ⟨p, c1, c2, c3⟩ := R.owned h2
    have b : σ[j]? = some (some v) := b
    rw [c1] at b
    cases b
    exact ⟨p, a, c1, c2, c3⟩
  refine ⟨⟨by simp [l1, ← l2, hv.length], fun i s h => ?_, fun i j p s t h1 h2 h3 h4 => ?_, kinds⟩, fun i s h1 h2 => ?_, fun p z => ?_⟩
  · rw [List.getElem?_map] at h
    obtain ⟨s', h2, h3⟩ := Option.map_eq_some_iff.mp h
    cases h3
    rcases l3 i _ h2 with ⟨x, _, b, rfl⟩ | ⟨j, d, a, b, c, rfl⟩
    · obtain ⟨v, e1, e2⟩ := hv.at b
      exact ⟨v, by rw [List.getElem?_map, e1]; rfl, Dd.same io_a e2⟩
    · obtain ⟨p, e1, e2, e3, e4⟩ := val i j d b c
      refine ⟨.ref p, by rw [List.getElem?_map, e1]; rfl, p, rfl, ⟨⟨i, j, ?_, e2, e3⟩, fun z => z⟩, e4.same io_a⟩
      have := mem_ioP (n := 0) a b
      simpa using this
  · obtain ⟨a, a1, a2, a3⟩ := own i s h2
    obtain ⟨b, b1, b2, b3⟩ := own j t h4
    obtain ⟨p1, e1, e2, _⟩ := val i a s a2 a3
    obtain ⟨p2, f1, f2, _⟩ := val j b t b2 b3
    rw [List.getElem?_map, e1] at h1
    rw [List.getElem?_map, f1] at h3
    cases h1
    cases h3
    have hab := R.inj a b p s t e2 a3 f2 b3
    subst hab
    have m1 := mem_ioP (n := 0) a1 a2
    have m2 := mem_ioP (n := 0) b1 b2
    rw [Nat.zero_add] at m1 m2
    exact congrArg Prod.fst (snd_one (List.pairwise_map.mp hn) m1 m2)
  · rcases l3 i s h1 with ⟨x, a, _, _⟩ | ⟨j, d, _, _, _, e⟩
    · rw [a] at h2
      cases h2
    · exact ⟨d, e⟩
  · obtain ⟨i, j, z1, z2, z3⟩ := z
    obtain ⟨k, e1, e2, e3⟩ := ioP_mem z1
    obtain ⟨v, f1, f2⟩ := hv.at e3
    have f2 : σ[j]? = some (some v) := f2
    rw [z2] at f2
    cases f2
    exact ⟨k, e2, f1⟩
theorem callBack_of {md : List Bool} {rs : List Opd} {vs : List V} {as : List Sl} {Ow' : Ow} (R : Rep K H O σ sd) (hv : OpdsR K H O σ vs rs) (ha : argsS sd md rs = some as) (hn : ((ioP 0 md rs).map (·.2)).Nodup) (C : CallEnd K H (ioO O σ (ioP 0 md rs)) md vs sf H' O')
    (so : ∀ p, O.o p → Ow'.o p) (sa : ∀ p, Ow'.a p → O.a p ∨ H p = none) (sb : ∀ p, Ow'.a p → O'.a p) (sk : Kinds H' Ow') (sc : ∀ p, O.c p → Ow'.c p := by exact fun _ z => z) (sc' : ∀ p, Ow'.c p → O.c p := by exact fun _ z => z) : Ext O H H' ∧ Rep K H' Ow' σ (wb sf sd (ioP 0 md rs)) ∧ ∀ (l : Nat) (c : PyData), ownOf (wb sf sd (ioP 0 md rs))[l]? = some c → ∃ c', ownOf sd[l]? = some c' := by
  have ex : Ext O H H' := C.ext.weak fun p z => by
    obtain ⟨_, _, _, _, z⟩ := z
    exact z
  obtain ⟨l1, l2, l3⟩ := argsS_at ha
  -- a slot whose object was handed in
  have inn : ∀ (i j : Nat), (i, j) ∈ ioP 0 md rs → ∃ p d, σ[j]? = some (some (.ref p)) ∧ O.o p ∧ sf.getD i none = some (.own d) ∧ OwnR K H' O' p d ∧ j < sd.length ∧ ∃ d0, ownOf sd[j]? = some d0 := fun i j hm => by
    obtain ⟨k, e1, e2, e3⟩ := ioP_mem hm
    rw [Nat.zero_add] at e1
    subst e1
    have hk : i < as.length := by
      rw [l1]
      exact (List.getElem?_eq_some_iff.mp e2).1
    rcases l3 i _ (List.getElem?_eq_getElem hk) with ⟨x, a, _, _⟩ | ⟨j', d, _, b, c, _⟩
    · rw [e2] at a
      cases a
    · rw [e3] at b
      cases b
      obtain ⟨v, f1, f2⟩ := hv.at e3
      obtain ⟨p, c1, c2, c3⟩ := R.owned c
      have f2 : σ[j]? = some (some v) := f2
      rw [c1] at f2
      cases f2
      obtain ⟨d2, q1, q2⟩ := C.io i p e2 f1
      have q3 := ownOf_some q1
      refine ⟨p, d2, c1, c2, by rw [List.getD_eq_getElem?_getD, q3]; rfl, q2, (List.getElem?_eq_some_iff.mp (ownOf_some c)).1, d, c⟩
  -- any other one
  have out : ∀ (j : Nat) (p : Addr) (d : PyData), (∀ i, (i, j) ∉ ioP 0 md rs) → σ[j]? = some (some (.ref p)) → ownOf sd[j]? = some d → ¬ (ioO O σ (ioP 0 md rs)).o p := fun j p d hj hs hd z => by
    obtain ⟨i, l, z1, z2, _⟩ := z
    obtain ⟨q, d1, w1, _, _, _, _, d0, w7⟩ := inn i l z1
    rw [z2] at w1
    cases w1
    have := R.inj l j p d0 d z2 w7 hs hd
    subst this
    exact hj i z1
  have back : ∀ (l : Nat) (c : PyData), ownOf (wb sf sd (ioP 0 md rs))[l]? = some c → ∃ c', ownOf sd[l]? = some c' := fun l c hc => by
    by_cases hl : ∃ i, (i, l) ∈ ioP 0 md rs
    · obtain ⟨i, hi⟩ := hl
      obtain ⟨_, _, _, _, _, _, _, d0, w7⟩ := inn i l hi
      exact ⟨d0, w7⟩
    · rw [wb_out fun i hi => hl ⟨i, hi⟩] at hc
      exact ⟨c, hc⟩
  refine ⟨ex, ⟨by rw [wb_length]; exact R.len, fun j s h => ?_, fun j k p s t h1 h2 h3 h4 => ?_, sk⟩, back⟩
  · by_cases hj : ∃ i, (i, j) ∈ ioP 0 md rs
    · obtain ⟨i, hi⟩ := hj
      obtain ⟨p, d, w1, w2, w3, w4, w5, d0, w6⟩ := inn i j hi
      rw [wb_in hn hi w5, w3] at h
      cases h
      have nc : ¬ O.c p := R.ownedC w6 w1
      refine ⟨.ref p, w1, p, rfl, ⟨so p w2, fun z => nc (sc' p z)⟩, ?_⟩
      cases d with
      | list ds =>
        obtain ⟨us, q1, q2⟩ := w4
        exact ⟨us, q1, q2.less sb _ _⟩
      | dict ds =>
        obtain ⟨us, q1, q2⟩ := w4
        exact ⟨us, q1, q2.less sb _ _⟩
      | _ => exact w4
    · have hj' : ∀ i, (i, j) ∉ ioP 0 md rs := fun i hi => hj ⟨i, hi⟩
      rw [wb_out hj'] at h
      obtain ⟨v, a, b⟩ := R.slot j s h
      refine ⟨v, a, ?_⟩
      cases s with
      | dat d => exact Dd.keep R.kind ex sa d v b
      | nd es => exact NdR.keep R.kind ex sa b
      | own d =>
        obtain ⟨p, rfl, c1, c2⟩ := b
        have no := out j p d hj' a (by rw [h]; rfl)
        obtain ⟨o, e1, ok⟩ := c2.there
        exact ⟨p, rfl, ⟨so p c1.1, fun z => c1.2 (sc' p z)⟩, c2.keep R.kind ex sa (by rw [C.ext.atA e1 no (wr_own ok).1 (R.kind.sub p c1.1), e1])⟩
      | dp d =>
        obtain ⟨p, e, b⟩ := b
        refine ⟨p, e, b.keep R.kind ex sa (fun q z _ => so q z) sc fun q z1 z2 => ?_⟩
        obtain ⟨o, e1, ok⟩ := R.kind.kd q (R.kind.sub q z1)
        rw [e1]
        refine C.ext.atA e1 (fun z => ?_) (wr_own ok).1 (R.kind.sub q z1)
        obtain ⟨i, l, y1, y2, _⟩ := z
        obtain ⟨q', d1, w1, _, _, _, _, d0, w7⟩ := inn i l y1
        exact R.ownedC w7 y2 z2
      | exn xi x => exact ⟨b.1, b.2.keep R.kind ex sa⟩
  · obtain ⟨s', h2'⟩ := back j s h2
    obtain ⟨t', h4'⟩ := back k t h4
    exact R.inj j k p s' t' h1 h2' h3 h4'
theorem call_of {m : MS} {N : Nat} {md : List Bool} {mas : M (List Opd)} {α : Type} {k : Rt → M α} {P : Sd → Hp → Prop} {sd1 : Sd} {rs : List Opd} {vs : List V} {as : List Sl} {r : Rt} (R : Rep K H O σ sd1) (hv : OpdsR K H O σ vs rs) (ha : argsS sd1 md rs = some as) (hn : ((ioP 0 md rs).map (·.2)).Nodup)
    (hr : retOf md (m (pad N as)) = .ok r sf) {Q : VK} (q : ∀ v H' O', CallEnd K H (ioO O σ (ioP 0 md rs)) md vs sf H' O' → RetR K H (ioO O σ (ioP 0 md rs)) H' O' v r → Q v H') {E : XK} : spV K m N md vs H Q E := by
  obtain ⟨l1, l2, l3⟩ := argsS_at ha
  exact ⟨as, _, r, sf, by rw [hv.length, l2], l1, callRep_of R hv ha hn, hr, q⟩
theorem mCall_at {m : MS} {N : Nat} {md : List Bool} {mas : M (List Opd)} {α : Type} {k : Rt → M α} {sd : Sd} : M.bind (mCall m N md mas) k sd = M.bind mas (fun rs sd1 => match argsS sd1 md rs with
    | none => .stk
    | some as => if ((ioP 0 md rs).map (·.2)).Nodup then (match retOf md (m (pad N as)) with
      | .ok r sf => k r (wb sf sd1 (ioP 0 md rs))
      | _ => .stk) else .stk) sd := by
  unfold mCall
  rw [bind_assoc]
  unfold M.bind
  cases mas sd with
  | ok rs sd1 =>
    simp only []
    cases argsS sd1 md rs with
    | none => rfl
    | some as =>
      simp only []
      by_cases hn : ((ioP 0 md rs).map (·.2)).Nodup
      · rw [if_pos hn, if_pos hn]
        cases retOf md (m (pad N as)) <;> rfl
      · rw [if_neg hn, if_neg hn]
  | exc _ _ => rfl
  | stk => rfl
theorem callD_of {m : MS} {N : Nat} {md : List Bool} {mas : M (List Opd)} {Q : VK} {E : XK} (h : tD K g (mCallD m N md mas) σ H Q) : tA K g mas σ H fun vs H1 => spV K m N md vs H1 Q E := by
  obtain ⟨sd, O, R, a⟩ := h
  unfold mCallD at a
  rw [mCall_at] at a
  refine ⟨sd, O, R, a.bind.mono fun rs sd1 H1 _ e1 R1 h1 vs hv => ?_⟩
  cases ea : argsS sd1 md rs with
  | none =>
    rw [ea] at h1
    exact False.elim h1
  | some as =>
    rw [ea] at h1
    simp only [] at h1
    split at h1
    · rename_i hn
      cases er : retOf md (m (pad N as)) with
      | exc _ _ =>
        rw [er] at h1
        exact False.elim h1
      | stk =>
        rw [er] at h1
        exact False.elim h1
      | ok r sf =>
        rw [er] at h1
        refine call_of (mas := mas) (k := fun r => M.ret (Opd.d (rtD r))) (P := fun _ _ => True) R1 hv ea hn er fun v H' O' C rr => ?_
        obtain ⟨x1, R2, _⟩ := callBack_of (Ow' := O) R1 hv ea hn C (fun _ z => z) (fun _ z => .inl z) (fun p z => C.nw.sa p z) ⟨R1.kind.sub, fun p z => C.kind.kd p (C.nw.sa p z), R1.kind.cs, C.kind.tb⟩
        refine h1 H' x1 R2 v ?_
        cases r with
        | dat d => exact Dd.same io_a.symm rr
        | xt ds => exact Dd.same io_a.symm (XtR.dd rr)
        | frs d =>
          obtain ⟨p, rfl, z1, z2, z3⟩ := rr
          have np := R1.kind.new z1
          have sa : ∀ q, O.a q → O'.a q := fun q z => C.nw.sa q z
          cases d with
          | list ds =>
            obtain ⟨us, q1, q2⟩ := z3
            exact .lst (.inl q1) np (q2.less sa _ _)
          | dict ds =>
            obtain ⟨us, q1, q2⟩ := z3
            exact .dct (.inl q1) np (q2.less sa _ _)
          | _ => exact False.elim z3
    · exact False.elim h1
theorem callF_of {m : MS} {N : Nat} {md : List Bool} {mas : M (List Opd)} {Q : VK} {E : XK} (h : tF K g (mCallF m N md mas) σ H Q) : tA K g mas σ H fun vs H1 => spV K m N md vs H1 Q E := by
  obtain ⟨sd, O, R, a⟩ := h
  unfold mCallF at a
  rw [mCall_at] at a
  refine ⟨sd, O, R, a.bind.mono fun rs sd1 H1 _ e1 R1 h1 vs hv => ?_⟩
  cases ea : argsS sd1 md rs with
  | none =>
    rw [ea] at h1
    exact False.elim h1
  | some as =>
    rw [ea] at h1
    simp only [] at h1
    split at h1
    · rename_i hn
      cases er : retOf md (m (pad N as)) with
      | exc _ _ =>
        rw [er] at h1
        exact False.elim h1
      | stk =>
        rw [er] at h1
        exact False.elim h1
      | ok r sf =>
        rw [er] at h1
        cases r with
        | dat d => exact False.elim h1
        | xt ds => exact False.elim h1
        | frs d =>
          refine call_of (mas := mas) (k := fun r => M.ret (rtD r)) (P := fun _ _ => True) R1 hv ea hn er fun v H' O' C rr => ?_
          obtain ⟨p, rfl, z1, z2, z3⟩ := rr
          have sb : ∀ q, (addO O p).a q → O'.a q := fun q z => by
            rcases z with z | rfl
            · exact C.nw.sa q z
            · exact C.kind.sub q z2
          obtain ⟨x1, R2, back⟩ := callBack_of (Ow' := addO O p) R1 hv ea hn C (fun _ z => .inl z) (fun q z => by
            rcases z with z | rfl
            · exact .inl z
            · exact .inr z1) sb ⟨fun q z => z.elim (fun z => .inl (R1.kind.sub q z)) .inr, fun q z => C.kind.kd q (sb q z), fun q z => .inl (R1.kind.cs q z), C.kind.tb⟩
          refine h1 p H' x1 z1 R2 (fun l c hc => ?_) ?_
          · obtain ⟨c', hc'⟩ := back l c hc
            exact R1.freshAt z1 l c' hc'
          · cases d with
            | list ds =>
              obtain ⟨us, q1, q2⟩ := z3
              exact ⟨us, q1, q2.less sb _ _⟩
            | dict ds =>
              obtain ⟨us, q1, q2⟩ := z3
              exact ⟨us, q1, q2.less sb _ _⟩
            | _ => exact z3
    · exact False.elim h1
end
section
variable {X : Cx} {g : Sg} {F : Fm}
theorem d_callV {k : Nat} {f : Addr} {fd : FuncData} {ps : List Str} {m : MS} {N : Nat} {md : List Bool} {x : Str} {p pos : Pos} {e : Expr} {es : List Expr} {mas : M (List Opd)} (G : FnG X.prog X.w X.K X.mg X.base CX0 k f fd ps (spV X.K m N md)) (hG : X.A.guards = some []) (hr : Room k X.A) (hg : Gl X x) (hm : X.mg x = some (.ref f))
    (hk : PySem.W.keepIn X.K (.ref f) = true) (hb : Binds X.K fd ps []) (ha : PA X (e :: es) (tA X.K g mas)) (hdb : (x == ("__debug__" : Str)) = false := by decide) (he : starEach (e :: es) X.env = (false, eval e X.env) :: starEach es X.env := by rfl)
    (hpl : (backTo pos (starEach es X.env)).any (·.1) = false := by rfl) : PE X (.Call (.Name x p) (e :: es) [] pos) (tD X.K g (mCallD m N md mas)) := PE_of (pe_callG G hG hr hg hm hk hb pass0 ha hdb he hpl) fun _ _ _ h => callD_of h
theorem f_callV {k : Nat} {f : Addr} {fd : FuncData} {ps : List Str} {m : MS} {N : Nat} {md : List Bool} {x : Str} {p pos : Pos} {e : Expr} {es : List Expr} {mas : M (List Opd)} (G : FnG X.prog X.w X.K X.mg X.base CX0 k f fd ps (spV X.K m N md)) (hG : X.A.guards = some []) (hr : Room k X.A) (hg : Gl X x) (hm : X.mg x = some (.ref f))
    (hk : PySem.W.keepIn X.K (.ref f) = true) (hb : Binds X.K fd ps []) (ha : PA X (e :: es) (tA X.K g mas)) (hdb : (x == ("__debug__" : Str)) = false := by decide) (he : starEach (e :: es) X.env = (false, eval e X.env) :: starEach es X.env := by rfl)
    (hpl : (backTo pos (starEach es X.env)).any (·.1) = false := by rfl) : PE X (.Call (.Name x p) (e :: es) [] pos) (tF X.K g (mCallF m N md mas)) := PE_of (pe_callG G hG hr hg hm hk hb pass0 ha hdb he hpl) fun _ _ _ h => callF_of h
end
end VS
namespace VS
open PySem PySem.Spec PyProof.Rows L2
variable [TabL]
section
variable {X : Cx} {g : Sg} {F : Fm} {K : PySem.W.Frag}
@[simp] def backD : PyData → Option PyData
  | .tuple xs => some (.tuple xs.reverse)
  | _ => none
@[simp] def backDF : PyData → Option PyData
  | .list xs => some (.list xs.reverse)
  | _ => none
@[simp] def m1F (f : PyData → Option PyData) (ma : M Opd) : M PyData := M.bind ma fun x => M.bind (getM x) fun d => M.of (f d)
theorem f_dct0 {pos : Pos} : PE X (.Dict [] [] pos) (tF X.K g (M.ret (.dict []))) := PE_of pe_dnewK fun σ H Q h => by
  obtain ⟨sd, O, R, a⟩ := h
  exact fun p hp => AftF.end a R p _ (same_new hp) hp ⟨[], upd_same, .nil⟩
theorem finOwn {D : Ends} {sd : Sd} {i : Nat} {k : List PyData → MS} (h : FinS K g F D (M.bind (VS.ownL i) k sd)) : ∃ xs, ownOf sd[i]? = some (.list xs) ∧ FinS K g F D (k xs sd) := by
  unfold M.bind at h
  cases e : VS.ownL i sd with
  | ok xs sd' =>
    rw [e] at h
    obtain ⟨h1, rfl⟩ := ownL_ok e
    exact ⟨xs, h1, h⟩
  | exc _ _ =>
    unfold VS.ownL at e
    split at e <;> cases e
  | stk =>
    rw [e] at h
    exact False.elim h
theorem finGet {D : Ends} {sd : Sd} {x : Opd} {k : PyData → MS} (h : FinS K g F D (M.bind (getM x) k sd)) : ∃ d, x.get sd = some d ∧ FinS K g F D (k d sd) := by
  unfold M.bind getM at h
  cases e : x.get sd with
  | none =>
    rw [e] at h
    exact False.elim h
  | some d =>
    rw [e] at h
    exact ⟨d, rfl, h⟩
theorem s_sub {i : Nat} {x : Str} {ei e : Expr} {mi me : M Opd} {p pos pos' : Pos} (hx : PE X (.Name x p) (tVar i)) (hi : PE X ei (tD X.K g mi)) (he : PE X e (tD X.K g me)) (ha : ∀ v, assign (.Subscript (.Name x p) ei pos') X.env v = (do
      let ov ← holding [v] (eval (.Name x p) X.env)
      let iv ← holding [v, ov] (eval ei X.env)
      standAt pos'
      holding [v, ov, iv] (setItem ov iv v)
      release [v, ov, iv] []) := by intro _; rfl) (hs : swapsWithSole [.Subscript (.Name x p) ei pos'] e pos.line X.env = pure false := by rfl) (hw : swappedStores [.Subscript (.Name x p) ei pos'] e X.env = pure none := by rfl)
    (h1 : (assignEach [.Subscript (.Name x p) ei pos'] X.env).map (·.2) = [assign (.Subscript (.Name x p) ei pos') X.env] := by rfl) : PS X (.Assign [.Subscript (.Name x p) ei pos'] e pos) (tS X.K g F (mSub i mi me)) :=
  PS_of (ps_asg he (pg_sub hx hi set_list ha) hs hw h1) fun D σ H h => by
  obtain ⟨sd, O, R, a⟩ := h
  refine ⟨sd, O, R.rep, (aft_of R a).mono fun r sd1 H1 _ e1 R1 q1 v hv => ?_⟩
  obtain ⟨R2, h2⟩ := q1
  obtain ⟨xs0, o0, h3⟩ := finOwn h2
  obtain ⟨q, c1, c2, vs0, c3, c4⟩ := R1.owned o0
  refine ⟨.ref q, c1, sd1, O, R1, (aft_of R2 h3).mono fun y sd2 H2 _ e2 R3 q3 u hu => ?_⟩
  obtain ⟨R4, h4⟩ := q3
  obtain ⟨k, g1, h5⟩ := finGet h4
  obtain ⟨xs, o1, h6⟩ := finOwn h5
  obtain ⟨q', d1, d2, vs, d3, d4⟩ := R3.owned o1
  rw [c1] at d1
  cases d1
  have hv2 := hv.keep R1.kind e2
  cases r with
  | own _ => exact False.elim h6
  | d d =>
    cases k with
    | int j =>
      have h6 : FinS X.K g F D ((match ixN xs.length j with
        | some n => M.bind (putL i (xs.set n d)) fun _ => sNx
        | none => M.stk : MS) sd2) := h6
      cases e3 : ixN xs.length j with
      | none =>
        rw [e3] at h6
        exact False.elim h6
      | some n =>
        rw [e3] at h6
        refine ⟨q, vs, j, n, rfl, (hu.arg R3 g1).int, d3, by rw [d4.length]; exact e3, ?_⟩
        refine h6 σ _ O (R4.step (Ext.set d2) (R3.setOwn c1 o1 d2 ⟨_, upd_same, ?_⟩))
        exact ds_set R3.kind d2 (d4.put hv2 n)
    | _ => exact False.elim h6
end
end VS
namespace VS
open PySem L2
variable [TabL]
noncomputable def innerC (gd : List (Nat × PyData)) (vs : List Nat) (t : Tg) (mt : M Bool) (me : M Opd) : List PyData → List PyData → M (List PyData)
  | [], acc => fun sd => if gdB gd sd then .ok acc sd else .stk
  | x :: xs, acc => fun sd => if gdB gd sd then (match stepC vs t mt me x acc sd with
    | .ok acc' s' => innerC gd vs t mt me xs acc' (wipeD s' vs)
    | _ => .stk) else .stk
noncomputable def step2 (vs : List Nat) (t : Tg) (mt : M Bool) (ms1 : M Src) (vs1 : List Nat) (t1 : Tg) (mt1 : M Bool) (me : M Opd) (x : PyData) (acc : List PyData) : M (List PyData) := fun sd => match binds t x with
  | none => .stk
  | some bs => match mt (setsD (wipeD sd vs) bs) with
    | .ok false s1 => .ok acc s1
    | .ok true s1 => match ms1 s1 with
      | .ok src s2 => innerC src.gd vs1 t1 mt1 me src.xs acc s2
      | _ => .stk
    | _ => .stk
noncomputable def loopC2 (gd : List (Nat × PyData)) (vs : List Nat) (st : PyData → List PyData → M (List PyData)) : List PyData → List PyData → M PyData
  | [], acc => fun sd => if gdB gd sd then .ok (.list acc) (wipeD sd vs) else .stk
  | x :: xs, acc => fun sd => if gdB gd sd then (match st x acc sd with
    | .ok acc' s' => loopC2 gd vs st xs acc' (wipeD s' vs)
    | _ => .stk) else .stk
@[simp] noncomputable def mLc2 (ms : M Src) (t : Tg) (mt : M Bool) (ms1 : M Src) (t1 : Tg) (mt1 : M Bool) (me : M Opd) (vs vs1 : List Nat) : M PyData := M.bind ms fun s => loopC2 s.gd vs (step2 vs t mt ms1 vs1 t1 mt1 me) s.xs []
structure Fr (O : Ow) (p : Addr) (H H' : Hp) : Prop where
  st : ∀ a o, H a = some o → a ≠ p → ¬ O.o a → NoT o → Kept O a o H'
  th : ∀ a o, H a = some o → ∃ o', H' a = some o'
theorem Fr.refl {O : Ow} {p : Addr} {H : Hp} : Fr O p H H := ⟨fun _ _ e _ _ _ => .inl e, fun _ o e => ⟨o, e⟩⟩
theorem Fr.trans {O : Ow} {p : Addr} {H H1 H2 : Hp} (a : Fr O p H H1) (b : Fr O p H1 H2) : Fr O p H H2 := ⟨fun x o e n m nt => (a.st x o e n m nt).trans nt fun o e t => b.st x o e n m t, fun x o e => by
  obtain ⟨o1, e1⟩ := a.th x o e
  exact b.th x o1 e1⟩
theorem Fr.ext {O : Ow} {p : Addr} {H H1 : Hp} (e : Ext O H H1) : Fr O p H H1 := ⟨fun x o q _ m nt => (e x o q).1 m nt, fun x o q => (e x o q).2⟩
theorem Fr.same {O : Ow} {p : Addr} {H H1 : Hp} (e : Same H H1) : Fr O p H H1 := ⟨fun x o q _ m _ => .inl (e x o q), fun x o q => ⟨o, e x o q⟩⟩
section
variable {X : Cx} {g g' g'' : Sg} {F : Fm}
theorem dF_of {K : PySem.W.Frag} {m : M PyData} {σ : L2.St} {H : Hp} {Q : VK} (q : tD K g (dF m) σ H Q) : tF K g m σ H Q := by
  obtain ⟨sd, O, R, a⟩ := q
  refine ⟨sd, O, R, ?_⟩
  unfold dF M.bind at a
  cases e1 : m sd with
  | ok d sd' =>
    rw [e1] at a
    intro p H' x hp R' f o
    exact a H' x (R'.less f R.kind.sub (R.kind.newc hp) R.kind.cs) (.ref p) (own_dd o (R.kind.new hp))
  | exc y sd' =>
    rw [e1] at a
    exact a
  | stk =>
    rw [e1] at a
    exact a
theorem setD_of {K : PySem.W.Frag} {i : Nat} {m : M Opd} {D : Ends} {σ : L2.St} {H : Hp} (hm : (F.md[i]? == some true) = false) (h : tS K g F (mSet i m) D σ H) : tD K g m σ H fun x H1 => gName i x σ H1 D.nx := by
  obtain ⟨sd, O, R, a⟩ := h
  refine ⟨sd, O, R.rep, (aft_of R a).mono fun r sd1 H1 _ e1 R1 h1 v hv => ?_⟩
  obtain ⟨sd2, R2, h2⟩ := put_of hm h1.1 hv h1.2
  exact h2 _ _ _ R2
theorem s_lcD {i : Nat} {y : Str} {py : Pos} {elt tg iter : Expr} {ifs : List Expr} {scope : Scope} {own : List (Str × Nat)} {pos spos : Pos} {ms : M Src} {t : Tg} {mt : M Bool} {me : M Opd} (hc : X.calm = true) (hN : X.N.Nodup) (hy : X.N[i]? = some y) (hyl : X.env.scope.names.lookup y = some .local)
    (hsw : swapsWith (.ListComp elt [⟨tg, iter, ifs, 0⟩] scope pos) (some (.Name y py)) spos.line X.env = pure true) (hi : PI X tg iter (tI X.K g ms)) (ok : BlkOk X.N X.env.scope scope own)
    (hg : ∀ (s : Shared) (H : Hp) (C : Addr) (cl : List (Str × Addr)) (fp : List Addr), PG (X.blk s H scope (compEnvC scope cl C X.env) fp) tg (gT X.K t)) (ht : ∀ (s : Shared) (H : Hp) (C : Addr) (cl : List (Str × Addr)) (fp : List Addr), PTs (X.blk s H scope (compEnvC scope cl C X.env) fp) ifs (tT X.K g' mt))
    (he : ∀ (s : Shared) (H : Hp) (C : Addr) (cl : List (Str × Addr)) (fp : List Addr), PE (X.blk s H scope (compEnvC scope cl C X.env) fp) elt (tD X.K g' me)) (hv : inL t.ix (own.map (·.2)) = true := by rfl) (hm : (F.md[i]? == some true) = false := by rfl) (hs : ∀ x, foldedSetIterable iter X.env x = pure x := by intro _; rfl) :
    PS X (.Assign [.Name y py] (.ListComp elt [⟨tg, iter, ifs, 0⟩] scope pos) spos) (tS X.K g F (mSet i (dF (mLc ms t mt me (own.map (·.2)))))) := PS_of (ps_setLc hc hN hy hyl hsw hi ok hg ht he hs) fun _ _ _ h => lc_of hv (dF_of (setD_of hm h))
@[simp] def mFz (md : List Bool) (i : Nat) (m : MS) : MS := fun sd => match ownOf sd[i]? with
  | some d => if ioOk md sd && !(md[i]? == some true) then m (sd.set i (some (.dat d))) else .stk
  | none => .stk
end
end VS
namespace VS
open PySem PySem.Spec PyProof.Rows L2
variable [TabL]
section
variable {P : Program} {w : World} {K : PySem.W.Frag} {mg mb : Str → Option Value} {k N : Nat} {fa a : Addr} {fd : FuncData} {x : Str} {m : MS} {s₁ : Shared} {vs : List Value} {ns : List Int}
theorem spV_one {H : Hp} {d : PyData} {sf : Sd} {E : XK} (hd : Dd K H noO (.ref a) d) (ht : TabsOk H) (hm : retOf [false] (m (pad N [.dat d])) = .ok (.dat (.bool true)) sf) : spV K m N [false] [.ref a] H (fun v _ => v = .bl true) E := by
  refine ⟨[.dat d], noO, _, sf, rfl, rfl, ⟨⟨rfl, fun i s h => ?_, fun i j p s t h1 h2 h3 h4 => ?_, ⟨fun _ z => z.elim, fun _ z => z.elim, fun _ z => z.elim, ht⟩⟩, fun i s h1 h2 => ?_, fun p z => z.elim⟩, hm, fun v H' O' C rr => ?_⟩
  · match i, h with
    | 0, h => cases h; exact ⟨_, rfl, hd⟩
  · match i, h2 with
    | 0, h2 => cases h2
  · match i, h2 with
    | 0, h2 => cases h2
  · cases rr
    rfl
abbrev LawQ (s₁ : Shared) : Result → Shared → Prop := fun r s' => r = .ok (.ret (.bool true)) ∧ OldK s₁.heap s'.heap ∧ s'.os = s₁.os ∧ AllBare s'.gens
theorem law_over (H : Hp) (sc : ∀ b, H b = none ∨ (b = a ∧ K.lookup a = none ∧ ∃ o xs, H b = some (.frz o (.lst xs)))) (KX : K.In s₁.heap) (hns : s₁.heap.Ns mainGlobals mg) (hb : s₁.heap.Ns builtinsNs mb) (hbb : ∀ x : Str, x ≠ "__name__" → mb x = bootBuiltins x) (hlim : s₁.heap.NoLimit) (hg : s₁.gens = #[])
    (ha : s₁.heap.get? a = some { cls := .type "list", data := .seq vs.toArray }) (hr : Room k callerA) (F : ∀ base : Heap, K.In base → base.Ns mainGlobals mg → FnG P w K mg base CX0 k fa fd [x] (spV K m N [false])) (hbind : ∀ (s : Shared) (u : Value), BindsTo s fd ⟨[u], []⟩ [(x, u)])
    (hok : HOk P w H s₁.heap) (hsp : spV K m N [false] [.ref a] H (fun v _ => v = .bl true) fun _ _ _ => False) : codeAny (model P w) callerA (.call (.ref fa) ⟨[.ref a], []⟩) (LawQ s₁) s₁ := by
  -- no dict is the script
  have free : ∀ {b : Addr} {o : Obj} {es : Array DictEntry} {ep : Nat}, s₁.heap.get? b = some o → o.data = .dict es ep → H b = none := fun {b o es ep} e d => by
    rcases sc b with z | ⟨rfl, _⟩
    · exact z
    · rw [ha] at e
      cases e
      cases (show Data.seq vs.toArray _ = Data.dict es ep from d)
  have names : ∀ {b : Addr} {m : Str → Option Value}, s₁.heap.Ns b m → (hidT s₁.heap H).Ns b m := fun {b m} n => by
    obtain ⟨o, es, ep, e, d, r⟩ := n
    exact ⟨o, es, ep, hidT_get e (free e d), d, r⟩
  have KB : K.In (hidT s₁.heap H) := fun b o e => by
    refine hidT_get (KX b o e) ?_
    rcases sc b with z | ⟨rfl, z, _⟩
    · exact z
    · rw [z] at e
      cases e
  obtain ⟨mc, l1, l2⟩ := hlim
  have e0 : Env0 P w K mg (hidT s₁.heap H) callerA [] s₁ H := ⟨rfl, ⟨KB, names hns, ⟨mb, names hb, hbb⟩, ⟨mc, names l1, l2⟩⟩, fun b o e => of_hidT e, Nat.le_of_eq (hidT_size _ _), trivial, fun b hb => absurd (show b ∈ ([] : List Addr) from hb) (by simp), hok, .of_eq hg⟩
  have run := (F _ KB (names hns)).run callerA [] s₁ H ⟨[.ref a], []⟩ [.ref a] [.ref a] (fun v _ => v = .bl true) (fun _ _ _ => False) rfl hr e0 (hbind s₁ (.ref a)) (.cons rfl .nil) hsp
  refine codeAny_mono run fun r s' h => ?_
  match r, h with
  | .error e, h => exact False.elim h
  | .ok .next, h => exact False.elim h
  | .ok .brk, h => exact False.elim h
  | .ok .cont, h => exact False.elim h
  | .ok (.ret u), h =>
    obtain ⟨v, H', os, bare, un, hok', r', q⟩ := h
    cases (show v = .bl true from q)
    cases (show u = Value.bool true from r')
    refine ⟨rfl, OldK.of_keep fun b o e => ?_, os, bare⟩
    rcases sc b with z | ⟨_, _, ob, xs, z⟩
    · exact un.keep b o e z (fun y => absurd (show b ∈ ([] : List Addr) from y) (by simp)) (by simp)
    · obtain ⟨e1, _⟩ := hok b _ z
      obtain ⟨e2, _⟩ := hok' b _ (un.frzs b ob _ z)
      rw [e] at e1
      cases e1
      exact e2
theorem ds_ints {H : Hp} {O : Ow} (ns : List Int) : Ds K H O (ns.map V.int) (ns.map PyData.int) := Ds.ints ns
theorem law_callG (hT0 : TabL.T = []) (KX : K.In s₁.heap) (hns : s₁.heap.Ns mainGlobals mg) (hb : s₁.heap.Ns builtinsNs mb) (hbb : ∀ x : Str, x ≠ "__name__" → mb x = bootBuiltins x) (hlim : s₁.heap.NoLimit) (hg : s₁.gens = #[])
    (ha : s₁.heap.get? a = some { cls := .type "list", data := .seq vs.toArray }) (hi : IntsAre vs ns) (hl : ns.length ≤ sizeLine) (hr : Room k callerA) (F : ∀ base : Heap, K.In base → base.Ns mainGlobals mg → FnG P w K mg base CX0 k fa fd [x] (spV K m N [false])) (hbind : ∀ (s : Shared) (u : Value), BindsTo s fd ⟨[u], []⟩ [(x, u)])
    (hsp : ∃ sf, retOf [false] (m (pad N [.dat (.list (ns.map .int))])) = .ok (.dat (.bool true)) sf) : codeAny (model P w) callerA (.call (.ref fa) ⟨[.ref a], []⟩) (LawQ s₁) s₁ := by
  obtain ⟨sf, hsp⟩ := hsp
  have ht : ∀ H : Hp, TabsOk H := fun H p hp => by
    rw [hT0] at hp
    cases hp
  have rv := vals_ints hi
  cases hk : K.lookup a with
  | some o =>
    have e := KX a o hk
    rw [ha] at e
    cases e
    refine law_over (fun _ => none) (fun _ => .inl rfl) KX hns hb hbb hlim hg ha hr F hbind (fun b u z => ?_) (spV_one (.lsk ⟨by rw [List.length_map]; exact hl, vs, _, rv, hk⟩ (ds_ints ns)) (ht _) hsp)
    cases (show (none : Option HO) = some u from z)
  | none =>
    refine law_over (fun b => if b = a then some (.frz { cls := .type "list", data := .seq vs.toArray } (.lst (ns.map V.int))) else none) (fun b => ?_) KX hns hb hbb hlim hg ha hr F hbind (fun b u z => ?_) (spV_one (.lst (.inr ⟨_, if_pos rfl⟩) (fun z => z) (ds_ints ns)) (ht _) hsp)
    · by_cases e : b = a
      · exact .inr ⟨e, hk, _, _, if_pos e⟩
      · exact .inl (if_neg e)
    · have z : (if b = a then some (HO.frz { cls := .type "list", data := .seq vs.toArray } (.lst (ns.map V.int))) else none) = some u := z
      split at z
      · rename_i e
        cases z
        subst e
        exact ⟨ha, by rw [List.length_map]; exact hl, vs, _, rv, ha⟩
      · cases z
end
theorem walk_ofG {l : PySem.W.OpenLaw} {n k N : Nat} {q : Program} {loose : List Str} {XP : (Str → Option Value) → Heap → Prop} {YP : World → Heap → Prop} {d : DefRec} {K : Params → PySem.W.Frag} {x : Str} {m : MS} (hT0 : TabL.T = []) (hn : l.most = some n) (hn2 : n ≤ sizeLine) (hdf : d.params.defaults = []) (hr : Room k callerA)
    (hY : ∀ (w : World) (h : Heap), YP w h → (K w.params).In h) (F : ∀ (w : World) (mg : Str → Option Value) (fa : Addr) (h : Heap), (K w.params).In h → h.Ns mainGlobals mg → mg d.name = some (.ref fa) →
      ∃ fd : FuncData, (∀ (s : Shared) (u : Value), BindsTo s fd ⟨[u], []⟩ [(x, u)]) ∧ ∀ base : Heap, (K w.params).In base → base.Ns mainGlobals mg → FnG l.prog w (K w.params) mg base CX0 k fa fd [x] (spV (K w.params) m N [false]))
    (hsp : ∀ ns : List Int, ns.length ≤ n → (∀ z ∈ ns, Builtin.Int.intBits z ≤ 1048576) → ∃ sf, retOf [false] (m (pad N [.dat (.list (ns.map .int))])) = .ok (.dat (.bool true)) sf) : PySem.W.WalkO q loose XP YP l.row.toRowW d [] (fun f vs => PySem.call f vs) := by
  refine Att.attach_callB hn hdf fun w s₀ s₁ mg mb fa o pm cd doc a vs ns G Y ho hd hcd hmg hobj hints hlen hbits hg => ?_
  have KX := hY w _ Y
  obtain ⟨fd, hb, hF⟩ := F w mg fa _ KX G.T.g hmg
  exact law_callG hT0 KX G.T.g G.T.b G.T.builtins G.T.nolimit hg hobj hints (Nat.le_trans hlen hn2) hr hF hb (hsp ns hlen hbits)
end VS
namespace VS
open PySem PySem.Spec PyProof.Rows L2
variable [TabL]
section
variable {X : Cx} {g : Sg} {F : Fm}
theorem PTs_of {ifs : List Expr} {t t' : TT} (h : PTs X ifs t) (w : ∀ σ H Q, t' σ H Q → t σ H Q) : PTs X ifs t' := ⟨fun pins s σ H Q I q => h.run pins s σ H Q I (w σ H Q q)⟩
theorem q_nil : PTs X [] (tT X.K g (M.ret true)) := PTs_of pts_nil fun σ H Q h => by
  obtain ⟨sd, O, R, a⟩ := h
  exact a.now R
end
theorem room_hu {k : Nat} {A : Around} (r : Room k A) : A.units + 64 < cLine := by
  have := r.un
  omega
structure Df (K : PySem.W.Frag) (mg : Str → Option Value) (x : Str) (st : Stmt) (ps : List Str) (f : Addr) (fd : FuncData) : Prop where
  fn : Fun K x x st f fd
  mg : mg x = some (.ref f)
  bd : Binds K fd ps []
theorem bb_len : bootBuiltins "len" = some (.builtin "len") := by decide +kernel
theorem bb_abs : bootBuiltins "abs" = some (.builtin "abs") := by decide +kernel
theorem bb_max : bootBuiltins "max" = some (.builtin "max") := by decide +kernel
theorem bb_min : bootBuiltins "min" = some (.builtin "min") := by decide +kernel
theorem bb_repr : bootBuiltins "repr" = some (.builtin "repr") := by decide +kernel
theorem bb_all : bootBuiltins "all" = some (.builtin "all") := by decide +kernel
theorem bb_sorted : bootBuiltins "sorted" = some (.builtin "sorted") := by decide +kernel
theorem bb_int : bootBuiltins "int" = some (.type "int") := by decide +kernel
theorem bb_bool : bootBuiltins "bool" = some (.type "bool") := by decide +kernel
theorem bb_list : bootBuiltins "list" = some (.type "list") := by decide +kernel
theorem bb_tuple : bootBuiltins "tuple" = some (.type "tuple") := by decide +kernel
end VS
namespace VS
open PySem PySem.Spec PyProof.Rows L2
variable [TabL]
def putE (es : List (PyData × PyData)) (k d : PyData) : List (PyData × PyData) :=
  if (es.any fun e => keyEq e.1 k) = true then es.map (fun e => if keyEq e.1 k = true then (e.1, d) else e) else es ++ [(k, d)]
section
variable {K : PySem.W.Frag} {g : Sg} {F : Fm} {H H' : Hp} {O : Ow} {p : Addr}
theorem dk_repl {k : Key} {v : V} {d : PyData} (hd : Dd K H O v d) : ∀ {es : List (PyData × PyData)} {kvs : List (Key × V)}, Dk K H O kvs es → Dk K H O (kvs.map fun kv => if kv.1 = k then (kv.1, v) else kv) (es.map fun e => if keyEq e.1 (kD k) = true then (e.1, d) else e)
  | [], _, h => by cases h; exact .nil
  | (_, c) :: es, _, h => by
    cases h with
    | cons h1 h2 =>
      rename_i k' v' kvs
      have ih := dk_repl (k := k) hd h2
      simp only [List.map_cons, keyEq_kD, decide_eq_true_eq]
      by_cases e : k' = k
      · simp only [e, if_true]
        exact .cons hd ih
      · simp only [e, if_false]
        exact .cons h1 ih
theorem dk_snoc {k : Key} {v : V} {d : PyData} (hd : Dd K H O v d) : ∀ {es : List (PyData × PyData)} {kvs : List (Key × V)}, Dk K H O kvs es → Dk K H O (kvs ++ [(k, v)]) (es ++ [(kD k, d)])
  | [], _, h => by cases h; exact .cons hd .nil
  | (_, c) :: es, _, h => by
    cases h with
    | cons h1 h2 => exact .cons h1 (dk_snoc hd h2)
theorem dk_put {k : Key} {v : V} {d : PyData} {es : List (PyData × PyData)} {kvs : List (Key × V)} (h : Dk K H O kvs es) (hd : Dd K H O v d) : Dk K H O (putK kvs k v) (putE es (kD k) d) := by
  unfold putK putE
  rw [dk_any k h, valV_any]
  by_cases c : (valV kvs k).isSome = true
  · rw [if_pos c, if_pos c]
    exact dk_repl hd h
  · rw [if_neg c, if_neg c]
    exact dk_snoc hd h
theorem Dk.same {vs : List (Key × V)} {es : List (PyData × PyData)} {O1 O2 : Ow} (e : O1.a = O2.a) (h : Dk K H O1 vs es) : Dk K H O2 vs es := Dk.less (fun q z => by rw [e]; exact z) _ _ h
@[simp] def ownDct (i : Nat) : M (List (PyData × PyData)) := fun sd => match ownOf sd[i]? with
  | some (.dict es) => .ok es sd
  | _ => .stk
theorem ownDct_ok {i : Nat} {sd sd' : Sd} {es : List (PyData × PyData)} (h : ownDct i sd = .ok es sd') : ownOf sd[i]? = some (.dict es) ∧ sd' = sd := by
  unfold ownDct at h
  split at h
  · cases h
    exact ⟨by assumption, rfl⟩
  · cases h
@[simp] def putDct (i : Nat) (es : List (PyData × PyData)) : M Unit := fun sd => .ok () (sd.set i (some (.own (.dict es))))
@[simp] def mSubD (i : Nat) (mk mv : M Opd) : MS := M.bind mv fun r => M.bind (ownDct i) fun _ => M.bind mk fun y => M.bind (getM y) fun k => M.bind (ownDct i) fun es => match r with
  | .d d => if (keyOf k).isSome && decide (es.length < sizeLine) then M.bind (putDct i (putE es k d)) fun _ => sNx else M.stk
  | .own _ => M.stk
theorem finDct {D : Ends} {sd : Sd} {i : Nat} {k : List (PyData × PyData) → MS} (h : FinS K g F D (M.bind (ownDct i) k sd)) : ∃ es, ownOf sd[i]? = some (.dict es) ∧ FinS K g F D (k es sd) := by
  unfold M.bind at h
  cases e : ownDct i sd with
  | ok es sd' =>
    rw [e] at h
    obtain ⟨h1, rfl⟩ := ownDct_ok e
    exact ⟨es, h1, h⟩
  | exc _ _ =>
    unfold ownDct at e
    split at e <;> cases e
  | stk =>
    rw [e] at h
    exact False.elim h
end
section
variable {X : Cx} {g g' : Sg} {F : Fm}
theorem s_subD {i : Nat} {x : Str} {ei e : Expr} {mi me : M Opd} {p pos pos' : Pos} (hu : X.A.units + 64 < cLine) (hx : PE X (.Name x p) (tVar i)) (hi : PE X ei (tD X.K g mi)) (he : PE X e (tD X.K g me))
    (hs : swapsWith e (some (.Subscript (.Name x p) ei pos')) pos.line X.env = pure false := by rfl) : PS X (.Assign [.Subscript (.Name x p) ei pos'] e pos) (tS X.K g F (mSubD i mi me)) :=
  PS_of (ps_dput (by omega) hx hi he hs) fun D σ H h => by
  obtain ⟨sd, O, R, a⟩ := h
  refine ⟨sd, O, R.rep, (aft_of R a).mono fun r sd1 H1 _ e1 R1 q1 v hv => ?_⟩
  obtain ⟨R2, h2⟩ := q1
  obtain ⟨es0, o0, h3⟩ := finDct h2
  obtain ⟨q, c1, c2, kv0, c3, c4⟩ := R1.owned o0
  refine ⟨.ref q, c1, sd1, O, R1, (aft_of R2 h3).mono fun y sd2 H2 _ e2 R3 q3 u hu => ?_⟩
  obtain ⟨R4, h4⟩ := q3
  obtain ⟨k, g1, h5⟩ := finGet h4
  obtain ⟨es, o1, h6⟩ := finDct h5
  obtain ⟨q', d1, d2, kvs, d3, d4⟩ := R3.owned o1
  rw [c1] at d1
  cases d1
  have hv2 := hv.keep R1.kind e2
  cases r with
  | own _ => exact False.elim h6
  | d d =>
    have h6 : FinS X.K g F D ((if (keyOf k).isSome && decide (es.length < sizeLine) then M.bind (putDct i (putE es k d)) fun _ => sNx else M.stk : MS) sd2) := h6
    cases hc : (keyOf k).isSome && decide (es.length < sizeLine) with
    | false =>
      rw [hc] at h6
      exact False.elim h6
    | true =>
      rw [hc] at h6
      simp only [Bool.and_eq_true, decide_eq_true_eq] at hc
      obtain ⟨ky, hk⟩ := Option.isSome_iff_exists.mp hc.1
      have ek := keyOf_some hk
      have ey : u = kV ky := by
        have A1 := hu.arg R3 g1
        subst ek
        cases ky with
        | inl j => exact A1.int
        | inr j => exact A1.str
      refine ⟨q, _, rfl, .inl ⟨kvs, ky, d3, ey, by rw [d4.length]; exact hc.2, rfl⟩, ?_⟩
      refine h6 σ _ O (R4.step (Ext.set d2) (R3.setOwn c1 o1 d2 ⟨_, upd_same, ?_⟩))
      rw [ek]
      exact dk_set R3.kind d2 (dk_put d4 hv2)
def stepE (vs : List Nat) (t : Tg) (mt : M Bool) (mk mv : M Opd) (x : PyData) (acc : List (PyData × PyData)) : M (List (PyData × PyData)) := fun sd => match binds t x with
  | none => .stk
  | some bs => match mt (setsD (wipeD sd vs) bs) with
    | .ok false s1 => .ok acc s1
    | .ok true s1 => match mk s1 with
      | .ok (.d k) s2 => match mv s2 with
        | .ok (.d d) s3 => if (keyOf k).isSome && decide (acc.length < sizeLine) then .ok (putE acc k d) s3 else .stk
        | _ => .stk
      | _ => .stk
    | _ => .stk
noncomputable def loopE (gd : List (Nat × PyData)) (vs : List Nat) (st : PyData → List (PyData × PyData) → M (List (PyData × PyData))) : List PyData → List (PyData × PyData) → M PyData
  | [], acc => fun sd => if gdB gd sd then .ok (.dict acc) (wipeD sd vs) else .stk
  | x :: xs, acc => fun sd => if gdB gd sd then (match st x acc sd with
    | .ok acc' s' => loopE gd vs st xs acc' (wipeD s' vs)
    | _ => .stk) else .stk
@[simp] noncomputable def mDc (ms : M Src) (t : Tg) (mt : M Bool) (mk mv : M Opd) (vs : List Nat) : M PyData := M.bind ms fun s => loopE s.gd vs (stepE vs t mt mk mv) s.xs []
end
end VS
namespace VS
open PySem PySem.Spec PyProof.Rows L2
end VS
namespace VS
open PySem PySem.Spec PyProof.Rows L2
variable [TabL]
noncomputable def innerE (gd : List (Nat × PyData)) (vs : List Nat) (t : Tg) (mt : M Bool) (mk mv : M Opd) : List PyData → List (PyData × PyData) → M (List (PyData × PyData))
  | [], acc => fun sd => if gdB gd sd then .ok acc sd else .stk
  | x :: xs, acc => fun sd => if gdB gd sd then (match stepE vs t mt mk mv x acc sd with
    | .ok acc' s' => innerE gd vs t mt mk mv xs acc' (wipeD s' vs)
    | _ => .stk) else .stk
noncomputable def step2E (vs : List Nat) (t : Tg) (mt : M Bool) (ms1 : M Src) (vs1 : List Nat) (t1 : Tg) (mt1 : M Bool) (mk mv : M Opd) (x : PyData) (acc : List (PyData × PyData)) : M (List (PyData × PyData)) := fun sd => match binds t x with
  | none => .stk
  | some bs => match mt (setsD (wipeD sd vs) bs) with
    | .ok false s1 => .ok acc s1
    | .ok true s1 => match ms1 s1 with
      | .ok src s2 => innerE src.gd vs1 t1 mt1 mk mv src.xs acc s2
      | _ => .stk
    | _ => .stk
@[simp] noncomputable def mDc2 (ms : M Src) (t : Tg) (mt : M Bool) (ms1 : M Src) (t1 : Tg) (mt1 : M Bool) (mk mv : M Opd) (vs vs1 : List Nat) : M PyData := M.bind ms fun s => loopE s.gd vs (step2E vs t mt ms1 vs1 t1 mt1 mk mv) s.xs []
end VS
namespace VS
open PySem PySem.Spec PyProof.Rows L2
variable [TabL]
section
variable {X : Cx}
@[simp] def divmodD : PyData → PyData → Option PyData
  | .int i, .int j => if decide (0 < j) && decide (j < 1073741824) then some (.tuple [.int (i / j), .int (i % j)]) else none
  | _, _ => none
end
end VS
namespace VS
open PySem PySem.Spec PyProof.Rows L2
variable [TabL]
theorem Ds.rep {K : PySem.W.Frag} {H : Hp} {O : Ow} {vs : List V} {ds : List PyData} (h : Ds K H O vs ds) : ∀ n : Nat, Ds K H O (List.replicate n vs).flatten (List.replicate n ds).flatten
  | 0 => .nil
  | n + 1 => by
    rw [List.replicate_succ, List.replicate_succ, List.flatten_cons, List.flatten_cons]
    exact h.app (Ds.rep h n)
section
variable {X : Cx} {g : Sg} {F : Fm}
@[simp] def repD (ds : List PyData) : PyData → Option PyData
  | .int k => if (decide (-(2 ^ 63) ≤ k) && decide (k < 2 ^ 63)) && decide (ds.length * k.toNat ≤ sizeLine) then some (.list (List.replicate k.toNat ds).flatten) else none
  | _ => none
@[simp] def mRep (mas : M (List Opd)) (mb : M Opd) : M PyData := M.bind mas fun rs => M.bind (M.of (datsO rs)) fun ds => M.bind (M.of (lstD ds)) fun _ => M.bind mb fun y => M.bind (getM y) fun d => M.of (repD ds d)
theorem f_rep {es : List Expr} {b : Expr} {mas : M (List Opd)} {mb : M Opd} {lp pos : Pos} (h : PA X es (tA X.K g mas)) (hb : PE X b (tD X.K g mb)) : PE X (.BinOp (.List es lp) .Mult b pos) (tF X.K g (mRep mas mb)) := PE_of (pe_op op_rep (pe_lst h) hb) fun σ H Q q => by
  obtain ⟨sd, O, R, a⟩ := q
  refine ⟨sd, O, R, a.bind.mono fun xs sd1 H1 _ e1 R1 h1 vs hv => ?_⟩
  obtain ⟨ds, g1, h3⟩ := AftF.bind (m := M.of (datsO xs)) h1 |>.of1
  obtain ⟨z, g3, h4⟩ := AftF.bind (m := M.of (lstD ds)) (h3.now R1) |>.of1
  have h5 := h4.now R1
  obtain ⟨hz, rfl⟩ := lstD_some g3
  have hd := dats_of hv g1
  refine ⟨by rw [hd.length]; exact hz, fun p hp => ⟨sd1, O, R1.same (same_new hp), ((AftF.bind h5).grow (Ext.new hp)).mono fun y sd2 H2 _ e2 R2 h6 u hu => ?_⟩⟩
  obtain ⟨k, g4, h7⟩ := AftF.get h6
  have np : ¬ O.o p := R1.kind.newo hp
  have hp2 : H2 p = some (.lst vs) := e2.at upd_same np (nt_lst _)
  obtain ⟨w, g5, h8⟩ := AftF.of h7
  have A := hu.arg R2 g4
  unfold repD at g5
  split at g5
  · split at g5
    · rename_i hc
      simp only [Bool.and_eq_true, decide_eq_true_eq] at hc
      cases g5
      refine ⟨p, _, vs, rfl, A.int, hp2, hc.1.1, hc.1.2, by rw [hd.length]; exact hc.2, fun q hq => ?_⟩
      refine h8.end R2 q _ (same_new hq) hq (own_lst R2.kind hq ?_)
      exact Ds.rep (Ds.keep (R1.same (same_new hp)).kind e2 (fun _ z => .inl z) _ _ (ds_same R1.kind (same_new hp) hd)) _
    · cases g5
  · cases g5
@[simp] def mAugL (i : Nat) (mi me : M Opd) : MS := M.bind (ownL i) fun _ => M.bind mi fun y => M.bind (getM y) fun k => M.bind (ownL i) fun xs => match k with
  | .int j => (match atI xs j with
    | some (.int a) => if 0 ≤ j then M.bind me fun r => M.bind (getM r) fun e => M.bind (ownL i) fun ys => (match e with
      | .int b => (match ixN ys.length j with
        | some n => M.bind (putL i (ys.set n (.int (a + b)))) fun _ => sNx
        | none => M.stk)
      | _ => M.stk) else M.stk
    | _ => M.stk)
  | _ => M.stk
@[simp] def mPar (i j : Nat) (mas : M (List Opd)) : MS := M.bind mas fun rs sd => match rs with
  | [.d a, .d b] => .ok .nx (setsD sd [(i, a), (j, b)])
  | _ => .stk
theorem s_par {i j : Nat} {x y : Str} {a b : Expr} {mas : M (List Opd)} {px py pt pos : Pos} {kt k2 pt2} (nd : X.N.Nodup) (hc : X.calm = true) (hi : X.N[i]? = some x) (hj : X.N[j]? = some y) (hij : i ≠ j) (hx : X.env.scope.names.lookup x = some .local) (hy : X.env.scope.names.lookup y = some .local) (ha : PA X [a, b] (tA X.K g mas))
    (hm : noIo F.md [i, j] = true := by rfl) (hw : swappedStores [.Tuple [.Name x px, .Name y py] kt pt] (.Tuple [a, b] k2 pt2) X.env = pure (some [x, y]) := by rfl) (hs : swapsWithSole [.Tuple [.Name x px, .Name y py] kt pt] (.Tuple [a, b] k2 pt2) pos.line X.env = pure false := by rfl) :
    PS X (.Assign [.Tuple [.Name x px, .Name y py] kt pt] (.Tuple [a, b] k2 pt2) pos) (tS X.K g F (mPar i j mas)) := PS_of (ps_par hc nd hi hj hij hx hy ha hw hs) fun D σ H h => by
  obtain ⟨sd, O, R, q⟩ := h
  refine ⟨sd, O, R.rep, (aft_of R q).mono fun rs sd1 H1 _ e1 R1 h1 vs hvs => ?_⟩
  obtain ⟨R2, h2⟩ := h1
  match rs, h2, hvs with
  | [.d c, .d d], h2, .cons hv (.cons hw .nil) =>
    refine ⟨_, _, rfl, ?_⟩
    exact h2 _ H1 O (RepH.sets (vs := [(i, _), (j, _)]) (.cons hv (.cons hw .nil)) (fun b hb => noIo_of hm (by
      simp only [List.mem_cons, List.mem_nil_iff, or_false] at hb
      rcases hb with rfl | rfl <;> simp)) R2)
end
end VS
namespace VS
open PySem PySem.Spec PyProof.Rows L2
variable [TabL]
def mrgE (acc es : List (PyData × PyData)) : List (PyData × PyData) := es.foldl (fun a e => putE a e.1 e.2) acc
section
variable {K : PySem.W.Frag} {g : Sg} {X : Cx}
@[simp] def updF (es : List (PyData × PyData)) : List PyData → Option (List (PyData × PyData))
  | [.dict fs] => if es.length + fs.length ≤ sizeLine then some (mrgE es fs) else none
  | _ => none
@[simp] def mUpdD (i : Nat) (mas : M (List Opd)) : M Opd := M.bind (ownDct i) fun _ => M.bind mas fun rs => M.bind (M.of (datsO rs)) fun ds => M.bind (ownDct i) fun es => M.bind (M.of (updF es ds)) fun r => M.bind (putDct i r) fun _ => M.ret (.d .none)
end
end VS
namespace VS
open PySem PySem.Spec PyProof.Rows L2
variable [TabL]
def intsOf : List PyData → Option (List Int)
  | [] => some []
  | .int i :: r => (intsOf r).map fun is => i :: is
  | _ :: _ => none
theorem intsOf_some : ∀ {ds : List PyData} {is : List Int}, intsOf ds = some is → ds = is.map .int
  | [], is, h => by cases h; rfl
  | d :: r, is, h => by
    cases d with
    | int i =>
      obtain ⟨js, h1, rfl⟩ := Option.map_eq_some_iff.mp h
      rw [intsOf_some h1]
      rfl
    | _ => cases h
end VS
namespace VS
open PySem PySem.Spec PyProof.Rows L2
variable [TabL]
@[simp] def mCallT (m : MS) (N : Nat) (md : List Bool) (mf : M PyData) (mbs : M (List Opd)) : M Opd := M.bind mf fun d => M.bind mbs fun rs sd => match argsS sd md rs with
  | none => .stk
  | some as => match retOf (true :: md) (m (pad N (.own d :: as))) with
    | .ok r _ => .ok (.d (rtD r)) sd
    | _ => .stk
def indexD (ds : List PyData) : PyData → Option PyData
  | .int i => match intsOf ds with
    | some is => (is.findIdx? (· == i)).map fun j => .int (j : Nat)
    | none => none
  | _ => none
@[simp] def mIdx (ma mb : M Opd) : M Opd := M.bind ma fun r => match r with
  | .d (.list ds) => M.bind mb fun r2 => M.bind (getM r2) fun e => M.bind (M.of (indexD ds e)) fun z => M.ret (.d z)
  | _ => M.stk
section
variable {X : Cx} {g : Sg}
theorem ds_ints' {K : PySem.W.Frag} {H : Hp} {O : Ow} : ∀ {is : List Int} {vs : List V}, Ds K H O vs (is.map .int) → vs = is.map V.int
  | [], _, h => by cases h; rfl
  | i :: is, _, h => by
    cases h with
    | cons h1 h2 =>
      cases h1
      rw [ds_ints' h2]
      rfl
end
@[simp] def mUnpL (ts : List Tg) (m : M Opd) : MS := M.bind m fun r => match r with
  | .d (.list ds) => M.bind (M.of (bindsL ts ds)) fun bs sd => .ok .nx (setsD sd bs)
  | _ => M.stk
end VS
namespace VS
open PySem PySem.Spec PyProof.Rows L2
variable [TabL]
def stM (z TI TO i1 i2 a b : Addr) (i : Nat) (h : Heap) : Prop := IsZip h z TI TO .none ∧ IsTupOf2 h TI (.ref i1) (.ref i2) ∧ (∃ x y, IsTupOf2 h TO x y) ∧ h.IsTupleIter i1 a i ∧ h.IsListIter i2 b i
theorem stM.at {z TI TO i1 i2 a b : Addr} {i : Nat} {h h' : Heap} (st : stM z TI TO i1 i2 a b i h) (k : ∀ c ∈ [z, TI, TO, i1, i2], ∀ o, h.get? c = some o → h'.get? c = some o) : stM z TI TO i1 i2 a b i h' := by
  obtain ⟨s1, s2, ⟨x, y, s3⟩, s4, s5⟩ := st
  exact ⟨k z (by simp) _ s1, k TI (by simp) _ s2, ⟨x, y, k TO (by simp) _ s3⟩, s4.at fun o e => k i1 (by simp) o e, s5.at fun o e => k i2 (by simp) o e⟩
@[simp] def zipRowM : PyData → PyData → Option (List PyData)
  | .tuple xs, .list ys => some (zipL xs ys)
  | _, _ => none
@[simp] def mZipM (ma mb : M Opd) : M Src := M.bind ma fun r => M.bind mb fun q => M.bind (getM r) fun d => M.bind (getM q) fun e => M.bind (M.of (zipRowM d e)) fun xs => M.ret ⟨xs, gdOf d r ++ gdOf e q⟩
end VS
namespace VS
open PySem PySem.Spec PyProof.Rows L2
variable [TabL]
def sndL {α : Type} : List α → List α
  | _ :: y :: r => y :: sndL r
  | _ => []
section
variable {X : Cx} {g : Sg}
@[simp] def sndD : PyData → Option PyData
  | .tuple xs => some (.tuple (sndL xs))
  | _ => none
end
end VS
namespace VS
open PySem PySem.Spec PyProof.Rows L2
variable [TabL]
section
variable {X : Cx} {g : Sg} {F : Fm}
@[simp] def sliceDS (d : PyData) (lo hi : Option Int) : Option PyData := match d with
  | .str z => if z.length ≤ sizeLine then some (.str (cutS z lo hi)) else none
  | _ => none
@[simp] def mSlS (ma : M Opd) (ml mh : M (Option Int)) : M Opd := M.bind ma fun x => M.bind ml fun lo => M.bind mh fun hi => M.bind (getM x) fun d => M.bind (M.of (sliceDS d lo hi)) fun z => M.ret (.d z)
def revS (z : Str) : Str := ⟨((Builtin.Str.strSliceIndices none none (-1) z.length).filterMap (z.cps[·]?)).toArray⟩
@[simp] def backDS : PyData → Option PyData
  | .str z => if (revS z).length ≤ sizeLine then some (.str (revS z)) else none
  | _ => none
@[simp] def mPutK (i : Nat) (mi : M Opd) (d : PyData) (k : MS) : MS := M.bind (ownL i) fun _ => M.bind mi fun y => M.bind (getM y) fun e => M.bind (ownL i) fun xs => match e with
  | .int j => (match ixN xs.length j with
    | some n => M.bind (putL i (xs.set n d)) fun _ => k
    | none => M.stk)
  | _ => M.stk
@[simp] def pairO : Opd → Option (PyData × PyData)
  | .d (.tuple [a, b]) => some (a, b)
  | _ => none
@[simp] def mSwap (i : Nat) (mi mj : M Opd) (ma : M Opd) : MS := M.bind ma fun r => M.bind (M.of (pairO r)) fun p => mPutK i mi p.1 (mPutK i mj p.2 sNx)
end
end VS
namespace VS
open PySem PySem.Spec PyProof.Rows L2
variable [TabL]
section
variable {X : Cx} {g : Sg} {F : Fm}
@[simp] def mStar (own : Bool) (ts : List Tg) (r : Nat) (m : M Opd) : MS := M.bind m fun x => M.bind (getM x) fun d => M.bind (M.of (rowOf d)) fun xs => M.bind (M.of (bindsL ts (xs.take ts.length))) fun bs sd => .ok .nx ((setsD sd bs).set r (some (if own then .own (.list (xs.drop ts.length)) else .dat (.list (xs.drop ts.length)))))
@[simp] def strD : PyData → Option PyData
  | .int i => if i.natAbs.log2 < 1920 then some (.str (toString i)) else none
  | _ => none
end
end VS
namespace VS
open PySem PySem.Spec PyProof.Rows L2
variable [TabL]
section
variable {X : Cx} {g : Sg} {F : Fm}
@[simp] def mPar0 (i j k : Nat) : MS := fun sd => match sd[k]? with
  | some (some (.dat d)) => .ok .nx ((sd.set i (some (.own (.list [])))).set j (some (.own (.list [d]))))
  | _ => .stk
end
end VS
namespace VS
open PySem PySem.Spec PyProof.Rows L2
variable [TabL]
def ExR (K : PySem.W.Frag) (mg : Str → Option Value) (H : Hp) (O : Ow) (x : Exn) (c : Value) (d : Option Addr) : Prop := mg x.cls = some c ∧ XF K H O x d
theorem ExR.less {K : PySem.W.Frag} {mg : Str → Option Value} {H : Hp} {O O' : Ow} {x : Exn} {c : Value} {d : Option Addr} (w : ∀ p, O'.a p → O.a p) (h : ExR K mg H O x c d) : ExR K mg H O' x c d := ⟨h.1, h.2.less w⟩
def gX (K : PySem.W.Frag) (mg : Str → Option Value) (W : WX) : Sg := ⟨ExR K mg, W, fun _ _ _ _ _ _ w h => h.less w⟩
structure GX (X : Cx) (g : Sg) : Prop where
  tk : L2N.Takes X g.W
  xr : g.XR = ExR X.K X.mg
@[simp] def retX (md : List Bool) : Res Fl → Res Rt
  | .ok (.rt r) sf => if ioOk md sf then .ok r sf else .stk
  | .ok .nx sf => if ioOk md sf then .ok (.dat .none) sf else .stk
  | .exc e sf => if ioOk md sf then .exc e sf else .stk
  | _ => .stk
theorem retX_ok {md : List Bool} {r : Res Fl} {x : Rt} {sf : Sd} (h : retOf md r = .ok x sf) : retX md r = .ok x sf := by
  cases r with
  | ok f s =>
    cases f <;> first | exact h | cases h
  | exc e s => cases h
  | stk => cases h
def spX (K : PySem.W.Frag) (mg : Str → Option Value) (m : MS) (N : Nat) (md : List Bool) : Sp := fun vs H Q E => ∃ (as : List Sl) (O : Ow), vs.length = md.length ∧ as.length = md.length ∧ CallRep K H O md vs as ∧ match retX md (m (pad N as)) with
  | .ok r sf => ∀ v H' O', CallEnd K H O md vs sf H' O' → RetR K H O H' O' v r → Q v H'
  | .exc e sf => ∀ c d H' O', CallEnd K H O md vs sf H' O' → ExR K mg H' O e c d → E c d H'
  | .stk => False
section
variable {P : Program} {w : World} {K : PySem.W.Frag} {mg : Str → Option Value} {base : Heap}
theorem fnG_ofC {CX : CXT} {x qual : Str} {st : Stmt} {f : Addr} {fd : FuncData} {N ps : List Str} {k : Nat} {sp : Sp} (F : Fun K x qual st f fd) (S : FnScope N ps (defScope st)) (len : ∀ vs H Q E, sp vs H Q E → vs.length = ps.length)
    (hbody : ∀ (cdv : Value) (A : Around) (outer : List Env) (s : Shared) (H : Hp) (vs : List V) (Q : VK) (E : XK), A.guards = some [] → Room k (A.deeper (envOfC qual (defScope st) s.heap.objs.size f cdv)) → sp vs H Q E →
      ∃ t, PSs (cxOf CX P w K mg base N qual (defScope st) f cdv A outer s H E) (defBody st) t ∧ t { nx := fun _ H' => Q .non H', rt := Q } (start N vs) H) : FnG P w K mg base CX (k + 1) f fd ps sp := by
  obtain ⟨oc, od, kV, doc, pm, an, cdv, ct, osl, rfl, lk, hcd⟩ := F.ex
  constructor
  · exact len
  intro A outer s H args us vs Q E hG hr e0 hb r hsp
  have inh : ∀ b o, base.get? b = some o → s.heap.get? b = some o := fun b o e => (e0.bs b o e).1
  have kin := e0.mod.kin.keeps inh
  have nol := e0.mod.nolimit.keeps inh
  have kinds : ∀ y ∈ ps.zip us, (defScope st).names.lookup y.1 = some .local ∨ ((defScope st).names.lookup y.1 = some .cell ∧ ((cellsFrom (s.heap.objs.size + 1) (defScope st).names []).lookup y.1).isSome = true) := by
    rintro ⟨n, v⟩ hy
    exact (S.par n (List.of_mem_zip hy).1).elim .inl fun q => .inr ⟨q, PySem.W.cellsFrom_some _ _ _ (.inl q)⟩
  refine codeAny_call_function hr.depth (kin _ _ lk) rfl S.co S.gen rfl (PySem.W.codeRec_of kin hcd) (hb _ _ _ _ ?_)
  refine wpAny_newFunctionEnv_cells S.kind kinds fun env he s1 ic => ?_
  subst he
  refine ⟨nol.keeps ic.toInCall.keep, codeAny_func ?_⟩
  obtain ⟨t, ht, hq⟩ := hbody cdv A outer s H vs Q E hG (hr.deeper _) hsp
  have I := inv_start (CX := CX) (E := E) S hr.hd e0 (len _ _ _ _ hsp) r ic
  refine wpAny_mono (ht.run [] s1 (start N vs) H _ I hq) (fun fl s' hs => ?_) fun e s' hs => hs
  cases fl with
  | ret u =>
    obtain ⟨v, _, H', J, rv, q⟩ := hs
    exact ⟨v, H', J.os, J.bare, J.base, J.hok, rv, q⟩
  | next =>
    obtain ⟨_, H', J, q⟩ := hs
    exact ⟨.non, H', J.os, J.bare, J.base, J.hok, rfl, q⟩
  | brk => exact hs.elim fun _ z => z.elim fun _ z => z.2.elim
  | cont => exact hs.elim fun _ z => z.elim fun _ z => z.2.elim
theorem fnX_of {x qual : Str} {st : Stmt} {f : Addr} {fd : FuncData} {N ps : List Str} {k : Nat} {m : MS} {md : List Bool} (F : Fun K x qual st f fd) (S : FnScope N ps (defScope st)) (hl : md.length = ps.length)
    (hbody : ∀ (cdv : Value) (A : Around) (outer : List Env) (s : Shared) (H : Hp) (E : XK) (H0 : Hp) (O0 : Ow) (io : List (Option Addr)) (g : Sg), A.guards = some [] → Room k (A.deeper (envOfC qual (defScope st) s.heap.objs.size f cdv)) →
      GX (cxOf (L2N.CX P w) P w K mg base N qual (defScope st) f cdv A outer s H E) g →
      PSs (cxOf (L2N.CX P w) P w K mg base N qual (defScope st) f cdv A outer s H E) (defBody st) (tS K g ⟨H0, O0, md, io, []⟩ m)) : FnG P w K mg base (L2N.CX P w) (k + 1) f fd ps (spX K mg m N.length md) := by
  refine fnG_ofC F S (fun vs H Q E h => ?_) fun cdv A outer s H vs Q E hG hr h => ?_
  · obtain ⟨as, O, h1, _⟩ := h
    rw [h1, hl]
  · obtain ⟨as, O, l1, l2, C, hm⟩ := h
    refine ⟨_, hbody cdv A outer s H E H O (ioV md vs) (gX K mg fun c d _ H' => E c d H') hG hr ⟨L2N.takes_of (E := E) rfl rfl rfl rfl, rfl⟩, pad N.length as, O, ?_, ?_⟩
    · refine ⟨?_, Ext.refl _ _, Nw.refl, fun i p h => ?_, C.rep.kind, fun p z => ?_, fun c hc => nomatch hc⟩
      · have := C.rep.pad (N.length - as.length)
        unfold L2.start VS.pad
        rw [l1, ← l2]
        exact this
      · obtain ⟨h1, h2⟩ := ioV_some.mp h
        exact ⟨h1, pad_get h2⟩
      · obtain ⟨i, z1, z2⟩ := C.o0 p z
        exact ⟨i, ioV_some.mpr ⟨z1, z2⟩⟩
    · have fin : ∀ {σ' : L2.St} {H' : Hp} {O' : Ow} {sd' : Sd}, RepH K ⟨H, O, md, ioV md vs, []⟩ H' O' σ' sd' → ioOk md sd' = true → CallEnd K H O md vs sd' H' O' := fun R hio => ⟨R.ext, R.nw, R.rep.kind, fun i p h1 h2 => by
        obtain ⟨d, e⟩ := ioOk_at hio h1
        obtain ⟨_, e2⟩ := R.io i p (ioV_some.mpr ⟨h1, h2⟩)
        obtain ⟨p', a1, _, a3⟩ := R.rep.owned e
        rw [e2] at a1
        cases a1
        exact ⟨d, e, a3⟩⟩
      cases e : m (pad N.length as) with
      | stk =>
        rw [e] at hm
        exact hm
      | exc y sd' =>
        rw [e] at hm
        simp only [retX] at hm
        split at hm
        · rename_i r sf hq
          split at hq <;> cases hq
        · rename_i y' sf hq
          split at hq
          · rename_i hio
            cases hq
            exact fun c d σ' H' O' R xr => hm c d H' O' (fin R hio) (ExR.less (fun p z => R.nw.sa p z) xr)
          · cases hq
        · exact hm.elim
      | ok fl sd' =>
        rw [e] at hm
        cases fl with
        | nx =>
          simp only [retX] at hm
          split at hm
          · rename_i r sf hq
            split at hq
            · rename_i hio
              cases hq
              exact fun σ' H' O' R => hm _ H' O' (fin R hio) .non
            · cases hq
          · rename_i hq
            split at hq <;> cases hq
          · exact hm.elim
        | rt r' =>
          simp only [retX] at hm
          split at hm
          · rename_i r sf hq
            split at hq
            · rename_i hio
              cases hq
              refine fun v σ' H' O' R rr => hm v H' O' (fin R hio) ?_
              cases r' with
              | dat d => exact rr
              | frs d => exact rr
              | xt ds => exact rr
            · cases hq
          · rename_i hq
            split at hq <;> cases hq
          · exact hm.elim
        | bk => exact hm.elim
        | ct => exact hm.elim
theorem FnG.ofX {k : Nat} {f : Addr} {fd : FuncData} {ps : List Str} {m : MS} {N : Nat} {md : List Bool} (G : FnG P w K mg base (L2N.CX P w) k f fd ps (spX K mg m N md)) : FnG P w K mg base CX0 k f fd ps (spV K m N md) := by
  have to : ∀ {vs : List V} {H : Hp} {Q : VK} {E E' : XK}, spV K m N md vs H Q E → spX K mg m N md vs H Q E' := fun {vs H Q E E'} h => by
    obtain ⟨as, O, r, sf, l1, l2, C, hm, q⟩ := h
    exact ⟨as, O, l1, l2, C, by rw [retX_ok hm]; exact q⟩
  refine ⟨fun vs H Q E h => G.len vs H Q (fun _ _ _ => False) (to h), fun A outer s H args us vs Q E hG hr e0 hb r h => ?_⟩
  refine codeAny_mono (G.run A outer s H args us vs Q (fun _ _ _ => False) hG hr e0 hb r (to h)) fun res s' hq => ?_
  cases res with
  | error e =>
    obtain ⟨_, _, _, _, _, _, _, _, _, _, _, _, z⟩ := hq
    exact z.elim
  | ok fl => cases fl <;> exact hq
end
@[simp] def mCallX (m : MS) (N : Nat) (md : List Bool) (mas : M (List Opd)) : M Rt := M.bind mas fun rs sd => match argsS sd md rs with
  | none => .stk
  | some as => if ((ioP 0 md rs).map (·.2)).Nodup then (match retX md (m (pad N as)) with
    | .ok r sf => .ok r (wb sf sd (ioP 0 md rs))
    | .exc e sf => .exc e (wb sf sd (ioP 0 md rs))
    | .stk => .stk) else .stk
@[simp] def mCallDX (m : MS) (N : Nat) (md : List Bool) (mas : M (List Opd)) : M Opd := M.bind (mCallX m N md mas) fun r => M.ret (.d (rtD r))
section
variable {K : PySem.W.Frag} {mg : Str → Option Value} {g : Sg} {H H1 H' : Hp} {O Oc O' : Ow} {σ : L2.St} {sd sf : Sd}
theorem mCallX_at {m : MS} {N : Nat} {md : List Bool} {mas : M (List Opd)} {α : Type} {k : Rt → M α} {sd : Sd} : M.bind (mCallX m N md mas) k sd = M.bind mas (fun rs sd1 => match argsS sd1 md rs with
    | none => .stk
    | some as => if ((ioP 0 md rs).map (·.2)).Nodup then (match retX md (m (pad N as)) with
      | .ok r sf => k r (wb sf sd1 (ioP 0 md rs))
      | .exc e sf => .exc e (wb sf sd1 (ioP 0 md rs))
      | .stk => .stk) else .stk) sd := by
  unfold mCallX
  rw [bind_assoc]
  unfold M.bind
  cases mas sd with
  | ok rs sd1 =>
    simp only []
    cases argsS sd1 md rs with
    | none => rfl
    | some as =>
      simp only []
      by_cases hn : ((ioP 0 md rs).map (·.2)).Nodup
      · rw [if_pos hn, if_pos hn]
        cases retX md (m (pad N as)) <;> rfl
      · rw [if_neg hn, if_neg hn]
  | exc _ _ => rfl
  | stk => rfl
theorem callDX_of {m : MS} {N : Nat} {md : List Bool} {mas : M (List Opd)} {Q : VK} (hx : g.XR = ExR K mg) (h : tD K g (mCallDX m N md mas) σ H Q) : tA K g mas σ H fun vs H1 => spX K mg m N md vs H1 Q (WE g.W σ) := by
  obtain ⟨sd, O, R, a⟩ := h
  unfold mCallDX at a
  rw [mCallX_at] at a
  refine ⟨sd, O, R, a.bind.mono fun rs sd1 H1 _ e1 R1 h1 vs hv => ?_⟩
  cases ea : argsS sd1 md rs with
  | none =>
    rw [ea] at h1
    exact False.elim h1
  | some as =>
    rw [ea] at h1
    simp only [] at h1
    split at h1
    · rename_i hn
      obtain ⟨l1, l2, l3⟩ := argsS_at ea
      refine ⟨as, _, by rw [hv.length, l2], l1, callRep_of R1 hv ea hn, ?_⟩
      cases er : retX md (m (pad N as)) with
      | exc e sf =>
        rw [er] at h1
        intro c d H' O' C xr
        obtain ⟨x1, R2, _⟩ := callBack_of (Ow' := O) R1 hv ea hn C (fun _ z => z) (fun _ z => .inl z) (fun p z => C.nw.sa p z) ⟨R1.kind.sub, fun p z => C.kind.kd p (C.nw.sa p z), R1.kind.cs, C.kind.tb⟩
        have h1 : ExcB K g O σ H1 e (wb sf sd1 (ioP 0 md rs)) := h1
        exact h1 c d H' x1 R2 (by rw [hx]; exact ExR.less (O := ioO O σ (ioP 0 md rs)) (O' := O) (fun _ z => z) xr)
      | stk =>
        rw [er] at h1
        exact False.elim h1
      | ok r sf =>
        rw [er] at h1
        intro v H' O' C rr
        obtain ⟨x1, R2, _⟩ := callBack_of (Ow' := O) R1 hv ea hn C (fun _ z => z) (fun _ z => .inl z) (fun p z => C.nw.sa p z) ⟨R1.kind.sub, fun p z => C.kind.kd p (C.nw.sa p z), R1.kind.cs, C.kind.tb⟩
        refine h1 H' x1 R2 v ?_
        cases r with
        | dat d => exact Dd.same io_a.symm rr
        | xt ds => exact Dd.same io_a.symm (XtR.dd rr)
        | frs d =>
          obtain ⟨p, rfl, z1, z2, z3⟩ := rr
          have np := R1.kind.new z1
          have sa : ∀ q, O.a q → O'.a q := fun q z => C.nw.sa q z
          cases d with
          | list ds =>
            obtain ⟨us, q1, q2⟩ := z3
            exact .lst (.inl q1) np (q2.less sa _ _)
          | dict ds =>
            obtain ⟨us, q1, q2⟩ := z3
            exact .dct (.inl q1) np (q2.less sa _ _)
          | _ => exact False.elim z3
    · exact False.elim h1
end
section
variable {X : Cx} {g : Sg} {F : Fm}
theorem pe_callGS {CX : CXT} {k : Nat} {f : Addr} {fd : FuncData} {ps : List Str} {sp : Sp} {E : L2.St → XK} {x : Str} {p pos : Pos} {e : Expr} {es : List Expr} {t : TA} (G : FnG X.prog X.w X.K X.mg X.base CX k f fd ps sp) (hG : X.A.guards = some []) (hr : Room k X.A) (hg : Gl X x) (hm : X.mg x = some (.ref f))
    (hk : PySem.W.keepIn X.K (.ref f) = true) (hb : Binds X.K fd ps []) (hx : ∀ σ, PassesAt CX X σ (E σ)) (ha : PA X (e :: es) t) (hdb : (x == ("__debug__" : Str)) = false := by decide) (he : starEach (e :: es) X.env = (false, eval e X.env) :: starEach es X.env := by rfl)
    (hpl : (backTo pos (starEach es X.env)).any (·.1) = false := by rfl) : PE X (.Call (.Name x p) (e :: es) [] pos) (fun σ H Q => t σ H fun vs H1 => sp vs H1 Q (E σ)) := by
  constructor
  intro pins s σ H Q I h
  refine wpAny_Call_Name_kw (ld_glob I hg hm ?_ hdb)
  refine PySem.W.callWith_K (h₀ := X.base) I.ok.mod.kin hk (thn (ha.run pos pins s σ H _ I h) fun us s1 w => ?_) he hpl
  obtain ⟨vs, H1, I1, r, q⟩ := w
  refine ⟨I1.kIn, wpAny_call ?_⟩
  have hl : us.length = ps.length := by
    rw [← r.length]
    exact G.len _ _ _ _ q
  have bd := hb s1 us I1.kIn (by simpa using hl)
  rw [List.append_nil] at bd
  refine codeAny_mono (G.run X.A X.stack s1 H1 ⟨us, []⟩ us vs Q (E σ) hG hr I1.env0 bd r q) fun res s' hq => ?_
  cases res with
  | error e => exact hx σ pins H1 s1 e s' I1 hq
  | ok fl =>
    cases fl with
    | ret u => exact I1.after hq
    | next => exact hq.elim
    | brk => exact hq.elim
    | cont => exact hq.elim
theorem d_callX {k : Nat} {f : Addr} {fd : FuncData} {ps : List Str} {m : MS} {N : Nat} {md : List Bool} {x : Str} {p pos : Pos} {e : Expr} {es : List Expr} {mas : M (List Opd)} (hx : GX X g) (G : FnG X.prog X.w X.K X.mg X.base (L2N.CX X.prog X.w) k f fd ps (spX X.K X.mg m N md)) (hG : X.A.guards = some []) (hr : Room k X.A) (hg : Gl X x) (hm : X.mg x = some (.ref f))
    (hk : PySem.W.keepIn X.K (.ref f) = true) (hb : Binds X.K fd ps []) (ha : PA X (e :: es) (tA X.K g mas)) (hdb : (x == ("__debug__" : Str)) = false := by decide) (he : starEach (e :: es) X.env = (false, eval e X.env) :: starEach es X.env := by rfl)
    (hpl : (backTo pos (starEach es X.env)).any (·.1) = false := by rfl) : PE X (.Call (.Name x p) (e :: es) [] pos) (tD X.K g (mCallDX m N md mas)) := PE_of (pe_callGS G hG hr hg hm hk hb (fun σ => L2N.passAt hx.tk σ) ha hdb he hpl) fun _ _ _ h => callDX_of hx.xr h
end
end VS
namespace VS
open PySem PySem.Spec PyProof.Rows L2 L2N
variable [TabL]
def endsI (D : Ends) : Option Nat → Ends
  | none => D
  | some i => { nx := fun σ' H' => D.nx (σ'.set i none) H', rt := D.rt, bk := fun σ' H' => D.bk (σ'.set i none) H', ct := fun σ' H' => D.ct (σ'.set i none) H' }
def putI (σ : L2.St) (a : Addr) : Option Nat → L2.St
  | none => σ
  | some i => σ.set i (some (.ref a))
abbrev ClT := (Value → Option Bool) × Option Nat × (Addr → Value → Option Addr → TS)
def wTry (Wout : WX) (D : Ends) : List ClT → WX
  | [] => Wout
  | (t, i, ts) :: r => fun cls d σ H => ∃ b, t cls = some b ∧ (b = true → ∀ a, H a = none → ts a cls d (endsI D i) (putI σ a i) H) ∧ (b = false → wTry Wout D r cls d σ H)
def Tst (X : Cx) (te : Expr) (t : Value → Option Bool) : Prop := ∀ (a : Addr) (B : Heap) (l : List Env) (cls : Value) (d : Option Addr) (b : Bool) (oe : Obj) (pn : List (Addr × Obj)) (σ : L2.St) (H : Hp) (s : Shared) (Q : Bool → Shared → Prop) (E : Value → Shared → Prop),
  Inv (X.suite a ((a, oe) :: pn)) [] σ H s → HandSPX.FlyingZ B l a (Zn cls d) s.heap → t cls = some b → (∀ (s' : Shared), s'.os = s.os → s'.gens = s.gens → HandSPX.FlyingZ B l a (Zn cls d) s'.heap → s.heap.UpToSlots s'.heap → Q b s') →
  wpAny (model X.prog X.w) (X.A.mark (some (.ref a))) (eval te X.env) (fun v s1 => wpAny (model X.prog X.w) (X.A.mark (some (.ref a))) (excMatches (.ref a) v) Q E s1) E s
theorem tst_name {X : Cx} {x : Str} {c : Value} {np : Pos} (hc : Names X x c) : Tst X (.Name x np) fun cls => PySem.W.exmOne X.K cls c := by
  intro a B l cls d b oe pn σ H s Q E S fl hb hq
  obtain ⟨oe3, vs3, he3, hz3, hd3⟩ := fl.there
  have LT : PySem.W.Looks (model X.prog X.w) s.heap (typeOf (.ref a)) cls := fun A Q E s k q => wpAny_typeOf_ref (k _ _ he3) (by rw [hz3.1]; exact q)
  have LM := PySem.W.exm_one (M := model X.prog X.w) S.kIn LT hb
  obtain ⟨hg, hdbg, hm | ⟨hm, hv, hnn⟩⟩ := hc
  · exact ld_glob (X := X.suite a ((a, oe) :: pn)) S hg hm (LM.here (hq s rfl rfl fl (Heap.UpToSlots.refl _))) hdbg
  · exact ld_blt (X := X.suite a ((a, oe) :: pn)) S hg hm hv (LM.here (hq s rfl rfl fl (Heap.UpToSlots.refl _))) hnn hdbg
inductive HdsT (X : Cx) : List ExceptHandler → List ClT → Prop
  | nil : HdsT X [] []
  | one {te : Expr} {t : Value → Option Bool} {ts : Addr → Value → Option Addr → TS} {b₀ : Stmt} {suite : List Stmt} {pos' : Pos} {hds : List ExceptHandler} {l : List ClT} (hc : Tst X te t)
      (hsu : ∀ (a : Addr) (oe : Obj) (cls : Value) (d : Option Addr) (pn : List (Addr × Obj)), Zn cls d oe → (∃ vs, oe.data = .fields vs) → PSs (X.suite a ((a, oe) :: pn)) (b₀ :: suite) (ts a cls d)) (r : HdsT X hds l) :
      HdsT X (.ExceptHandler (some te) none (b₀ :: suite) pos' :: hds) ((t, none, ts) :: l)
  | nmd {te : Expr} {t : Value → Option Bool} {n : Str} {i : Nat} {ts : Addr → Value → Option Addr → TS} {b₀ : Stmt} {suite : List Stmt} {pos' : Pos} {hds : List ExceptHandler} {l : List ClT} (hc : Tst X te t) (hN : X.N.Nodup) (hi : X.N[i]? = some n) (hln : X.env.kindOf n = some .local)
      (hsu : ∀ (a : Addr) (oe : Obj) (cls : Value) (d : Option Addr) (pn : List (Addr × Obj)), Zn cls d oe → (∃ vs, oe.data = .fields vs) → PSs (X.suite a ((a, oe) :: pn)) (b₀ :: suite) (ts a cls d)) (r : HdsT X hds l) :
      HdsT X (.ExceptHandler (some te) (some n) (b₀ :: suite) pos' :: hds) ((t, some i, ts) :: l)
section
variable {X : Cx} {body : List Stmt} {h₀ : ExceptHandler} {hds : List ExceptHandler} {l : List ClT} {pos : Pos} {tb : WX → TS} {Wout : WX}
theorem ps_tryT (hs : X.stack = X.env :: X.outer) (hf : X.env.frame = some X.env.locals) (tk : L2N.Takes X Wout)
    (hb : ∀ (W : WX) (pn : List (Addr × Obj)) (xe : Value → Shared → Prop), L2N.Takes (X.tr pn xe) W → PassesOwn (model X.prog X.w) X.A X.env xe → PSs (X.tr pn xe) body (tb W))
    (hh : HdsT X (h₀ :: hds) l) : PS X (.Try body (h₀ :: hds) [] [] pos) (fun D σ H => tb (wTry Wout D l) D σ H) := by
  refine ⟨fun pins s σ H D I h => ?_⟩
  have ok := I.ok
  have hfr : X.A.frames = some (X.env :: X.outer) := by rw [ok.frames, hs]
  refine wpAny_Try_except ?_
  refine wpAny_mono ((hb (wTry Wout D l) (X.pn ++ pins) (fun e s₁ => wpAny (model X.prog X.w) X.A (noteFrame e X.env) (fun _ s₂ => wpAny (model X.prog X.w) X.A (setFlight e none) (fun _ s₃ =>
    wpAny (model X.prog X.w) X.A (handleBy e X.env (h₀ :: hds)) (SP X pins D) X.xe s₃) X.xe s₂) X.xe s₁) (fun u s' xx => ?_) PassesOwn.looking).run [] s σ H D (I.toTry _) h) (fun f s1 hsp => ?_) (fun e s1 he => he)
  · obtain ⟨a, B, sI, pins', σ', H', cls, d, rfl, J', nb, up, sky, na, os, ag, w⟩ := xx
    have J : Inv X pins σ' H' sI := J'.ofTry ok
    have sky' : Sky B (X.env :: X.outer) a (Zn cls d) X.env.locals s'.heap := by rw [← hs]; exact sky
    show wpAny (model X.prog X.w) X.A (noteFrame (.ref a) X.env) _ _ _
    refine Sky.land Zn.steady hfr hf sky' fun h3 fl3 up3 => ?_
    have suiteI : ∀ (s3 : Shared), s3.os = s'.os → s3.gens = s'.gens → HandSPX.FlyingZ B (X.env :: X.outer) a (Zn cls d) s3.heap → s'.heap.UpToSlots s3.heap → ∃ oe, Zn cls d oe ∧ (∃ vs, oe.data = .fields vs) ∧ Inv (X.suite a ((a, oe) :: (X.pn ++ pins))) [] σ' H' s3 := fun s3 o3 g3 fl up3 => by
      have J3 : Inv X pins σ' H' s3 := J.landed nb fl.1 (up.trans up3) (o3.trans os) (by rw [g3]; exact ag)
      obtain ⟨oe3, vs3, he3, hz3, hd3⟩ := fl.there
      have nfr : a ∉ frs (X.env :: X.outer) := fun hm => by
        obtain ⟨_, o', e', hnf⟩ := fl.2.2.1.mem hm
        rw [he3] at e'
        cases e'
        exact hnf _ hd3
      have nL : a ≠ X.env.locals := fun z => nfr (List.mem_filterMap.mpr ⟨X.env, List.mem_cons_self, by rw [hf, z]⟩)
      have nF : a ∉ X.fs := fun hm => by
        obtain ⟨e, he, q⟩ := List.mem_filterMap.mp hm
        exact nfr (List.mem_filterMap.mpr ⟨e, List.mem_cons_of_mem _ he, q⟩)
      exact ⟨oe3, hz3, ⟨_, hd3⟩, J3.suite he3 hd3 na nL nF⟩
    have go : ∀ {hds' : List ExceptHandler} {l' : List ClT}, HdsT X hds' l' → ∀ (s3 : Shared), s3.os = s'.os → s3.gens = s'.gens → HandSPX.FlyingZ B (X.env :: X.outer) a (Zn cls d) s3.heap → s'.heap.UpToSlots s3.heap → wTry Wout D l' cls d σ' H' →
        wpAny (model X.prog X.w) X.A (handleBy (.ref a) X.env hds') (SP X pins D) X.xe s3 := by
      intro hds' l' hk
      induction hk with
      | nil =>
        intro s3 o3 g3 fl up3 w
        refine wpAny_handleBy_nil ?_
        obtain ⟨k1, k2, k3, oe, vs, T, oT, ts', he, hz, hd, h1, hr⟩ := id fl
        unfold PySem.passOn
        refine wpAny_bind (wpAny_field he hd h1 ?_)
        rw [if_neg (show ¬ ((Value.ref T == Value.none) = true) from by simp)]
        have fin : wpAny (model X.prog X.w) X.A (setFlight (.ref a) X.env.frame) (fun _ s4 => wpAny (model X.prog X.w) X.A (throw (.ref a) : Sem Flow) (SP X pins D) X.xe s4) X.xe s3 := by
          rw [hf]
          refine HandSPX.setFlight_upZ fl fun h4 hh4 up4 => wpAny_throw (tk _ _ ?_)
          exact ⟨a, B, sI, pins, σ', H', cls, d, rfl, J, nb, (up.trans up3).trans up4, .inr (.inr (by rw [hs]; exact hh4)), na, o3.trans os, (by show AllBare s3.gens; rw [g3]; exact ag), w⟩
        first
          | exact wpAny_bind (wpAny_pure (wpAny_bind fin))
          | exact wpAny_bind fin
      | @one te t ts b₀ suite pos' hds2 l2 hc hsu r ih =>
        intro s3 o3 g3 fl up3 w
        obtain ⟨b, hb1, hyes, hno⟩ := w
        obtain ⟨oe3, hz3, hd3, S3⟩ := suiteI s3 o3 g3 fl up3
        refine wpAny_handleBy_cons (codeAny_handlers_test ?_) (by intro q; cases q)
        refine hc a B _ cls d b oe3 _ σ' H' s3 _ _ S3 fl hb1 fun s4 o4 g4 fl4 up4 => ?_
        cases b with
        | true =>
          refine codeAny_handlers_suite ?_
          refine HandSPX.lands_againZ fl4 fun h5 fl5 up5 => ?_
          obtain ⟨oe4, hz4, hd4, S4⟩ := suiteI { s4 with heap := h5 } (o4.trans o3) (g4.trans g3) fl5 ((up3.trans up4).trans up5)
          refine wpAny_mono ((hsu a oe4 cls d (X.pn ++ pins) hz4 hd4).run [] _ _ H' _ S4 (hyes rfl a na)) (fun f s6 hsp => ?_) (fun _ _ z => False.elim z)
          cases f with
          | next =>
            obtain ⟨σ6, H6, S6, q6⟩ := hsp
            exact ⟨_, _, S6.unsuite ok, q6⟩
          | brk =>
            obtain ⟨σ6, H6, S6, q6⟩ := hsp
            exact ⟨_, _, S6.unsuite ok, q6⟩
          | cont =>
            obtain ⟨σ6, H6, S6, q6⟩ := hsp
            exact ⟨_, _, S6.unsuite ok, q6⟩
          | ret u =>
            obtain ⟨v6, σ6, H6, S6, r6, q6⟩ := hsp
            exact ⟨_, _, _, S6.unsuite ok, r6, q6⟩
        | false =>
          show wpAny _ X.A (handleBy (.ref a) X.env hds2) _ _ _
          exact ih s4 (o4.trans o3) (g4.trans g3) fl4 (up3.trans up4) (hno rfl)
      | @nmd te t n i ts b₀ suite pos' hds2 l2 hc hN hi hln hsu r ih =>
        intro s3 o3 g3 fl up3 w
        obtain ⟨b, hb1, hyes, hno⟩ := w
        obtain ⟨oe3, hz3, hd3, S3⟩ := suiteI s3 o3 g3 fl up3
        refine wpAny_handleBy_cons (codeAny_handlers_test ?_) (by intro q; cases q)
        refine hc a B _ cls d b oe3 _ σ' H' s3 _ _ S3 fl hb1 fun s4 o4 g4 fl4 up4 => ?_
        cases b with
        | true =>
          refine codeAny_handlers_suite_as ?_
          refine HandSPX.lands_againZ fl4 fun h5 fl5 up5 => ?_
          obtain ⟨oe4, hz4, hd4, S4⟩ := suiteI { s4 with heap := h5 } (o4.trans o3) (g4.trans g3) fl5 ((up3.trans up4).trans up5)
          refine store_ok (X := X.suite a ((a, oe4) :: (X.pn ++ pins))) (v := .ref a) S4 hN hi (.inl hln) rfl (fun s5 S5 => ?_) (.inr hln)
          refine wpAny_mono ((hsu a oe4 cls d (X.pn ++ pins) hz4 hd4).run [] s5 _ H' _ S5 (hyes rfl a na)) (fun f s6 hsp => ?_) (fun _ _ z => False.elim z)
          have end_ : ∀ {σ6 : L2.St} {H6 : Hp} {Q : Shared → Prop}, Inv (X.suite a ((a, oe4) :: (X.pn ++ pins))) [] σ6 H6 s6 → (∀ s7, Inv X pins (σ6.set i none) H6 s7 → Q s7) →
              wpAny (model X.prog X.w) X.A (do bindName X.env n .none; unbindBehindTheSuite X.env n pos') (fun _ s7 => Q s7) X.xe s6 := fun {σ6 H6 Q} S6 hq => gone_ok (S6.unsuite ok) hN hi hln hq
          cases f with
          | next =>
            obtain ⟨σ6, H6, S6, q6⟩ := hsp
            exact end_ S6 fun s7 J7 => ⟨_, _, J7, q6⟩
          | brk =>
            obtain ⟨σ6, H6, S6, q6⟩ := hsp
            exact end_ S6 fun s7 J7 => ⟨_, _, J7, q6⟩
          | cont =>
            obtain ⟨σ6, H6, S6, q6⟩ := hsp
            exact end_ S6 fun s7 J7 => ⟨_, _, J7, q6⟩
          | ret u =>
            obtain ⟨v6, σ6, H6, S6, r6, q6⟩ := hsp
            exact end_ S6 fun s7 J7 => ⟨_, _, _, J7, r6, q6⟩
        | false =>
          show wpAny _ X.A (handleBy (.ref a) X.env hds2) _ _ _
          exact ih s4 (o4.trans o3) (g4.trans g3) fl4 (up3.trans up4) (hno rfl)
    exact go hh { s' with heap := h3 } rfl rfl fl3 up3 w
  · cases f with
    | next =>
      obtain ⟨σ', H', J', q⟩ := hsp
      exact wpAny_execs_nil ⟨σ', H', J'.ofTry ok, q⟩
    | brk =>
      obtain ⟨σ', H', J', q⟩ := hsp
      exact ⟨σ', H', J'.ofTry ok, q⟩
    | cont =>
      obtain ⟨σ', H', J', q⟩ := hsp
      exact ⟨σ', H', J'.ofTry ok, q⟩
    | ret u =>
      obtain ⟨v, σ', H', J', r, q⟩ := hsp
      exact ⟨v, σ', H', J'.ofTry ok, r, q⟩
end
end VS
namespace VS
open PySem PySem.Spec PyProof.Rows L2 L2N
variable [TabL]
@[simp] def mRaise (e : Exn) : MS := fun sd => .exc e sd
section
variable {X : Cx} {g : Sg} {F : Fm}
theorem s_raiseT {C : Addr} {bmB : List Value} {B newId initId : String} {x m : Str} {j : Nat} {p p2 pos pos' : Pos} (hx : GX X g) (hc : X.calm = true) (EF : ExcBaseFacts B newId initId bmB) (q : PySem.W.excIn X.K C bmB newId = true) (gC : X.mg x = some (.ref C)) (kC : PySem.W.keepIn X.K (.ref C) = true)
    (r1 : PySem.W.subIn X.K (.ref C) (.type "BaseException") = some true) (r2 : PySem.W.typeIn X.K (.ref C) = some (.type "type")) (hg : Gl X x) (hdb : (x == ("__debug__" : Str)) = false := by decide) :
    PS X (.Raise (some (.Call (.Name x p) [.Constant (.str m) j p2] [] pos)) none pos') (tS X.K g F (mRaise ⟨x, "", .str m⟩)) := PS_of (L2N.ps_raise hc hx.tk (L2N.pmk_own EF q gC kC (raises_own r1 r2) hg hdb)) fun D σ H h => by
  obtain ⟨sd, O, R, h⟩ := h
  exact h (.ref C) none σ H O R (by rw [hx.xr]; exact ⟨gC, .inl ⟨rfl, rfl⟩⟩)
end
abbrev Tbl := Str → Value
structure Hd where
  t : Str → Option Bool
  i : Option Nat
  su : Tbl → XI → MS
@[simp] def setI (s : Sl) (sd : Sd) : Option Nat → Sd
  | none => sd
  | some i => sd.set i (some s)
@[simp] def clrI (i : Option Nat) : Res Fl → Res Fl
  | .ok f sd => .ok f (match i with | none => sd | some i => sd.set i none)
  | _ => .stk
@[simp] def hRun (x : Exn) (sd : Sd) (T : Tbl) (xi : XI) : List Hd → Res Fl
  | [] => .exc x sd
  | h :: r => match h.t x.cls with
    | none => .stk
    | some true => clrI h.i (h.su T xi (setI (.exn xi x) sd h.i))
    | some false => hRun x sd T xi r
open Classical in
noncomputable def pick (x : Exn) (f : Tbl → XI → Res Fl) : Res Fl := if h : ∃ r, ∀ T xi, T x.cls = xi.c → f T xi = r then h.choose else .stk
theorem pick_eq {x : Exn} {f : Tbl → XI → Res Fl} {r : Res Fl} (h : ∀ T xi, T x.cls = xi.c → f T xi = r) : pick x f = r := by
  have e : ∃ r, ∀ T xi, T x.cls = xi.c → f T xi = r := ⟨r, h⟩
  unfold pick
  rw [dif_pos e]
  exact (e.choose_spec (fun _ => .none) ⟨0, .none, none⟩ rfl).symm.trans (h (fun _ => .none) ⟨0, .none, none⟩ rfl)
theorem pick_at {x : Exn} {f : Tbl → XI → Res Fl} (h : pick x f ≠ .stk) : ∀ T xi, T x.cls = xi.c → f T xi = pick x f := by
  unfold pick at h ⊢
  split at h
  · rename_i e
    rw [dif_pos e]
    exact e.choose_spec
  · exact absurd rfl h
noncomputable def mTry (mb : MS) (hs : List Hd) : MS := fun sd => match mb sd with
  | .exc x sd' => pick x fun T xi => hRun x sd' T xi hs
  | r => r
theorem mTry_ok {mb : MS} {hs : List Hd} {sd sd' : Sd} {f : Fl} (h : mb sd = .ok f sd') : mTry mb hs sd = .ok f sd' := by
  unfold mTry
  rw [h]
theorem mTry_exc {mb : MS} {hs : List Hd} {sd sd' : Sd} {x : Exn} {r : Res Fl} (h : mb sd = .exc x sd') (q : ∀ T xi, T x.cls = xi.c → hRun x sd' T xi hs = r) : mTry mb hs sd = r := by
  unfold mTry
  rw [h]
  exact pick_eq q
def cT (X : Cx) : Tbl := fun n => (X.mg n).getD .none
def TstN (X : Cx) (te : Expr) (t : Str → Option Bool) : Prop := ∃ t' : Value → Option Bool, Tst X te t' ∧ ∀ n b, t n = some b → ∀ v, X.mg n = some v → t' v = some b
inductive HdV (X : Cx) (F : Fm) : List ExceptHandler → List Hd → Prop
  | nil : HdV X F [] []
  | one {te : Expr} {t : Str → Option Bool} {su : Tbl → XI → MS} {b₀ : Stmt} {suite : List Stmt} {pos' : Pos} {hds : List ExceptHandler} {l : List Hd} (hc : TstN X te t)
      (hsu : ∀ (a : Addr) (oe : Obj) (cls : Value) (d : Option Addr) (pn : List (Addr × Obj)) (g : Sg), Zn cls d oe → (∃ vs, oe.data = .fields vs) → PSs (X.suite a ((a, oe) :: pn)) (b₀ :: suite) (tS X.K g F (su (cT X) ⟨a, cls, d⟩))) (r : HdV X F hds l) :
      HdV X F (.ExceptHandler (some te) none (b₀ :: suite) pos' :: hds) (⟨t, none, su⟩ :: l)
  | nmd {te : Expr} {t : Str → Option Bool} {n : Str} {i : Nat} {su : Tbl → XI → MS} {b₀ : Stmt} {suite : List Stmt} {pos' : Pos} {hds : List ExceptHandler} {l : List Hd} (hc : TstN X te t) (hN : X.N.Nodup) (hi : X.N[i]? = some n) (hln : X.env.kindOf n = some .local) (hm : (F.md[i]? == some true) = false)
      (hsu : ∀ (a : Addr) (oe : Obj) (cls : Value) (d : Option Addr) (pn : List (Addr × Obj)) (g : Sg), Zn cls d oe → (∃ vs, oe.data = .fields vs) → PSs (X.suite a ((a, oe) :: pn)) (b₀ :: suite) (tS X.K g F (su (cT X) ⟨a, cls, d⟩))) (r : HdV X F hds l) :
      HdV X F (.ExceptHandler (some te) (some n) (b₀ :: suite) pos' :: hds) (⟨t, some i, su⟩ :: l)
theorem RepH.clear {K : PySem.W.Frag} {F : Fm} {H : Hp} {O : Ow} {σ : L2.St} {sd : Sd} {i : Nat} (hm : (F.md[i]? == some true) = false) (R : RepH K F H O σ sd) : RepH K F H O (σ.set i none) (sd.set i none) where
  rep := ⟨by rw [List.length_set, List.length_set, R.rep.len], fun j t h => by
      rw [getElem?_set'] at h ⊢
      split at h
      · cases h
      · rename_i hc
        obtain ⟨v, a, b⟩ := R.rep.slot j t h
        exact ⟨v, by rw [if_neg (by rw [← R.rep.len]; exact hc)]; exact a, b⟩, fun j k p d e h1 h2 h3 h4 => by
      rw [getElem?_set'] at h1 h2 h3 h4
      rw [← R.rep.len] at h1 h3
      split at h2
      · cases h2
      · rename_i c1
        split at h4
        · cases h4
        · rename_i c2
          rw [if_neg c1] at h1
          rw [if_neg c2] at h3
          exact R.rep.inj j k p d e h1 h2 h3 h4, R.rep.kind⟩
  ext := R.ext
  nw := R.nw
  io := fun j p h => by
    obtain ⟨a, b⟩ := R.io j p h
    refine ⟨a, ?_⟩
    rw [getElem?_set', if_neg]
    · exact b
    · rintro ⟨rfl, _⟩
      rw [a] at hm
      simp at hm
  k0 := R.k0
  o0 := R.o0
  cp := R.cp
section
variable {X : Cx} {g : Sg} {F : Fm} {body : List Stmt} {h₀ : ExceptHandler} {hds : List ExceptHandler} {l : List Hd} {pos : Pos} {mb : MS}
theorem wTry_of (hx : GX X g) {hds : List ExceptHandler} {l : List Hd} (hh : HdV X F hds l) : ∃ l' : List ClT, HdsT X hds l' ∧ ∀ (D : Ends) (H : Hp) (O : Ow) (σ : L2.St) (sd : Sd) (x : Exn) (c : Value) (d : Option Addr) (r : Res Fl), RepH X.K F H O σ sd → ExR X.K X.mg H O x c d →
    FinS X.K g F D r → (∀ a, hRun x sd (cT X) ⟨a, c, d⟩ l = r) → wTry g.W D l' c d σ H := by
  induction hh with
  | nil =>
    refine ⟨[], .nil, fun D H O σ sd x c d r R xr h q => ?_⟩
    have q0 := q 0
    subst q0
    exact h c d σ H O R (by rw [hx.xr]; exact xr)
  | @one te t su b₀ suite pos' hds l hc hsu r ih =>
    obtain ⟨t', ht, htn⟩ := hc
    obtain ⟨l', hk, w⟩ := ih
    refine ⟨(t', none, fun a cls d => tS X.K (gX X.K X.mg fun _ _ _ _ => False) F (su (cT X) ⟨a, cls, d⟩)) :: l', .one ht (fun a oe cls d pn hz hf => hsu a oe cls d pn _ hz hf) hk, fun D H O σ sd x c d r R xr h q => ?_⟩
    cases e : t x.cls with
    | none =>
      have q0 := q 0
      simp only [hRun, e] at q0
      subst q0
      exact h.elim
    | some b =>
      refine ⟨b, htn _ _ e _ xr.1, fun hb a na => ?_, fun hb => ?_⟩
      · subst hb
        have qa := q a
        simp only [hRun, e, setI] at qa
        refine ⟨sd, O, R, ?_⟩
        rw [← qa] at h
        cases e2 : su (cT X) ⟨a, c, d⟩ sd with
        | stk =>
          rw [e2] at h
          exact h
        | exc _ _ =>
          rw [e2] at h
          exact h.elim
        | ok f sd2 =>
          rw [e2] at h
          cases f with
          | nx => exact h
          | bk => exact h
          | ct => exact h
          | rt r => exact h
      · subst hb
        refine w D H O σ sd x c d r R xr h fun a => ?_
        have qa := q a
        simp only [hRun, e] at qa
        exact qa
  | @nmd te t n i su b₀ suite pos' hds l hc hN hi hln hm hsu r ih =>
    obtain ⟨t', ht, htn⟩ := hc
    obtain ⟨l', hk, w⟩ := ih
    refine ⟨(t', some i, fun a cls d => tS X.K (gX X.K X.mg fun _ _ _ _ => False) F (su (cT X) ⟨a, cls, d⟩)) :: l', .nmd ht hN hi hln (fun a oe cls d pn hz hf => hsu a oe cls d pn _ hz hf) hk, fun D H O σ sd x c d r R xr h q => ?_⟩
    cases e : t x.cls with
    | none =>
      have q0 := q 0
      simp only [hRun, e] at q0
      subst q0
      exact h.elim
    | some b =>
      refine ⟨b, htn _ _ e _ xr.1, fun hb a na => ?_, fun hb => ?_⟩
      · subst hb
        have qa := q a
        simp only [hRun, e, setI] at qa
        refine ⟨sd.set i (some (.exn ⟨a, c, d⟩ x)), O, R.put (s := .exn ⟨a, c, d⟩ x) hm ⟨rfl, xr.2⟩ (fun p d' _ e => by cases e), ?_⟩
        rw [← qa] at h
        cases e2 : su (cT X) ⟨a, c, d⟩ (sd.set i (some (.exn ⟨a, c, d⟩ x))) with
        | stk =>
          rw [e2] at h
          exact h
        | exc _ _ =>
          rw [e2] at h
          exact h.elim
        | ok f sd2 =>
          rw [e2] at h
          cases f with
          | nx => exact fun σ' H' O' R' => h (σ'.set i none) H' O' (R'.clear hm)
          | bk => exact fun σ' H' O' R' => h (σ'.set i none) H' O' (R'.clear hm)
          | ct => exact fun σ' H' O' R' => h (σ'.set i none) H' O' (R'.clear hm)
          | rt r => exact fun v σ' H' O' R' rr => h v (σ'.set i none) H' O' (R'.clear hm) rr
      · subst hb
        refine w D H O σ sd x c d r R xr h fun a => ?_
        have qa := q a
        simp only [hRun, e] at qa
        exact qa
theorem FinS.notStk {K : PySem.W.Frag} {D : Ends} {r : Res Fl} (h : FinS K g F D r) : r ≠ .stk := fun e => by
  subst e
  exact h
theorem s_try (hx : GX X g) (hs : X.stack = X.env :: X.outer) (hf : X.env.frame = some X.env.locals)
    (hb : ∀ (g' : Sg) (pn : List (Addr × Obj)) (xe : Value → Shared → Prop), GX (X.tr pn xe) g' → PassesOwn (model X.prog X.w) X.A X.env xe → PSs (X.tr pn xe) body (tS X.K g' F mb))
    (hh : HdV X F (h₀ :: hds) l) : PS X (.Try body (h₀ :: hds) [] [] pos) (tS X.K g F (mTry mb l)) := by
  obtain ⟨l', hk, w⟩ := wTry_of hx hh
  refine PS_of (ps_tryT (tb := fun W => tS X.K (gX X.K X.mg W) F mb) hs hf hx.tk (fun W pn xe tk hp => hb _ pn xe ⟨tk, rfl⟩ hp) hk) fun D σ H h => ?_
  obtain ⟨sd, O, R, h⟩ := h
  refine ⟨sd, O, R, ?_⟩
  unfold mTry at h
  cases e : mb sd with
  | stk =>
    rw [e] at h
    exact h
  | ok f sd' =>
    rw [e] at h
    cases f <;> exact h
  | exc x sd' =>
    rw [e] at h
    intro c d σ' H' O' R' xr
    refine w D H' O' σ' sd' x c d _ R' xr h fun a => ?_
    exact pick_at h.notStk (cT X) ⟨a, c, d⟩ (by
      show (X.mg x.cls).getD .none = c
      rw [xr.1]
      rfl)
end
end VS
namespace VS
open PySem PySem.Spec PySem.Calls PyProof.Rows L2 L2N
variable [TabL]
section
open PySem.W
variable {prog : Program} {w : World} {A : Around} {E : Value → Shared → Prop} {s : Shared} {K : Frag} {x D : Addr} {ox : Obj} {od : Option Obj}
theorem findObj_data {C : Addr} {name : Str} {a g : Value} (hc : (clsIn K C).isSome = true) (ha : findIn K (.ref C) name = some (some a)) (hg : specialIn K a "__get__" = some (some g)) (ht : takesIn K a = some true) : findObj K C od name = some (.bind g a) := by
  obtain ⟨cd, hc⟩ := Option.isSome_iff_exists.mp hc
  unfold findObj
  rw [hc, Option.bind_some, ha, Option.bind_some]
  simp [hg, ht]
theorem kin_classX {Q : Option Value → Shared → Prop} (C : ExcC K D) (X : K.In s.heap) (I : InstAt s.heap x ox D od) (h : Q (some (.ref D)) { s with toks := s.toks + 1 }) : wpAny (model prog w) A (getAttr? (.ref x) "__class__") Q E s := by
  have hf : findObj K D od "__class__" = some (.bind (.builtin "getset_descriptor.__get__") (.builtin "object.__class__")) := findObj_data (by obtain ⟨cd, hc, _⟩ := any_some C.hd; rw [hc]; rfl) C.ha C.hn C.ht
  obtain ⟨hp, g, d, t, os⟩ := s
  have L0 := I.type (M := model prog w)
  have L1 := looks_findIn (M := model prog w) X C.hg
  have L2 := looks_findIn (M := model prog w) X C.hk
  have L3 := looks_find (M := model prog w) X I hf
  have sub : Looks (model prog w) hp (isInstance (.ref x) (.type "BaseException")) true := L0.andThen (looks_subIn X C.hs)
  have hx0 : (false && onTheHeap (Value.builtin "BaseException.__getattribute__")) = false := rfl
  have hx2 : (Value.builtin "BaseException.__getattribute__" == Value.builtin "object.__getattribute__") = false := by decide +kernel
  have hx1 : (onTheHeap (Value.ref D) && Value.builtin "BaseException.__getattribute__" == Value.builtin "object.__getattribute__") = false := by rw [hx2]; rfl
  unfold getAttr? getAttrBy? getAttrBy
  refine wpAny_bind (wpAny_mkText (wpAny_bind (wpAny_attempt (wpAny_holding (wpAny_bind (L0.at (wpAny_bind (L1.at ?_))))))))
  show wpAny _ _ (if (onTheHeap (Value.ref D) && Value.builtin "BaseException.__getattribute__" == Value.builtin "object.__getattribute__") = true then _ else _) _ _ _
  rw [hx1, if_neg Bool.false_ne_true]
  unfold getAttrByItsOwn hookBefore
  refine wpAny_bind ?_
  rw [if_pos (show onTheHeap (Value.ref D) = true from rfl)]
  refine L2.at ?_
  refine wpAny_bind (wpAny_attempt (wpAny_holding ?_))
  unfold callGetattribute
  rw [hx0, if_neg Bool.false_ne_true]
  unfold boundAndCalled
  rw [PySem.F.excAttr_ValueError.ga.bind (.ref x)]
  refine wpAny_bind (wpAny_pure ?_)
  show wpAny _ _ (call (.builtin "BaseException.__getattribute__") [.ref x, .str "__class__" t]) _ _ _
  refine wpAny_call (codeAny_call_builtin PySem.F.excAttr_ValueError.ga.plain PySem.F.entry_bexc_ga ?_)
  refine @check_slot (model prog w) _ _ ⟨hp, g, d, t + 1, os⟩ "BaseException.__getattribute__" "BaseException" "__getattribute__" (.ref x) [.str "__class__" t] [] _ (by decide +kernel) (by decide +kernel) sub (PySem.F.args_bexc_ga (.ref x) (.str "__class__" t)) ?_
  unfold Builtin.«object.__getattribute__»
  refine wpAny_bind (wpAny_of_eq (a := ((Value.ref x : Value), [Value.str "__class__" t])) (by first | rfl | (simp only [slotArgs]; rfl)) ?_)
  refine wpAny_bind (wpAny_pure (wpAny_bind (L0.at (wpAny_bind (L3.at ?_)))))
  show wpAny _ _ (holding [Value.builtin "object.__class__"] (call (.builtin "getset_descriptor.__get__") [.builtin "object.__class__", .ref x, .ref D]) >>= ret) _ _ _
  refine wpAny_bind (wpAny_holding (wpAny_call (class_get (s := ⟨hp, g, d, t + 1, os⟩) (ox := ox) (od := od) X I C.hm ?_)))
  refine wpAny_pure ?_
  show wpAny _ _ (handedOut (.ref D)) _ _ _
  rw [handedOut_of (v := .ref D) rfl]
  first
    | exact wpAny_pure (wpAny_pure h)
    | exact wpAny_pure h
    | exact wpAny_pure (wpAny_bind (wpAny_pure (wpAny_pure h)))
theorem kitX_exc (C : ExcC K D) : KitX K (.ref x) (.ref D) (fun h => InstAt h x ox D od) where
  ty := fun _ _ _ I => I.type
  it := fun _ _ X _ => by
    obtain ⟨cdD, hcD, _⟩ := any_some C.hd
    unfold clsIn at hcD
    split at hcD
    · rename_i c' d' cd' sl' ho
      intro A' Q' E' s' k q
      unfold isType loadHead
      exact wpAny_bind (wpAny_loadPart (k _ _ (X _ _ ho)) (wpAny_pure q))
    · cases hcD
  ne := fun h tp dd its n sl X htp => by
    obtain ⟨cdD, hcD, _⟩ := any_some C.hd
    refine Bool.eq_false_iff.mpr fun q => ?_
    have e : D = tp := Value.ref.inj (beq_iff_eq.mp q)
    subst e
    unfold clsIn at hcD
    split at hcD
    · rename_i c' d' cd' sl' ho
      have z := (X _ _ ho).symm.trans htp
      cases z
    · cases hcD
  ca := fun X I k => kin_classX C X I k
end
def DctOk (H : Hp) (d : Option Addr) : Prop := d = none ∨ ∃ dd fs, d = some dd ∧ H dd = some (.xd fs)
theorem XF.dct {K : PySem.W.Frag} {H : Hp} {O : Ow} {x : Exn} {d : Option Addr} (h : XF K H O x d) : DctOk H d := by
  rcases h with h | ⟨_, dd, v, h1, h2, _⟩
  · exact .inl h.2
  · exact .inr ⟨dd, _, h1, h2⟩
theorem inst_of {X : Cx} {pins : List (Addr × Obj)} {σ : L2.St} {H : Hp} {s : Shared} {a D : Addr} {oe : Obj} {d : Option Addr} (I : Inv X pins σ H s) (hp : (a, oe) ∈ X.pn) (hz : Zn (.ref D) d oe) (hf : ∃ vs, oe.data = .fields vs) (hd : DctOk H d) : ∃ od, PySem.W.InstAt s.heap a oe D od := by
  obtain ⟨hget, _⟩ := I.pin (a, oe) (List.mem_append_left _ hp)
  obtain ⟨vs, hv⟩ := hf
  have nc : PySem.W.notCls oe = true := by
    unfold PySem.W.notCls
    rw [hv] <;> rfl
  rcases hd with rfl | ⟨dd, fs, rfl, ea⟩
  · exact ⟨none, hget, hz.1, nc, by rw [hz.2.1]; exact trivial⟩
  · have hx : ObjOk X.prog X.w H s.heap dd (.xd fs) := I.hok dd _ ea
    obtain ⟨mA, hns, hr⟩ := hx
    obtain ⟨od, ho, hl⟩ := lookIn_ns hns
    exact ⟨some od, hget, hz.1, nc, by rw [hz.2.1]; exact ho⟩
def rIsX (K : PySem.W.Frag) (a : Addr) (cls : Value) (d : Option Addr) : List V → Hp → VK → Prop := fun xs H Q => ∃ (D : Addr) (c : V) (cv : Value) (b : Bool), cls = .ref D ∧ ExcC K D ∧ DctOk H d ∧ xs = [.ref a, c] ∧ (∀ u, RelV c u → u = cv) ∧ PySem.W.kitOne K (.ref D) cv = some b ∧ Q (.bl b) H
theorem call_isX {X : Cx} {a : Addr} {oe : Obj} {cls : Value} {d : Option Addr} (hp : (a, oe) ∈ X.pn) (hz : Zn cls d oe) (hf : ∃ vs, oe.data = .fields vs) : CallR X (.builtin "isinstance") (rIsX X.K a cls d) := by
  intro pins s σ H xs us Q I r h
  obtain ⟨D, c, cv, b, rfl, C, hd, rfl, hcv, e, q⟩ := h
  cases r with
  | cons rx rr =>
    cases rr with
    | cons rt rr =>
      cases rr
      cases rx
      have ec := hcv _ rt
      subst ec
      obtain ⟨od, J⟩ := inst_of I hp hz hf hd
      exact PySem.W.kia_one (kitX_exc C) I.kIn J e (fun z => nomatch z) fun tk => ⟨.bl b, H, I.kept (t' := tk) fun _ _ z => z, rfl, q⟩
def rIsXT (K : PySem.W.Frag) (a : Addr) (cls : Value) (d : Option Addr) : List V → Hp → VK → Prop := fun xs H Q => ∃ (D tp : Addr) (cs : List V) (cvs : List Value) (b : Bool), cls = .ref D ∧ ExcC K D ∧ DctOk H d ∧ xs = [.ref a, .ref tp] ∧ H tp = some (.tup cs) ∧ (∀ us, Vals cs us → us = cvs) ∧ PySem.W.kitAny K (.ref D) cvs = some b ∧ Q (.bl b) H
theorem call_isXT {X : Cx} {a : Addr} {oe : Obj} {cls : Value} {d : Option Addr} (hp : (a, oe) ∈ X.pn) (hz : Zn cls d oe) (hf : ∃ vs, oe.data = .fields vs) : CallR X (.builtin "isinstance") (rIsXT X.K a cls d) := by
  intro pins s σ H xs us Q I r h
  obtain ⟨D, tp, cs, cvs, b, rfl, C, hd, rfl, htp, hcv, e, q⟩ := h
  cases r with
  | cons rx rr =>
    cases rr with
    | cons rt rr =>
      cases rr
      cases rx
      cases rt
      obtain ⟨od, J⟩ := inst_of I hp hz hf hd
      have ht : ObjOk X.prog X.w H s.heap tp (.tup cs) := I.hok tp _ htp
      obtain ⟨_, its, rv, hto⟩ := ht
      have ei := hcv _ rv
      subst ei
      obtain ⟨⟨oc, odd, oda, osl⟩, ho, h1, h2⟩ := hto
      have h1 : oc = .type "tuple" := by
        first
          | exact h1
          | exact h1.1
      subst h1
      obtain ⟨n, h2⟩ : ∃ n, oda = .seq its.toArray n := by
        first
          | exact h2
          | exact ⟨_, h2⟩
          | exact ⟨_, h2.1⟩
      subst h2
      exact PySem.W.kia_tup (kitX_exc C) I.kIn J ho e (fun z => nomatch z) fun tk => ⟨.bl b, H, I.kept (t' := tk) fun _ _ z => z, rfl, q⟩
open Classical in
noncomputable def exnM {α : Type} (T : Tbl) (xi : XI) (i : Nat) (k : Exn → M α) : M α := fun s => match s[i]? with
  | some (some (.exn xi' x)) => if xi' = xi ∧ T x.cls = xi.c then k x s else .stk
  | _ => .stk
theorem exnM_at {α : Type} {T : Tbl} {xi : XI} {i : Nat} {k : Exn → M α} {s : Sd} {x : Exn} (h : s[i]? = some (some (.exn xi x))) (hT : T x.cls = xi.c) : exnM T xi i k s = k x s := by
  unfold exnM
  rw [h]
  exact if_pos ⟨rfl, hT⟩
noncomputable def mIsE (T : Tbl) (xi : XI) (i : Nat) (t : Str → Option Bool) : M Opd := exnM T xi i fun x => M.bind (M.of (t x.cls)) fun b => M.ret (.d (.bool b))
noncomputable def mXf (T : Tbl) (xi : XI) (i : Nat) (f : Str) (t : Str → Option Bool) : M Opd := exnM T xi i fun x => M.bind (M.of (t x.cls)) fun _ => if x.fld = f ∧ f ≠ "" then M.ret (.d x.arg) else M.stk
section
variable {X : Cx} {g : Sg} {a : Addr} {oe : Obj} {cls : Value} {d : Option Addr} {i : Nat} {e : Str}
theorem exn_of {α : Type} {K : PySem.W.Frag} {H : Hp} {O : Ow} {σ : L2.St} {sd : Sd} {k : Exn → M α} {T : Tbl} {xi : XI} {P : α → Sd → Hp → Prop} (R : Rep K H O σ sd) (h : Aft K g O σ H (exnM T xi i k sd) P) :
    ∃ x, σ[i]? = some (some (.ref xi.a)) ∧ XF K H O x xi.d ∧ T x.cls = xi.c ∧ Aft K g O σ H (k x sd) P := by
  unfold exnM at h
  split at h
  · rename_i xi' x hx
    split at h
    · rename_i hc
      obtain ⟨rfl, hT⟩ := hc
      obtain ⟨v, h1, h2, h3⟩ := R.slot i _ hx
      subst h2
      exact ⟨x, h1, h3, hT, h⟩
    · exact h.elim
  · exact h.elim
def ClsE (X : Cx) (ce : Expr) (cv : Value) : Prop := ∃ v, PE X ce (tC v) ∧ ∀ u, RelV v u → u = cv
theorem clsE_own {x : Str} {C : Addr} {pos : Pos} (hg : Gl X x) (hm : X.mg x = some (.ref C)) (hd : (x == ("__debug__" : Str)) = false := by decide) : ClsE X (.Name x pos) (.ref C) := ⟨.ref C, pe_glob hg hm rfl hd, fun _ h => h⟩
def IsTb (X : Cx) (P : Addr → Bool → Prop) (t : Str → Option Bool) : Prop := ∀ n b, t n = some b → ∀ v, X.mg n = some v → ∃ D, v = .ref D ∧ P D b
theorem cT_of {X : Cx} {n : Str} {c : Value} {P : Addr → Bool → Prop} {t : Str → Option Bool} {b : Bool} (h : cT X n = c) (ht : IsTb X P t) (e : t n = some b) (hn : (X.mg n).isSome = true) : ∃ D, c = .ref D ∧ P D b := by
  obtain ⟨v, hv⟩ := Option.isSome_iff_exists.mp hn
  obtain ⟨D, rfl, q⟩ := ht n b e v hv
  refine ⟨D, ?_, q⟩
  unfold cT at h
  rw [hv] at h
  exact h.symm
theorem d_isE {ce : Expr} {cv : Value} {t : Str → Option Bool} {p p1 pos : Pos} (hp : (a, oe) ∈ X.pn) (hz : Zn cls d oe) (hf : ∃ vs, oe.data = .fields vs) (hN : X.N[i]? = some e) (hv : Vis X.env.scope e) (hg : Gl X "isinstance") (hm : X.mg "isinstance" = none) (hc : ClsE X ce cv)
    (ht : IsTb X (fun D b => ExcC X.K D ∧ PySem.W.kitOne X.K (.ref D) cv = some b) t) (hn : ∀ n b, t n = some b → (X.mg n).isSome = true) (hd1 : (e == ("__debug__" : Str)) = false := by decide) (hd2 : (e == ("__classdict__" : Str)) = false := by decide) (hv1 : bootBuiltins "isinstance" = some (.builtin "isinstance") := by decide +kernel)
    (h1 : starEach (.Name e p1 :: [ce]) X.env = (false, eval (.Name e p1) X.env) :: starEach [ce] X.env := by rfl) (h2 : starEach [ce] X.env = (false, eval ce X.env) :: starEach [] X.env := by rfl) (h3 : (backTo pos (starEach [ce] X.env)).any (·.1) = false := by rfl) :
    PE X (.Call (.Name "isinstance" p) [.Name e p1, ce] [] pos) (tD X.K g (mIsE (cT X) ⟨a, cls, d⟩ i t)) := by
  obtain ⟨v, hv', hu⟩ := hc
  refine PE_of (pe_callB (call_isX hp hz hf) hg hm hv1 (pa_cons (pe_var hN hv hd1 hd2) (pa_cons hv' pa_nil h2) h1) (by decide) (by decide) h1 h3) fun σ H Q q => ?_
  obtain ⟨sd, O, R, q⟩ := q
  obtain ⟨x, s1, s2, s3, s4⟩ := exn_of R q
  obtain ⟨b, e1, s5⟩ := s4.of
  obtain ⟨D, c1, c2, c3⟩ := cT_of s3 ht e1 (hn _ _ e1)
  exact ⟨.ref a, s1, D, v, cv, b, c1, c2, s2.dct, rfl, hu, c3, s5.now R _ (.bl b)⟩
def ClsEs (X : Cx) (ces : List Expr) (cvs : List Value) : Prop := ∃ vs, PA X ces (fun σ H Q => Q vs H) ∧ vs.length ≤ sizeLine ∧ ∀ us, Vals vs us → us = cvs
theorem clsEs_nil : ClsEs X [] [] := ⟨[], pa_nil, Nat.zero_le _, fun us h => by cases h; rfl⟩
theorem clsEs_cons {ce : Expr} {ces : List Expr} {cv : Value} {cvs : List Value} (h : ClsE X ce cv) (r : ClsEs X ces cvs) (hl : cvs.length < 1000 := by decide) (hs : starEach (ce :: ces) X.env = (false, eval ce X.env) :: starEach ces X.env := by rfl) : ClsEs X (ce :: ces) (cv :: cvs) := by
  obtain ⟨v, h1, h2⟩ := h
  obtain ⟨vs, r1, r0, r2⟩ := r
  have hv : ∀ v : V, ∃ u, RelV v u := fun v => by
    cases v <;> first | exact ⟨_, rfl⟩ | exact ⟨_, 0, rfl⟩
  have ex : ∀ l : List V, ∃ us, Vals l us := fun l => by
    induction l with
    | nil => exact ⟨[], .nil⟩
    | cons a l ih =>
      obtain ⟨us, h⟩ := ih
      obtain ⟨u, hu⟩ := hv a
      exact ⟨u :: us, .cons hu h⟩
  refine ⟨v :: vs, pa_cons h1 r1 hs, ?_, fun us hu => ?_⟩
  · obtain ⟨us, hu⟩ := ex vs
    have e := hu.length
    rw [r2 us hu] at e
    rw [List.length_cons, e, sizeLine_eq]
    omega
  · cases hu with
    | cons a b => rw [h2 _ a, r2 _ b]
theorem d_isET {ces : List Expr} {cvs : List Value} {t : Str → Option Bool} {p p1 pos pos2 : Pos} {x1} (hp : (a, oe) ∈ X.pn) (hz : Zn cls d oe) (hf : ∃ vs, oe.data = .fields vs) (hN : X.N[i]? = some e) (hv : Vis X.env.scope e) (hg : Gl X "isinstance") (hm : X.mg "isinstance" = none) (hc : ClsEs X ces cvs)
    (ht : IsTb X (fun D b => ExcC X.K D ∧ PySem.W.kitAny X.K (.ref D) cvs = some b) t) (hn : ∀ n b, t n = some b → (X.mg n).isSome = true) (hd1 : (e == ("__debug__" : Str)) = false := by decide) (hd2 : (e == ("__classdict__" : Str)) = false := by decide) (hv1 : bootBuiltins "isinstance" = some (.builtin "isinstance") := by decide +kernel)
    (h1 : starEach (.Name e p1 :: [.Tuple ces x1 pos2]) X.env = (false, eval (.Name e p1) X.env) :: starEach [.Tuple ces x1 pos2] X.env := by rfl) (h2 : starEach [.Tuple ces x1 pos2] X.env = (false, eval (.Tuple ces x1 pos2) X.env) :: starEach [] X.env := by rfl) (h3 : (backTo pos (starEach [.Tuple ces x1 pos2] X.env)).any (·.1) = false := by rfl) :
    PE X (.Call (.Name "isinstance" p) [.Name e p1, .Tuple ces x1 pos2] [] pos) (tD X.K g (mIsE (cT X) ⟨a, cls, d⟩ i t)) := by
  obtain ⟨vs, hv', hl, hu⟩ := hc
  refine PE_of (pe_callB (call_isXT hp hz hf) hg hm hv1 (pa_cons (pe_var hN hv hd1 hd2) (pa_cons (pe_tup hv') pa_nil h2) h1) (by decide) (by decide) h1 h3) fun σ H Q q => ?_
  obtain ⟨sd, O, R, q⟩ := q
  obtain ⟨x, s1, s2, s3, s4⟩ := exn_of R q
  obtain ⟨b, e1, s5⟩ := s4.of
  obtain ⟨D, c1, c2, c3⟩ := cT_of s3 ht e1 (hn _ _ e1)
  refine ⟨.ref a, s1, hl, fun tp htp => ⟨D, tp, vs, cvs, b, c1, c2, ?_, rfl, upd_same, hu, c3, s5 _ (Ext.new htp) (R.same (same_new htp)) _ (.bl b)⟩⟩
  rcases s2.dct with z | ⟨dd, fs, z1, z2⟩
  · exact .inl z
  · exact .inr ⟨dd, fs, z1, (upd_ne (ne_of_none z2 htp)).trans z2⟩
theorem pe_xfX {C : Addr} {ee : Expr} {te : TE} {pos : Pos} {n : Str} (hp : (a, oe) ∈ X.pn) (hz : Zn cls d oe) (hf : ∃ vs, oe.data = .fields vs) (he : PE X ee te) (hb : attributeBase ee n X.env (eval ee X.env) = eval ee X.env := by rfl) :
    PE X (.Attribute ee n pos) (fun σ H Q => te σ H fun x H1 => x = .ref a ∧ ∃ C, cls = .ref C ∧ XfC X.K C ∧ PySem.W.findIn X.K (.ref C) n = some none ∧ ∃ (dd : Addr) (fs : List (Str × V)) (v : V), d = some dd ∧ H1 dd = some (.xd fs) ∧ fs.lookup n = some v ∧ Q v H1) := by
  refine ⟨fun pins s σ H Q I h => ?_⟩
  refine attr_of hb (thn (he.run pins s σ H _ I h) fun u s1 hh => ?_)
  obtain ⟨x, H1, I1, rx, ex, C, ec, T, hno, dd, fs, v, ed, ea, l, q⟩ := hh
  subst ex
  obtain rfl : u = Value.ref a := rx
  subst ec
  subst ed
  obtain ⟨ha, _⟩ := I1.pin (a, oe) (List.mem_append_left _ hp)
  obtain ⟨vs, hd⟩ := hf
  have hx : ObjOk X.prog X.w H1 s1.heap dd (.xd fs) := I1.hok dd _ ea
  obtain ⟨mA, hns, hr⟩ := hx
  obtain ⟨od, ho, hl⟩ := lookIn_ns hns
  obtain ⟨u, hu, ru⟩ := RelO.some_of (v := v) (o := mA n) (by rw [← l]; exact hr n)
  have J : PySem.W.InstAt s1.heap a oe C (some od) := ⟨ha, hz.1, by unfold PySem.W.notCls; rw [hd] <;> rfl, by rw [hz.2.1]; exact ho⟩
  exact HandSPX.exc_get I1.kIn J T.ga T.gg T.exC (PySem.W.findObj_own T.hdC hno rfl (by rw [hl, hu])) (handed_of ru) ⟨v, H1, I1.tok _, ru, q⟩
theorem d_xf {f : Str} {t : Str → Option Bool} {p1 pos : Pos} (hp : (a, oe) ∈ X.pn) (hz : Zn cls d oe) (hf : ∃ vs, oe.data = .fields vs) (hN : X.N[i]? = some e) (hv : Vis X.env.scope e) (ht : IsTb X (fun D _ => XfC X.K D ∧ PySem.W.findIn X.K (.ref D) f = some none) t) (hn : ∀ n b, t n = some b → (X.mg n).isSome = true)
    (hd1 : (e == ("__debug__" : Str)) = false := by decide) (hd2 : (e == ("__classdict__" : Str)) = false := by decide) (hb : attributeBase (.Name e p1) f X.env (eval (.Name e p1) X.env) = eval (.Name e p1) X.env := by rfl) :
    PE X (.Attribute (.Name e p1) f pos) (tD X.K g (mXf (cT X) ⟨a, cls, d⟩ i f t)) := PE_of (pe_xfX (C := 0) hp hz hf (pe_var hN hv hd1 hd2) hb) fun σ H Q q => by
  obtain ⟨sd, O, R, q⟩ := q
  obtain ⟨x, s1, s2, s3, s4⟩ := exn_of R q
  obtain ⟨b, e1, s5⟩ := s4.of
  obtain ⟨D, c1, c2, c3⟩ := cT_of s3 ht e1 (hn _ _ e1)
  split at s5
  · rename_i hc
    obtain ⟨rfl, hc⟩ := hc
    rcases s2 with ⟨z, _⟩ | ⟨_, dd, v, y1, y2, y3⟩
    · exact absurd z hc
    · exact ⟨.ref a, s1, rfl, D, c1, c2, c3, dd, _, v, y1, y2, by simp [List.lookup], s5.now R _ y3⟩
  · exact s5.elim
end
end VS
namespace VS
open PySem PySem.Spec PyProof.Rows L2 L2N
variable [TabL]
structure FnE (P : Program) (w : World) (K : PySem.W.Frag) (mg : Str → Option Value) (base : Heap) (k : Nat) (f : Addr) (fd : FuncData) (ps : List Str) (sp : XI → Hp → VK → Prop) : Prop where
  run : ∀ (A : Around) (outer : List Env) (s : Shared) (H : Hp) (args : PySem.Args) (p : Addr × Obj) (cls : Value) (d : Option Addr) (Q : VK), A.guards = some [] → L2H.RoomH k A → L2H.Hot1 A p → L2H.PinOk outer H s p → Zn cls d p.2 → (∃ vs, p.2.data = .fields vs) → Env0 P w K mg base A outer s H →
    BindsTo s fd args (ps.zip [.ref p.1]) → sp ⟨p.1, cls, d⟩ H Q → codeAny (model P w) A (.call (.ref f) args) (CR CX0 outer P w H s Q E0) s
def spE (K : PySem.W.Frag) (mg : Str → Option Value) (m : Tbl → XI → MS) (N : Nat) : XI → Hp → VK → Prop := fun xi H Q => ∃ (x : Exn) (O : Ow) (r : Rt) (sf : Sd), (∀ p, ¬ O.o p) ∧ Kinds H O ∧ XF K H O x xi.d ∧ retOf [false] (m (fun n => (mg n).getD .none) xi (pad N [.exn xi x])) = .ok r sf ∧
  ∀ v H' O', CallEnd K H O [false] [.ref xi.a] sf H' O' → RetR K H O H' O' v r → Q v H'
section
variable {P : Program} {w : World} {K : PySem.W.Frag} {mg : Str → Option Value} {base : Heap}
theorem fnE_of {x qual y : Str} {st : Stmt} {f : Addr} {fd : FuncData} {N : List Str} {k : Nat} {m : Tbl → XI → MS} (F : Fun K x qual st f fd) (S : FnScope N [y] (defScope st))
    (hbody : ∀ (cdv : Value) (A : Around) (outer : List Env) (s : Shared) (H : Hp) (p : Addr × Obj) (cls : Value) (d : Option Addr) (H0 : Hp) (O0 : Ow) (io : List (Option Addr)) (g : Sg), A.guards = some [] → L2H.RoomH k (A.deeper (envOfC qual (defScope st) s.heap.objs.size f cdv)) → Zn cls d p.2 → (∃ vs, p.2.data = .fields vs) →
      PSs (L2H.cxH CX0 P w K mg base N qual (defScope st) f cdv A outer s H E0 p) (defBody st) (tS K g ⟨H0, O0, [false], io, []⟩ (m (fun n => (mg n).getD .none) ⟨p.1, cls, d⟩))) : FnE P w K mg base (k + 1) f fd [y] (spE K mg m N.length) := by
  obtain ⟨oc, od, kV, doc, pm, an, cdv, ct, osl, rfl, lk, hcd⟩ := F.ex
  constructor
  intro A outer s H args p cls d Q hG hr hot hpin hz hf e0 hb hsp
  obtain ⟨ex, O, r, sf, no, kn, xf, hm, q⟩ := hsp
  have inh : ∀ b o, base.get? b = some o → s.heap.get? b = some o := fun b o e => (e0.bs b o e).1
  have kin := e0.mod.kin.keeps inh
  have nol := e0.mod.nolimit.keeps inh
  have kinds : ∀ z ∈ [y].zip [Value.ref p.1], (defScope st).names.lookup z.1 = some .local ∨ ((defScope st).names.lookup z.1 = some .cell ∧ ((cellsFrom (s.heap.objs.size + 1) (defScope st).names []).lookup z.1).isSome = true) := by
    rintro ⟨n, v⟩ hy
    exact (S.par n (List.of_mem_zip hy).1).elim .inl fun q => .inr ⟨q, PySem.W.cellsFrom_some _ _ _ (.inl q)⟩
  refine codeAny_call_function hr.depth (kin _ _ lk) rfl S.co S.gen rfl (PySem.W.codeRec_of kin hcd) (hb _ _ _ _ ?_)
  refine wpAny_newFunctionEnv_cells S.kind kinds fun env he s1 ic => ?_
  subst he
  refine ⟨nol.keeps ic.toInCall.keep, codeAny_func ?_⟩
  have ht := hbody cdv A outer s H p cls d H O [none] ⟨fun _ _ _ _ _ => True, fun _ _ _ _ => False, fun _ _ _ _ _ _ _ _ => trivial⟩ hG (hr.deeper _) hz hf
  have I := L2H.inv_startH (CX := CX0) (P := P) (w := w) (K := K) (mg := mg) (base := base) (E := E0) (vs := [.ref p.1]) S hpin e0 rfl (.cons rfl .nil) ic
  have R0 : RepH K ⟨H, O, [false], [none], []⟩ H O (L2.start N [.ref p.1]) (pad N.length [.exn ⟨p.1, cls, d⟩ ex]) := by
    refine ⟨?_, Ext.refl _ _, Nw.refl, fun i q h => ?_, kn, fun q z => absurd z (no q), fun c hc => nomatch hc⟩
    · have R1 : Rep K H O ([V.ref p.1].map some) ([Sl.exn ⟨p.1, cls, d⟩ ex].map some) := by
        refine ⟨rfl, fun i s h => ?_, fun i j q s t h1 h2 h3 h4 => ?_, kn⟩
        · match i, h with
          | 0, h => cases h; exact ⟨_, rfl, rfl, xf⟩
        · match i, h2 with
          | 0, h2 => cases h2
      have := R1.pad (N.length - 1)
      exact this
    · match i, h with
      | 0, h => cases h
  refine wpAny_mono (ht.run [] s1 (L2.start N [.ref p.1]) H { nx := fun _ H' => Q .non H', rt := Q } I ⟨_, O, R0, ?_⟩) (fun fl s' hs => ?_) fun e s' hs => hs
  · have fin : ∀ {σ' : L2.St} {H' : Hp} {O' : Ow} {sd' : Sd}, RepH K ⟨H, O, [false], [none], []⟩ H' O' σ' sd' → CallEnd K H O [false] [.ref p.1] sd' H' O' := fun R => ⟨R.ext, R.nw, R.rep.kind, fun i q h1 h2 => by
      match i, h1 with
      | 0, h1 => cases h1⟩
    cases e : m (fun n => (mg n).getD .none) ⟨p.1, cls, d⟩ (pad N.length [.exn ⟨p.1, cls, d⟩ ex]) with
    | stk =>
      rw [e] at hm
      cases hm
    | exc y sd' =>
      rw [e] at hm
      cases hm
    | ok fl sd' =>
      rw [e] at hm
      cases fl with
      | nx =>
        have hm : (if ioOk [false] sd' then Res.ok (Rt.dat .none) sd' else .stk) = .ok r sf := hm
        split at hm
        · cases hm
          exact fun σ' H' O' R => q _ H' O' (fin R) .non
        · cases hm
      | rt r' =>
        have hm : (if ioOk [false] sd' then Res.ok r' sd' else .stk) = .ok r sf := hm
        split at hm
        · cases hm
          refine fun v σ' H' O' R rr => q v H' O' (fin R) ?_
          cases r with
          | dat d => exact rr
          | frs d => exact rr
          | xt ds => exact rr
        · cases hm
      | bk => cases hm
      | ct => cases hm
  · cases fl with
    | ret u =>
      obtain ⟨v, _, H', J, rv, q⟩ := hs
      exact ⟨v, H', J.os, J.bare, J.base, J.hok, rv, q⟩
    | next =>
      obtain ⟨_, H', J, q⟩ := hs
      exact ⟨.non, H', J.os, J.bare, J.base, J.hok, rfl, q⟩
    | brk => exact hs.elim fun _ z => z.elim fun _ z => z.2.elim
    | cont => exact hs.elim fun _ z => z.elim fun _ z => z.2.elim
end
noncomputable def mCallE (T : Tbl) (xi : XI) (i : Nat) (m : Tbl → XI → MS) (N : Nat) : M Opd := exnM T xi i fun x s => match retOf [false] (m T xi (pad N [.exn xi x])) with
  | .ok r _ => .ok (.d (rtD r)) s
  | _ => .stk
section
variable {X : Cx} {g : Sg} {a : Addr} {oe : Obj} {cls : Value} {d : Option Addr} {i : Nat} {e : Str}
theorem d_callE {k : Nat} {f : Addr} {fd : FuncData} {y x : Str} {m : Tbl → XI → MS} {N : Nat} {p p1 pos : Pos} (hp : (a, oe) ∈ X.pn) (hh : X.A.handled = some (.ref a)) (hz : Zn cls d oe) (hf : ∃ vs, oe.data = .fields vs) (hN : X.N[i]? = some e) (hv : Vis X.env.scope e)
    (G : FnE X.prog X.w X.K X.mg X.base k f fd [y] (spE X.K X.mg m N)) (hG : X.A.guards = some []) (hr : L2H.RoomH k X.A) (hg : Gl X x) (hm : X.mg x = some (.ref f)) (hk : PySem.W.keepIn X.K (.ref f) = true) (hb : Binds X.K fd [y] []) (hd1 : (e == ("__debug__" : Str)) = false := by decide) (hd2 : (e == ("__classdict__" : Str)) = false := by decide)
    (hdb : (x == ("__debug__" : Str)) = false := by decide) (he : starEach (.Name e p1 :: []) X.env = (false, eval (.Name e p1) X.env) :: starEach [] X.env := by rfl) (hpl : (backTo pos (starEach [] X.env)).any (·.1) = false := by rfl) :
    PE X (.Call (.Name x p) [.Name e p1] [] pos) (tD X.K g (mCallE (cT X) ⟨a, cls, d⟩ i m N)) := by
  constructor
  intro pins s σ H Q I h
  obtain ⟨sd, O, R, h⟩ := h
  obtain ⟨ex, s1, s2, s3, s4⟩ := exn_of R h
  refine wpAny_Call_Name_kw (ld_glob I hg hm ?_ hdb)
  have ha : PA X [.Name e p1] (tCons (tVar i) tNil) := pa_cons (pe_var hN hv hd1 hd2) pa_nil he
  refine PySem.W.callWith_K (h₀ := X.base) I.ok.mod.kin hk (thn (ha.run pos pins s σ H (fun vs H1 => vs = [V.ref a] ∧ H = H1) I ⟨.ref a, s1, rfl, rfl⟩) fun us s2' w => ?_) he hpl
  obtain ⟨vs, H1, I1, r, ev, eH⟩ := w
  subst ev
  subst eH
  refine ⟨I1.kIn, wpAny_call ?_⟩
  cases r with
  | cons ru rn =>
    cases rn
    cases ru
    have bd := hb s2' [.ref a] I1.kIn (by simp)
    rw [List.append_nil] at bd
    have P1 := I1.pin (a, oe) (List.mem_append_left _ hp)
    have hpin : L2H.PinOk X.stack H s2' (a, oe) := ⟨P1.1, P1.2.1, fun hm => (List.mem_cons.mp (I1.stkSub a hm)).elim P1.2.2.1 P1.2.2.2.1, P1.2.2.2.2⟩
    have hot : L2H.Hot1 X.A (a, oe) := by
      obtain ⟨vs, hv⟩ := hf
      exact ⟨hh, vs, hv, hz.2.2 vs hv⟩
    have sp : spE X.K X.mg m N ⟨a, cls, d⟩ H Q := by
      cases er : retOf [false] (m (cT X) ⟨a, cls, d⟩ (pad N [.exn ⟨a, cls, d⟩ ex])) with
      | stk =>
        rw [er] at s4
        exact s4.elim
      | exc _ _ =>
        rw [er] at s4
        exact s4.elim
      | ok r sf =>
        rw [er] at s4
        refine ⟨ex, ⟨fun _ => False, O.a, fun _ => False⟩, r, sf, fun _ z => z, ⟨fun _ z => z.elim, R.kind.kd, fun _ z => z.elim, R.kind.tb⟩, XF.less (O := O) (O' := ⟨fun _ => False, O.a, fun _ => False⟩) (fun _ z => z) s2, er, fun v H' O' C rr => ?_⟩
        have x1 : Ext O H H' := C.ext.weak fun p z => z.elim
        have R2 : Rep X.K H' O σ sd := ⟨R.len, fun j s h => by
          obtain ⟨v, b1, b2⟩ := R.slot j s h
          refine ⟨v, b1, b2.keep R.kind x1 (fun _ z => .inl z) (fun _ z => z) fun p z => ?_⟩
          obtain ⟨o, e1, ok⟩ := R.kind.kd p (R.kind.sub p z)
          rw [e1]
          exact C.ext.atA e1 (fun z => z) (wr_own ok).1 (R.kind.sub p z), R.inj, ⟨R.kind.sub, fun p z => C.kind.kd p (C.nw.sa p z), R.kind.cs, C.kind.tb⟩⟩
        refine s4 H' x1 R2 v ?_
        cases r with
        | dat d => exact Dd.less (O := ⟨fun _ => False, O.a, fun _ => False⟩) (O' := O) (fun _ z => z) _ _ rr
        | xt ds => exact Dd.less (O := ⟨fun _ => False, O.a, fun _ => False⟩) (O' := O) (fun _ z => z) _ _ (XtR.dd rr)
        | frs d =>
          obtain ⟨p, rfl, z1, z2, z3⟩ := rr
          have np := R.kind.new z1
          have sa : ∀ q, O.a q → O'.a q := fun q z => C.nw.sa q z
          cases d with
          | list ds =>
            obtain ⟨us, q1, q2⟩ := z3
            exact .lst (.inl q1) np (q2.less sa _ _)
          | dict ds =>
            obtain ⟨us, q1, q2⟩ := z3
            exact .dct (.inl q1) np (q2.less sa _ _)
          | _ => exact False.elim z3
    refine codeAny_mono (G.run X.A X.stack s2' H ⟨[.ref a], []⟩ (a, oe) cls d Q hG hr hot hpin hz hf I1.env0 bd sp) fun res s' hq => ?_
    cases res with
    | error e => exact hq.elim
    | ok fl =>
      cases fl with
      | ret u => exact I1.after hq
      | next => exact hq.elim
      | brk => exact hq.elim
      | cont => exact hq.elim
end
end VS
namespace VS
open PySem PySem.Spec PySem.Calls PyProof.Rows L2 L2N
variable [TabL]
structure OexB (K : PySem.W.Frag) (C : Addr) (bmB : List Value) (newId : String) : Prop where
  cls : ∃ nm q N bs bm sn sub ab col dd k0 k1 k2 k3 k5, K.lookup C = some (excClassObj nm q C N bs bm true sn sub ab col dd k0 k1 k2 k3 k5 newId) ∧ PySem.W.excTail bmB bm = true
  sa : PySem.W.findIn K (.ref C) "__setattr__" = some (some (.builtin "object.__setattr__"))
  exC : PySem.W.subIn K (.ref C) (.type "BaseException") = some true
  tyC : PySem.W.typeIn K (.ref C) = some (.type "type")
  kC : PySem.W.keepIn K (.ref C) = true
section
open Builtin Builtin.ObjectAttr HandSPX
variable {prog : Program} {w : World} {A : Around} {E : Value → Shared → Prop} {R : Result → Shared → Prop} {hp : Heap} {g : Array GenState} {d : Drawn} {t : Nat} {os : OsState} {bmB : List Value}
theorem exc_osaB {K : PySem.W.Frag} {name : Str} {tk : Tok} {v : Value} {x C : Addr} {fv : Array Value} {cd : ClassData} (hpass : ∀ self : Value, refuseLoop self "__setattr__" bmB = pure ()) (hbo : bmB.contains (.type "object") = true) (hbn : bmB ≠ [])
    (X : K.In hp) (hx : hp.get? x = some { cls := .ref C, data := .fields fv }) (hcd : PySem.W.clsIn K C = some cd) (hm : PySem.W.excTail bmB cd.mro = true) (hh : cd.hasDict = true) (ha : PySem.W.findIn K (.ref C) name = some none)
    (hq : ∀ h' tk' dx, (∀ b o, b ≠ x → hp.get? b = some o → h'.get? b = some o) → hp.objs.size ≤ dx → dx ≠ x → h'.get? x = some { cls := .ref C, dict := some dx, data := .fields fv } →
      h'.Ns1 dx (fun y => if y = name then some v else none) → R (.ok (.ret .none)) ⟨h', g, d, tk', os⟩) :
    codeAny (model prog w) A (.call (.builtin "object.__setattr__") ⟨[.ref x, .str name tk, v], []⟩) R ⟨hp, g, d, t, os⟩ := by
  have I : PySem.W.InstAt hp x { cls := .ref C, data := .fields fv } C none := ⟨hx, rfl, rfl, trivial⟩
  have SF := F.store_object
  have hob : cd.mro.contains (.type "object") = true := (PySem.W.excTail_contains "object" _ hm).trans hbo
  have ne : cd.mro.isEmpty = false := by
    cases hmro : cd.mro with
    | nil =>
      rw [hmro] at hob
      simp at hob
    | cons _ _ => rfl
  have hxs : x ≠ hp.objs.size := Nat.ne_of_lt (Heap.lt_size hx)
  have sub : PySem.W.Looks (model prog w) hp (isInstance (.ref x) (.type "object")) true := I.type.andThen (PySem.W.looks_mroIn X (by unfold PySem.W.mroIn; rw [hcd, Option.bind_some, if_neg (by rw [ne]; decide), hob]))
  refine codeAny_call_builtin SF.slot.plain SF.entry (@PySem.W.check_slot (model prog w) _ _ ⟨hp, g, d, t, os⟩ "object.__setattr__" "object" "__setattr__" (.ref x) [.str name tk, v] [] _ SF.kind SF.split sub (SF.args (.ref x) (.str name tk) v) ?_)
  have hmr : PySem.W.Looks (model prog w) hp (mroOf (.ref C)) cd.mro := (PySem.W.looks_clsIn X hcd).andThen .now
  have L3 : PySem.W.Looks (model prog w) hp (storeTaker? none) none := .now
  have hcls : PySem.W.Looks (model prog w) hp (classData C) cd := PySem.W.looks_clsIn X hcd
  rw [PySem.W.osa_eq, refuse_eq]
  refine wpAny_bind (wpAny_bind (I.type.at (wpAny_bind (hmr.at ?_))))
  rw [PySem.W.excTail_pass _ (hpass _) _ hm]
  refine wpAny_pure (wpAny_bind (I.type.at (wpAny_bind ((PySem.W.looks_findIn X ha).at (wpAny_bind (L3.at ?_))))))
  show wpAny _ _ (storeInOwnDict (.ref x) (.ref C) (.str name tk) name v false) _ _ _
  obtain ⟨nm, bs, mro, ns, qn, hd, sn, sb, ab, col, del⟩ := cd
  dsimp only at hh
  subst hh
  unfold storeInOwnDict ownDictForStores
  repeat (first | with_reducible refine store_in_new ?_ ?_ | with_reducible refine wpAny_loadPart_at hx ?_ | with_reducible refine hcls.at ?_ | wp_step)
  · exact ⟨_, #[], _, (Heap.get?_update_ne _ _ _ _ hxs.symm).trans (Heap.get?_push_at rfl rfl), rfl, fun e he => absurd he (by simp), fun _ => rfl⟩
  · intro h' tk' hn' hs
    have hx₁ : (hp.push { cls := .type "dict", data := .dict #[] }).get? x = some { cls := .ref C, data := .fields fv } := Heap.get?_push_of_some _ hx
    refine hq h' tk' hp.objs.size (fun b o hb ho => ?_) (Nat.le_refl _) hxs.symm ?_ hn'
    · exact (hs.2 b (Nat.ne_of_lt (Heap.lt_size ho))).trans ((Heap.get?_update_ne _ _ _ _ hb).trans (Heap.get?_push_of_some _ ho))
    · exact (hs.2 x hxs).trans (Heap.get?_update_self _ hx₁ rfl)
end
structure BaseF (B newId initId : String) (bmB : List Value) : Prop where
  ex : ExcBaseFacts B newId initId bmB
  st : StoreFacts B bmB "object.__setattr__" "object"
section
variable {X : Cx} {pins : List (Addr × Obj)} {σ : L2.St} {H : Hp} {s : Shared} {a C dx : Addr} {f : Str} {y : V} {u : Value} {Q : Unit → Shared → Prop} {E : Value → Shared → Prop} {A : Around} {B newId initId : String} {bmB : List Value}
theorem ost_newB (BF : BaseF B newId initId bmB) (T : OexB X.K C bmB newId) (I : Inv X pins σ H s) (e : H a = some (exo a C none)) (hno : PySem.W.findIn X.K (.ref C) f = some none) (ry : RelV y u)
    (h : ∀ dx s', H dx = none → dx ≠ a → Inv X pins σ (upd (upd H dx (exd dx [(f, y)])) a (exo a C (some dx))) s' → Q () s') : wpAny (model X.prog X.w) A (setAttr (.ref a) f u) Q E s := by
  obtain ⟨nm, q, N, bs, bm, sn, sub, ab, col, dd, k0, k1, k2, k3, k5, hC, hbm⟩ := T.cls
  have hcl : PySem.W.clsIn X.K C = some { name := nm, bases := bs, mro := .ref C :: bm, ns := N, qualname := q, hasDict := true, slotNames := sn, subclasses := sub, abstract := ab, collection := col, hasDel := false } := by unfold PySem.W.clsIn; rw [hC] <;> rfl
  obtain ⟨t1, ho⟩ := exo_at I.hok e
  obtain ⟨hp, g, d, t, os⟩ := s
  refine PySem.W.set_plain I.kIn (ox := { cls := .ref C, dict := none, data := .fields #[.ref t1, .none, .none, .none, .bool false, .none] }) (od := none) ⟨ho, rfl, rfl, trivial⟩ T.sa ?_
  refine exc_osaB BF.st.passes BF.st.hasOwner (fun z => by have := BF.st.hasOwner; rw [z] at this; simp at this) I.kIn ho hcl (show PySem.W.excTail bmB (.ref C :: bm) = true from hbm) rfl hno (fun h' tk' dx k dn dne hx hn => ?_)
  have hnd : H dx = none := I.hok.fresh dn
  have nd : ∀ {b : Addr} {o : Obj}, hp.get? b = some o → b ≠ dx := fun {b o} q => Nat.ne_of_lt (Nat.lt_of_lt_of_le (Heap.lt_size q) dn)
  have na : ∀ {b : Addr}, H b = none → b ≠ a := fun {b} n z => by
    rw [z, e] at n
    cases n
  have Un1 : Un X.fs [] H (upd (upd H dx (exd dx [(f, y)])) a (exo a C (some dx))) hp h' := {
    keep := fun b o q n _ _ => k b o (na n) q
    slot := fun b o q n _ _ => ⟨o.slots, k b o (na n) q⟩
    free := fun b o q n _ => by rw [upd_ne (na n), upd_ne (nd q)]; exact n
    there := fun b o q _ => by
      by_cases hb : b = a
      · exact ⟨_, by rw [hb]; exact hx⟩
      · exact ⟨o, k b o hb q⟩
    tups := fun b xs q => by rw [upd_ne (at_ne e q exo_tup), upd_ne (ne_of_none q hnd)]; exact q
    frzs := fun b o v q => by rw [upd_ne (at_ne e q exo_frz), upd_ne (ne_of_none q hnd)]; exact q
    tbls := fun b ps q => ⟨#[], by rw [upd_ne (at_ne e q exo_tbl), upd_ne (ne_of_none q hnd), q]; simp⟩ }
  refine h dx _ hnd dne (I.un (t' := tk') Un1 fun b o q => ?_)
  by_cases hb : b = a
  · subst hb
    rw [upd_same] at q
    cases q
    exact exo_ok hx
  · rw [upd_ne hb] at q
    by_cases hd : b = dx
    · subst hd
      rw [upd_same] at q
      cases q
      exact exd_ok hn (relO_put (fs := []) ry fun g => True.intro)
    · rw [upd_ne hd] at q
      exact (I.hok b o q).stay (fun c v hc z => k c v (by
          rcases hc with hc | hc
          · rw [hc]
            exact hb
          · exact at_ne e hc exo_own) z)
        (fun c hc => by rw [upd_ne (at_ne e hc exo_own), upd_ne (ne_of_none hc hnd)]; exact hc) (fun c xs hc => by rw [upd_ne (at_ne e hc exo_tup), upd_ne (ne_of_none hc hnd)]; exact hc)
end
def spI (K : PySem.W.Frag) (C : Addr) (f : Str) : Sp := fun vs H Q _ => ∃ (a : Addr) (v : V), vs = [.ref a, v] ∧ H a = some (exo a C none) ∧ ∀ dx, H dx = none → dx ≠ a → Q .non (upd (upd H dx (exd dx [(f, v)])) a (exo a C (some dx)))
section
variable {P : Program} {w : World} {K : PySem.W.Frag} {mg : Str → Option Value} {base : Heap} {B newId initId : String} {bmB : List Value}
theorem fnI_of {x qual y f : Str} {st : Stmt} {fI C : Addr} {fd : FuncData} {p1 p2 p3 p4 : Pos} (BF : BaseF B newId initId bmB) (T : OexB K C bmB newId) (hno : PySem.W.findIn K (.ref C) f = some none) (F : Fun K x qual st fI fd) (S : FnScope ["self", y] ["self", y] (defScope st))
    (hbd : defBody st = [.Assign [.Attribute (.Name "self" p1) f p2] (.Name y p3) p4]) (hv1 : Vis (defScope st) "self") (hv2 : Vis (defScope st) y) (hd1 : (y == ("__debug__" : Str)) = false := by decide) (hd2 : (y == ("__classdict__" : Str)) = false := by decide) : FnOk P w K mg base CX0 1 fI fd ["self", y] (spI K C f) := by
  refine Fun.ok F S (fun vs H Q E h => ?_) fun cdv A outer s H vs Q E hr h => ?_
  · obtain ⟨a, v, rfl, _⟩ := h
    rfl
  · obtain ⟨a, v, rfl, e, q⟩ := h
    refine ⟨fun D σ H => ∃ v a, σ[1]? = some (some v) ∧ σ[0]? = some (some (.ref a)) ∧ H a = some (exo a C none) ∧ ∀ dx, H dx = none → dx ≠ a → D.nx σ (upd (upd H dx (exd dx [(f, v)])) a (exo a C (some dx))), ?_, v, a, rfl, rfl, e, q⟩
    rw [hbd]
    refine pss_one ⟨fun pins s σ H D I h => ?_⟩
    obtain ⟨v, a, s1, s0, ea, q⟩ := h
    refine plainObj_wpAny_Assign_Attribute (thn ((pe_var (i := 1) rfl hv2 hd1 hd2).run pins s σ H (fun y H1 => y = v ∧ H = H1) I ⟨v, s1, rfl, rfl⟩) fun u s2 ⟨y, H1, I1, r1, ey, eH⟩ => ?_) (by rfl)
    subst ey
    subst eH
    refine thn ((pe_var (x := "self") (i := 0) rfl hv1 (by decide) (by decide)).run pins s2 σ H (fun y H1 => y = .ref a ∧ H = H1) I1 ⟨.ref a, s0, rfl, rfl⟩) fun u2 s3 ⟨x, H2, I2, r2, ex, eH⟩ => ?_
    subst ex
    subst eH
    obtain rfl : u2 = Value.ref a := r2
    exact ost_newB BF T I2 ea hno r1 fun dx s' n ne J => ⟨σ, _, J, q dx n ne⟩
end
def tMkB (C : Addr) (f : Str) (te : TE) : L2.St → Hp → XK → Prop := fun σ H Q => te σ H fun v H1 => ∀ (dx : Addr) (H2 : Hp), H1 dx = none → Same H1 H2 → H2 dx = some (.xd [(f, v)]) → Q (.ref C) (some dx) H2
theorem pmk_oexB {X : Cx} {x f y : Str} {e : Expr} {te : TE} {p pos : Pos} {C fI : Addr} {fd : FuncData} {B newId initId : String} {bmB : List Value} (BF : BaseF B newId initId bmB) (T : OexB X.K C bmB newId) (iC : PySem.W.findIn X.K (.ref C) "__init__" = some (some (.ref fI))) (tI : PySem.W.typeIn X.K (.ref fI) = some (.type "function"))
    (F1 : FnOk X.prog X.w X.K X.mg X.base CX0 1 fI fd ["self", y] (spI X.K C f)) (hr : Room 2 X.A) (hb : Binds X.K fd ["self", y] []) (hg : Gl X x) (hm : X.mg x = some (.ref C)) (he : PE X e te)
    (hdb : (x == ("__debug__" : Str)) = false := by decide) (hse : starEach (e :: []) X.env = (false, eval e X.env) :: starEach [] X.env := by rfl) (hpl : (backTo pos (starEach [] X.env)).any (·.1) = false := by rfl) :
    L2N.PMk X (.Call (.Name x p) [e] [] pos) (tMkB C f te) := by
  intro pins s σ H Q I h
  obtain ⟨nm, q, N, bs, bm, sn, sub, ab, col, dd, k0, k1, k2, k3, k5, hC, hbm⟩ := T.cls
  refine wpAny_Call_Name_kw (ld_glob I hg hm ?_ hdb)
  have ha : PA X [e] (tCons te tNil) := pa_cons he pa_nil hse
  refine PySem.W.callWith_K (h₀ := X.base) I.ok.mod.kin T.kC (thn (ha.run pos pins s σ H (fun vs H1 => match vs with | [v] => ∀ (dx : Addr) (H2 : Hp), H1 dx = none → Same H1 H2 → H2 dx = some (.xd [(f, v)]) → Q (.ref C) (some dx) H2 | _ => False) I h) fun us s1 ⟨vs, H1, I1, r1, q1⟩ => ⟨I1.kIn, ?_⟩) hse hpl
  match vs, q1 with
  | [v], q1 =>
    show wpAny _ _ (call (.ref C) us) _ _ _
    obtain ⟨hp, g, dr, tk, os⟩ := s1
    have hsz : hp.objs.size ≤ hp.objs.size + 1 := Nat.le_succ _
    have hn : H1 (hp.objs.size + 1) = none := I1.hok.fresh hsz
    have kk : ∀ b o, hp.get? b = some o → ((hp.push (PySem.W.kdv_tup us)).push (PySem.HandSPX.excO C hp.objs.size)).get? b = some o := fun b o e => Heap.get?_push_of_some _ (Heap.get?_push_of_some _ e)
    have hget : ((hp.push (PySem.W.kdv_tup us)).push (PySem.HandSPX.excO C hp.objs.size)).get? (hp.objs.size + 1) = some (PySem.HandSPX.excO C hp.objs.size) := by heap_get
    have I2 : Inv X pins σ (upd H1 (hp.objs.size + 1) (exo (hp.objs.size + 1) C none)) ⟨(hp.push (PySem.W.kdv_tup us)).push (PySem.HandSPX.excO C hp.objs.size), g, dr, tk, os⟩ :=
      I1.laid (t' := tk) (a := hp.objs.size + 1) (o := exo (hp.objs.size + 1) C none) (h' := (hp.push (PySem.W.kdv_tup us)).push (PySem.HandSPX.excO C hp.objs.size)) kk hsz (exo_ok hget)
    have r2 : Vals (V.ref (hp.objs.size + 1) :: [v]) (Value.ref (hp.objs.size + 1) :: us) := .cons rfl r1
    have hl : (Value.ref (hp.objs.size + 1) :: us ++ []).length = (["self", y] : List Str).length := by
      have e := r2.length
      rw [List.append_nil]
      exact e.symm
    have hus : us.length ≤ sizeLine := by
      rw [← Paired.length r1, sizeLine_eq]
      show 1 ≤ _
      omega
    have b2 := hb _ (Value.ref (hp.objs.size + 1) :: us) I2.kIn hl
    rw [List.append_nil] at b2
    have hq : spI X.K C f (V.ref (hp.objs.size + 1) :: [v]) (upd H1 (hp.objs.size + 1) (exo (hp.objs.size + 1) C none)) (fun v' H2 => v' = .non ∧ ∃ (d : Addr) (fs : List (Str × V)), H2 (hp.objs.size + 1) = some (exo (hp.objs.size + 1) C (some d)) ∧ H2 d = some (exd d fs) ∧ H1 d = none ∧ Q (.ref C) (some d) (upd (del H2 (hp.objs.size + 1)) d (.xd fs))) (fun _ _ _ => False) := by
      refine ⟨_, v, rfl, upd_same, fun dx hdx ndx => ⟨rfl, dx, [(f, v)], upd_same, (upd_ne ndx).trans upd_same, ?_, ?_⟩⟩
      · rw [upd_ne ndx] at hdx
        exact hdx
      · rw [upd_ne ndx] at hdx
        refine q1 dx _ hdx (fun b o hbo => ?_) upd_same
        have nbd : b ≠ dx := ne_of_none hbo hdx
        have nba : b ≠ hp.objs.size + 1 := ne_of_none hbo hn
        rw [upd_ne nbd, del_ne nba, upd_ne nba, upd_ne nbd, upd_ne nba]
        exact hbo
    refine wpAny_call (PySem.HandSPX.call_own BF.ex (fun Y => PySem.W.excTail_contains Y bm hbm) (I1.kIn _ _ hC) (PySem.W.looks_findIn I1.kIn iC) (fun self => PySem.W.bind_fn I1.kIn self tI) hus
      (codeAny_mono (F1.run _ X.stack _ _ ⟨Value.ref (hp.objs.size + 1) :: us, []⟩ (Value.ref (hp.objs.size + 1) :: us) _ _ (fun _ _ _ => False) (hr.make C us []) (I2.env0.make C us []) b2 r2 hq) fun r s' hq' => ?_))
    cases r with
    | error er => exact hq'.elim
    | ok fl =>
      cases fl with
      | ret u =>
        obtain ⟨v', H2, os2, bare2, un2, hok2, rv, ev, d, fs, ea, ed, hd1, q2⟩ := hq'
        subst ev
        obtain ⟨h2, g2, d2, t2, os'⟩ := s'
        obtain ⟨t0, G, J, kG, ge, hoe, na⟩ := mk_end0 (d2 := d2) (t2 := t2) I1 hsz kk un2 hok2 os2 bare2 ea ed hd1
        refine ⟨rv, hp.objs.size + 1, _, _, ⟨G, g2, d2, t2, os'⟩, _, .ref C, some d, rfl, J, kG, ge, hoe, ⟨rfl, rfl, fun vs hv => ?_⟩, rfl, rfl, na, rfl, bare2, raises_own T.exC T.tyC, q2⟩
        cases hv
        rfl
      | next => exact False.elim hq'
      | brk => exact False.elim hq'
      | cont => exact False.elim hq'
end VS
namespace VS
open PySem PySem.Spec PySem.Calls PyProof.Rows L2 L2N
variable [TabL]
@[simp] def mRaiseF (cls fld : Str) (ma : M Opd) : MS := M.bind ma fun r sd => match r with
  | .d x => .exc ⟨cls, fld, x⟩ sd
  | .own _ => .stk
theorem s_raiseF {X : Cx} {g : Sg} {F : Fm} {x f y : Str} {e : Expr} {ma : M Opd} {p pos pos' : Pos} {C fI : Addr} {fd : FuncData} {B newId initId : String} {bmB : List Value} (hx : GX X g) (hc : X.calm = true) (BF : BaseF B newId initId bmB) (T : OexB X.K C bmB newId) (iC : PySem.W.findIn X.K (.ref C) "__init__" = some (some (.ref fI))) (tI : PySem.W.typeIn X.K (.ref fI) = some (.type "function"))
    (F1 : FnOk X.prog X.w X.K X.mg X.base CX0 1 fI fd ["self", y] (spI X.K C f)) (hr : Room 2 X.A) (hb : Binds X.K fd ["self", y] []) (hg : Gl X x) (hm : X.mg x = some (.ref C)) (he : PE X e (tD X.K g ma)) (hfn : f ≠ "" := by decide)
    (hdb : (x == ("__debug__" : Str)) = false := by decide) (hse : starEach (e :: []) X.env = (false, eval e X.env) :: starEach [] X.env := by rfl) (hpl : (backTo pos (starEach [] X.env)).any (·.1) = false := by rfl) :
    PS X (.Raise (some (.Call (.Name x p) [e] [] pos)) none pos') (tS X.K g F (mRaiseF x f ma)) := PS_of (L2N.ps_raise hc hx.tk (pmk_oexB BF T iC tI F1 hr hb hg hm he hdb hse hpl)) fun D σ H h => by
  obtain ⟨sd, O, R, h⟩ := h
  refine ⟨sd, O, R.rep, (aft_of R h).mono fun r sd1 H1 _ e1 R1 h1 v hv => ?_⟩
  obtain ⟨R2, h2⟩ := h1
  intro dx H2 hdx sm hxd
  cases r with
  | own j => exact h2.elim
  | d x =>
    have h2 : FinS X.K g F D (.exc ⟨_, f, x⟩ sd1) := h2
    exact h2 (.ref C) (some dx) σ H2 O (R2.step (Ext.same sm) (R2.rep.same sm)) (by
      rw [hx.xr]
      exact ⟨hm, .inr ⟨hfn, dx, v, rfl, hxd, dd_same R2.rep.kind sm hv⟩⟩)
end VS
namespace VS
open PySem PySem.Spec PySem.Calls PyProof.Rows L2 L2N
variable [TabL]
def tb (l : List (Str × Bool)) : Str → Option Bool := fun n => l.lookup n
inductive TbOk (mg : Str → Option Value) (P : Addr → Bool → Prop) : List (Str × Bool) → Prop
  | nil : TbOk mg P []
  | cons {n : Str} {b : Bool} {D : Addr} {l : List (Str × Bool)} (hm : mg n = some (.ref D)) (h : P D b) (r : TbOk mg P l) : TbOk mg P ((n, b) :: l)
theorem TbOk.at {mg : Str → Option Value} {P : Addr → Bool → Prop} {l : List (Str × Bool)} (h : TbOk mg P l) {n : Str} {b : Bool} (e : tb l n = some b) : ∃ D, mg n = some (.ref D) ∧ P D b := by
  induction h with
  | nil => cases e
  | @cons n' b' D l hm h r ih =>
    unfold tb at e
    rw [List.lookup_cons] at e
    split at e
    · rename_i q
      cases e
      rw [beq_iff_eq.mp q]
      exact ⟨D, hm, h⟩
    · exact ih e
theorem TbOk.is {X : Cx} {P : Addr → Bool → Prop} {l : List (Str × Bool)} (h : TbOk X.mg P l) : IsTb X P (tb l) := fun n b e v hv => by
  obtain ⟨D, h1, h2⟩ := h.at e
  rw [hv] at h1
  cases h1
  exact ⟨D, rfl, h2⟩
theorem TbOk.some {mg : Str → Option Value} {P : Addr → Bool → Prop} {l : List (Str × Bool)} (h : TbOk mg P l) (n : Str) (b : Bool) (e : tb l n = some b) : (mg n).isSome = true := by
  obtain ⟨D, h1, h2⟩ := h.at e
  rw [h1]
  rfl
section
variable {X : Cx} {g : Sg} {a : Addr} {oe : Obj} {cls : Value} {d : Option Addr} {i : Nat} {e : Str} {l : List (Str × Bool)}
theorem nm_own {x : Str} {C : Addr} (hg : Gl X x) (hm : X.mg x = some (.ref C)) (hd : (x == ("__debug__" : Str)) = false := by decide) : Names X x (.ref C) := ⟨hg, hd, .inl hm⟩
theorem tn_1 {x : Str} {c : Value} {np : Pos} (hc : Names X x c) (h : TbOk X.mg (fun D b => PySem.W.exmOne X.K (.ref D) c = some b) l) : TstN X (.Name x np) (tb l) := ⟨_, tst_name hc, fun n b e v hv => by
  obtain ⟨D, rfl, q⟩ := h.is n b e v hv
  exact q⟩
end
def excCB (K : PySem.W.Frag) (D : Addr) : Bool := decide (PySem.W.findIn K (.ref D) "__getattribute__" = some (some (.builtin "BaseException.__getattribute__"))) && decide (PySem.W.findIn K (.ref D) "__getattr__" = some none) && decide (PySem.W.subIn K (.ref D) (.type "BaseException") = some true) && PySem.W.hasDictIn K D
  && decide (PySem.W.findIn K (.ref D) "__class__" = some (some (.builtin "object.__class__"))) && decide (PySem.W.specialIn K (.builtin "object.__class__") "__get__" = some (some (.builtin "getset_descriptor.__get__"))) && decide (PySem.W.takesIn K (.builtin "object.__class__") = some true) && decide (PySem.W.mroIn K D (.type "object") = some true)
theorem excCB_ok {K : PySem.W.Frag} {D : Addr} (h : excCB K D = true) : ExcC K D := by
  unfold excCB at h
  simp only [Bool.and_eq_true, decide_eq_true_eq] at h
  obtain ⟨⟨⟨⟨⟨⟨⟨h1, h2⟩, h3⟩, h4⟩, h5⟩, h6⟩, h7⟩, h8⟩ := h
  exact ⟨h1, h2, h3, h4, h5, h6, h7, h8⟩
structure RaT (K : PySem.W.Frag) (C : Addr) (bmB : List Value) (newId : String) : Prop where
  ex : PySem.W.excIn K C bmB newId = true
  kp : PySem.W.keepIn K (.ref C) = true
  sb : PySem.W.subIn K (.ref C) (.type "BaseException") = some true
  ty : PySem.W.typeIn K (.ref C) = some (.type "type")
def raTB (K : PySem.W.Frag) (C : Addr) (bmB : List Value) (newId : String) : Bool := PySem.W.excIn K C bmB newId && PySem.W.keepIn K (.ref C) && decide (PySem.W.subIn K (.ref C) (.type "BaseException") = some true) && decide (PySem.W.typeIn K (.ref C) = some (.type "type"))
theorem raTB_ok {K : PySem.W.Frag} {C : Addr} {bmB : List Value} {newId : String} (h : raTB K C bmB newId = true) : RaT K C bmB newId := by
  unfold raTB at h
  simp only [Bool.and_eq_true, decide_eq_true_eq] at h
  obtain ⟨⟨⟨h1, h2⟩, h3⟩, h4⟩ := h
  exact ⟨h1, h2, h3, h4⟩
def oexB (K : PySem.W.Frag) (C : Addr) (bmB : List Value) (newId : String) : Bool := PySem.W.excInitIn K C bmB newId && PySem.W.hasDictIn K C && decide (PySem.W.findIn K (.ref C) "__setattr__" = some (some (.builtin "object.__setattr__"))) && decide (PySem.W.subIn K (.ref C) (.type "BaseException") = some true) && decide (PySem.W.typeIn K (.ref C) = some (.type "type")) && PySem.W.keepIn K (.ref C)
theorem oexB_ok {K : PySem.W.Frag} {C : Addr} {bmB : List Value} {newId : String} (h : oexB K C bmB newId = true) : OexB K C bmB newId := by
  unfold oexB at h
  simp only [Bool.and_eq_true, decide_eq_true_eq] at h
  obtain ⟨⟨⟨⟨⟨q, h2⟩, h3⟩, h4⟩, h5⟩, h6⟩ := h
  refine ⟨?_, h3, h4, h5, h6⟩
  unfold PySem.W.excInitIn at q
  split at q
  · rename_i dd cd sl ho
    split at q
    · rename_i C' bm k0 k1 k2 k3 n k5 hm hs
      simp only [Bool.and_eq_true, beq_iff_eq, Bool.not_eq_true'] at q
      obtain ⟨⟨⟨rfl, rfl⟩, hdel⟩, ht⟩ := q
      obtain ⟨nm, bs, mro, ns, qn, hd, sn, sub, ab, col, del⟩ := cd
      dsimp only at hm hdel
      subst hm hdel
      have hsl : sl = #[k0, k1, k2, k3, some (.builtin n), k5] := by
        obtain ⟨l⟩ := sl
        simp only at hs
        rw [hs]
      subst hsl
      have hhd : hd = true := by
        unfold PySem.W.hasDictIn at h2
        obtain ⟨cd', h1, h2⟩ := PySem.W.any_some h2
        unfold PySem.W.clsIn at h1
        rw [ho] at h1
        cases h1
        exact h2
      subst hhd
      exact ⟨nm, qn, ns, bs, bm, sn, sub, ab, col, dd, k0, k1, k2, k3, k5, ho, ht⟩
    · cases q
  · cases q
def clsB : Stmt → List Stmt
  | .ClassDef (body := b) .. => b
  | _ => []
def xfB (K : PySem.W.Frag) (C : Addr) (f : Str) : Bool := L2.xfB K C && decide (PySem.W.findIn K (.ref C) f = some none)
theorem xfB_ok {K : PySem.W.Frag} {C : Addr} {f : Str} (h : xfB K C f = true) : XfC K C ∧ PySem.W.findIn K (.ref C) f = some none := by
  unfold xfB at h
  simp only [Bool.and_eq_true, decide_eq_true_eq] at h
  exact ⟨L2.xfB_ok h.1, h.2⟩
abbrev bmVE : List Value := [.type "ValueError", .type "Exception", .type "BaseException", .type "object"]
abbrev bmLE : List Value := [.type "LookupError", .type "Exception", .type "BaseException", .type "object"]
theorem bfVE : BaseF "ValueError" "ValueError.__new__" "ValueError.__init__" bmVE := ⟨F.excBase_ValueError, F.store_ValueError⟩
theorem bfLE : BaseF "LookupError" "LookupError.__new__" "LookupError.__init__" bmLE := ⟨F.excBase_LookupError, F.store_LookupError⟩
theorem roomE {k : Nat} {A : Around} (r : Room k A) (h : Option Value) : L2H.RoomH k (A.mark h) := ⟨r.dp, r.un⟩
theorem roomH_hu {k : Nat} {A : Around} (r : L2H.RoomH k A) : A.units + 64 < cLine := by
  have := r.un
  omega
end VS
namespace VS
open PySem PySem.Spec PyProof.Rows L2
variable [TabL]
def addR (O : Ow) (rg : Addr → Prop) : Ow := ⟨fun q => O.o q ∨ rg q, fun q => O.a q ∨ rg q, fun q => O.c q ∨ rg q⟩
def hidR (O : Ow) (rg : Addr → Prop) : Ow := ⟨O.o, fun q => O.a q ∨ rg q, O.c⟩
def regO (O : Ow) (rg : Addr → Prop) : Ow := ⟨rg, fun q => O.a q ∨ rg q, rg⟩
@[simp] def dpOf : Option (Option Sl) → Option PyData
  | some (some (.dp d)) => some d
  | _ => none
def soleDp (sd : Sd) (i : Nat) : Bool := (sd.set i none).all fun s => (dpOf (some s)).isNone
section
variable {K : PySem.W.Frag} {g : Sg} {F : Fm} {H H' : Hp} {O O' : Ow} {σ : L2.St} {sd sd' : Sd} {D : Ends} {p q : Addr} {rg : Addr → Prop} {vs : List V} {ds : List PyData}
theorem Dcs.length (h : Dcs K H O vs ds) : vs.length = ds.length := by
  induction h with
  | nil => rfl
  | cons _ _ _ _ _ ih => simp [ih]
theorem Dcs.get (h : Dcs K H O vs ds) : ∀ {j : Nat} {d : PyData}, ds[j]? = some d → ∃ q us es, d = .list es ∧ vs[j]? = some (.ref q) ∧ O.o q ∧ O.c q ∧ H q = some (.lst us) ∧ Ds K H O us es := by
  induction h with
  | nil =>
    intro j d e
    simp at e
  | @cons q us vs es ds a b c d r ih =>
    intro j x e
    cases j with
    | zero =>
      simp at e
      exact ⟨q, us, es, e.symm, rfl, a, b, c, d⟩
    | succ j => exact ih (by simpa using e)
theorem Dcs.app {us : List V} {es : List PyData} (h : Dcs K H O vs ds) (h2 : Dcs K H O us es) : Dcs K H O (vs ++ us) (ds ++ es) := by
  induction h with
  | nil => exact h2
  | cons a b c d _ ih => exact .cons a b c d ih
theorem Dcs.put {us : List V} {es : List PyData} (k : Kinds H O) (hq : O.o q) (hu : Ds K H O us es) (h : Dcs K H O vs ds) : ∀ {j : Nat}, vs.Nodup → vs[j]? = some (.ref q) → Dcs K (upd H q (.lst us)) O vs (ds.set j (.list es)) := by
  induction h with
  | nil =>
    intro j _ e
    simp at e
  | @cons q0 us0 vs es0 ds a b c d r ih =>
    intro j nd e
    obtain ⟨n1, n2⟩ := List.nodup_cons.mp nd
    cases j with
    | zero =>
      simp at e
      subst e
      refine .cons a b upd_same (Ds.keep k (Ext.set hq) (fun _ z => .inl z) _ _ hu) (?_ : Dcs K _ O vs ds)
      have : ∀ (vs : List V) (ds : List PyData), Dcs K H O vs ds → V.ref q0 ∉ vs → Dcs K (upd H q0 (.lst us)) O vs ds := fun vs ds h => by
        induction h with
        | nil => exact fun _ => .nil
        | @cons q1 us1 vs es1 ds a1 b1 c1 d1 _ ih1 =>
          intro nm
          rw [List.mem_cons, not_or] at nm
          exact .cons a1 b1 (by rw [upd_ne fun e => nm.1 (by rw [e])]; exact c1) (Ds.keep k (Ext.set hq) (fun _ z => .inl z) _ _ d1) (ih1 nm.2)
      exact this vs ds r n1
    | succ j =>
      have e' : vs[j]? = some (.ref q) := by simpa using e
      have ne : q0 ≠ q := fun z => n1 (z ▸ List.mem_of_getElem? e')
      exact .cons a b (by rw [upd_ne ne]; exact c) (Ds.keep k (Ext.set hq) (fun _ z => .inl z) _ _ d) (ih n2 e')
@[simp] def dpAtD : PyData → PyData → Option (Nat × List PyData)
  | .dict es, k => if (keyOf k).isSome then (match es.findIdx? fun e => keyEq e.1 k with
    | some j => (match es[j]? with
      | some (_, .list xs) => some (j, xs)
      | _ => none)
    | none => none) else none
  | _, _ => none
@[simp] def dpAtL : PyData → PyData → Option (Nat × List PyData)
  | .list ds, .int n => (match ixN ds.length n with
    | some j => (match ds[j]? with
      | some (.list xs) => some (j, xs)
      | _ => none)
    | none => none)
  | _, _ => none
@[simp] def dpPut : PyData → Nat → List PyData → PyData
  | .dict es, j, xs => (match es[j]? with
    | some (c, _) => .dict (es.set j (c, .list xs))
    | none => .dict es)
  | .list ds, j, xs => .list (ds.set j (.list xs))
  | d, _, _ => d
@[simp] def putDp (i : Nat) (d : PyData) : M Unit := fun sd => .ok () (sd.set i (some (.dp d)))
@[simp] def mDpIn (i : Nat) (d : PyData) (at_ : PyData → PyData → Option (Nat × List PyData)) (mk : M Opd) (f : List PyData → List PyData → Option (List PyData × PyData)) (mas : M (List Opd)) : M Opd :=
  M.bind mk fun y => M.bind (getM y) fun k => M.bind (M.of (at_ d k)) fun a => M.bind mas fun rs => M.bind (M.of (datsO rs)) fun ds => M.bind (M.of (f a.2 ds)) fun r => M.bind (putDp i (dpPut d a.1 r.1)) fun _ => M.ret (.d r.2)
@[simp] def mDpM (i : Nat) (at_ : PyData → PyData → Option (Nat × List PyData)) (mk : M Opd) (f : List PyData → List PyData → Option (List PyData × PyData)) (mas : M (List Opd)) : M Opd := fun sd => match dpOf sd[i]? with
  | some d => if soleDp sd i then mDpIn i d at_ mk f mas (sd.set i none) else .stk
  | none => .stk
end
end VS
namespace VS
open PySem PySem.Spec PyProof.Rows L2
variable [TabL]
section
variable {K : PySem.W.Frag} {g : Sg} {F : Fm} {H H' : Hp} {O O' : Ow} {σ : L2.St} {sd sd' : Sd} {D : Ends} {p q : Addr} {rg : Addr → Prop} {vs : List V} {ds : List PyData} {Q : VK}
@[simp] def mSetP (i : Nat) (m : M PyData) : MS := M.bind m fun d => M.bind (putS i (.dp d)) fun _ => sNx
@[simp] def mFzP (md : List Bool) (i : Nat) (m : MS) : MS := fun sd => match sd[i]? with
  | some (some (.dp d)) => if ioOk md sd && soleDp sd i then m (sd.set i (some (.dat d))) else .stk
  | some (some (.dat _)) => m sd
  | _ => .stk
end
end VS
namespace VS
open PySem PySem.Spec PyProof.Rows L2
variable [TabL]
section
variable {K : PySem.W.Frag} {g g' : Sg} {F : Fm} {H H' H1 : Hp} {O O' : Ow} {σ : L2.St} {sd sd' : Sd} {D : Ends} {p q : Addr} {rg : Addr → Prop} {vs : List V} {ds : List PyData} {Q : VK}
theorem Dcs.mem (h : Dcs K H O vs ds) {v : V} (hv : v ∈ vs) : ∃ q us, v = .ref q ∧ H q = some (.lst us) ∧ O.c q := by
  induction h with
  | nil => cases hv
  | cons a b c d _ ih =>
    rcases List.mem_cons.mp hv with rfl | hv
    · exact ⟨_, _, rfl, c, b⟩
    · exact ih hv
structure AtP (K : PySem.W.Frag) (O : Ow) (H1 : Hp) (p : Addr) (σ : L2.St) (H : Hp) (sd : Sd) (rg : Addr → Prop) (vs : List V) (ds : List PyData) : Prop where
  at_ : rg p
  nw : ∀ q, rg q → H1 q = none
  rep : Rep K H (hidR O rg) σ sd
  ext : Ext O H1 H
  dcs : Dcs K H (regO O rg) vs ds
  nd : (V.ref p :: vs).Nodup
theorem dcs_grow {rg' : Addr → Prop} (k1 : Kinds H1 O) (nw : ∀ q, rg q → H1 q = none) (k : Kinds H (hidR O rg)) (e : Ext (hidR O rg) H H') (hs : ∀ q, rg q → rg' q) (hr : ∀ q, rg' q → rg q ∨ H q = none) (st : ∀ q, rg q → V.ref q ∈ vs → H' q = H q) (h : Dcs K H (regO O rg) vs ds) : Dcs K H' (regO O rg') vs ds := by
  have kW : Kinds H ⟨fun q => O.a q ∨ rg q, fun q => O.a q ∨ rg q, rg⟩ := ⟨fun _ z => z, k.kd, fun _ z => .inr z, k.tb⟩
  have eW : Ext ⟨fun q => O.a q ∨ rg q, fun q => O.a q ∨ rg q, rg⟩ H H' := e.weak fun q z => .inl (by
    have := k.sub q z
    rcases this with y | y
    · exact y
    · exact absurd z (k1.newo (nw q y)))
  induction h with
  | nil => exact .nil
  | @cons q us vs es ds a b c d _ ih =>
    refine .cons (hs _ a) (hs _ b) ((st q a List.mem_cons_self).trans c) (Ds.keep kW eW (fun x z => ?_) _ _ (Ds.less (O := regO O rg) (O' := ⟨fun q => O.a q ∨ rg q, fun q => O.a q ∨ rg q, rg⟩) (fun _ z => z) _ _ d)) (ih fun x z m => st x z (List.mem_cons_of_mem _ m))
    rcases z with z | z
    · exact .inl (.inl z)
    · exact (hr x z).elim (fun z => .inl (.inr z)) .inr
theorem AtP.add {us : List V} {es : List PyData} (A : AtP K O H1 p σ H sd rg vs ds) (k1 : Kinds H1 O) (e : Ext (hidR O rg) H H') (hq : H q = none) (R : Rep K H' (hidR O fun x => rg x ∨ x = q) σ sd') (hu : H' q = some (.lst us)) (hd : Ds K H' (regO O fun x => rg x ∨ x = q) us es) :
    AtP K O H1 p σ H' sd' (fun x => rg x ∨ x = q) (vs ++ [.ref q]) (ds ++ [.list es]) where
  at_ := .inl A.at_
  nw := fun x z => by
    rcases z with z | rfl
    · exact A.nw x z
    · exact A.ext.fresh hq
  rep := R
  ext := A.ext.trans (e.less (O := O) (O' := hidR O rg) (fun _ z => .inl z) fun _ z => .inl (.inl z))
  dcs := by
    refine (dcs_grow k1 A.nw A.rep.kind e (fun _ z => .inl z) (fun x z => ?_) (fun x z m => ?_) A.dcs).app (.cons (.inr rfl) (.inr rfl) hu hd .nil)
    · rcases z with z | rfl
      · exact .inl z
      · exact .inr hq
    · obtain ⟨o, h, ok⟩ := A.rep.kind.kd x (.inr z)
      rw [h]
      exact e.atA h (k1.newo (A.nw x z)) (wr_own ok).1 (.inr z)
  nd := by
    have np : V.ref q ≠ V.ref p := fun z => by
      cases z
      obtain ⟨o, h, _⟩ := A.rep.kind.kd p (.inr A.at_)
      rw [hq] at h
      cases h
    have nv : V.ref q ∉ vs := fun m => by
      obtain ⟨x, us, z, h, _⟩ := A.dcs.mem m
      cases z
      rw [hq] at h
      cases h
    obtain ⟨n1, n2⟩ := List.nodup_cons.mp A.nd
    rw [List.nodup_cons, List.mem_append, not_or, List.nodup_append]
    exact ⟨⟨n1, by simpa using Ne.symm np⟩, n2, by simp, fun a ha b hb => by
      rw [List.mem_singleton] at hb
      subst hb
      exact fun z => nv (z ▸ ha)⟩
theorem AtP.set {o : HO} (A : AtP K O H1 p σ H sd rg vs ds) (k1 : Kinds H1 O) (ho : OwnK o) : AtP K O H1 p σ (upd H p o) sd rg vs ds := by
  have kp : Kinds H (addR O rg) := ⟨fun q z => z.elim (fun z => A.rep.kind.sub q z) .inr, A.rep.kind.kd, fun q z => z.elim (fun z => .inl (A.rep.kind.cs q z)) .inr, A.rep.kind.tb⟩
  have no : ∀ q, rg q → ¬ O.o q := fun q z => k1.newo (A.nw q z)
  have ex : Ext (addR O rg) H (upd H p o) := Ext.set (.inr A.at_)
  refine ⟨A.at_, A.nw, ⟨A.rep.len, fun i s h => ?_, A.rep.inj, ⟨A.rep.kind.sub, (kinds_set kp (.inr A.at_) ho).kd, A.rep.kind.cs, (kinds_set kp (.inr A.at_) ho).tb⟩⟩, fun b u hb => ?_, ?_, A.nd⟩
  · obtain ⟨v, a, b⟩ := A.rep.slot i s h
    refine ⟨v, a, ?_⟩
    cases s with
    | dat d => exact Dd.keep (O' := hidR O rg) kp ex (fun _ z => .inl z) d v (Dd.same (O1 := hidR O rg) (O2 := addR O rg) rfl b)
    | nd d => exact NdR.keep (O' := hidR O rg) kp ex (fun _ z => .inl z) (NdR.same (O1 := hidR O rg) (O2 := addR O rg) rfl b)
    | own d =>
      obtain ⟨q, e, c1, c2⟩ := b
      exact ⟨q, e, c1, OwnR.same (O1 := addR O rg) (O2 := hidR O rg) rfl (own_other kp (.inr A.at_) (fun z => no p A.at_ (z ▸ c1.1)) (OwnR.same (O1 := hidR O rg) (O2 := addR O rg) rfl c2))⟩
    | dp d =>
      obtain ⟨q, e, b⟩ := b
      refine ⟨q, e, ?_⟩
      have b' : DpR K H ⟨O.o, fun q => O.a q ∨ rg q, O.c⟩ q d := b
      exact DpR.keep (O := ⟨fun q => O.o q ∨ rg q, fun q => O.a q ∨ rg q, O.c⟩) (O' := hidR O rg) ⟨kp.sub, kp.kd, fun q z => .inl (A.rep.kind.cs q z), kp.tb⟩ (ex.weak fun _ z => z) (fun _ z => .inl z) (fun q z c => A.rep.kind.cs q c) (fun _ z => z) (fun q _ c => upd_ne fun z => no p A.at_ (z ▸ A.rep.kind.cs q c)) (DpR.less (O := hidR O rg) (O' := ⟨fun q => O.o q ∨ rg q, fun q => O.a q ∨ rg q, O.c⟩) (fun _ z => z) (fun _ z _ => .inl z) (fun _ _ z => z) b')
    | exn xi x => exact ⟨b.1, XF.keep (O := addR O rg) (O' := hidR O rg) kp ex (fun _ z => .inl z) (XF.less (O := hidR O rg) (O' := addR O rg) (fun _ z => z) b.2)⟩
  · have nb : b ≠ p := fun z => by
      rw [z, A.nw p A.at_] at hb
      cases hb
    obtain ⟨h1, u1, e1⟩ := A.ext b u hb
    have q : upd H p o b = H b := upd_ne nb
    exact ⟨fun no nt => by
      have k := h1 no nt
      unfold Kept at k ⊢
      rw [q]
      exact k, u1, by rw [q]; exact e1⟩
  · obtain ⟨n1, n2⟩ := List.nodup_cons.mp A.nd
    have := A.dcs
    have go : ∀ (vs : List V) (ds : List PyData), V.ref p ∉ vs → Dcs K H (regO O rg) vs ds → Dcs K (upd H p o) (regO O rg) vs ds := fun vs ds n h => by
      induction h with
      | nil => exact .nil
      | cons a b c d _ ih =>
        rw [List.mem_cons, not_or] at n
        refine .cons a b (by rw [upd_ne fun z => n.1 (by rw [z])]; exact c) ?_ (ih n.2)
        exact Ds.same (O1 := addR O rg) (O2 := regO O rg) rfl (Ds.keep kp ex (fun _ z => .inl z) _ _ (Ds.same (O1 := regO O rg) (O2 := addR O rg) rfl d))
    exact go vs ds n1 this
theorem AtP.new {o : HO} (R : Rep K H O σ sd) (hp : H p = none) (ho : OwnK o) : AtP K O H p σ (upd H p o) sd (fun q => q = p) [] [] :=
  ⟨rfl, fun q z => z ▸ hp, R.hidNew hp ho, Ext.new hp, .nil, by simp⟩
end
section
variable {X : Cx} {g g' : Sg} {F : Fm}
@[simp] def mDisp (ks : List PyData) : M PyData := M.ret (.dict (ks.map fun k => (k, .list [])))
end
end VS
namespace VS
open PySem PySem.Spec PyProof.Rows L2
variable [TabL]
def stepP (vs : List Nat) (t : Tg) (mt : M Bool) (mk : M Opd) (mv : M PyData) (x : PyData) (acc : List (PyData × PyData)) : M (List (PyData × PyData)) := fun sd => match binds t x with
  | none => .stk
  | some bs => match mt (setsD (wipeD sd vs) bs) with
    | .ok false s1 => .ok acc s1
    | .ok true s1 => match mk s1 with
      | .ok (.d k) s2 => match mv s2 with
        | .ok (.list ds) s3 => if (keyOf k).isSome && decide (acc.length < sizeLine) && !(acc.any fun e => keyEq e.1 k) then .ok (acc ++ [(k, .list ds)]) s3 else .stk
        | _ => .stk
      | _ => .stk
    | _ => .stk
@[simp] noncomputable def mDcP (ms : M Src) (t : Tg) (mt : M Bool) (mk : M Opd) (mv : M PyData) (vs : List Nat) : M PyData := M.bind ms fun s => loopE s.gd vs (stepP vs t mt mk mv) s.xs []
section
variable {K : PySem.W.Frag} {g g' : Sg} {H H' H1 : Hp} {O : Ow} {σ σ2 : L2.St} {sd sd' : Sd} {p q : Addr} {rg : Addr → Prop} {us : List V} {ds : List PyData} {Q : VK}
theorem AtP.step (A : AtP K O H1 p σ H sd rg us ds) (k1 : Kinds H1 O) (e : Ext (hidR O rg) H H') (R : Rep K H' (hidR O rg) σ2 sd') : AtP K O H1 p σ2 H' sd' rg us ds where
  at_ := A.at_
  nw := A.nw
  rep := R
  ext := A.ext.trans (e.less (O := O) (O' := hidR O rg) (fun _ z => .inl z) fun _ z => .inl (.inl z))
  dcs := dcs_grow k1 A.nw A.rep.kind e (fun _ z => z) (fun _ z => .inl z) (fun x z _ => by
    obtain ⟨o, h, ok⟩ := A.rep.kind.kd x (.inr z)
    rw [h]
    exact e.atA h (k1.newo (A.nw x z)) (wr_own ok).1 (.inr z)) A.dcs
  nd := A.nd
end
end VS
namespace VS
open PySem PySem.Spec PyProof.Rows L2
variable [TabL]
section
variable {X : Cx} {g : Sg} {F : Fm}
@[simp] def mPutKD (i : Nat) (mi : M Opd) (d : PyData) (k : MS) : MS := M.bind (ownDct i) fun _ => M.bind mi fun y => M.bind (getM y) fun e => M.bind (ownDct i) fun es => if (keyOf e).isSome && decide (es.length < sizeLine) then M.bind (putDct i (putE es e d)) fun _ => k else M.stk
@[simp] def mSwapD (i : Nat) (mi mj : M Opd) (ma : M Opd) : MS := M.bind ma fun r => M.bind (M.of (pairO r)) fun p => mPutKD i mi p.1 (mPutKD i mj p.2 sNx)
end
section
variable {X : Cx} {g : Sg} {F : Fm}
@[simp] def mApp (mas : M (List Opd)) (ds : List PyData) : M (List Opd) := M.bind mas fun rs => M.ret (rs ++ ds.map Opd.d)
end
end VS
namespace VS
open PySem PySem.Spec PyProof.Rows L2
end VS
namespace VS
open PySem PySem.Spec PySem.Calls PyProof.Rows L2 L2N
variable [TabL]
theorem FnE.mono {P : Program} {w : World} {K : PySem.W.Frag} {mg : Str → Option Value} {base : Heap} {j k : Nat} {f : Addr} {fd : FuncData} {ps : List Str} {sp : XI → Hp → VK → Prop} (G : FnE P w K mg base j f fd ps sp) (h : j ≤ k) : FnE P w K mg base k f fd ps sp :=
  ⟨fun A outer s H args p cls d Q hG hr => G.run A outer s H args p cls d Q hG (hr.mono h)⟩
section
variable {X : Cx} {g : Sg} {a : Addr} {oe : Obj} {cls : Value} {d : Option Addr} {i : Nat} {e : Str} {l : List (Str × Bool)}
theorem d_isEb {ce : Expr} {cv : Value} {p p1 pos : Pos} (hp : (a, oe) ∈ X.pn) (hz : Zn cls d oe) (hf : ∃ vs, oe.data = .fields vs) (hN : X.N[i]? = some e) (hv : Vis X.env.scope e) (hg : Gl X "isinstance") (hm : X.mg "isinstance" = none) (hc : ClsE X ce cv)
    (tbl : TbOk X.mg (fun D b => ExcC X.K D ∧ PySem.W.kitOne X.K (.ref D) cv = some b) l) (hd1 : (e == ("__debug__" : Str)) = false := by decide) (hd2 : (e == ("__classdict__" : Str)) = false := by decide)
    (h1 : starEach (.Name e p1 :: [ce]) X.env = (false, eval (.Name e p1) X.env) :: starEach [ce] X.env := by rfl) (h2 : starEach [ce] X.env = (false, eval ce X.env) :: starEach [] X.env := by rfl) (h3 : (backTo pos (starEach [ce] X.env)).any (·.1) = false := by rfl) :
    PE X (.Call (.Name "isinstance" p) [.Name e p1, ce] [] pos) (tD X.K g (mIsE (cT X) ⟨a, cls, d⟩ i (tb l))) := d_isE hp hz hf hN hv hg hm hc tbl.is tbl.some hd1 hd2 (by decide +kernel) h1 h2 h3
theorem d_isETb {ces : List Expr} {cvs : List Value} {p p1 pos pos2 : Pos} {x1} (hp : (a, oe) ∈ X.pn) (hz : Zn cls d oe) (hf : ∃ vs, oe.data = .fields vs) (hN : X.N[i]? = some e) (hv : Vis X.env.scope e) (hg : Gl X "isinstance") (hm : X.mg "isinstance" = none) (hc : ClsEs X ces cvs)
    (tbl : TbOk X.mg (fun D b => ExcC X.K D ∧ PySem.W.kitAny X.K (.ref D) cvs = some b) l) (hd1 : (e == ("__debug__" : Str)) = false := by decide) (hd2 : (e == ("__classdict__" : Str)) = false := by decide)
    (h1 : starEach (.Name e p1 :: [.Tuple ces x1 pos2]) X.env = (false, eval (.Name e p1) X.env) :: starEach [.Tuple ces x1 pos2] X.env := by rfl) (h2 : starEach [.Tuple ces x1 pos2] X.env = (false, eval (.Tuple ces x1 pos2) X.env) :: starEach [] X.env := by rfl) (h3 : (backTo pos (starEach [.Tuple ces x1 pos2] X.env)).any (·.1) = false := by rfl) :
    PE X (.Call (.Name "isinstance" p) [.Name e p1, .Tuple ces x1 pos2] [] pos) (tD X.K g (mIsE (cT X) ⟨a, cls, d⟩ i (tb l))) := d_isET hp hz hf hN hv hg hm hc tbl.is tbl.some hd1 hd2 (by decide +kernel) h1 h2 h3
theorem d_xfb {f : Str} {p1 pos : Pos} (hp : (a, oe) ∈ X.pn) (hz : Zn cls d oe) (hf : ∃ vs, oe.data = .fields vs) (hN : X.N[i]? = some e) (hv : Vis X.env.scope e) (tbl : TbOk X.mg (fun D _ => XfC X.K D ∧ PySem.W.findIn X.K (.ref D) f = some none) l)
    (hd1 : (e == ("__debug__" : Str)) = false := by decide) (hd2 : (e == ("__classdict__" : Str)) = false := by decide) (hb : attributeBase (.Name e p1) f X.env (eval (.Name e p1) X.env) = eval (.Name e p1) X.env := by rfl) :
    PE X (.Attribute (.Name e p1) f pos) (tD X.K g (mXf (cT X) ⟨a, cls, d⟩ i f (tb l))) := d_xf hp hz hf hN hv tbl.is tbl.some hd1 hd2 hb
end
def cntD (ds : List PyData) : PyData → Option PyData
  | .bool b => match boolsOf ds with
    | some bs => some (.int (bs.count b : Nat))
    | none => none
  | _ => none
def indexB (ds : List PyData) : PyData → Option PyData
  | .bool b => match boolsOf ds with
    | some bs => (bs.findIdx? (· == b)).map fun j => .int (j : Nat)
    | none => none
  | d => indexD ds d
section
variable {X : Cx} {g : Sg}
def rCntF (K : PySem.W.Frag) : V → List V → Hp → VK → Prop := fun x xs H Q => ∃ (p : Addr) (ys : List V) (y : V), x = .ref p ∧ xs = [y] ∧ SqL K H p ys ∧ flatV y = true ∧ ys.all flatV = true ∧ Q (.int (ys.countP (fun z => eqV z y) : Nat)) H
theorem countP_eqU {x : V} : ∀ {ys : List V} {us : List Value}, Vals ys us → ys.all flatV = true → us.countP (eqU x) = ys.countP fun z => eqV z x
  | _, _, .nil, _ => rfl
  | y :: ys, u :: us, .cons r t, f => by
    rw [List.all_cons, Bool.and_eq_true] at f
    rw [List.countP_cons, List.countP_cons, countP_eqU t f.2, eqU_of r f.1]
theorem mt_countF : MtR X "list.count" (rCntF X.K) := by
  intro pins s σ H x xs v us Q I rx rxs h
  obtain ⟨p, ys, y, rfl, rfl, hs, fy, fys, q⟩ := h
  cases rx
  cases rxs with
  | cons ry rt =>
    rename_i uy ut
    cases rt
    obtain ⟨its, rv, ⟨⟨cls, dd, data, sl⟩, n, ho, hc, hdn, hd⟩, hlen⟩ := I.list hs
    simp only at hc hd
    subst hc hd
    refine call_meets PySem.F.slot_list_count ⟨_, ho, rfl⟩ PySem.F.entry_list_count (PySem.F.args_list_count_2 _ _)
      (SeqAt.list_countAt p its.toArray n dd sl uy (eqU y)) ⟨ho, fun u' hu' => mem_eqAt ry fy rv fys u' (by simpa using hu'), ?_⟩
    have ec : its.toArray.toList.countP (eqU y) = ys.countP fun z => eqV z y := countP_eqU rv fys
    refine ⟨.int (ys.countP (fun z => eqV z y) : Nat), H, I.tok _, ⟨s.toks, ?_⟩, q⟩
    show Value.int ((its.toArray.toList.countP (eqU y) : Nat) : Int) s.toks = Value.int ((ys.countP (fun z => eqV z y) : Nat) : Int) s.toks
    rw [ec]
theorem ds_bools {K : PySem.W.Frag} {H : Hp} {O : Ow} : ∀ {bs : List Bool} {vs : List V}, Ds K H O vs (bs.map .bool) → vs = bs.map V.bl
  | [], _, h => by cases h; rfl
  | b :: bs, _, h => by
    cases h with
    | cons h1 h2 =>
      cases h1
      rw [ds_bools h2]
      rfl
theorem boolsOf_some : ∀ {ds : List PyData} {bs : List Bool}, boolsOf ds = some bs → ds = bs.map .bool
  | [], bs, h => by cases h; rfl
  | d :: ds, bs, h => by
    unfold boolsOf at h
    cases d with
    | bool b =>
      simp only [] at h
      obtain ⟨cs, h1, rfl⟩ := Option.map_eq_some_iff.mp h
      rw [boolsOf_some h1]
      rfl
    | _ => simp only [] at h; cases h
@[simp] def mCntB (ma : M Opd) (b : Bool) : M Opd := M.bind ma fun r => M.bind (getM r) fun d => match d with
  | .list ds => M.bind (M.of (cntD ds (.bool b))) fun z => M.ret (.d z)
  | _ => M.stk
@[simp] def mIdxB (ma : M Opd) (b : Bool) : M Opd := M.bind ma fun r => M.bind (getM r) fun d => match d with
  | .list ds => M.bind (M.of (indexB ds (.bool b))) fun z => M.ret (.d z)
  | _ => M.stk
theorem flat_bools (bs : List Bool) : (bs.map V.bl).all flatV = true := by
  rw [List.all_eq_true]
  intro x hx
  obtain ⟨b, _, rfl⟩ := List.mem_map.mp hx
  rfl
theorem cntB_of {K : PySem.W.Frag} {ma : M Opd} {b : Bool} {σ : L2.St} {H : Hp} {Q : VK} (h : tD K g (mCntB ma b) σ H Q) : tBM K "list" (rCntF K) (tD K g ma) (tCons (tC (.bl b)) tNil) σ H Q := by
  obtain ⟨sd, O, R, a⟩ := h
  unfold mCntB at a
  refine ⟨sd, O, R, a.bind.mono fun r sd1 H1 _ e1 R1 h1 v hv => ?_⟩
  obtain ⟨d, g1, h2⟩ := h1.get
  cases d with
  | list ds =>
    obtain ⟨z, g2, h3⟩ := h2.of
    obtain ⟨p, vs, rfl, r1, r2⟩ := (hv.arg R1 g1).list
    refine ⟨.inl ⟨rfl, vs, r1.sq⟩, ?_⟩
    unfold cntD at g2
    simp only [] at g2
    cases eb : boolsOf ds with
    | none =>
      rw [eb] at g2
      cases g2
    | some bs =>
      rw [eb] at g2
      cases g2
      rw [boolsOf_some eb] at r2
      have ev := ds_bools r2
      subst ev
      have ec : (bs.map V.bl).countP (fun z => eqV z (.bl b)) = bs.count b := by
        rw [List.countP_map]
        rfl
      show rCntF K (.ref p) [.bl b] H1 Q
      exact ⟨p, bs.map V.bl, .bl b, rfl, rfl, r1.sq, rfl, flat_bools bs, by rw [ec]; exact h3.now R1 _ (.int _)⟩
  | _ => exact h2.elim
theorem idxB_of {K : PySem.W.Frag} {ma : M Opd} {b : Bool} {σ : L2.St} {H : Hp} {Q : VK} (h : tD K g (mIdxB ma b) σ H Q) : tBM K "list" (rIndex K) (tD K g ma) (tCons (tC (.bl b)) tNil) σ H Q := by
  obtain ⟨sd, O, R, a⟩ := h
  unfold mIdxB at a
  refine ⟨sd, O, R, a.bind.mono fun r sd1 H1 _ e1 R1 h1 v hv => ?_⟩
  obtain ⟨d, g1, h2⟩ := h1.get
  cases d with
  | list ds =>
    obtain ⟨z, g2, h3⟩ := h2.of
    obtain ⟨p, vs, rfl, r1, r2⟩ := (hv.arg R1 g1).list
    refine ⟨.inl ⟨rfl, vs, r1.sq⟩, ?_⟩
    unfold indexB at g2
    simp only [] at g2
    cases eb : boolsOf ds with
    | none =>
      rw [eb] at g2
      cases g2
    | some bs =>
      rw [eb] at g2
      simp only [] at g2
      obtain ⟨j, hj, rfl⟩ := Option.map_eq_some_iff.mp g2
      rw [boolsOf_some eb] at r2
      have ev := ds_bools r2
      subst ev
      obtain ⟨hl, h4, h5⟩ := List.findIdx?_eq_some_iff_getElem.mp hj
      show rIndex K (.ref p) [.bl b] H1 Q
      refine ⟨p, bs.map V.bl, .bl b, j, .bl bs[j], rfl, rfl, r1.sq, rfl, flat_bools bs, by rw [List.getElem?_map, List.getElem?_eq_getElem hl]; rfl, h4, fun m z' hm hz => ?_, h3.now R1 _ (.int _)⟩
      rw [List.getElem?_map, List.getElem?_eq_getElem (by omega)] at hz
      cases hz
      have := h5 m hm
      simpa [eqV] using this
  | _ => exact h2.elim
variable {x : Str} {ma : M Opd} {b : Bool} {kk : Nat} {p p2 apos cpos : Pos}
theorem m_cntB (hx : PE X (.Name x p) (tD X.K g ma)) (hbase : attributeBase (.Name x p) "count" X.env (eval (.Name x p) X.env) = eval (.Name x p) X.env := by rfl)
    (hfew : ((backTo cpos (starEach (.Constant (.bool b) kk p2 :: []) X.env)).all (fun x => !x.1) && (backToKw cpos (keywordEach [] X.env)).all (fun x => x.1.isSome) && decide ((Expr.Constant (.bool b) kk p2 :: ([] : List Expr)).length + ([] : List Keyword).length + (if ([] : List Keyword).isEmpty then 0 else 1) < 30)) = true := by rfl)
    (hline : (apos.endLine == cpos.line) = true := by rfl) (hs : starEach (.Constant (.bool b) kk p2 :: []) X.env = (false, eval (.Constant (.bool b) kk p2) X.env) :: starEach [] X.env := by rfl) (hpl : (backTo cpos (starEach [] X.env)).any (·.1) = false := by rfl) :
    PE X (.Call (.Attribute (.Name x p) "count" apos) [.Constant (.bool b) kk p2] [] cpos) (tD X.K g (mCntB ma b)) :=
  PE_of (pe_bm PySem.F.plainAttrs_list PySem.F.slot_list_count PySem.F.type_list_count mt_countF hx (pa_cons pe_bl pa_nil hs) hbase hfew hline hs hpl) fun _ _ _ h => cntB_of h
theorem m_idxB (hx : PE X (.Name x p) (tD X.K g ma)) (hbase : attributeBase (.Name x p) "index" X.env (eval (.Name x p) X.env) = eval (.Name x p) X.env := by rfl)
    (hfew : ((backTo cpos (starEach (.Constant (.bool b) kk p2 :: []) X.env)).all (fun x => !x.1) && (backToKw cpos (keywordEach [] X.env)).all (fun x => x.1.isSome) && decide ((Expr.Constant (.bool b) kk p2 :: ([] : List Expr)).length + ([] : List Keyword).length + (if ([] : List Keyword).isEmpty then 0 else 1) < 30)) = true := by rfl)
    (hline : (apos.endLine == cpos.line) = true := by rfl) (hs : starEach (.Constant (.bool b) kk p2 :: []) X.env = (false, eval (.Constant (.bool b) kk p2) X.env) :: starEach [] X.env := by rfl) (hpl : (backTo cpos (starEach [] X.env)).any (·.1) = false := by rfl) :
    PE X (.Call (.Attribute (.Name x p) "index" apos) [.Constant (.bool b) kk p2] [] cpos) (tD X.K g (mIdxB ma b)) :=
  PE_of (pe_bm PySem.F.plainAttrs_list PySem.F.slot_list_index PySem.F.type_list_index mt_index hx (pa_cons pe_bl pa_nil hs) hbase hfew hline hs hpl) fun _ _ _ h => idxB_of h
end
end VS
namespace VS
open PySem PySem.Spec PySem.Calls PyProof.Rows L2 L2N
variable [TabL]
section
variable {X : Cx} {g : Sg} {F : Fm}
@[simp] def mAugN (i : Nat) (me : M Opd) : MS := M.bind (mVar i) fun r => M.bind (getM r) fun d => match d with
  | .int a => M.bind me fun r2 => M.bind (getM r2) fun e => (match e with
    | .int b => M.bind (mPut i (.d (.int (a + b)))) fun _ => sNx
    | _ => M.stk)
  | _ => M.stk
@[simp] def remF : List PyData → List PyData → Option (List PyData × PyData)
  | xs, [.int k] => match intsOf xs with
    | some ns => (ns.findIdx? (· == k)).map fun j => (xs.eraseIdx j, .none)
    | none => none
  | _, _ => none
theorem erase_map {α β : Type} (f : α → β) : ∀ (xs : List α) (j : Nat), (xs.eraseIdx j).map f = (xs.map f).eraseIdx j
  | [], _ => rfl
  | _ :: _, 0 => rfl
  | x :: xs, j + 1 => by
    show f x :: (xs.eraseIdx j).map f = f x :: (xs.map f).eraseIdx j
    rw [erase_map f xs j]
theorem rem_mut {K : PySem.W.Frag} : MutR K remF rRemI := fun H O p vs us xs ds xs' z Q k hp hv hu hf q => by
  unfold remF at hf
  split at hf
  · split at hf
    · rename_i n _ ns en
      obtain ⟨j, g3, e⟩ := Option.map_eq_some_iff.mp hf
      cases e
      obtain ⟨hj, hb, hn⟩ := List.findIdx?_eq_some_iff_getElem.mp g3
      cases hu with
      | cons h1 h2 =>
        cases h2
        cases h1
        have ex := intsOf_some en
        have hv' := hv
        rw [ex] at hv'
        have ev := ds_ints' hv'
        refine ⟨p, ns, n, j, rfl, rfl, by rw [hp, ev], ?_, fun m hm e => ?_, ?_⟩
        · rw [List.getElem?_eq_getElem hj]
          have : ns[j] = n := by simpa using hb
          rw [this]
        · have hm' := hn m hm
          have := (List.getElem?_eq_some_iff.mp e).2
          rw [this] at hm'
          simp at hm'
        · rw [show (ns.eraseIdx j).map V.int = vs.eraseIdx j by rw [ev, erase_map]]
          exact q _ _ (hv.erase j) .non
    · cases hf
  · cases hf
theorem m_remove (hc : X.calm = true) {i : Nat} {x : Str} {e : Expr} {me : M Opd} {p apos cpos : Pos} (hx : PE X (.Name x p) (tVar i)) (he : PE X e (tD X.K g me)) (hbase : attributeBase (.Name x p) "remove" X.env (eval (.Name x p) X.env) = eval (.Name x p) X.env := by rfl)
    (hfew : ((backTo cpos (starEach (e :: []) X.env)).all (fun x => !x.1) && (backToKw cpos (keywordEach [] X.env)).all (fun x => x.1.isSome) && decide ((e :: ([] : List Expr)).length + ([] : List Keyword).length + (if ([] : List Keyword).isEmpty then 0 else 1) < 30)) = true := by rfl)
    (hline : (apos.endLine == cpos.line) = true := by rfl) (hs : starEach (e :: []) X.env = (false, eval e X.env) :: starEach [] X.env := by rfl) (hpl : (backTo cpos (starEach [] X.env)).any (·.1) = false := by rfl) :
    PE X (.Call (.Attribute (.Name x p) "remove" apos) [e] [] cpos) (tD X.K g (mMut i remF (mCons me mNil))) :=
  PE_of (pe_bm PySem.F.plainAttrs_list PySem.F.slot_list_remove PySem.F.type_list_remove mt_remove hx (a_cons he a_nil hs) hbase hfew hline hs hpl) fun _ _ _ h => mut_of rem_mut h
end
end VS
namespace VS
open PySem PySem.Spec PyProof.Rows L2
variable [TabL]
def IsZipF (h : Heap) (z TI TO : Addr) (v : Value) (f : Bool) : Prop :=
  h.get? z = some { cls := .type "zip", dict := none, data := .fields #[v, .bool f, .bool false, .ref TI, .ref TO], slots := #[] }
def IsZipA (h : Heap) (z TI TO : Addr) : Prop := ∃ v f, IsZipF h z TI TO v f ∧ (v = .none ∨ ∃ T : Int, v = rawInt T)
end VS
namespace VS
open PySem PySem.Spec PyProof.Rows L2
end VS
namespace VS
open PySem PySem.Spec PyProof.Rows L2
variable [TabL]
def stEZ (e z TI TO i1 i2 a b : Addr) (i : Nat) (h : Heap) : Prop := (∃ old, IsEnum h e z ((i : Nat) : Int) old) ∧ IsZipA h z TI TO ∧ IsTupOf2 h TI (.ref i1) (.ref i2) ∧ (∃ x y, IsTupOf2 h TO x y) ∧ h.IsTupleIter i1 a i ∧ h.IsTupleIter i2 b i
theorem stEZ.at {e z TI TO i1 i2 a b : Addr} {i : Nat} {h h' : Heap} (st : stEZ e z TI TO i1 i2 a b i h) (k : ∀ c ∈ [e, z, TI, TO, i1, i2], ∀ o, h.get? c = some o → h'.get? c = some o) : stEZ e z TI TO i1 i2 a b i h' := by
  obtain ⟨⟨old, s0⟩, ⟨v, f, s1, hv⟩, s2, ⟨x, y, s3⟩, s4, s5⟩ := st
  exact ⟨⟨old, k e (by simp) _ s0⟩, ⟨v, f, k z (by simp) _ s1, hv⟩, k TI (by simp) _ s2, ⟨x, y, k TO (by simp) _ s3⟩, s4.at fun o e => k i1 (by simp) o e, s5.at fun o e => k i2 (by simp) o e⟩
@[simp] def zipRowT : PyData → PyData → Option (List PyData)
  | .tuple xs, .tuple ys => some (enumL (zipL xs ys))
  | _, _ => none
@[simp] def mEnZ (ma mb : M Opd) : M Src := M.bind ma fun r => M.bind mb fun q => M.bind (getM r) fun d => M.bind (getM q) fun e => M.bind (M.of (zipRowT d e)) fun xs => M.ret ⟨xs, gdOf d r ++ gdOf e q⟩
theorem Kinds.same {H H' : Hp} {O : Ow} (k : Kinds H O) (s : Same H H') : Kinds H' O := ⟨k.sub, fun p z => by
  obtain ⟨o, e, q⟩ := k.kd p z
  exact ⟨o, s p o e, q⟩, k.cs, k.tb.ext s⟩
end VS
namespace VS
open PySem PySem.Spec PyProof.Rows L2
variable [TabL]
theorem Reads.one {h : Heap} {v : Value} {d d' : PyData} {as as' : List Addr} (a : Reads h v d as) (b : Reads h v d' as') : d = d' := (Reads.unique a d' as' b).1
end VS
namespace VS
open PySem PySem.Spec PyProof.Rows L2
variable [TabL]
section
variable {X : Cx} {g : Sg}
@[simp] def mDispN (i : Nat) : M PyData := fun sd => match sd[i]? with
  | some (some (.dat d)) => if (keyOf d).isSome then .ok (.dict [(d, .none)]) sd else .stk
  | _ => .stk
end
end VS
namespace VS
open PySem PySem.Spec PyProof.Rows L2
end VS
namespace VS
open PySem PySem.Spec PyProof.Rows L2
end VS
namespace VS
open PySem PySem.Spec PyProof.Rows L2
open Sem (wp)
end VS
namespace VS
open PySem PySem.Spec PyProof.Rows L2
variable [TabL]
section
variable {X : Cx} {g : Sg}
def rg3N (i j c : Int) : Nat := (Builtin.Range.rangeSize i j c).toNat
def rgL3 (i j c : Int) : List PyData := (List.range (rg3N i j c)).map fun k : Nat => .int (i + (k : Nat) * c)
def rgOk3 (i j c : Int) : Bool := decide (c ≠ 0) && decide (c.natAbs < 1073741824) && Builtin.Range.small i j c && decide (Builtin.Range.rangeSize i j c = (rg3N i j c : Nat))
@[simp] def mRg3 (ma mb mc : M Opd) : M Src := M.bind ma fun x => M.bind mb fun y => M.bind mc fun z => M.bind (getM x) fun d => M.bind (getM y) fun e => M.bind (getM z) fun f => match d, e, f with
  | .int i, .int j, .int c => if rgOk3 i j c then M.ret ⟨rgL3 i j c, []⟩ else M.stk
  | _, _, _ => M.stk
end
end VS
namespace VS
open PySem PySem.Spec PyProof.Rows L2 L2N
variable [TabL]
section
variable {X : Cx} {g : Sg} {F : Fm}
@[simp] def mFzO (md : List Bool) (i : Nat) (m : MS) : MS := fun sd => match sd[i]? with
  | some (some (.dat _)) => m sd
  | _ => mFz md i m sd
end
end VS
namespace VS
open PySem PySem.Spec PyProof.Rows L2 L2N
end VS
namespace VS
open PySem PySem.Spec PyProof.Rows L2
end VS
namespace VS
open PySem PySem.Spec PyProof.Rows L2 PpSet
end VS
namespace VS
open PySem PySem.Spec PyProof.Rows L2
end VS
namespace VS
open PySem PySem.Spec PyProof.Rows L2 LamX
end VS
namespace VS
open PySem PySem.Spec PyProof.Rows L2 LamX
end VS
namespace VS
open PySem PySem.Spec PyProof.Rows L2 LamX
end VS
namespace VS
open PySem PySem.Spec PyProof.Rows L2 LamX
end VS
namespace VS
open PySem PySem.Spec PyProof.Rows L2 LamX
end VS
namespace VS
open PySem PySem.Spec PyProof.Rows L2 LamX
end VS
namespace VS
open PySem PySem.Spec PyProof.Rows L2
end VS
namespace VS
open PySem L2
variable [TabL]
@[simp] def entOf : PyData → Option (List (PyData × PyData))
  | .dict es => some es
  | _ => none
end VS
namespace VS
open PySem L2
end VS
namespace VS
open PySem
variable [TabL]
theorem raTB_mk {K : PySem.W.Frag} {C : PySem.Addr} {bm : List Value} {nw : String} (h1 : PySem.W.excIn K C bm nw = true) (h2 : PySem.W.keepIn K (.ref C) = true) (h3 : PySem.W.subIn K (.ref C) (.type "BaseException") = some true) (h4 : PySem.W.typeIn K (.ref C) = some (.type "type")) : raTB K C bm nw = true := by
  unfold raTB
  rw [h1, h2, h3, h4]
  simp
end VS
namespace VS
open PySem PySem.Spec PyProof.Rows L2 LamX
end VS
namespace VS
open PySem PySem.Spec PyProof.Rows L2
end VS
namespace VS
open PySem PySem.Spec PyProof.Rows L2
end VS
namespace VS
open PySem PySem.Spec PyProof.Rows L2
end VS
namespace VS
open PySem PySem.Spec PyProof.Rows L2
end VS
namespace VS
open PySem L2
variable [TabL]
structure ClS where
  ms : M Src
  t : Tg
  mt : M Bool
  vs : List Nat
def stepG (vs : List Nat) (t : Tg) (mt : M Bool) (inn : List PyData → M (List PyData)) (x : PyData) (acc : List PyData) : M (List PyData) := fun sd => match binds t x with
  | none => .stk
  | some bs => match mt (setsD (wipeD sd vs) bs) with
    | .ok false s1 => .ok acc s1
    | .ok true s1 => inn acc s1
    | _ => .stk
noncomputable def innerL (gd : List (Nat × PyData)) (vs : List Nat) (st : PyData → List PyData → M (List PyData)) : List PyData → List PyData → M (List PyData)
  | [], acc => fun sd => if gdB gd sd then .ok acc sd else .stk
  | x :: xs, acc => fun sd => if gdB gd sd then (match st x acc sd with
    | .ok acc' s' => innerL gd vs st xs acc' (wipeD s' vs)
    | _ => .stk) else .stk
noncomputable def innerN (me : M Opd) : List ClS → List PyData → M (List PyData)
  | [], acc => fun sd => match me sd with
    | .ok (.d d) s2 => if acc.length < sizeLine then .ok (acc ++ [d]) s2 else .stk
    | _ => .stk
  | c :: cs, acc => fun sd => match c.ms sd with
    | .ok src s2 => innerL src.gd c.vs (stepG c.vs c.t c.mt (innerN me cs)) src.xs acc s2
    | _ => .stk
@[simp] noncomputable def mLcN (ms : M Src) (t : Tg) (mt : M Bool) (cs : List ClS) (me : M Opd) (vs : List Nat) : M PyData := M.bind ms fun s => loopC2 s.gd vs (stepG vs t mt (innerN me cs)) s.xs []
end VS
namespace VS
open PySem PySem.Spec PyProof.Rows L2
end VS
namespace VS
open PySem PySem.Spec PyProof.Rows L2
variable [TabL]
def strsOf : List PyData → Option (List Str)
  | [] => some []
  | .str i :: r => (strsOf r).map fun is => i :: is
  | _ :: _ => none
def indexS (ds : List PyData) : PyData → Option PyData
  | .str i => match strsOf ds with
    | some is => (is.findIdx? (· == i)).map fun j => .int (j : Nat)
    | none => none
  | _ => none
@[simp] def mIdxS (ma mb : M Opd) : M Opd := M.bind ma fun r => match r with
  | .d (.list ds) => M.bind mb fun r2 => M.bind (getM r2) fun e => M.bind (M.of (indexS ds e)) fun z => M.ret (.d z)
  | _ => M.stk
end VS
namespace VS
open PySem PySem.Spec PyProof.Rows L2
variable [TabL]
section
variable {X : Cx} {g : Sg}
def valsM : List (Key × M Opd) → M (List (PyData × PyData))
  | [] => fun sd => .ok [] sd
  | (k, m) :: r => fun sd => match m sd with
    | .ok (.d d) s1 => match valsM r s1 with
      | .ok es s2 => .ok ((kD k, d) :: es) s2
      | _ => .stk
    | _ => .stk
@[simp] def mDispV (kms : List (Key × M Opd)) : M PyData := fun sd => match valsM kms sd with
  | .ok es s => .ok (.dict es) s
  | _ => .stk
end
end VS
namespace VS
open PySem PySem.Spec PyProof.Rows L2
variable [TabL]
def pairOf : PyData → Option (PyData × PyData)
  | .tuple [k, d] => if (keyOf k).isSome then some (k, d) else none
  | _ => none
def pairsOf : List PyData → Option (List (PyData × PyData))
  | [] => some []
  | x :: r => match pairOf x with
    | some e => (pairsOf r).map fun es => e :: es
    | none => none
section
variable {X : Cx} {g : Sg}
def cntI : PyData → PyData → Option PyData
  | .list ds, .int k => (intsOf ds).map fun ns => .int (ns.count k : Nat)
  | _, _ => none
@[simp] def mCntI (ma : M Opd) (j : Nat) : M Opd := M.bind ma fun r => M.bind (getM r) fun d0 => match d0 with
  | .list _ => M.bind (mVar j) fun r2 => M.bind (getM r) fun d => M.bind (getM r2) fun e => M.bind (M.of (cntI d e)) fun z => M.ret (.d z)
  | _ => M.stk
end
end VS
namespace VS
open PySem PySem.Spec PyProof.Rows L2
variable [VS.TabL]
section
variable {X : Cx} {g : Sg} {F : Fm}
def setsE : Sd → List Nat → Sd
  | sd, [] => sd
  | sd, i :: is => setsE (sd.set i (some (.own (.list [])))) is
@[simp] def mParE (is : List Nat) : MS := fun sd => .ok .nx (setsE sd is)
end
end VS
namespace L2
open PySem PySem.Spec PyProof.Rows
end L2
namespace VS
open PySem PySem.Spec PyProof.Rows L2
end VS
namespace VS
open PySem PySem.Spec PyProof.Rows L2
end VS
namespace VS
open PySem PySem.Spec PyProof.Rows L2
variable [VS.TabL]
section
variable {X : Cx} {g : Sg} {F : Fm}
@[simp] def mParFE (i j : Nat) (mf : M PyData) : MS := M.bind mf fun d sd => .ok .nx ((sd.set i (some (.own d))).set j (some (.own (.list []))))
end
end VS
namespace L2
open PySem PySem.Spec PyProof.Rows PySem.MeetsSeq PySem.SeqAt
end L2
namespace VS
open PySem PySem.Spec PyProof.Rows L2
end VS
namespace VS
open PySem PySem.Spec PyProof.Rows L2
variable [VS.TabL]
mutual
def mixR : PyData → Bool
  | .list xs => mixRs xs
  | .tuple xs => mixRs xs
  | .dict es => !hasLk es
  | _ => true
def mixRs : List PyData → Bool
  | [] => true
  | x :: xs => mixR x && mixRs xs
end
def showOkR (d : PyData) : Bool := d.showable && decide (d.depth ≤ 60) && decide (d.shown.length ≤ sizeLine) && mixR d
def reprRD (d : PyData) : Option PyData := if showOkR d then some (.str d.shown) else none
section
variable {X : Cx} {pins : List (Addr × Obj)} {σ : L2.St} {H : Hp} {s : Shared} {O : Ow}
mutual
theorem Dd.reprR (I : Inv X pins σ H s) : ∀ (d : PyData) (v : V) (u : Value), Dd X.K H O v d → RelV v u → d.showable = true → mixR d = true → d.shown.length ≤ sizeLine →
    ∃ as bs, Reads s.heap u d as ∧ ReadAtMost s.heap d.depth bs ∧ ReprK X.prog X.w bs s.heap d.depth u d.shown
  | .none, _, _, h, r, hs, _, hz => by
    obtain ⟨as, q, _⟩ := Dd.reads I _ _ _ h r
    obtain ⟨bs, c, k⟩ := ReprK.of_reads (prog := X.prog) (w := X.w) q hs (fun e => by simp [PyData.hasDict] at e) hz
    exact ⟨as, bs, q, c, k⟩
  | .bool b, _, _, h, r, hs, _, hz => by
    obtain ⟨as, q, _⟩ := Dd.reads I _ _ _ h r
    obtain ⟨bs, c, k⟩ := ReprK.of_reads (prog := X.prog) (w := X.w) q hs (fun e => by simp [PyData.hasDict] at e) hz
    exact ⟨as, bs, q, c, k⟩
  | .int i, _, _, h, r, hs, _, hz => by
    obtain ⟨as, q, _⟩ := Dd.reads I _ _ _ h r
    obtain ⟨bs, c, k⟩ := ReprK.of_reads (prog := X.prog) (w := X.w) q hs (fun e => by simp [PyData.hasDict] at e) hz
    exact ⟨as, bs, q, c, k⟩
  | .str x, _, _, h, r, hs, _, hz => by
    obtain ⟨as, q, _⟩ := Dd.reads I _ _ _ h r
    obtain ⟨bs, c, k⟩ := ReprK.of_reads (prog := X.prog) (w := X.w) q hs (fun e => by simp [PyData.hasDict] at e) hz
    exact ⟨as, bs, q, c, k⟩
  | .dict es, _, _, h, r, hs, hm, hz => by
    obtain ⟨as, q, hn⟩ := Dd.reads I _ _ _ h r
    obtain ⟨bs, c, k⟩ := ReprK.of_reads (prog := X.prog) (w := X.w) q hs (fun e => hn (by
      unfold hasL
      simpa [mixR] using hm)) hz
    exact ⟨as, bs, q, c, k⟩
  | .tuple ds, _, _, h, r, hs, hm, hz => by
    simp only [PyData.shown] at hz
    simp only [PyData.showable] at hs
    simp only [mixR] at hm
    cases h with
    | tup sq da =>
      cases r
      obtain ⟨its, rv, ⟨o, ho, hc, n, hd⟩, _⟩ := I.tuple sq.sq
      obtain ⟨as', bs, q1, q2, q3⟩ := Ds.reprR I ds _ _ da rv hs hm fun t ht => Nat.le_trans (tupleText_mem_le ht) hz
      have rp : Reads s.heap _ (.tuple ds) as' := .tuple ho hc hd (by simpa using q1)
      have na := not_mem_of_deeper rp (by simp only [PyData.depth]; omega) q2
      refine ⟨_, _, rp, ReadAtMost.cons rp (by simp only [PyData.depth]; omega) q2, ?_⟩
      simp only [PyData.depth, PyData.shown]
      exact ReprK.tuple ho hc hd na (by simpa using q3)
  | .list ds, _, _, h, r, hs, hm, hz => by
    simp only [PyData.shown] at hz
    simp only [PyData.showable] at hs
    simp only [mixR] at hm
    have fin : ∀ (a : Addr) (o : Obj) (its : List Value) (n : Nat) (vs : List V), Ds X.K H O vs ds → Vals vs its → s.heap.get? a = some o → o.cls = .type "list" → o.data = .seq its.toArray n → ∃ as bs, Reads s.heap (.ref a) (.list ds) as ∧ ReadAtMost s.heap (PyData.list ds).depth bs ∧ ReprK X.prog X.w bs s.heap (PyData.list ds).depth (.ref a) (PyData.list ds).shown := fun a o its n vs da rv ho hc hd => by
      obtain ⟨as', bs, q1, q2, q3⟩ := Ds.reprR I ds _ _ da rv hs hm fun t ht => Nat.le_trans (listText_mem_le ht) hz
      have rp : Reads s.heap (.ref a) (.list ds) _ := .list ho hc hd (by simpa using q1)
      have na := not_mem_of_deeper rp (by simp only [PyData.depth]; omega) q2
      refine ⟨_, _, rp, ReadAtMost.cons rp (by simp only [PyData.depth]; omega) q2, ?_⟩
      simp only [PyData.depth, PyData.shown]
      cases its with
      | nil =>
        cases ds with
        | nil =>
          simp only [PyData.shownAll, listText_nil]
          exact ReprK.listEmpty ho hc hd
        | cons d ds => cases q1
      | cons x l => exact ReprK.list ho hc hd na (by simpa using q3.length_eq) (fun i y e => q3.item i y (by simpa using e))
    cases h with
    | lst rd _ da =>
      cases r
      obtain ⟨its, rv, ⟨o, n, ho, hc, _, hd⟩, _⟩ := I.list (.inl rd)
      exact fin _ o its n _ da rv ho hc hd
    | lsk rd da =>
      cases r
      obtain ⟨_, its, n, rv, ho⟩ := RdL.ok (.inr rd) I
      exact fin _ _ its n _ da rv ho rfl rfl
theorem Ds.reprR (I : Inv X pins σ H s) : ∀ (ds : List PyData) (vs : List V) (us : List Value), Ds X.K H O vs ds → Vals vs us → PyData.showableAll ds = true → mixRs ds = true → (∀ t ∈ PyData.shownAll ds, t.length ≤ sizeLine) →
    ∃ as bs, ReadsAll s.heap us ds as ∧ ReadAtMost s.heap (PyData.depthAll ds) bs ∧ ReprAllK X.prog X.w bs s.heap (PyData.depthAll ds) us (PyData.shownAll ds)
  | [], _, _, h, r, _, _, _ => by
    cases h; cases r
    refine ⟨_, [], .nil, (fun _ z => nomatch z), ?_⟩
    simp only [PyData.shownAll]
    exact .nil
  | d :: ds, _, _, h, r, hs, hm, hz => by
    cases h with
    | cons h1 h2 =>
      cases r with
      | cons r1 r2 =>
        simp only [PyData.showableAll, Bool.and_eq_true] at hs
        simp only [PyData.shownAll] at hz
        simp only [mixRs, Bool.and_eq_true] at hm
        obtain ⟨as, b1, q1, c1, k1⟩ := Dd.reprR I d _ _ h1 r1 hs.1 hm.1 (hz _ List.mem_cons_self)
        obtain ⟨cs, bs, q2, c2, k2⟩ := Ds.reprR I ds _ _ h2 r2 hs.2 hm.2 (fun t ht => hz t (List.mem_cons_of_mem _ ht))
        refine ⟨as ++ cs, b1 ++ bs, .cons q1 q2, ?_, ?_⟩
        · simp only [PyData.depthAll]
          exact (c1.mono (Nat.le_max_left _ _)).append (c2.mono (Nat.le_max_right _ _))
        · simp only [PyData.depthAll, PyData.shownAll]
          exact .cons ((k1.more fun b h => List.mem_append_left _ h).level_le (Nat.le_max_left _ _)) (k2.more_le (fun b h => List.mem_append_right _ h) (Nat.le_max_right _ _))
end
end
end VS
namespace VS
open PySem PySem.Spec PyProof.Rows L2
variable [VS.TabL]
def st3 (z TI TO i1 i2 i3 a b c : Addr) (i : Nat) (h : Heap) : Prop := IsZip h z TI TO .none ∧ IsTupOf3 h TI (.ref i1) (.ref i2) (.ref i3) ∧ (∃ x y w, IsTupOf3 h TO x y w) ∧ h.IsTupleIter i1 a i ∧ h.IsTupleIter i2 b i ∧ h.IsTupleIter i3 c i
theorem st3.at {z TI TO i1 i2 i3 a b c : Addr} {i : Nat} {h h' : Heap} (st : st3 z TI TO i1 i2 i3 a b c i h) (k : ∀ q ∈ [z, TI, TO, i1, i2, i3], ∀ o, h.get? q = some o → h'.get? q = some o) : st3 z TI TO i1 i2 i3 a b c i h' := by
  obtain ⟨s1, s2, ⟨x, y, w, s3⟩, s4, s5, s6⟩ := st
  exact ⟨k z (by simp) _ s1, k TI (by simp) _ s2, ⟨x, y, w, k TO (by simp) _ s3⟩, s4.at fun o e => k i1 (by simp) o e, s5.at fun o e => k i2 (by simp) o e, s6.at fun o e => k i3 (by simp) o e⟩
@[simp] def zipL3 : List PyData → List PyData → List PyData → List PyData
  | x :: xs, y :: ys, z :: zs => .tuple [x, y, z] :: zipL3 xs ys zs
  | _, _, _ => []
@[simp] def zipRow3 : PyData → PyData → PyData → Option (List PyData)
  | .tuple xs, .tuple ys, .tuple zs => some (zipL3 xs ys zs)
  | _, _, _ => none
@[simp] def mZip3 (ma mb mc : M Opd) : M Src := M.bind ma fun r => M.bind mb fun q => M.bind mc fun t => M.bind (getM r) fun d => M.bind (getM q) fun e => M.bind (getM t) fun f => M.bind (M.of (zipRow3 d e f)) fun xs => M.ret ⟨xs, gdOf d r ++ (gdOf e q ++ gdOf f t)⟩
end VS
namespace VS
open PySem PySem.Spec PyProof.Rows L2
variable [VS.TabL]
def stepL {α : Type} (k : Int) (xs : List α) : List α := (sliceRange 0 (xs.length : Int) k).filterMap fun i => xs[i]?
section
variable {X : Cx} {g : Sg}
@[simp] def stepDF : PyData → PyData → Option PyData
  | .list xs, .int k => if decide (1 ≤ k) then some (.list (stepL k xs)) else none
  | _, _ => none
end
end VS
namespace VS
open PySem PySem.Spec PyProof.Rows L2
variable [VS.TabL]
section
variable {X : Cx} {g : Sg} {F : Fm}
@[simp] def mParFD (i j : Nat) (mf : M PyData) : MS := M.bind mf fun d sd => .ok .nx ((sd.set i (some (.own d))).set j (some (.own (.dict []))))
end
end VS
namespace VS
open PySem PySem.Spec PyProof.Rows L2
end VS
namespace VS
open PySem PySem.Spec PyProof.Rows L2 LamX
variable [TabL]
def LamO (X : Cx) (f c' : Addr) (params : Arguments) (body : Expr) (scope : Scope) : HO :=
  .ext fun h => f ∉ frs X.stack ∧ ∃ pm ctv, h.get? f = some (PySem.W.kla_obj "<lambda>" (X.env.qual ++ "<lambda>") params body scope (cloFrom X.env.cells scope.names []) pm c' ctv)
def hideF (H : Hp) (f : Addr) : Hp := fun b => if b = f then none else H b
theorem hideF_ne {H : Hp} {f b : Addr} (n : b ≠ f) : hideF H f b = H b := by unfold hideF; rw [if_neg n]
end VS
namespace VS
open PySem PySem.Spec PyProof.Rows L2 LamX
variable [TabL]
structure LamI where
  params : Arguments
  body : Expr
  scope : Scope
  t : XK → TE
def Held (X : Cx) (H0 H : Hp) (L : Addr) (ls : List LamI) (k : Nat) : Prop := ∃ fs : List V, H L = some (.lst fs) ∧ fs.length = k ∧ ∀ j, j < k → ∃ f c' l, fs[j]? = some (.ref f) ∧ ls[j]? = some l ∧ H0 f = none ∧ H f = some (LamO X f c' l.params l.body l.scope) ∧ H c' = some (CodeO c' (X.env.qual ++ "<lambda>")) ∧ ∀ q, LamO X f c' l.params l.body l.scope ≠ CodeO f q
structure Grown (T : List (Addr × Str)) (H0 H : Hp) : Prop where
  ext : ExtN H0 H
  there : ∀ b o, H0 b = some o → ∃ o', H b = some o'
  tabs : Tabs T H
theorem Grown.trans {T : List (Addr × Str)} {H0 H1 H2 : Hp} (a : Grown T H0 H1) (b : Grown T H1 H2) : Grown T H0 H2 := ⟨a.ext.trans b.ext, fun c o e => (a.there c o e).elim fun o' q => b.there c o' q, b.tabs⟩
theorem Grown.put {T : List (Addr × Str)} {H0 H : Hp} {L : Addr} {u : HO} (a : Grown T H0 H) (n : H0 L = none) (nt : ∀ ps, H L ≠ some (.tbl ps)) (nc : ∀ q, H L ≠ some (CodeO L q)) : Grown T H0 (upd H L u) := by
  refine ⟨fun b o e z => ?_, fun b o e => ?_, fun p hp => ?_⟩
  · rw [upd_ne (ne_of_none e n)]; exact a.ext b o e z
  · rw [upd_ne (ne_of_none e n)]; exact a.there b o e
  · obtain ⟨ps, h1, h2, h3⟩ := a.tabs p hp
    refine ⟨ps, ?_, h2, fun pos cv hc => ?_⟩
    · rw [upd_ne fun z => nt ps (by rw [← z]; exact h1)]; exact h1
    · obtain ⟨c, e1, e2⟩ := h3 pos cv hc
      exact ⟨c, e1, by rw [upd_ne fun z => nc p.2 (by rw [← z]; exact e2)]; exact e2⟩
section
variable {X : Cx} {TT : (XK → Hp → VK → Prop) → Hp → VK → Prop} {T : List (Addr × Str)} {d w : Nat} {ls : List LamI}
theorem Held.keep {H0 H H1 : Hp} {L : Addr} {k : Nat} (h : Held X H0 H L ls k) (e : ExtN H H1) : Held X H0 H1 L ls k := by
  obtain ⟨fs, e1, e2, e3⟩ := h
  refine ⟨fs, e _ _ e1 (fun ps z => by cases z), e2, fun j hj => ?_⟩
  obtain ⟨f1, c1, l1, a1, a2, a3, a4, a5, a6⟩ := e3 j hj
  exact ⟨f1, c1, l1, a1, a2, a3, e _ _ a4 (fun ps z => by unfold LamO at z; cases z), e _ _ a5 codeO_ne, a6⟩
end
end VS
namespace VS
open PySem PySem.Spec PyProof.Rows L2 LamX
end VS
namespace VS
open PySem PySem.Spec PyProof.Rows L2 LamX
variable [TabL]
theorem Grown.hide {X : Cx} {T : List (Addr × Str)} {H0 H : Hp} {f c' : Addr} {l : LamI} (a : Grown T H0 H) (n : H0 f = none) (hf : H f = some (LamO X f c' l.params l.body l.scope)) (hq : ∀ q, LamO X f c' l.params l.body l.scope ≠ CodeO f q) : Grown T H0 (hideF H f) := by
  refine ⟨fun b o e z => ?_, fun b o e => ?_, fun p hp => ?_⟩
  · rw [hideF_ne (ne_of_none e n)]; exact a.ext b o e z
  · rw [hideF_ne (ne_of_none e n)]; exact a.there b o e
  · obtain ⟨ps, h1, h2, h3⟩ := a.tabs p hp
    refine ⟨ps, ?_, h2, fun pos cv hc => ?_⟩
    · rw [hideF_ne fun z => by
        rw [z, hf] at h1
        have h1 := Option.some.inj h1
        unfold LamO at h1
        cases h1]
      exact h1
    · obtain ⟨c, e1, e2⟩ := h3 pos cv hc
      refine ⟨c, e1, ?_⟩
      rw [hideF_ne fun z => by
        rw [z, hf] at e2
        exact hq _ (Option.some.inj e2)]
      exact e2
end VS
namespace VS
open PySem PySem.Spec PyProof.Rows L2 LamX
end VS
namespace VS
open PySem
end VS
namespace L2
open PySem PySem.Spec PyProof.Rows
end L2
namespace VS
open PySem PySem.Spec PyProof.Rows L2
end VS
namespace VS
open PySem PySem.Spec PyProof.Rows L2 LamX
end VS
namespace VS
open PySem PySem.Spec PyProof.Rows L2 LamX
end VS
namespace VS
open PySem PySem.Spec PyProof.Rows L2
end VS
namespace VS
open PySem PySem.Spec PyProof.Rows L2
variable [TabL]
section
variable {X : Cx} {pins : List (Addr × Obj)} {σ : L2.St} {H : Hp} {s : Shared} {O : Ow}
mutual
theorem dd_nested (I : Inv X pins σ H s) : ∀ (d : PyData) (v : V) (u : Value) (k : NestedKey), Dd X.K H O v d → nkOf d = some k → RelV v u → NestedIs s.heap k u
  | .none, _, u, k, h, e, r => by
    cases h
    cases e
    cases r
    exact .none
  | .bool b, _, u, k, h, e, r => by
    cases h
    cases e
    cases r
    exact .bool rfl
  | .int i, _, u, k, h, e, r => by
    cases h
    cases e
    obtain ⟨t, rfl⟩ := r
    exact .int _ _
  | .str x, _, u, k, h, e, r => by
    cases h
    cases e
    obtain ⟨t, rfl⟩ := r
    exact .text _ _
  | .tuple ds, _, u, k, h, e, r => by
    unfold nkOf at e
    obtain ⟨ks, e2, rfl⟩ := Option.map_eq_some_iff.mp e
    cases h with
    | tup q a =>
      cases r
      obtain ⟨its, rv, ⟨o, h1, h2, n, h3⟩, _⟩ := I.tuple q.sq
      exact .tup h1 h2 h3 (ds_nested I ds _ its ks a e2 rv)
  | .list _, _, u, k, h, e, r => by
    unfold nkOf at e
    cases e
  | .dict _, _, u, k, h, e, r => by
    unfold nkOf at e
    cases e
theorem ds_nested (I : Inv X pins σ H s) : ∀ (ds : List PyData) (vs : List V) (us : List Value) (ks : List NestedKey), Ds X.K H O vs ds → nksOf ds = some ks → Vals vs us → NestedAll s.heap ks us
  | [], _, us, ks, h, e, r => by
    cases h
    unfold nksOf at e
    cases e
    cases r
    exact .nil
  | d :: ds, _, us, ks, h, e, r => by
    unfold nksOf at e
    cases e1 : nkOf d with
    | none =>
      rw [e1] at e
      cases e
    | some k =>
      cases e2 : nksOf ds with
      | none =>
        rw [e1, e2] at e
        cases e
      | some ks' =>
        rw [e1, e2] at e
        cases e
        cases h with
        | cons h1 h2 =>
          cases r with
          | cons r1 r2 => exact .cons (dd_nested I d _ _ k h1 e1 r1) (ds_nested I ds _ _ ks' h2 e2 r2)
end
end
section
variable {X : Cx} {g : Sg}
def atN (es : List (PyData × PyData)) (k : NestedKey) : Option PyData := (es.find? fun e => decide (keyN e.1 = some k)).map (·.2)
@[simp] def ndOf : Option (Option Sl) → Option (List (PyData × PyData))
  | some (some (.nd es)) => some es
  | _ => none
@[simp] def ndM (i : Nat) : M (List (PyData × PyData)) := fun sd => match ndOf sd[i]? with
  | some es => .ok es sd
  | none => .stk
@[simp] def kyM (r : Opd) : M NestedKey := fun sd => match r with
  | .d x => (match keyN x with
    | some k => .ok k sd
    | none => .stk)
  | .own _ => .stk
@[simp] def mNGet (i : Nat) (mk : M Opd) : M Opd := M.bind (ndM i) fun _ => M.bind mk fun r => M.bind (kyM r) fun k => M.bind (ndM i) fun es => M.bind (M.of (atN es k)) fun d => M.ret (.d d)
@[simp] def mNGet1 (i : Nat) (mk : M Opd) : M Opd := M.bind (ndM i) fun _ => M.bind mk fun r => M.bind (kyM r) fun k => M.bind (ndM i) fun es => M.ret (.d ((atN es k).getD .none))
end
end VS
namespace VS
open PySem PySem.Spec PyProof.Rows L2
variable [TabL]
def putN (es : List (PyData × PyData)) (kd d : PyData) : List (PyData × PyData) := if es.any (fun e => decide (keyN e.1 = keyN kd)) then es.map (fun e => if keyN e.1 = keyN kd then (e.1, d) else e) else es ++ [(kd, d)]
def stepN (vs : List Nat) (t : Tg) (mt : M Bool) (mk mv : M Opd) (x : PyData) (acc : List (PyData × PyData)) : M (List (PyData × PyData)) := fun sd => match binds t x with
  | none => .stk
  | some bs => match mt (setsD (wipeD sd vs) bs) with
    | .ok false s1 => .ok acc s1
    | .ok true s1 => match mk s1 with
      | .ok (.d k) s2 => match mv s2 with
        | .ok (.d d) s3 => if (keyN k).isSome && decide (acc.length < sizeLine) then .ok (putN acc k d) s3 else .stk
        | _ => .stk
      | _ => .stk
    | _ => .stk
noncomputable def loopN (gd : List (Nat × PyData)) (vs : List Nat) (st : PyData → List (PyData × PyData) → M (List (PyData × PyData))) : List PyData → List (PyData × PyData) → M (List (PyData × PyData))
  | [], acc => fun sd => if gdB gd sd then .ok acc (wipeD sd vs) else .stk
  | x :: xs, acc => fun sd => if gdB gd sd then (match st x acc sd with
    | .ok acc' s' => loopN gd vs st xs acc' (wipeD s' vs)
    | _ => .stk) else .stk
@[simp] noncomputable def mDcN (ms : M Src) (t : Tg) (mt : M Bool) (mk mv : M Opd) (vs : List Nat) : M (List (PyData × PyData)) := M.bind ms fun s => loopN s.gd vs (stepN vs t mt mk mv) s.xs []
section
variable {X : Cx} {g g' : Sg} {F : Fm}
@[simp] def mSetN (i : Nat) (m : M (List (PyData × PyData))) : MS := M.bind m fun es => M.bind (putS i (.nd es)) fun _ => sNx
end
end VS
namespace VS
open PySem PySem.Spec PyProof.Rows L2
end VS
namespace VS
open PySem PySem.Spec PyProof.Rows L2
variable [TabL]
def itemsOf (es : List (PyData × PyData)) : List PyData := es.map fun e => .tuple [e.1, e.2]
@[simp] def mTupI (m : M PyData) : M (List PyData) := M.bind m fun d => match d with
  | .dict es => M.ret (itemsOf es)
  | _ => M.stk
section
variable {X : Cx} {g : Sg} {F : Fm}
@[simp] def mRetX (m : M (List PyData)) : MS := M.bind m fun ds => M.ret (.rt (.xt ds))
@[simp] def mCallXt (m : MS) (N : Nat) (md : List Bool) (mas : M (List Opd)) : M (List PyData) := M.bind (mCall m N md mas) fun r => match r with
  | .xt ds => M.ret ds
  | _ => M.stk
@[simp] def mDictX (m : M (List PyData)) : M PyData := M.bind m fun ds => match pairsOf ds with
  | some es => M.ret (.dict (mrgE [] es))
  | none => M.stk
end
end VS
namespace VS
open PySem PySem.Spec PyProof.Rows L2
end VS
namespace VS
open PySem PySem.Spec PyProof.Rows L2
end VS
namespace VS
open PySem PySem.Spec PyProof.Rows L2
end VS
namespace VS
open PySem PySem.Spec PyProof.Rows L2
variable [TabL]
section
variable {X : Cx} {g : Sg} {F : Fm}
theorem tupe_is {pins : List (Addr × Obj)} {σ : L2.St} {H : Hp} {s : Shared} {p : Addr} {xs : List V} (I : Inv X pins σ H s) (h : TupE X.K H p xs) : s.TypeIs (.ref p) "tuple" ∧ ∃ ob, s.heap.get? p = some ob ∧ ob.dict = none := by
  rcases h with ⟨o, e, hd⟩ | ⟨o, its, n, e, hd, hc, _⟩
  · obtain ⟨ho, _, its, _, o', ho', hc, _⟩ := (show ObjOk X.prog X.w H s.heap p (.frz o (.tup xs)) from I.hok p _ e)
    rw [ho] at ho'
    cases ho'
    exact ⟨⟨o, ho, hc⟩, o, ho, hd⟩
  · obtain ⟨h1, h2⟩ := tyV_is (v := .ref p) (x := .ref p) (T := "tuple") I rfl (.inr (.inl ⟨rfl, o, e, hc, hd⟩))
    exact ⟨h1, h2 p rfl⟩
def tBMT (K : PySem.W.Frag) (r : V → List V → Hp → VK → Prop) (to : TE) (t : TA) : TE := fun σ H Q => to σ H fun x H1 => (∃ p xs, x = .ref p ∧ TupE K H1 p xs) ∧ t σ H1 fun xs H2 => r x xs H2 Q
theorem pe_bmT {o e : Expr} {es : List Expr} {to : TE} {t : TA} {name : Str} {apos cpos : Pos} {id : String} {r : V → List V → Hp → VK → Prop} (pa : PlainAttrs "tuple") (slot : Slot "tuple" name id) (hty : typeOf (.builtin id) = pure (.type "method_descriptor")) (hm : MtR X id r) (ho : PE X o to) (ha : PA X (e :: es) t)
    (hbase : attributeBase o name X.env (eval o X.env) = eval o X.env := by rfl)
    (hfew : ((backTo cpos (starEach (e :: es) X.env)).all (fun x => !x.1) && (backToKw cpos (keywordEach [] X.env)).all (fun x => x.1.isSome)
      && decide ((e :: es).length + ([] : List Keyword).length + (if ([] : List Keyword).isEmpty then 0 else 1) < 30)) = true := by rfl)
    (hline : (apos.endLine == cpos.line) = true := by rfl) (hs : starEach (e :: es) X.env = (false, eval e X.env) :: starEach es X.env := by rfl) (hplain : (backTo cpos (starEach es X.env)).any (·.1) = false := by rfl) :
    PE X (.Call (.Attribute o name apos) (e :: es) [] cpos) (tBMT X.K r to t) := by
  refine ⟨fun pins s σ H Q I h => ?_⟩
  refine wpAny_Call_method_late hbase hfew hline rfl (thn (ho.run pins s σ H _ I h) fun v s1 ⟨x, H1, I1, r1, ⟨p, xs, ex, ty⟩, q1⟩ => ?_)
  subst ex
  cases r1
  obtain ⟨h1, h2⟩ := tupe_is I1 ty
  refine ⟨"tuple", id, pa, slot, hty, h1, fun a e => ?_, ?_⟩
  · cases e
    exact h2
  have hA := ha.run cpos pins s1 σ H1 _ I1 q1
  rw [hs] at hA ⊢
  refine Calls.callWith_builtin (by show (false || (backTo cpos (starEach es X.env)).any (·.1)) = false; rw [hplain] <;> rfl) (Calls.evalArgs_plain ?_)
  exact thn hA fun us s2 ⟨vs, H2, I2, r2, q2⟩ => hm pins s2 σ H2 (.ref p) vs (.ref p) us Q I2 rfl r2 q2
def rTI (K : PySem.W.Frag) : V → List V → Hp → VK → Prop := fun x xs H Q => ∃ p y vs O ds d ks k, x = .ref p ∧ xs = [y] ∧ SqT K H p vs ∧ Ds K H O vs ds ∧ Dd K H O y d ∧ nksOf ds = some ks ∧ nkOf d = some k ∧ k ∈ ks ∧ k.depth ≤ 8 ∧ Q (.int (ks.idxOf k : Nat)) H
theorem mt_tupIdx (hu : X.A.units + 64 < cLine) : MtR X "tuple.index" (rTI X.K) := by
  intro pins s σ H x xs v us Q I rx rs h
  obtain ⟨p, y, vs, O, ds, d, ks, k, rfl, rfl, hq, h1, h2, e1, e2, hk, hd, q⟩ := h
  cases rx
  obtain ⟨u, rfl, ru⟩ := vals1 rs
  obtain ⟨its, r, pl, hz⟩ := I.tuple hq
  have ua : X.A.in1.units + k.depth < cLine := by
    have : X.A.in1.units = X.A.units + 1 := rfl
    omega
  exact PySem.SeqAt.call_tuple_index pl (PySem.SeqAt.ItemsEq.nested (ds_nested I ds vs its ks h1 e1 r) (dd_nested I d y u k h2 e2 ru) ua) hk ⟨.int (ks.idxOf k : Nat), H, I.tok _, ⟨_, rfl⟩, q⟩
def indexTD (ds : List PyData) (d : PyData) : Option PyData := match nksOf ds, nkOf d with
  | some ks, some k => if k ∈ ks ∧ k.depth ≤ 8 then some (.int (ks.idxOf k : Nat)) else none
  | _, _ => none
theorem indexTD_some {ds : List PyData} {d z : PyData} (h : indexTD ds d = some z) : ∃ ks k, nksOf ds = some ks ∧ nkOf d = some k ∧ k ∈ ks ∧ k.depth ≤ 8 ∧ z = .int (ks.idxOf k : Nat) := by
  unfold indexTD at h
  split at h
  · rename_i ks k e1 e2
    split at h
    · rename_i c
      cases h
      exact ⟨ks, k, e1, e2, c.1, c.2, rfl⟩
    · cases h
  · cases h
theorem arg_nk {K : PySem.W.Frag} {H : Hp} {O : Ow} {v : V} {d : PyData} {k : NestedKey} (h : Arg K H O v d) (e : nkOf d = some k) : Dd K H O v d := by
  rcases h with h | ⟨_, _, _, h⟩
  · exact h
  · cases d with
    | list _ =>
      unfold nkOf at e
      cases e
    | dict _ =>
      unfold nkOf at e
      cases e
    | _ => exact False.elim h
@[simp] def mIdxT (ma mb : M Opd) : M Opd := M.bind ma fun r => match r with
  | .d (.tuple ds) => M.bind mb fun r2 => M.bind (getM r2) fun e => M.bind (M.of (indexTD ds e)) fun z => M.ret (.d z)
  | _ => M.stk
theorem idxT_of {K : PySem.W.Frag} {ma mb : M Opd} {σ : L2.St} {H : Hp} {Q : VK} (h : tD K g (mIdxT ma mb) σ H Q) : tBMT K (rTI K) (tD K g ma) (tA K g (mCons mb mNil)) σ H Q := by
  obtain ⟨sd, O, R, a⟩ := h
  unfold mIdxT at a
  refine ⟨sd, O, R, a.bind.mono fun r sd1 H1 _ e1 R1 h1 v hv => ?_⟩
  cases r with
  | own i => exact False.elim h1
  | d x =>
    cases x with
    | tuple ds =>
      have hv : Dd K H1 O v (.tuple ds) := hv
      obtain ⟨q, vs, rfl, r1, r2⟩ := Arg.tupleE (.inl hv)
      refine ⟨⟨q, vs, rfl, r1⟩, sd1, O, R1, ?_⟩
      have h1 : Aft K g O σ H1 (M.bind mb (fun r2 => M.bind (getM r2) fun e => M.bind (M.of (indexTD ds e)) fun z => M.ret (.d z)) sd1) fun r _ H' => ∀ v, OpdR K H' O σ v r → Q v H' := h1
      have h2 := h1.bind
      unfold mCons
      cases e3 : mb sd1 with
      | stk =>
        rw [e3] at h2
        unfold M.bind
        rw [e3]
        exact h2
      | exc y s2 =>
        rw [e3] at h2
        unfold M.bind
        rw [e3]
        exact h2
      | ok rb sd2 =>
        rw [e3] at h2
        unfold M.bind
        rw [e3]
        intro H2 x2 R2 us hu
        have h3 := h2 H2 x2 R2
        obtain ⟨e, g1, h4⟩ := h3.get
        obtain ⟨z, g2, h5⟩ := h4.of
        have h6 : ∀ H', Ext O H2 H' → Rep K H' O σ sd2 → ∀ v, OpdR K H' O σ v (.d z) → Q v H' := h5
        obtain ⟨ks, k, f1, f2, f3, f4, rfl⟩ := indexTD_some g2
        cases hu with
        | cons u1 u2 =>
          cases u2
          have ag := arg_nk (u1.arg R2 g1) f2
          have hv2 := Dd.keep R1.kind x2 (fun _ z => .inl z) _ _ hv
          obtain ⟨q', vs', e', r1', r2'⟩ := Arg.tupleE (.inl hv2)
          cases e'
          exact ⟨q, _, vs', O, ds, e, ks, k, rfl, rfl, r1'.sq, r2', ag, f1, f2, f3, f4, h6 H2 (Ext.refl _ _) R2 _ (.int _)⟩
    | _ => exact False.elim h1
theorem d_indexT {o e : Expr} {ma mb : M Opd} {apos cpos : Pos} (hu : X.A.units + 64 < cLine) (hx : PE X o (tD X.K g ma)) (he : PE X e (tD X.K g mb)) (hbase : attributeBase o "index" X.env (eval o X.env) = eval o X.env := by rfl)
    (hfew : ((backTo cpos (starEach (e :: []) X.env)).all (fun x => !x.1) && (backToKw cpos (keywordEach [] X.env)).all (fun x => x.1.isSome) && decide ((e :: ([] : List Expr)).length + ([] : List Keyword).length + (if ([] : List Keyword).isEmpty then 0 else 1) < 30)) = true := by rfl)
    (hline : (apos.endLine == cpos.line) = true := by rfl) (hs : starEach (e :: []) X.env = (false, eval e X.env) :: starEach [] X.env := by rfl) (hpl : (backTo cpos (starEach [] X.env)).any (·.1) = false := by rfl) :
    PE X (.Call (.Attribute o "index" apos) [e] [] cpos) (tD X.K g (mIdxT ma mb)) :=
  PE_of (pe_bmT PySem.F.plainAttrs_tuple PySem.F.slot_tuple_index PySem.F.type_tuple_index (mt_tupIdx hu) hx (a_cons he a_nil hs) hbase hfew hline hs hpl) fun _ _ _ h => idxT_of h
@[simp] def mAugI (i : Nat) (me : M Opd) : MS := fun sd => match sd[i]? with
  | some (some (.dat (.int a))) => M.bind me (fun r => M.bind (getM r) fun d => match d with
    | .int b => fun sd1 => .ok .nx (sd1.set i (some (.dat (.int (a + b)))))
    | _ => M.stk) sd
  | _ => .stk
theorem s_augI {i : Nat} {x : Str} {e : Expr} {me : M Opd} {pos pos' : Pos} (hN : X.N.Nodup) (hi : X.N[i]? = some x) (hx : Loc X.env.scope x) (he : PE X e (tD X.K g me)) (hm : (F.md[i]? == some true) = false := by rfl)
    (hf : X.fn x = true ∨ X.env.scope.names.lookup x = some .local := by first | exact .inl rfl | exact .inr rfl | assumption) : PS X (.AugAssign (.Name x pos') .Add e pos) (tS X.K g F (mAugI i me)) := PS_of (ps_aug hN hi hx he ip_add hf) fun D σ H h => by
  obtain ⟨sd, O, R, a⟩ := h
  unfold mAugI at a
  cases e1 : sd[i]? with
  | none =>
    rw [e1] at a
    exact False.elim a
  | some o =>
    rw [e1] at a
    cases o with
    | none => exact False.elim a
    | some s =>
      obtain ⟨v, h1, h2⟩ := R.rep.slot i s e1
      cases s with
      | dat d =>
        cases d with
        | int n =>
          have h2 : Dd X.K H O v (.int n) := h2
          cases h2
          refine ⟨_, h1, sd, O, R.rep, (aft_of R a).mono fun r sd1 H1 _ _ R1 q1 u hu => ?_⟩
          obtain ⟨R2, q2⟩ := q1
          obtain ⟨d, g1, q3⟩ := finGet q2
          have ag := hu.arg R1 g1
          cases d with
          | int b =>
            have eu : u = .int b := by
              rcases ag with z | ⟨_, _, _, z⟩
              · cases z
                rfl
              · exact False.elim z
            exact ⟨n, b, rfl, eu, q3 _ _ _ (R2.put (s := .dat (.int (n + b))) hm (.int _) fun p d _ e => by cases e)⟩
          | _ => exact False.elim q3
        | _ => exact False.elim a
      | _ => exact False.elim a
end
end VS
namespace VS
open PySem PySem.Spec PyProof.Rows L2
variable [VS.TabL]
section
variable {X : Cx}
def reprAD : PyData → Option PyData
  | .list (d :: ds) => reprRD (.list (d :: ds))
  | d => reprD d
theorem c_reprA (hG : X.A.guards = some []) (hu : X.A.units + 64 < cLine) : CallR X (.builtin "repr") (rn X.K (one reprAD)) := by
  intro pins s σ H xs us Q I r h
  obtain ⟨O, ds, z, k, ha0, hf0, q⟩ := h
  obtain ⟨d, rfl, hf⟩ := one_some hf0
  unfold reprAD at hf
  split at hf
  · rename_i d ds
    obtain ⟨v, rfl, ha⟩ := ha0.one
    obtain ⟨hc, rfl⟩ := ite_some hf
    unfold showOkR at hc
    simp only [Bool.and_eq_true, decide_eq_true_eq] at hc
    obtain ⟨⟨⟨c1, c2⟩, c3⟩, c4⟩ := hc
    obtain ⟨u, rfl, rx⟩ := vals1 r
    have fin : ∀ (h' : Heap) (u : Tok) (tk : Nat), (∀ b o, s.heap.get? b = some o → h'.get? b = some o) → EP X pins σ Q (.str (PyData.list (d :: ds)).shown u) { s with heap := h', toks := tk } := fun h' u tk hk =>
      ⟨.str (PyData.list (d :: ds)).shown, H, I.kept (t' := tk) hk, ⟨u, rfl⟩, q _ _ Same.rfl' (.str _)⟩
    obtain ⟨p, vs, rfl, sq, da⟩ := ha.list
    cases rx
    obtain ⟨_, its, n, rv, ho⟩ := RdL.ok sq I
    simp only [PyData.shown] at c3 fin
    simp only [PyData.showable] at c1
    simp only [PyData.depth] at c2
    simp only [mixR] at c4
    obtain ⟨as', bs, q1, q2, q3⟩ := Ds.reprR I (d :: ds) _ _ da rv c1 c4 fun t ht => Nat.le_trans (listText_mem_le ht) c3
    have rp : Reads s.heap (.ref p) (.list (d :: ds)) _ := .list ho rfl rfl (by simpa using q1)
    have na : p ∉ bs := not_mem_of_deeper rp (by simp only [PyData.depth]; omega) q2
    cases its with
    | nil => cases q1
    | cons x l =>
      exact call_repr_slot (by omega) ⟨_, ho, rfl⟩ F.slot_list_repr.toG (call_list_reprK ho rfl rfl na (by simpa using q3.length_eq) (fun i y e => q3.item i y (by simpa using e)) hG (fun b _ => Clear.nil b) (by show X.A.units + 1 + (PyData.depthAll (d :: ds) + 1) < cLine; omega) (fun _ _ e => e) (fun h' u tk hk => ⟨_, _, rfl, fin h' u tk hk⟩) c3)
  · exact c_repr hG hu pins s σ H xs us Q I r ⟨O, [d], z, k, ha0, hf, q⟩
end
end VS
namespace K43
open PySem PySem.Spec PyProof.Rows L2 VS
variable [VS.TabL]
def topS (i : Nat) : Stmt := PySem.Challenge.pw_tiewheel_k43_permutations.main.body.getD i (.Pass ⟨0, 0, 0, 0⟩)
abbrev fuel : Nat := 1000000
abbrev st_law_pot : Stmt := topS 27
abbrev N_law_pot : List Str := ["_law_script", "_law_k", "_law_cell", "_law_mixed"]
noncomputable def b_law_pot : MS :=
  (mSeq (mSet 2 (mC (.int 0)))
  (mSeq (mIf (mTB (m2 ltD (mVar 1) (mN (one lenD) (mCons (mVar 0) mNil))))
    (mSet 2 (m2 modD (mN (one absD) (mCons (m2 ixD (mVar 0) (mVar 1)) mNil)) (m2 powD (m2 powD (mC (.int 10)) (mC (.int 60))) (mC (.int 14)))))
    sNx)
  (mSeq (mSet 3 (m2 modD (m2 powD (m2 addD (m2 addD (m2 modD (mVar 2) (mC (.int 2305843009213693921))) (m2 mulD (mC (.int 104729)) (mVar 1))) (mC (.int 1))) (mC (.int 3))) (mC (.int 2305843009213693951))))
  (mRetF (mLst (mCons (m2 mulD (mVar 2) (mN (one intD) (mCons (m2 geD (mVar 2) (m2 powD (mC (.int 10)) (mC (.int 18)))) mNil))) (mCons (mVar 3) (mCons (mC (.int 0)) mNil))))))))
abbrev st_unit_by : Stmt := topS 18
abbrev N_unit_by : List Str := ["size"]
noncomputable def b_unit_by : MS :=
  (mRet [false] (mTR (mR1 (mVar 0))))
abbrev st_is_whole : Stmt := topS 12
abbrev N_is_whole : List Str := ["thing"]
noncomputable def b_is_whole : MS :=
  (mRet [false] (mAndV (mIs PyData.isInt (mVar 0)) (mNotV (mIs PyData.isBool (mVar 0)))))
abbrev st_unit : Stmt := topS 22
abbrev N_unit : List Str := ["size"]
noncomputable def b_unit : MS :=
  (mSeq (mIf (mOr (mNot (mTest (mCallD b_is_whole 1 [false] (mCons (mVar 0) mNil)))) (mNot (mTB (mChain leD leD (mC (.int 1)) (mVar 0) (mC (.int 5))))))
    M.stk
    sNx)
  (mRet [false] (mCallD b_unit_by 1 [false] (mCons (mVar 0) mNil))))
noncomputable def bx_unit : MS :=
  (mSeq (mIf (mOr (mNot (mTest (mCallD b_is_whole 1 [false] (mCons (mVar 0) mNil)))) (mNot (mTB (mChain leD leD (mC (.int 1)) (mVar 0) (mC (.int 5))))))
    (mRaiseF "NoNumber" "number" (mVar 0))
    sNx)
  (mRet [false] (mCallD b_unit_by 1 [false] (mCons (mVar 0) mNil))))
abbrev st_is_below : Stmt := topS 13
abbrev N_is_below : List Str := ["thing", "many"]
noncomputable def b_is_below : MS :=
  (mRet [false, false] (mAndV (mCallD b_is_whole 1 [false] (mCons (mVar 0) mNil)) (mChain leD ltD (mC (.int 0)) (mVar 0) (mVar 1))))
abbrev st_is_perm : Stmt := topS 16
abbrev N_is_perm : List Str := ["thing", "one"]
noncomputable def b_is_perm : MS :=
  (mSeq (mIf (mOr (mNot (mTest (mIs PyData.isTuple (mVar 0)))) (mNot (mTB (mChain leD leD (mC (.int 1)) (mN (one lenD) (mCons (mVar 0) mNil)) (mC (.int 5))))))
    (mRet [false] (mC (.bool false)))
    sNx)
  (mRet [false] (mAndV (mN (one allD) (mCons (dF (mLc (mRow (mVar 0)) (.nm 1) (M.ret true) (mCallD b_is_below 2 [false, false] (mCons (mVar 1) (mCons (mN (one lenD) (mCons (mVar 0) mNil)) mNil))) [1])) mNil)) (m2 eqD (dF (mNF (one sortedD) (mCons (mVar 0) mNil))) (dF (mLR (mR1 (mN (one lenD) (mCons (mVar 0) mNil)))))))))
abbrev st_need_perm : Stmt := topS 17
abbrev N_need_perm : List Str := ["thing"]
noncomputable def b_need_perm : MS :=
  (mIf (mNot (mTest (mCallD b_is_perm 2 [false] (mCons (mVar 0) mNil))))
    M.stk
    sNx)
noncomputable def bx_need_perm : MS :=
  (mIf (mNot (mTest (mCallD b_is_perm 2 [false] (mCons (mVar 0) mNil))))
    (mRaise ⟨"NoLabels", "", .str (Str.ofString "no permutation")⟩)
    sNx)
abbrev st_then_by : Stmt := topS 19
abbrev N_then_by : List Str := ["one", "other", "at"]
noncomputable def b_then_by : MS :=
  (mRet [false, false] (mN (one tupleD) (mCons (dF (mLc (mRow (mVar 0)) (.nm 2) (M.ret true) (m2 ixD (mVar 1) (mVar 2)) [2])) mNil)))
abbrev st_then : Stmt := topS 23
abbrev N_then : List Str := ["one", "other"]
noncomputable def b_then : MS :=
  (mSeq (mDrop (mCallD b_need_perm 1 [false] (mCons (mVar 0) mNil)))
  (mSeq (mDrop (mCallD b_need_perm 1 [false] (mCons (mVar 1) mNil)))
  (mSeq (mIf (mTB (m2 neD (mN (one lenD) (mCons (mVar 0) mNil)) (mN (one lenD) (mCons (mVar 1) mNil))))
    M.stk
    sNx)
  (mRet [false, false] (mCallD b_then_by 3 [false, false] (mCons (mVar 0) (mCons (mVar 1) mNil)))))))
noncomputable def bx_then : MS :=
  (mSeq (mDrop (mCallDX bx_need_perm 1 [false] (mCons (mVar 0) mNil)))
  (mSeq (mDrop (mCallDX bx_need_perm 1 [false] (mCons (mVar 1) mNil)))
  (mSeq (mIf (mTB (m2 neD (mN (one lenD) (mCons (mVar 0) mNil)) (mN (one lenD) (mCons (mVar 1) mNil))))
    (mRaise ⟨"NoLabels", "", .str (Str.ofString "unlike sizes")⟩)
    sNx)
  (mRet [false, false] (mCallD b_then_by 3 [false, false] (mCons (mVar 0) (mCons (mVar 1) mNil)))))))
abbrev st_inverse_by : Stmt := topS 20
abbrev N_inverse_by : List Str := ["one", "found", "at", "other"]
noncomputable def b_inverse_by : MS :=
  (mSeq (mSetF 1 (mNF (one listD) (mCons (mVar 0) mNil)))
  (mSeq (mFor (mEnum (mVar 0)) (.tp [(.nm 2), (.nm 3)])
    (mSub 1 (mVar 3) (mVar 2)))
  (mRet [false] (mN (one tupleD) (mCons (mVar 1) mNil)))))
abbrev st_inverse : Stmt := topS 24
abbrev N_inverse : List Str := ["one"]
noncomputable def b_inverse : MS :=
  (mSeq (mDrop (mCallD b_need_perm 1 [false] (mCons (mVar 0) mNil)))
  (mRet [false] (mCallD b_inverse_by 4 [false] (mCons (mVar 0) mNil))))
noncomputable def bx_inverse : MS :=
  (mSeq (mDrop (mCallDX bx_need_perm 1 [false] (mCons (mVar 0) mNil)))
  (mRet [false] (mCallD b_inverse_by 4 [false] (mCons (mVar 0) mNil))))
abbrev st_cycles_by : Stmt := topS 21
abbrev N_cycles_by : List Str := ["one", "met", "found", "first", "at", "many"]
noncomputable def b_cycles_by : MS :=
  (mSeq (mSetF 1 (M.ret (.dict [])))
  (mSeq (mSetF 2 (mLst mNil))
  (mSeq (mFor (mRow (mVar 0)) (.nm 3)
    (mSeq (mPar 4 5 (mCons (mVar 3) (mCons (mC (.int 0)) mNil)))
    (mSeq (mWhile (mTB (m2 notInD (mVar 4) (mVar 1)))
      (mSeq (mSubD 1 (mVar 4) (mC (.bool true)))
      (mSeq (mAugI 5 (mC (.int 1)))
      (mSet 4 (m2 ixD (mVar 0) (mVar 4))))) fuel)
    (mIf (mTB (m2 gtD (mVar 5) (mC (.int 0))))
      (mDrop (mMut 2 appF (mCons (mVar 5) mNil)))
      sNx))))
  (mRet [false] (mN (one tupleD) (mCons (dF (mNF (one sortedD) (mCons (mVar 2) mNil))) mNil))))))
abbrev st_cycles : Stmt := topS 25
abbrev N_cycles : List Str := ["one"]
noncomputable def b_cycles : MS :=
  (mSeq (mDrop (mCallD b_need_perm 1 [false] (mCons (mVar 0) mNil)))
  (mRet [false] (mCallD b_cycles_by 6 [false] (mCons (mVar 0) mNil))))
noncomputable def bx_cycles : MS :=
  (mSeq (mDrop (mCallDX bx_need_perm 1 [false] (mCons (mVar 0) mNil)))
  (mRet [false] (mCallD b_cycles_by 6 [false] (mCons (mVar 0) mNil))))
abbrev st_law_take : Stmt := topS 28
abbrev N_law_take : List Str := ["_law_pot_here", "_law_many", "_law_found", "_law_one", "_law_other"]
noncomputable def b_law_take : MS :=
  (mSeq (mIf (mTB (m2 gtD (m2 ixD (mVar 0) (mC (.int 0))) (mC (.int 0))))
    (mSeq (mSet 2 (m2 modD (m2 ixD (mVar 0) (mC (.int 0))) (mVar 1)))
    (mSeq (mSub 0 (mC (.int 0)) (m2 fdivD (m2 ixD (mVar 0) (mC (.int 0))) (mVar 1)))
    (mRet [true, false] (mVar 2))))
    sNx)
  (mSeq (mSub 0 (mC (.int 2)) (m2 addD (m2 ixD (mVar 0) (mC (.int 2))) (mC (.int 1))))
  (mSeq (mSet 3 (m2 modD (m2 powD (m2 addD (m2 ixD (mVar 0) (mC (.int 1))) (m2 mulD (mC (.int 86028157)) (m2 ixD (mVar 0) (mC (.int 2))))) (mC (.int 3))) (mC (.int 2305843009213693907))))
  (mSeq (mSet 4 (m2 modD (m2 powD (m2 addD (m2 addD (mVar 3) (m2 modD (m2 ixD (mVar 0) (mC (.int 1))) (mC (.int 1000003)))) (m2 mulD (mC (.int 31)) (m2 ixD (mVar 0) (mC (.int 2))))) (mC (.int 5))) (mC (.int 2305843009213693921))))
  (mRet [true, false] (m2 modD (m2 fdivD (mVar 4) (mC (.int 4096))) (mVar 1)))))))
abbrev st_law_perm : Stmt := topS 29
abbrev N_law_perm : List Str := ["_law_pot_here", "_law_size", "_law_left", "_law_found"]
noncomputable def b_law_perm : MS :=
  (mSeq (mSetF 2 (mLR (mR1 (mVar 1))))
  (mSeq (mSetF 3 (mLst mNil))
  (mSeq (mWhile (mTB (m2 neD (mVar 2) (dF (mLst mNil))))
    (mDrop (mMut 3 appF (mCons (mMut 2 popF (mCons (mCallD b_law_take 5 [true, false] (mCons (mVar 0) (mCons (mN (one lenD) (mCons (mVar 2) mNil)) mNil))) mNil)) mNil))) fuel)
  (mRet [true, false] (mN (one tupleD) (mCons (mVar 3) mNil))))))
abbrev st_law_strange : Stmt := topS 34
abbrev N_law_strange : List Str := ["_law_pot_here", "_law_one", "_law_at", "_law_some", "_law_part"]
noncomputable def b_law_strange : MS :=
  (mSeq (mSet 2 (mCallD b_law_take 5 [true, false] (mCons (mVar 0) (mCons (mN (one lenD) (mCons (mVar 1) mNil)) mNil))))
  (mSeq (mSet 3 (dF (mLc (mRow (dF (mLst (mCons (m1 negD (mC (.int 1))) (mCons (mN (one lenD) (mCons (mVar 1) mNil)) (mCons (m2 ixD (mVar 1) (mC (.int 0))) (mCons (mC (.bool true)) (mCons (mC .none) (mCons (mC (.str (Str.ofString "0"))) (mCons (mTup (mCons (mC (.int 0)) mNil)) (mCons (m2 powD (mC (.int 10)) (mC (.int 39))) mNil))))))))))) (.nm 4) (M.ret true) (m2 addD (m2 addD (mSl (mVar 1) (M.ret none) (intM (mVar 2))) (mTup (mCons (mVar 4) mNil))) (mSl (mVar 1) (intM (m2 addD (mVar 2) (mC (.int 1)))) (M.ret none))) [4])))
  (mSeq (mSet 3 (dF (m2F catD (mVar 3) (dF (mLst (mCons (m2 addD (mSl (mVar 1) (M.ret none) (intM (mVar 2))) (mSl (mVar 1) (intM (m2 addD (mVar 2) (mC (.int 1)))) (M.ret none))) (mCons (m2 addD (mVar 1) (mTup (mCons (mN (one lenD) (mCons (mVar 1) mNil)) mNil))) (mCons (m2 addD (mVar 1) (mVar 1)) (mCons (dF (mNF (one listD) (mCons (mVar 1) mNil))) (mCons (mTup mNil) (mCons (mC (.int 0)) mNil)))))))))))
  (mSeq (mSet 3 (dF (m2F catD (mVar 3) (dF (mLst (mCons (mC .none) (mCons (mC (.bool true)) (mCons (mC (.str (Str.ofString "01"))) (mCons (dF (M.ret (.dict []))) (mCons (mTup (mCons (mVar 1) mNil)) mNil))))))))))
  (mRet [true, false] (m2 ixD (mVar 3) (mCallD b_law_take 5 [true, false] (mCons (mVar 0) (mCons (mN (one lenD) (mCons (mVar 3) mNil)) mNil)))))))))
abbrev st_law_after : Stmt := topS 30
abbrev N_law_after : List Str := ["_law_one", "_law_other", "_law_at"]
noncomputable def b_law_after : MS :=
  (mRet [false, false] (mN (one tupleD) (mCons (dF (mLc (mRow (mVar 0)) (.nm 2) (M.ret true) (m2 ixD (mVar 1) (mVar 2)) [2])) mNil)))
abbrev st_law_back : Stmt := topS 31
abbrev N_law_back : List Str := ["_law_one", "_law_at"]
noncomputable def b_law_back : MS :=
  (mRet [false] (mN (one tupleD) (mCons (dF (mLc (mRg (mR1 (mN (one lenD) (mCons (mVar 0) mNil)))) (.nm 1) (M.ret true) (mIdxT (mVar 0) (mVar 1)) [1])) mNil)))
abbrev st_law_rounds : Stmt := topS 32
abbrev N_law_rounds : List Str := ["_law_one", "_law_found", "_law_left", "_law_first", "_law_at", "_law_many"]
noncomputable def b_law_rounds : MS :=
  (mSeq (mSetF 1 (mLst mNil))
  (mSeq (mSetF 2 (mLR (mR1 (mN (one lenD) (mCons (mVar 0) mNil)))))
  (mSeq (mWhile (mTB (m2 neD (mVar 2) (dF (mLst mNil))))
    (mSeq (mSet 3 (m2 ixD (mVar 2) (mC (.int 0))))
    (mSeq (mSet 4 (m2 ixD (mVar 0) (mVar 3)))
    (mSeq (mSet 5 (mC (.int 1)))
    (mSeq (mDrop (mMut 2 remF (mCons (mVar 3) mNil)))
    (mSeq (mWhile (mTB (m2 neD (mVar 4) (mVar 3)))
      (mSeq (mDrop (mMut 2 remF (mCons (mVar 4) mNil)))
      (mSeq (mSet 4 (m2 ixD (mVar 0) (mVar 4)))
      (mSet 5 (m2 addD (mVar 5) (mC (.int 1)))))) fuel)
    (mDrop (mMut 1 appF (mCons (mVar 5) mNil)))))))) fuel)
  (mRet [false] (mN (one tupleD) (mCons (dF (mNF (one sortedD) (mCons (mVar 1) mNil))) mNil))))))
abbrev st_law_word : Stmt := topS 35
abbrev N_law_word : List Str := ["_law_error", "_law_others", "_law_kinds"]
noncomputable def b_law_word : Tbl → XI → MS := fun T xi =>
  (mSeq (mSet 1 (mIsE T xi 0 (tb [("NoLabels", false), ("NoNumber", false)])))
  (mSeq (mSet 2 (dF (mLst (mCons (mAndV (mIsE T xi 0 (tb [("NoLabels", true), ("NoNumber", false)])) (mIsE T xi 0 (tb [("NoLabels", true), ("NoNumber", false)]))) (mCons (mIsE T xi 0 (tb [("NoLabels", false), ("NoNumber", true)])) mNil)))))
  (mSeq (mIf (mOr (mTest (mVar 1)) (mOr (mTB (m2 neD (mCntB (mVar 2) true) (mC (.int 1)))) (mTB (m2 neD (mIsE T xi 0 (tb [("NoLabels", true), ("NoNumber", false)])) (m2 ixD (mVar 2) (mC (.int 0)))))))
    (mRet [false] (mC (.str (Str.ofString "odd"))))
    sNx)
  (mRet [false] (m2 ixD (dF (mLst (mCons (mC (.str (Str.ofString "labels"))) (mCons (mC (.str (Str.ofString "number"))) mNil)))) (mIdxB (mVar 2) true))))))
abbrev st_law_refused : Stmt := topS 36
abbrev N_law_refused : List Str := ["_law_which", "_law_one", "_law_other", "e"]
noncomputable def b_law_refused : MS :=
  (mSeq (mTry
    (mIf (mTB (m2 eqD (mVar 0) (mC (.int 0))))
      (mDrop (mCallDX bx_then 2 [false, false] (mCons (mVar 1) (mCons (mVar 2) mNil))))
      (mIf (mTB (m2 eqD (mVar 0) (mC (.int 1))))
        (mDrop (mCallDX bx_inverse 1 [false] (mCons (mVar 1) mNil)))
        (mIf (mTB (m2 eqD (mVar 0) (mC (.int 2))))
          (mDrop (mCallDX bx_cycles 1 [false] (mCons (mVar 1) mNil)))
          (mDrop (mCallDX bx_unit 1 [false] (mCons (mVar 1) mNil))))))
    [⟨(tb [("NoLabels", false), ("NoNumber", true)]), some 3, fun T xi =>
      (mRet [false, false, false] (mTup (mCons (mCallE T xi 3 b_law_word 3) (mCons (mN (one reprD) (mCons (mXf T xi 3 "number" (tb [("NoNumber", true)])) mNil)) mNil))))⟩,
    ⟨(tb [("NoLabels", true)]), some 3, fun T xi =>
      (mRet [false, false, false] (mTup (mCons (mCallE T xi 3 b_law_word 3) (mCons (mC (.str (Str.ofString ""))) mNil))))⟩])
  (mRet [false, false, false] (mTup (mCons (mC (.str (Str.ofString "told"))) (mCons (mC (.str (Str.ofString ""))) mNil)))))
abbrev st_law_is : Stmt := topS 33
abbrev N_law_is : List Str := ["_law_thing", "_law_part"]
noncomputable def b_law_is : MS :=
  (mSeq (mIf (mOr (mNot (mTest (mIs PyData.isTuple (mVar 0)))) (mNot (mTB (mChain leD leD (mC (.int 1)) (mN (one lenD) (mCons (mVar 0) mNil)) (mC (.int 5))))))
    (mRet [false] (mC (.bool false)))
    sNx)
  (mSeq (mFor (mRow (mVar 0)) (.nm 1)
    (mIf (mOr (mNot (mTest (mIs PyData.isInt (mVar 1)))) (mTest (mIs PyData.isBool (mVar 1))))
      (mRet [false] (mC (.bool false)))
      sNx))
  (mRet [false] (m2 eqD (dF (mNF (one sortedD) (mCons (mVar 0) mNil))) (dF (mLR (mR1 (mN (one lenD) (mCons (mVar 0) mNil)))))))))
abbrev st_law_right : Stmt := topS 37
abbrev N_law_right : List Str := ["_law_pot_here", "_law_size", "_law_one", "_law_other", "_law_last", "_law_least", "_law_strange_here", "_law_known", "_law_told", "_law_due", "_law_thing", "_law_words", "_law_bad", "_law_right_here", "_law_odd"]
noncomputable def b_law_right : MS :=
  (mSeq (mSet 1 (m2 addD (mC (.int 1)) (mCallD b_law_take 5 [true, false] (mCons (mVar 0) (mCons (mC (.int 5)) mNil)))))
  (mSeq (mPar 2 3 (mCons (mCallD b_law_perm 4 [true, false] (mCons (mVar 0) (mCons (mVar 1) mNil))) (mCons (mCallD b_law_perm 4 [true, false] (mCons (mVar 0) (mCons (mVar 1) mNil))) mNil)))
  (mSeq (mSet 4 (mCallD b_law_perm 4 [true, false] (mCons (mVar 0) (mCons (mVar 1) mNil))))
  (mSeq (mSet 5 (mCallD b_law_perm 4 [true, false] (mCons (mVar 0) (mCons (m2 addD (mC (.int 1)) (m2 modD (m2 addD (mVar 1) (mCallD b_law_take 5 [true, false] (mCons (mVar 0) (mCons (mC (.int 4)) mNil)))) (mC (.int 5)))) mNil))))
  (mSeq (mSet 6 (mCallD b_law_strange 5 [true, false] (mCons (mVar 0) (mCons (mVar 2) mNil))))
  (mSeq (mSet 7 (mN (one reprAD) (mCons (dF (mLst (mCons (mVar 2) (mCons (mVar 3) (mCons (mVar 6) mNil))))) mNil)))
  (mSeq (mSet 8 (dF (mLst (mCons (mCallD b_then 2 [false, false] (mCons (mVar 2) (mCons (mVar 3) mNil))) (mCons (mCallD b_inverse 1 [false] (mCons (mVar 2) mNil)) (mCons (mCallD b_then 2 [false, false] (mCons (mVar 2) (mCons (mCallD b_inverse 1 [false] (mCons (mVar 2) mNil)) mNil))) (mCons (mCallD b_cycles 1 [false] (mCons (mVar 2) mNil)) (mCons (mCallD b_unit 1 [false] (mCons (mVar 1) mNil)) mNil))))))))
  (mSeq (mSet 9 (dF (mLst (mCons (mCallD b_law_after 3 [false, false] (mCons (mVar 2) (mCons (mVar 3) mNil))) (mCons (mCallD b_law_back 2 [false] (mCons (mVar 2) mNil)) (mCons (mTR (mR1 (mVar 1))) (mCons (mCallD b_law_rounds 6 [false] (mCons (mVar 2) mNil)) (mCons (mTR (mR1 (mVar 1))) mNil))))))))
  (mSeq (mIf (mOr (mTB (m2 neD (mN (one reprAD) (mCons (mVar 8) mNil)) (mN (one reprAD) (mCons (mVar 9) mNil)))) (mTB (m2 neD (mCallD b_then 2 [false, false] (mCons (mCallD b_then 2 [false, false] (mCons (mVar 2) (mCons (mVar 3) mNil))) (mCons (mVar 4) mNil))) (mCallD b_then 2 [false, false] (mCons (mVar 2) (mCons (mCallD b_then 2 [false, false] (mCons (mVar 3) (mCons (mVar 4) mNil))) mNil))))))
    (mRet [true] (mC (.bool false)))
    sNx)
  (mSeq (mIf (mOr (mTB (m2 neD (mCallD b_cycles 1 [false] (mCons (mCallD b_then 2 [false, false] (mCons (mCallD b_then 2 [false, false] (mCons (mVar 3) (mCons (mVar 2) mNil))) (mCons (mCallD b_inverse 1 [false] (mCons (mVar 3) mNil)) mNil))) mNil)) (m2 ixD (mVar 9) (mC (.int 3))))) (mTB (m2 neD (mCallD b_cycles 1 [false] (mCons (mCallD b_inverse 1 [false] (mCons (mVar 2) mNil)) mNil)) (m2 ixD (mVar 9) (mC (.int 3))))))
    (mRet [true] (mC (.bool false)))
    sNx)
  (mSeq (mIf (mTB (m2 neD (mN (one reprAD) (mCons (dF (mLc (mRow (dF (mLst (mCons (mVar 2) (mCons (mVar 5) (mCons (mVar 6) mNil)))))) (.nm 10) (M.ret true) (mCallD b_is_perm 2 [false] (mCons (mVar 10) mNil)) [10])) mNil)) (mN (one reprAD) (mCons (dF (mLst (mCons (mC (.bool true)) (mCons (mC (.bool true)) (mCons (mCallD b_law_is 2 [false] (mCons (mVar 6) mNil)) mNil))))) mNil))))
    (mRet [true] (mC (.bool false)))
    sNx)
  (mSeq (mSet 11 (dF (mLst (mCons (mCallD b_law_refused 4 [false, false, false] (mCons (mC (.int 0)) (mCons (mVar 2) (mCons (mVar 6) mNil)))) (mCons (mCallD b_law_refused 4 [false, false, false] (mCons (mC (.int 0)) (mCons (mVar 6) (mCons (mVar 2) mNil)))) (mCons (mCallD b_law_refused 4 [false, false, false] (mCons (mC (.int 0)) (mCons (mVar 2) (mCons (mVar 5) mNil)))) mNil))))))
  (mSeq (mSet 11 (dF (m2F catD (mVar 11) (dF (mLst (mCons (mCallD b_law_refused 4 [false, false, false] (mCons (mC (.int 1)) (mCons (mVar 6) (mCons (mC .none) mNil)))) (mCons (mCallD b_law_refused 4 [false, false, false] (mCons (mC (.int 2)) (mCons (mVar 6) (mCons (mC .none) mNil)))) mNil)))))))
  (mSeq (mUnp (.tp [(.nm 12), (.nm 8)]) (mTup (mCons (mTup (mCons (mC (.str (Str.ofString "labels"))) (mCons (mC (.str (Str.ofString ""))) mNil))) (mCons (mTup (mCons (mC (.str (Str.ofString "told"))) (mCons (mC (.str (Str.ofString ""))) mNil))) mNil))))
  (mSeq (mSet 13 (dF (mRep (mCons (mIf (mAnd (mTest (mCallD b_law_is 2 [false] (mCons (mVar 6) mNil))) (mTB (m2 eqD (mN (one lenD) (mCons (mVar 6) mNil)) (mVar 1)))) (mVar 8) (mVar 12)) mNil) (mC (.int 2)))))
  (mSeq (mSet 13 (dF (m2F catD (dF (m2F catD (mVar 13) (dF (mLst (mCons (mIf (mTB (m2 eqD (mN (one lenD) (mCons (mVar 5) mNil)) (mVar 1))) (mVar 8) (mVar 12)) mNil))))) (dF (mRep (mCons (mIf (mTest (mCallD b_law_is 2 [false] (mCons (mVar 6) mNil))) (mVar 8) (mVar 12)) mNil) (mC (.int 2)))))))
  (mSeq (mSet 14 (m2 ixD (dF (mLst (mCons (mC (.int 0)) (mCons (mC (.int 6)) (mCons (m1 negD (mC (.int 1))) (mCons (mC (.bool true)) (mCons (mC .none) (mCons (mC (.str (Str.ofString "2"))) (mCons (mTup (mCons (mC (.int 3)) mNil)) (mCons (m2 powD (mC (.int 10)) (mC (.int 39))) mNil)))))))))) (mCallD b_law_take 5 [true, false] (mCons (mVar 0) (mCons (mC (.int 8)) mNil)))))
  (mSeq (mIf (mTB (m2 neD (mCallD b_law_refused 4 [false, false, false] (mCons (mC (.int 3)) (mCons (mVar 14) (mCons (mC .none) mNil)))) (mTup (mCons (mC (.str (Str.ofString "number"))) (mCons (mN (one reprAD) (mCons (mVar 14) mNil)) mNil)))))
    (mRet [true] (mC (.bool false)))
    sNx)
  (mRet [true] (mAndV (m2 eqD (mVar 11) (mVar 13)) (m2 eqD (mN (one reprAD) (mCons (dF (mLst (mCons (mVar 2) (mCons (mVar 3) (mCons (mVar 6) mNil))))) mNil)) (mVar 7))))))))))))))))))))))
abbrev st_law : Stmt := topS 38
abbrev N_law : List Str := ["_law_script", "_law_k", "_law_pot_here", "_law_turn", "_law_some"]
noncomputable def b_law : MS :=
  (mSeq (mFor (mRg (mR1 (mN (two maxD2) (mCons (mC (.int 1)) (mCons (mN (two minD2) (mCons (mN (one lenD) (mCons (mVar 0) mNil)) (mCons (mC (.int 63)) mNil))) mNil))))) (.nm 1)
    (mSeq (mSetF 2 (mCallF b_law_pot 4 [false, false] (mCons (mVar 0) (mCons (mVar 1) mNil))))
    (mFor (mRg (mR1 (mC (.int 6)))) (.nm 3)
      (mIf (mNot (mTest (mCallD b_law_right 15 [true] (mCons (mVar 2) mNil))))
        (mRet [false] (mC (.bool false)))
        sNx))))
  (mSeq (mSet 4 (dF (mLst (mCons (mCallD b_unit 1 [false] (mCons (mC (.int 3)) mNil)) (mCons (mCallD b_then 2 [false, false] (mCons (mTup (mCons (mC (.int 1)) (mCons (mC (.int 0)) (mCons (mC (.int 2)) mNil)))) (mCons (mTup (mCons (mC (.int 0)) (mCons (mC (.int 2)) (mCons (mC (.int 1)) mNil)))) mNil))) (mCons (mCallD b_inverse 1 [false] (mCons (mTup (mCons (mC (.int 1)) (mCons (mC (.int 2)) (mCons (mC (.int 0)) mNil)))) mNil)) (mCons (mCallD b_cycles 1 [false] (mCons (mTup (mCons (mC (.int 0)) (mCons (mC (.int 1)) mNil))) mNil)) (mCons (mCallD b_cycles 1 [false] (mCons (mTup (mCons (mC (.int 1)) (mCons (mC (.int 2)) (mCons (mC (.int 0)) mNil)))) mNil)) mNil))))))))
  (mRet [false] (mAndV (m2 eqD (mVar 4) (dF (mLst (mCons (mTup (mCons (mC (.int 0)) (mCons (mC (.int 1)) (mCons (mC (.int 2)) mNil)))) (mCons (mTup (mCons (mC (.int 2)) (mCons (mC (.int 0)) (mCons (mC (.int 1)) mNil)))) (mCons (mTup (mCons (mC (.int 2)) (mCons (mC (.int 0)) (mCons (mC (.int 1)) mNil)))) (mCons (mTup (mCons (mC (.int 1)) (mCons (mC (.int 1)) mNil))) (mCons (mTup (mCons (mC (.int 3)) mNil)) mNil)))))))) (m2 eqD (mC (.int 5)) (mC (.int 5)))))))
theorem sc_law_pot : FnScope N_law_pot ["_law_script", "_law_k"] (defScope st_law_pot) := ⟨rfl, rfl, rfl, by decide +kernel, rfl, by decide +kernel, by decide +kernel⟩
theorem sc_unit_by : FnScope N_unit_by ["size"] (defScope st_unit_by) := ⟨rfl, rfl, rfl, by decide +kernel, rfl, by decide +kernel, by decide +kernel⟩
theorem sc_is_whole : FnScope N_is_whole ["thing"] (defScope st_is_whole) := ⟨rfl, rfl, rfl, by decide +kernel, rfl, by decide +kernel, by decide +kernel⟩
theorem sc_unit : FnScope N_unit ["size"] (defScope st_unit) := ⟨rfl, rfl, rfl, by decide +kernel, rfl, by decide +kernel, by decide +kernel⟩
theorem sc_is_below : FnScope N_is_below ["thing", "many"] (defScope st_is_below) := ⟨rfl, rfl, rfl, by decide +kernel, rfl, by decide +kernel, by decide +kernel⟩
theorem sc_is_perm : FnScope N_is_perm ["thing"] (defScope st_is_perm) := ⟨rfl, rfl, rfl, by decide +kernel, rfl, by decide +kernel, by decide +kernel⟩
theorem sc_need_perm : FnScope N_need_perm ["thing"] (defScope st_need_perm) := ⟨rfl, rfl, rfl, by decide +kernel, rfl, by decide +kernel, by decide +kernel⟩
theorem sc_then_by : FnScope N_then_by ["one", "other"] (defScope st_then_by) := ⟨rfl, rfl, rfl, by decide +kernel, rfl, by decide +kernel, by decide +kernel⟩
theorem sc_then : FnScope N_then ["one", "other"] (defScope st_then) := ⟨rfl, rfl, rfl, by decide +kernel, rfl, by decide +kernel, by decide +kernel⟩
theorem sc_inverse_by : FnScope N_inverse_by ["one"] (defScope st_inverse_by) := ⟨rfl, rfl, rfl, by decide +kernel, rfl, by decide +kernel, by decide +kernel⟩
theorem sc_inverse : FnScope N_inverse ["one"] (defScope st_inverse) := ⟨rfl, rfl, rfl, by decide +kernel, rfl, by decide +kernel, by decide +kernel⟩
theorem sc_cycles_by : FnScope N_cycles_by ["one"] (defScope st_cycles_by) := ⟨rfl, rfl, rfl, by decide +kernel, rfl, by decide +kernel, by decide +kernel⟩
theorem sc_cycles : FnScope N_cycles ["one"] (defScope st_cycles) := ⟨rfl, rfl, rfl, by decide +kernel, rfl, by decide +kernel, by decide +kernel⟩
theorem sc_law_take : FnScope N_law_take ["_law_pot_here", "_law_many"] (defScope st_law_take) := ⟨rfl, rfl, rfl, by decide +kernel, rfl, by decide +kernel, by decide +kernel⟩
theorem sc_law_perm : FnScope N_law_perm ["_law_pot_here", "_law_size"] (defScope st_law_perm) := ⟨rfl, rfl, rfl, by decide +kernel, rfl, by decide +kernel, by decide +kernel⟩
theorem sc_law_strange : FnScope N_law_strange ["_law_pot_here", "_law_one"] (defScope st_law_strange) := ⟨rfl, rfl, rfl, by decide +kernel, rfl, by decide +kernel, by decide +kernel⟩
theorem sc_law_after : FnScope N_law_after ["_law_one", "_law_other"] (defScope st_law_after) := ⟨rfl, rfl, rfl, by decide +kernel, rfl, by decide +kernel, by decide +kernel⟩
theorem sc_law_back : FnScope N_law_back ["_law_one"] (defScope st_law_back) := ⟨rfl, rfl, rfl, by decide +kernel, rfl, by decide +kernel, by decide +kernel⟩
theorem sc_law_rounds : FnScope N_law_rounds ["_law_one"] (defScope st_law_rounds) := ⟨rfl, rfl, rfl, by decide +kernel, rfl, by decide +kernel, by decide +kernel⟩
theorem sc_law_word : FnScope N_law_word ["_law_error"] (defScope st_law_word) := ⟨rfl, rfl, rfl, by decide +kernel, rfl, by decide +kernel, by decide +kernel⟩
theorem sc_law_refused : FnScope N_law_refused ["_law_which", "_law_one", "_law_other"] (defScope st_law_refused) := ⟨rfl, rfl, rfl, by decide +kernel, rfl, by decide +kernel, by decide +kernel⟩
theorem sc_law_is : FnScope N_law_is ["_law_thing"] (defScope st_law_is) := ⟨rfl, rfl, rfl, by decide +kernel, rfl, by decide +kernel, by decide +kernel⟩
theorem sc_law_right : FnScope N_law_right ["_law_pot_here"] (defScope st_law_right) := ⟨rfl, rfl, rfl, by decide +kernel, rfl, by decide +kernel, by decide +kernel⟩
theorem sc_law : FnScope N_law ["_law_script"] (defScope st_law) := ⟨rfl, rfl, rfl, by decide +kernel, rfl, by decide +kernel, by decide +kernel⟩
section
variable {P : Program} {w : World} {K : PySem.W.Frag} {mg : Str → Option Value} {base : Heap}
theorem ok_law_pot {f : Addr} {fd : FuncData} (F : Fun K "_law_pot" "_law_pot" st_law_pot f fd) (z_abs : mg "abs" = none) (z_int : mg "int" = none) (z_len : mg "len" = none) : FnG P w K mg base CX0 1 f fd ["_law_script", "_law_k"] (spV K b_law_pot 4 [false, false]) :=
  have nd := sc_law_pot.nd
  fnV_of F sc_law_pot rfl fun cdv A outer s H E H0 O0 io g hG hr => have hu := room_hu hr
  (s_cons (s_set (i := 2) nd rfl (by first | exact .inl rfl | exact .inr rfl) d_int)
  (s_cons (s_if (t_cmp (o_lt hu) (d_var 1) (d_callB c_len (by rfl) z_len bb_len (a_cons (d_var 0) a_nil)))
    (s_one (s_set (i := 2) nd rfl (by first | exact .inl rfl | exact .inr rfl) (d_op o_mod (d_callB c_abs (by rfl) z_abs bb_abs (a_cons (d_ix o_ix (d_var 0) (d_var 1)) a_nil)) (d_op o_pow (d_op o_pow d_int d_int) d_int))))
    s_nil)
  (s_cons (s_set (i := 3) nd rfl (by first | exact .inl rfl | exact .inr rfl) (d_op o_mod (d_op o_pow (d_op o_add (d_op o_add (d_op o_mod (d_var 2) d_int) (d_op o_mul d_int (d_var 1))) d_int) d_int) d_int))
  (s_one (s_retF (f_lst (a_cons (d_op o_mul (d_var 2) (d_callT c_int (by rfl) z_int bb_int (a_cons (d_cmp (o_ge hu) (d_var 2) (d_op o_pow d_int d_int)) a_nil))) (a_cons (d_var 3) (a_cons d_int a_nil)))))))))
theorem ok_unit_by {f : Addr} {fd : FuncData} (F : Fun K "unit_by" "unit_by" st_unit_by f fd) (z_range : mg "range" = none) (z_tuple : mg "tuple" = none) : FnG P w K mg base CX0 1 f fd ["size"] (spV K b_unit_by 1 [false]) :=
  have nd := sc_unit_by.nd
  fnV_of F sc_unit_by rfl fun cdv A outer s H E H0 O0 io g hG hr => have hu := room_hu hr
  (s_one (s_ret rfl (d_tupRg rfl (by rfl) z_tuple (g_1 (by rfl) z_range (d_var 0)))))
theorem ok_is_whole {f : Addr} {fd : FuncData} (F : Fun K "is_whole" "is_whole" st_is_whole f fd) (z_bool : mg "bool" = none) (z_int : mg "int" = none) (z_isinstance : mg "isinstance" = none) : FnG P w K mg base CX0 1 f fd ["thing"] (spV K b_is_whole 1 [false]) :=
  have nd := sc_is_whole.nd
  fnV_of F sc_is_whole rfl fun cdv A outer s H E H0 O0 io g hG hr => have hu := room_hu hr
  (s_one (s_ret rfl (d_and (d_isi isT_int (by rfl) z_isinstance (by rfl) z_int bb_int (d_var 0)) (d_one (d_not (d_isi isT_bool (by rfl) z_isinstance (by rfl) z_bool bb_bool (d_var 0)))))))
theorem ok_unit {f : Addr} {fd : FuncData} (F : Fun K "unit" "unit" st_unit f fd) {v_MOST_SIZE : Tok} (y_MOST_SIZE : mg "MOST_SIZE" = some (.int 5 v_MOST_SIZE)) {f_is_whole : Addr} {d_is_whole : FuncData} (D_is_whole : Df K mg "is_whole" st_is_whole ["thing"] f_is_whole d_is_whole) (G_is_whole : FnG P w K mg base CX0 1 f_is_whole d_is_whole ["thing"] (spV K b_is_whole 1 [false])) {f_unit_by : Addr} {d_unit_by : FuncData} (D_unit_by : Df K mg "unit_by" st_unit_by ["size"] f_unit_by d_unit_by) (G_unit_by : FnG P w K mg base CX0 1 f_unit_by d_unit_by ["size"] (spV K b_unit_by 1 [false])) : FnG P w K mg base CX0 3 f fd ["size"] (spV K b_unit 1 [false]) :=
  have nd := sc_unit.nd
  fnV_of F sc_unit rfl fun cdv A outer s H E H0 O0 io g hG hr => have hu := room_hu hr
  (s_cons (s_if (w_or (t_not (t_val (d_callV (G_is_whole.mono (by decide)) hG hr (by rfl) D_is_whole.mg D_is_whole.fn.kp D_is_whole.bd (a_cons (d_var 0) a_nil)))) (w_or1 (t_not (t_chain (o_le hu) (o_le hu) d_int (d_var 0) (d_globI (by rfl) y_MOST_SIZE))))).pt
    (s_one s_never)
    s_nil)
  (s_one (s_ret rfl (d_callV (G_unit_by.mono (by decide)) hG hr (by rfl) D_unit_by.mg D_unit_by.fn.kp D_unit_by.bd (a_cons (d_var 0) a_nil)))))
theorem okx_unit {f : Addr} {fd : FuncData} (F : Fun K "unit" "unit" st_unit f fd) {v_MOST_SIZE : Tok} (y_MOST_SIZE : mg "MOST_SIZE" = some (.int 5 v_MOST_SIZE)) {c_NoNumber : Addr} (m_NoNumber : mg "NoNumber" = some (.ref c_NoNumber)) (o_NoNumber : oexB K c_NoNumber bmLE "LookupError.__new__" = true) {f_INoNumber : Addr} {d_INoNumber : FuncData} (iC_NoNumber : PySem.W.findIn K (.ref c_NoNumber) "__init__" = some (some (.ref f_INoNumber))) (tI_NoNumber : PySem.W.typeIn K (.ref f_INoNumber) = some (.type "function")) (I_NoNumber : FnOk P w K mg base CX0 1 f_INoNumber d_INoNumber ["self", "number"] (spI K c_NoNumber "number")) (B_NoNumber : Binds K d_INoNumber ["self", "number"] []) {f_is_whole : Addr} {d_is_whole : FuncData} (D_is_whole : Df K mg "is_whole" st_is_whole ["thing"] f_is_whole d_is_whole) (G_is_whole : FnG P w K mg base CX0 1 f_is_whole d_is_whole ["thing"] (spV K b_is_whole 1 [false])) {f_unit_by : Addr} {d_unit_by : FuncData} (D_unit_by : Df K mg "unit_by" st_unit_by ["size"] f_unit_by d_unit_by) (G_unit_by : FnG P w K mg base CX0 1 f_unit_by d_unit_by ["size"] (spV K b_unit_by 1 [false])) : FnG P w K mg base (L2N.CX P w) 3 f fd ["size"] (spX K mg bx_unit 1 [false]) :=
  have nd := sc_unit.nd
  fnX_of F sc_unit rfl fun cdv A outer s H E H0 O0 io g hG hr hx => have hu := room_hu hr
  (s_cons (s_if (w_or (t_not (t_val (d_callV (G_is_whole.mono (by decide)) hG hr (by rfl) D_is_whole.mg D_is_whole.fn.kp D_is_whole.bd (a_cons (d_var 0) a_nil)))) (w_or1 (t_not (t_chain (o_le hu) (o_le hu) d_int (d_var 0) (d_globI (by rfl) y_MOST_SIZE))))).pt
    (s_one (s_raiseF hx rfl bfLE (oexB_ok o_NoNumber) iC_NoNumber tI_NoNumber I_NoNumber (hr.mono (by decide)) B_NoNumber (by rfl) m_NoNumber (d_var 0)))
    s_nil)
  (s_one (s_ret rfl (d_callV (G_unit_by.mono (by decide)) hG hr (by rfl) D_unit_by.mg D_unit_by.fn.kp D_unit_by.bd (a_cons (d_var 0) a_nil)))))
theorem ok_is_below {f : Addr} {fd : FuncData} (F : Fun K "is_below" "is_below" st_is_below f fd) {f_is_whole : Addr} {d_is_whole : FuncData} (D_is_whole : Df K mg "is_whole" st_is_whole ["thing"] f_is_whole d_is_whole) (G_is_whole : FnG P w K mg base CX0 1 f_is_whole d_is_whole ["thing"] (spV K b_is_whole 1 [false])) : FnG P w K mg base CX0 2 f fd ["thing", "many"] (spV K b_is_below 2 [false, false]) :=
  have nd := sc_is_below.nd
  fnV_of F sc_is_below rfl fun cdv A outer s H E H0 O0 io g hG hr => have hu := room_hu hr
  (s_one (s_ret rfl (d_and (d_callV (G_is_whole.mono (by decide)) hG hr (by rfl) D_is_whole.mg D_is_whole.fn.kp D_is_whole.bd (a_cons (d_var 0) a_nil)) (d_one (d_chain (o_le hu) (o_lt hu) d_int (d_var 0) (d_var 1))))))
theorem ok_is_perm {f : Addr} {fd : FuncData} (F : Fun K "is_perm" "is_perm" st_is_perm f fd) (z_all : mg "all" = none) (z_isinstance : mg "isinstance" = none) (z_len : mg "len" = none) (z_list : mg "list" = none) (z_range : mg "range" = none) (z_sorted : mg "sorted" = none) (z_tuple : mg "tuple" = none) {v_MOST_SIZE : Tok} (y_MOST_SIZE : mg "MOST_SIZE" = some (.int 5 v_MOST_SIZE)) {f_is_below : Addr} {d_is_below : FuncData} (D_is_below : Df K mg "is_below" st_is_below ["thing", "many"] f_is_below d_is_below) (G_is_below : FnG P w K mg base CX0 2 f_is_below d_is_below ["thing", "many"] (spV K b_is_below 2 [false, false])) : FnG P w K mg base CX0 3 f fd ["thing"] (spV K b_is_perm 2 [false]) :=
  have nd := sc_is_perm.nd
  fnV_of F sc_is_perm rfl fun cdv A outer s H E H0 O0 io g hG hr => have hu := room_hu hr
  (s_cons (s_if (w_or (t_not (t_val (d_isi isT_tuple (by rfl) z_isinstance (by rfl) z_tuple bb_tuple (d_var 0)))) (w_or1 (t_not (t_chain (o_le hu) (o_le hu) d_int (d_callB c_len (by rfl) z_len bb_len (a_cons (d_var 0) a_nil)) (d_globI (by rfl) y_MOST_SIZE))))).pt
    (s_one (s_ret rfl d_bool))
    s_nil)
  (s_one (s_ret rfl (d_and (d_callB (c_all rfl) (by rfl) z_all bb_all (a_cons (d_F (f_lc (g' := g) (own := [("one", 1)]) rfl nd (i_row (d_var 0)) (blkOk_by (N := N_is_perm) (sc := (defScope st_is_perm)) (by decide +kernel)) (fun _ _ _ _ _ => (t_nm (i := 1) nd rfl (by first | exact .inl rfl | exact .inr rfl))) (fun _ _ _ _ _ => q_nil) (fun _ _ _ _ _ => (d_callV (G_is_below.mono (by decide)) hG hr (by rfl) D_is_below.mg D_is_below.fn.kp D_is_below.bd (a_cons (d_var 1) (a_cons (d_callB c_len (by rfl) z_len bb_len (a_cons (d_var 0) a_nil)) a_nil)))))) a_nil)) (d_one (d_cmp (o_eq hu) (d_F (f_callB (c_sorted hu) (by rfl) z_sorted bb_sorted (a_cons (d_var 0) a_nil))) (d_F (f_listRg rfl (by rfl) z_list (g_1 (by rfl) z_range (d_callB c_len (by rfl) z_len bb_len (a_cons (d_var 0) a_nil)))))))))))
theorem ok_need_perm {f : Addr} {fd : FuncData} (F : Fun K "need_perm" "need_perm" st_need_perm f fd) {f_is_perm : Addr} {d_is_perm : FuncData} (D_is_perm : Df K mg "is_perm" st_is_perm ["thing"] f_is_perm d_is_perm) (G_is_perm : FnG P w K mg base CX0 3 f_is_perm d_is_perm ["thing"] (spV K b_is_perm 2 [false])) : FnG P w K mg base CX0 4 f fd ["thing"] (spV K b_need_perm 1 [false]) :=
  have nd := sc_need_perm.nd
  fnV_of F sc_need_perm rfl fun cdv A outer s H E H0 O0 io g hG hr => have hu := room_hu hr
  (s_one (s_if (t_not (t_val (d_callV (G_is_perm.mono (by decide)) hG hr (by rfl) D_is_perm.mg D_is_perm.fn.kp D_is_perm.bd (a_cons (d_var 0) a_nil))))
    (s_one s_never)
    s_nil))
theorem okx_need_perm {f : Addr} {fd : FuncData} (F : Fun K "need_perm" "need_perm" st_need_perm f fd) {c_NoLabels : Addr} (m_NoLabels : mg "NoLabels" = some (.ref c_NoLabels)) (r_NoLabels : raTB K c_NoLabels bmVE "ValueError.__new__" = true) {f_is_perm : Addr} {d_is_perm : FuncData} (D_is_perm : Df K mg "is_perm" st_is_perm ["thing"] f_is_perm d_is_perm) (G_is_perm : FnG P w K mg base CX0 3 f_is_perm d_is_perm ["thing"] (spV K b_is_perm 2 [false])) : FnG P w K mg base (L2N.CX P w) 4 f fd ["thing"] (spX K mg bx_need_perm 1 [false]) :=
  have nd := sc_need_perm.nd
  fnX_of F sc_need_perm rfl fun cdv A outer s H E H0 O0 io g hG hr hx => have hu := room_hu hr
  (s_one (s_if (t_not (t_val (d_callV (G_is_perm.mono (by decide)) hG hr (by rfl) D_is_perm.mg D_is_perm.fn.kp D_is_perm.bd (a_cons (d_var 0) a_nil))))
    (s_one (s_raiseT hx rfl bfVE.ex (raTB_ok r_NoLabels).ex m_NoLabels (raTB_ok r_NoLabels).kp (raTB_ok r_NoLabels).sb (raTB_ok r_NoLabels).ty (by rfl)))
    s_nil))
theorem ok_then_by {f : Addr} {fd : FuncData} (F : Fun K "then_by" "then_by" st_then_by f fd) (z_tuple : mg "tuple" = none) : FnG P w K mg base CX0 1 f fd ["one", "other"] (spV K b_then_by 3 [false, false]) :=
  have nd := sc_then_by.nd
  fnV_of F sc_then_by rfl fun cdv A outer s H E H0 O0 io g hG hr => have hu := room_hu hr
  (s_one (s_ret rfl (d_callT c_tuple (by rfl) z_tuple bb_tuple (a_cons (d_F (f_lc (g' := g) (own := [("at", 2)]) rfl nd (i_row (d_var 0)) (blkOk_by (N := N_then_by) (sc := (defScope st_then_by)) (by decide +kernel)) (fun _ _ _ _ _ => (t_nm (i := 2) nd rfl (by first | exact .inl rfl | exact .inr rfl))) (fun _ _ _ _ _ => q_nil) (fun _ _ _ _ _ => (d_ix o_ix (d_var 1) (d_var 2))))) a_nil))))
theorem ok_then {f : Addr} {fd : FuncData} (F : Fun K "then" "then" st_then f fd) (z_len : mg "len" = none) {f_need_perm : Addr} {d_need_perm : FuncData} (D_need_perm : Df K mg "need_perm" st_need_perm ["thing"] f_need_perm d_need_perm) (G_need_perm : FnG P w K mg base CX0 4 f_need_perm d_need_perm ["thing"] (spV K b_need_perm 1 [false])) {f_then_by : Addr} {d_then_by : FuncData} (D_then_by : Df K mg "then_by" st_then_by ["one", "other"] f_then_by d_then_by) (G_then_by : FnG P w K mg base CX0 1 f_then_by d_then_by ["one", "other"] (spV K b_then_by 3 [false, false])) : FnG P w K mg base CX0 5 f fd ["one", "other"] (spV K b_then 2 [false, false]) :=
  have nd := sc_then.nd
  fnV_of F sc_then rfl fun cdv A outer s H E H0 O0 io g hG hr => have hu := room_hu hr
  (s_cons (s_expr (d_callV (G_need_perm.mono (by decide)) hG hr (by rfl) D_need_perm.mg D_need_perm.fn.kp D_need_perm.bd (a_cons (d_var 0) a_nil)))
  (s_cons (s_expr (d_callV (G_need_perm.mono (by decide)) hG hr (by rfl) D_need_perm.mg D_need_perm.fn.kp D_need_perm.bd (a_cons (d_var 1) a_nil)))
  (s_cons (s_if (t_cmp (o_ne hu) (d_callB c_len (by rfl) z_len bb_len (a_cons (d_var 0) a_nil)) (d_callB c_len (by rfl) z_len bb_len (a_cons (d_var 1) a_nil)))
    (s_one s_never)
    s_nil)
  (s_one (s_ret rfl (d_callV (G_then_by.mono (by decide)) hG hr (by rfl) D_then_by.mg D_then_by.fn.kp D_then_by.bd (a_cons (d_var 0) (a_cons (d_var 1) a_nil))))))))
theorem okx_then {f : Addr} {fd : FuncData} (F : Fun K "then" "then" st_then f fd) (z_len : mg "len" = none) {c_NoLabels : Addr} (m_NoLabels : mg "NoLabels" = some (.ref c_NoLabels)) (r_NoLabels : raTB K c_NoLabels bmVE "ValueError.__new__" = true) {f_need_perm : Addr} {d_need_perm : FuncData} (D_need_perm : Df K mg "need_perm" st_need_perm ["thing"] f_need_perm d_need_perm) (Gx_need_perm : FnG P w K mg base (L2N.CX P w) 4 f_need_perm d_need_perm ["thing"] (spX K mg bx_need_perm 1 [false])) {f_then_by : Addr} {d_then_by : FuncData} (D_then_by : Df K mg "then_by" st_then_by ["one", "other"] f_then_by d_then_by) (G_then_by : FnG P w K mg base CX0 1 f_then_by d_then_by ["one", "other"] (spV K b_then_by 3 [false, false])) : FnG P w K mg base (L2N.CX P w) 5 f fd ["one", "other"] (spX K mg bx_then 2 [false, false]) :=
  have nd := sc_then.nd
  fnX_of F sc_then rfl fun cdv A outer s H E H0 O0 io g hG hr hx => have hu := room_hu hr
  (s_cons (s_expr (d_callX hx (Gx_need_perm.mono (by decide)) hG hr (by rfl) D_need_perm.mg D_need_perm.fn.kp D_need_perm.bd (a_cons (d_var 0) a_nil)))
  (s_cons (s_expr (d_callX hx (Gx_need_perm.mono (by decide)) hG hr (by rfl) D_need_perm.mg D_need_perm.fn.kp D_need_perm.bd (a_cons (d_var 1) a_nil)))
  (s_cons (s_if (t_cmp (o_ne hu) (d_callB c_len (by rfl) z_len bb_len (a_cons (d_var 0) a_nil)) (d_callB c_len (by rfl) z_len bb_len (a_cons (d_var 1) a_nil)))
    (s_one (s_raiseT hx rfl bfVE.ex (raTB_ok r_NoLabels).ex m_NoLabels (raTB_ok r_NoLabels).kp (raTB_ok r_NoLabels).sb (raTB_ok r_NoLabels).ty (by rfl)))
    s_nil)
  (s_one (s_ret rfl (d_callV (G_then_by.mono (by decide)) hG hr (by rfl) D_then_by.mg D_then_by.fn.kp D_then_by.bd (a_cons (d_var 0) (a_cons (d_var 1) a_nil))))))))
theorem ok_inverse_by {f : Addr} {fd : FuncData} (F : Fun K "inverse_by" "inverse_by" st_inverse_by f fd) (z_enumerate : mg "enumerate" = none) (z_list : mg "list" = none) (z_tuple : mg "tuple" = none) : FnG P w K mg base CX0 1 f fd ["one"] (spV K b_inverse_by 4 [false]) :=
  have nd := sc_inverse_by.nd
  fnV_of F sc_inverse_by rfl fun cdv A outer s H E H0 O0 io g hG hr => have hu := room_hu hr
  (s_cons (s_setF (i := 1) nd rfl (by first | exact .inl rfl | exact .inr rfl) (f_callT c_list (by rfl) z_list bb_list (a_cons (d_var 0) a_nil)))
  (s_cons (s_for PassesOwn.never rfl (i_enum (by rfl) z_enumerate (d_var 0)) (t_tp rfl (ts_cons (t_nm (i := 2) nd rfl (by first | exact .inl rfl | exact .inr rfl)) (ts_cons (t_nm (i := 3) nd rfl (by first | exact .inl rfl | exact .inr rfl)) ts_nil))) fun _ =>
    (s_one (s_sub (pv 1) (d_var 3) (d_var 2))))
  (s_one (s_ret rfl (d_callT c_tuple (by rfl) z_tuple bb_tuple (a_cons (d_var 1) a_nil))))))
theorem ok_inverse {f : Addr} {fd : FuncData} (F : Fun K "inverse" "inverse" st_inverse f fd) {f_need_perm : Addr} {d_need_perm : FuncData} (D_need_perm : Df K mg "need_perm" st_need_perm ["thing"] f_need_perm d_need_perm) (G_need_perm : FnG P w K mg base CX0 4 f_need_perm d_need_perm ["thing"] (spV K b_need_perm 1 [false])) {f_inverse_by : Addr} {d_inverse_by : FuncData} (D_inverse_by : Df K mg "inverse_by" st_inverse_by ["one"] f_inverse_by d_inverse_by) (G_inverse_by : FnG P w K mg base CX0 1 f_inverse_by d_inverse_by ["one"] (spV K b_inverse_by 4 [false])) : FnG P w K mg base CX0 5 f fd ["one"] (spV K b_inverse 1 [false]) :=
  have nd := sc_inverse.nd
  fnV_of F sc_inverse rfl fun cdv A outer s H E H0 O0 io g hG hr => have hu := room_hu hr
  (s_cons (s_expr (d_callV (G_need_perm.mono (by decide)) hG hr (by rfl) D_need_perm.mg D_need_perm.fn.kp D_need_perm.bd (a_cons (d_var 0) a_nil)))
  (s_one (s_ret rfl (d_callV (G_inverse_by.mono (by decide)) hG hr (by rfl) D_inverse_by.mg D_inverse_by.fn.kp D_inverse_by.bd (a_cons (d_var 0) a_nil)))))
theorem okx_inverse {f : Addr} {fd : FuncData} (F : Fun K "inverse" "inverse" st_inverse f fd) {f_need_perm : Addr} {d_need_perm : FuncData} (D_need_perm : Df K mg "need_perm" st_need_perm ["thing"] f_need_perm d_need_perm) (Gx_need_perm : FnG P w K mg base (L2N.CX P w) 4 f_need_perm d_need_perm ["thing"] (spX K mg bx_need_perm 1 [false])) {f_inverse_by : Addr} {d_inverse_by : FuncData} (D_inverse_by : Df K mg "inverse_by" st_inverse_by ["one"] f_inverse_by d_inverse_by) (G_inverse_by : FnG P w K mg base CX0 1 f_inverse_by d_inverse_by ["one"] (spV K b_inverse_by 4 [false])) : FnG P w K mg base (L2N.CX P w) 5 f fd ["one"] (spX K mg bx_inverse 1 [false]) :=
  have nd := sc_inverse.nd
  fnX_of F sc_inverse rfl fun cdv A outer s H E H0 O0 io g hG hr hx => have hu := room_hu hr
  (s_cons (s_expr (d_callX hx (Gx_need_perm.mono (by decide)) hG hr (by rfl) D_need_perm.mg D_need_perm.fn.kp D_need_perm.bd (a_cons (d_var 0) a_nil)))
  (s_one (s_ret rfl (d_callV (G_inverse_by.mono (by decide)) hG hr (by rfl) D_inverse_by.mg D_inverse_by.fn.kp D_inverse_by.bd (a_cons (d_var 0) a_nil)))))
theorem ok_cycles_by {f : Addr} {fd : FuncData} (F : Fun K "cycles_by" "cycles_by" st_cycles_by f fd) (z_sorted : mg "sorted" = none) (z_tuple : mg "tuple" = none) : FnG P w K mg base CX0 1 f fd ["one"] (spV K b_cycles_by 6 [false]) :=
  have nd := sc_cycles_by.nd
  fnV_of F sc_cycles_by rfl fun cdv A outer s H E H0 O0 io g hG hr => have hu := room_hu hr
  (s_cons (s_setF (i := 1) nd rfl (by first | exact .inl rfl | exact .inr rfl) f_dct0)
  (s_cons (s_setF (i := 2) nd rfl (by first | exact .inl rfl | exact .inr rfl) (f_lst a_nil))
  (s_cons (s_for PassesOwn.never rfl (i_row (d_var 0)) (t_nm (i := 3) nd rfl (by first | exact .inl rfl | exact .inr rfl)) fun _ =>
    (s_cons (s_par (i := 4) (j := 5) nd rfl rfl rfl (by decide) rfl rfl (a_cons (d_var 3) (a_cons d_int a_nil)))
    (s_cons (s_while fuel PassesOwn.never (t_cmp (o_notIn hu) (d_var 4) (d_var 1)) fun _ =>
      (s_cons (s_subD hu (pv 1) (d_var 4) d_bool)
      (s_cons (s_augI (i := 5) nd rfl (by first | exact .inl rfl | exact .inr rfl) d_int)
      (s_one (s_set (i := 4) nd rfl (by first | exact .inl rfl | exact .inr rfl) (d_ix o_ix (d_var 0) (d_var 4)))))))
    (s_one (s_if (t_cmp (o_gt hu) (d_var 5) d_int)
      (s_one (s_expr (m_append (pv 2) (d_var 5))))
      s_nil)))))
  (s_one (s_ret rfl (d_callT c_tuple (by rfl) z_tuple bb_tuple (a_cons (d_F (f_callB (c_sorted hu) (by rfl) z_sorted bb_sorted (a_cons (d_var 2) a_nil))) a_nil)))))))
theorem ok_cycles {f : Addr} {fd : FuncData} (F : Fun K "cycles" "cycles" st_cycles f fd) {f_need_perm : Addr} {d_need_perm : FuncData} (D_need_perm : Df K mg "need_perm" st_need_perm ["thing"] f_need_perm d_need_perm) (G_need_perm : FnG P w K mg base CX0 4 f_need_perm d_need_perm ["thing"] (spV K b_need_perm 1 [false])) {f_cycles_by : Addr} {d_cycles_by : FuncData} (D_cycles_by : Df K mg "cycles_by" st_cycles_by ["one"] f_cycles_by d_cycles_by) (G_cycles_by : FnG P w K mg base CX0 1 f_cycles_by d_cycles_by ["one"] (spV K b_cycles_by 6 [false])) : FnG P w K mg base CX0 5 f fd ["one"] (spV K b_cycles 1 [false]) :=
  have nd := sc_cycles.nd
  fnV_of F sc_cycles rfl fun cdv A outer s H E H0 O0 io g hG hr => have hu := room_hu hr
  (s_cons (s_expr (d_callV (G_need_perm.mono (by decide)) hG hr (by rfl) D_need_perm.mg D_need_perm.fn.kp D_need_perm.bd (a_cons (d_var 0) a_nil)))
  (s_one (s_ret rfl (d_callV (G_cycles_by.mono (by decide)) hG hr (by rfl) D_cycles_by.mg D_cycles_by.fn.kp D_cycles_by.bd (a_cons (d_var 0) a_nil)))))
theorem okx_cycles {f : Addr} {fd : FuncData} (F : Fun K "cycles" "cycles" st_cycles f fd) {f_need_perm : Addr} {d_need_perm : FuncData} (D_need_perm : Df K mg "need_perm" st_need_perm ["thing"] f_need_perm d_need_perm) (Gx_need_perm : FnG P w K mg base (L2N.CX P w) 4 f_need_perm d_need_perm ["thing"] (spX K mg bx_need_perm 1 [false])) {f_cycles_by : Addr} {d_cycles_by : FuncData} (D_cycles_by : Df K mg "cycles_by" st_cycles_by ["one"] f_cycles_by d_cycles_by) (G_cycles_by : FnG P w K mg base CX0 1 f_cycles_by d_cycles_by ["one"] (spV K b_cycles_by 6 [false])) : FnG P w K mg base (L2N.CX P w) 5 f fd ["one"] (spX K mg bx_cycles 1 [false]) :=
  have nd := sc_cycles.nd
  fnX_of F sc_cycles rfl fun cdv A outer s H E H0 O0 io g hG hr hx => have hu := room_hu hr
  (s_cons (s_expr (d_callX hx (Gx_need_perm.mono (by decide)) hG hr (by rfl) D_need_perm.mg D_need_perm.fn.kp D_need_perm.bd (a_cons (d_var 0) a_nil)))
  (s_one (s_ret rfl (d_callV (G_cycles_by.mono (by decide)) hG hr (by rfl) D_cycles_by.mg D_cycles_by.fn.kp D_cycles_by.bd (a_cons (d_var 0) a_nil)))))
theorem ok_law_take {f : Addr} {fd : FuncData} (F : Fun K "_law_take" "_law_take" st_law_take f fd) : FnG P w K mg base CX0 1 f fd ["_law_pot_here", "_law_many"] (spV K b_law_take 5 [true, false]) :=
  have nd := sc_law_take.nd
  fnV_of F sc_law_take rfl fun cdv A outer s H E H0 O0 io g hG hr => have hu := room_hu hr
  (s_cons (s_if (t_cmp (o_gt hu) (d_ix o_ix (d_var 0) d_int) d_int)
    (s_cons (s_set (i := 2) nd rfl (by first | exact .inl rfl | exact .inr rfl) (d_op o_mod (d_ix o_ix (d_var 0) d_int) (d_var 1)))
    (s_cons (s_sub (pv 0) d_int (d_op o_fdiv (d_ix o_ix (d_var 0) d_int) (d_var 1)))
    (s_one (s_ret rfl (d_var 2)))))
    s_nil)
  (s_cons (s_sub (pv 0) d_int (d_op o_add (d_ix o_ix (d_var 0) d_int) d_int))
  (s_cons (s_set (i := 3) nd rfl (by first | exact .inl rfl | exact .inr rfl) (d_op o_mod (d_op o_pow (d_op o_add (d_ix o_ix (d_var 0) d_int) (d_op o_mul d_int (d_ix o_ix (d_var 0) d_int))) d_int) d_int))
  (s_cons (s_set (i := 4) nd rfl (by first | exact .inl rfl | exact .inr rfl) (d_op o_mod (d_op o_pow (d_op o_add (d_op o_add (d_var 3) (d_op o_mod (d_ix o_ix (d_var 0) d_int) d_int)) (d_op o_mul d_int (d_ix o_ix (d_var 0) d_int))) d_int) d_int))
  (s_one (s_ret rfl (d_op o_mod (d_op o_fdiv (d_var 4) d_int) (d_var 1))))))))
theorem ok_law_perm {f : Addr} {fd : FuncData} (F : Fun K "_law_perm" "_law_perm" st_law_perm f fd) (z_len : mg "len" = none) (z_list : mg "list" = none) (z_range : mg "range" = none) (z_tuple : mg "tuple" = none) {f_law_take : Addr} {d_law_take : FuncData} (D_law_take : Df K mg "_law_take" st_law_take ["_law_pot_here", "_law_many"] f_law_take d_law_take) (G_law_take : FnG P w K mg base CX0 1 f_law_take d_law_take ["_law_pot_here", "_law_many"] (spV K b_law_take 5 [true, false])) : FnG P w K mg base CX0 2 f fd ["_law_pot_here", "_law_size"] (spV K b_law_perm 4 [true, false]) :=
  have nd := sc_law_perm.nd
  fnV_of F sc_law_perm rfl fun cdv A outer s H E H0 O0 io g hG hr => have hu := room_hu hr
  (s_cons (s_setF (i := 2) nd rfl (by first | exact .inl rfl | exact .inr rfl) (f_listRg rfl (by rfl) z_list (g_1 (by rfl) z_range (d_var 1))))
  (s_cons (s_setF (i := 3) nd rfl (by first | exact .inl rfl | exact .inr rfl) (f_lst a_nil))
  (s_cons (s_while fuel PassesOwn.never (t_cmp (o_ne hu) (d_var 2) (d_F (f_lst a_nil))) fun _ =>
    (s_one (s_expr (m_append (pv 3) (m_popAt (pv 2) (d_callV (G_law_take.mono (by decide)) hG hr (by rfl) D_law_take.mg D_law_take.fn.kp D_law_take.bd (a_cons (d_var 0) (a_cons (d_callB c_len (by rfl) z_len bb_len (a_cons (d_var 2) a_nil)) a_nil))))))))
  (s_one (s_ret rfl (d_callT c_tuple (by rfl) z_tuple bb_tuple (a_cons (d_var 3) a_nil)))))))
theorem ok_law_strange {f : Addr} {fd : FuncData} (F : Fun K "_law_strange" "_law_strange" st_law_strange f fd) (z_len : mg "len" = none) (z_list : mg "list" = none) {f_law_take : Addr} {d_law_take : FuncData} (D_law_take : Df K mg "_law_take" st_law_take ["_law_pot_here", "_law_many"] f_law_take d_law_take) (G_law_take : FnG P w K mg base CX0 1 f_law_take d_law_take ["_law_pot_here", "_law_many"] (spV K b_law_take 5 [true, false])) : FnG P w K mg base CX0 2 f fd ["_law_pot_here", "_law_one"] (spV K b_law_strange 5 [true, false]) :=
  have nd := sc_law_strange.nd
  fnV_of F sc_law_strange rfl fun cdv A outer s H E H0 O0 io g hG hr => have hu := room_hu hr
  (s_cons (s_set (i := 2) nd rfl (by first | exact .inl rfl | exact .inr rfl) (d_callV (G_law_take.mono (by decide)) hG hr (by rfl) D_law_take.mg D_law_take.fn.kp D_law_take.bd (a_cons (d_var 0) (a_cons (d_callB c_len (by rfl) z_len bb_len (a_cons (d_var 1) a_nil)) a_nil))))
  (s_cons (s_lcD (g' := g) (i := 3) (own := [("_law_part", 4)]) rfl nd rfl rfl (sw_true rfl rfl rfl (by decide +kernel)) (i_row (d_F (f_lst (a_cons (d_neg d_int) (a_cons (d_callB c_len (by rfl) z_len bb_len (a_cons (d_var 1) a_nil)) (a_cons (d_ix o_ix (d_var 1) d_int) (a_cons d_bool (a_cons d_none (a_cons d_str (a_cons (d_tup (a_cons d_int a_nil)) (a_cons (d_op o_pow d_int d_int) a_nil))))))))))) (blkOk_by (N := N_law_strange) (sc := (defScope st_law_strange)) (by decide +kernel)) (fun _ _ _ _ _ => (t_nm (i := 4) nd rfl (by first | exact .inl rfl | exact .inr rfl))) (fun _ _ _ _ _ => q_nil) (fun _ _ _ _ _ => (d_op o_add (d_op o_add (d_slice (d_var 1) p_none (p_some (d_var 2))) (d_tup (a_cons (d_var 4) a_nil))) (d_slice (d_var 1) (p_some (d_op o_add (d_var 2) d_int)) p_none))))
  (s_cons (s_set (i := 3) nd rfl (by first | exact .inl rfl | exact .inr rfl) (d_F (f_op o_catF (d_var 3) (d_F (f_lst (a_cons (d_op o_add (d_slice (d_var 1) p_none (p_some (d_var 2))) (d_slice (d_var 1) (p_some (d_op o_add (d_var 2) d_int)) p_none)) (a_cons (d_op o_add (d_var 1) (d_tup (a_cons (d_callB c_len (by rfl) z_len bb_len (a_cons (d_var 1) a_nil)) a_nil))) (a_cons (d_op o_add (d_var 1) (d_var 1)) (a_cons (d_F (f_callT c_list (by rfl) z_list bb_list (a_cons (d_var 1) a_nil))) (a_cons (d_tup a_nil) (a_cons d_int a_nil)))))))))))
  (s_cons (s_set (i := 3) nd rfl (by first | exact .inl rfl | exact .inr rfl) (d_F (f_op o_catF (d_var 3) (d_F (f_lst (a_cons d_none (a_cons d_bool (a_cons d_str (a_cons (d_F f_dct0) (a_cons (d_tup (a_cons (d_var 1) a_nil)) a_nil))))))))))
  (s_one (s_ret rfl (d_ix o_ix (d_var 3) (d_callV (G_law_take.mono (by decide)) hG hr (by rfl) D_law_take.mg D_law_take.fn.kp D_law_take.bd (a_cons (d_var 0) (a_cons (d_callB c_len (by rfl) z_len bb_len (a_cons (d_var 3) a_nil)) a_nil))))))))))
theorem ok_law_after {f : Addr} {fd : FuncData} (F : Fun K "_law_after" "_law_after" st_law_after f fd) (z_tuple : mg "tuple" = none) : FnG P w K mg base CX0 1 f fd ["_law_one", "_law_other"] (spV K b_law_after 3 [false, false]) :=
  have nd := sc_law_after.nd
  fnV_of F sc_law_after rfl fun cdv A outer s H E H0 O0 io g hG hr => have hu := room_hu hr
  (s_one (s_ret rfl (d_callT c_tuple (by rfl) z_tuple bb_tuple (a_cons (d_F (f_lc (g' := g) (own := [("_law_at", 2)]) rfl nd (i_row (d_var 0)) (blkOk_by (N := N_law_after) (sc := (defScope st_law_after)) (by decide +kernel)) (fun _ _ _ _ _ => (t_nm (i := 2) nd rfl (by first | exact .inl rfl | exact .inr rfl))) (fun _ _ _ _ _ => q_nil) (fun _ _ _ _ _ => (d_ix o_ix (d_var 1) (d_var 2))))) a_nil))))
theorem ok_law_back {f : Addr} {fd : FuncData} (F : Fun K "_law_back" "_law_back" st_law_back f fd) (z_len : mg "len" = none) (z_range : mg "range" = none) (z_tuple : mg "tuple" = none) : FnG P w K mg base CX0 1 f fd ["_law_one"] (spV K b_law_back 2 [false]) :=
  have nd := sc_law_back.nd
  fnV_of F sc_law_back rfl fun cdv A outer s H E H0 O0 io g hG hr => have hu := room_hu hr
  (s_one (s_ret rfl (d_callT c_tuple (by rfl) z_tuple bb_tuple (a_cons (d_F (f_lc (g' := g) (own := [("_law_at", 1)]) rfl nd (i_range1 (by rfl) z_range (d_callB c_len (by rfl) z_len bb_len (a_cons (d_var 0) a_nil))) (blkOk_by (N := N_law_back) (sc := (defScope st_law_back)) (by decide +kernel)) (fun _ _ _ _ _ => (t_nm (i := 1) nd rfl (by first | exact .inl rfl | exact .inr rfl))) (fun _ _ _ _ _ => q_nil) (fun _ _ _ _ _ => (d_indexT hu (d_var 0) (d_var 1))))) a_nil))))
theorem ok_law_rounds {f : Addr} {fd : FuncData} (F : Fun K "_law_rounds" "_law_rounds" st_law_rounds f fd) (z_len : mg "len" = none) (z_list : mg "list" = none) (z_range : mg "range" = none) (z_sorted : mg "sorted" = none) (z_tuple : mg "tuple" = none) : FnG P w K mg base CX0 1 f fd ["_law_one"] (spV K b_law_rounds 6 [false]) :=
  have nd := sc_law_rounds.nd
  fnV_of F sc_law_rounds rfl fun cdv A outer s H E H0 O0 io g hG hr => have hu := room_hu hr
  (s_cons (s_setF (i := 1) nd rfl (by first | exact .inl rfl | exact .inr rfl) (f_lst a_nil))
  (s_cons (s_setF (i := 2) nd rfl (by first | exact .inl rfl | exact .inr rfl) (f_listRg rfl (by rfl) z_list (g_1 (by rfl) z_range (d_callB c_len (by rfl) z_len bb_len (a_cons (d_var 0) a_nil)))))
  (s_cons (s_while fuel PassesOwn.never (t_cmp (o_ne hu) (d_var 2) (d_F (f_lst a_nil))) fun _ =>
    (s_cons (s_set (i := 3) nd rfl (by first | exact .inl rfl | exact .inr rfl) (d_ix o_ix (d_var 2) d_int))
    (s_cons (s_set (i := 4) nd rfl (by first | exact .inl rfl | exact .inr rfl) (d_ix o_ix (d_var 0) (d_var 3)))
    (s_cons (s_set (i := 5) nd rfl (by first | exact .inl rfl | exact .inr rfl) d_int)
    (s_cons (s_expr (m_remove rfl (pv 2) (d_var 3)))
    (s_cons (s_while fuel PassesOwn.never (t_cmp (o_ne hu) (d_var 4) (d_var 3)) fun _ =>
      (s_cons (s_expr (m_remove rfl (pv 2) (d_var 4)))
      (s_cons (s_set (i := 4) nd rfl (by first | exact .inl rfl | exact .inr rfl) (d_ix o_ix (d_var 0) (d_var 4)))
      (s_one (s_set (i := 5) nd rfl (by first | exact .inl rfl | exact .inr rfl) (d_op o_add (d_var 5) d_int))))))
    (s_one (s_expr (m_append (pv 1) (d_var 5))))))))))
  (s_one (s_ret rfl (d_callT c_tuple (by rfl) z_tuple bb_tuple (a_cons (d_F (f_callB (c_sorted hu) (by rfl) z_sorted bb_sorted (a_cons (d_var 1) a_nil))) a_nil)))))))
theorem oke_law_word {f : Addr} {fd : FuncData} (F : Fun K "_law_word" "_law_word" st_law_word f fd) (z_isinstance : mg "isinstance" = none) {c_NoDeeds : Addr} (m_NoDeeds : mg "NoDeeds" = some (.ref c_NoDeeds)) {c_NoEnds : Addr} (m_NoEnds : mg "NoEnds" = some (.ref c_NoEnds)) {c_NoFlips : Addr} (m_NoFlips : mg "NoFlips" = some (.ref c_NoFlips)) {c_NoHand : Addr} (m_NoHand : mg "NoHand" = some (.ref c_NoHand)) {c_NoLabels : Addr} (m_NoLabels : mg "NoLabels" = some (.ref c_NoLabels)) {c_NoMating : Addr} (m_NoMating : mg "NoMating" = some (.ref c_NoMating)) {c_NoNumber : Addr} (m_NoNumber : mg "NoNumber" = some (.ref c_NoNumber)) {c_NoPainting : Addr} (m_NoPainting : mg "NoPainting" = some (.ref c_NoPainting)) {c_NoWeb : Addr} (m_NoWeb : mg "NoWeb" = some (.ref c_NoWeb)) {c_WebError : Addr} (m_WebError : mg "WebError" = some (.ref c_WebError)) (q_NoLabels : excCB K c_NoLabels = true) (q_NoNumber : excCB K c_NoNumber = true) (ki_NoLabels_NoLabels : PySem.W.kitOne K (.ref c_NoLabels) (.ref c_NoLabels) = some true) (ki_NoLabels_NoNumber : PySem.W.kitOne K (.ref c_NoLabels) (.ref c_NoNumber) = some false) (ki_NoLabels_WebError : PySem.W.kitOne K (.ref c_NoLabels) (.ref c_WebError) = some true) (ki_NoNumber_NoLabels : PySem.W.kitOne K (.ref c_NoNumber) (.ref c_NoLabels) = some false) (ki_NoNumber_NoNumber : PySem.W.kitOne K (.ref c_NoNumber) (.ref c_NoNumber) = some true) (ki_NoNumber_WebError : PySem.W.kitOne K (.ref c_NoNumber) (.ref c_WebError) = some false) (ka_NoLabels__NoDeeds_NoEnds_NoFlips_NoHand_NoMating_NoPainting_NoWeb : PySem.W.kitAny K (.ref c_NoLabels) [(.ref c_NoDeeds), (.ref c_NoEnds), (.ref c_NoFlips), (.ref c_NoHand), (.ref c_NoMating), (.ref c_NoPainting), (.ref c_NoWeb)] = some false) (ka_NoNumber__NoDeeds_NoEnds_NoFlips_NoHand_NoMating_NoPainting_NoWeb : PySem.W.kitAny K (.ref c_NoNumber) [(.ref c_NoDeeds), (.ref c_NoEnds), (.ref c_NoFlips), (.ref c_NoHand), (.ref c_NoMating), (.ref c_NoPainting), (.ref c_NoWeb)] = some false) : FnE P w K mg base 1 f fd ["_law_error"] (spE K mg b_law_word 3) :=
  have nd := sc_law_word.nd
  fnE_of F sc_law_word fun cdv A outer s H p cls d H0 O0 io g hG hr hz hf => have hu := roomH_hu hr
  (s_cons (s_set (i := 1) nd rfl (by first | exact .inl rfl | exact .inr rfl) (d_isETb List.mem_cons_self hz hf rfl (by first | exact Or.inl rfl | exact Or.inr (Or.inl rfl) | exact Or.inr (Or.inr rfl)) (by rfl) z_isinstance (clsEs_cons (clsE_own (by rfl) m_NoDeeds) (clsEs_cons (clsE_own (by rfl) m_NoEnds) (clsEs_cons (clsE_own (by rfl) m_NoFlips) (clsEs_cons (clsE_own (by rfl) m_NoHand) (clsEs_cons (clsE_own (by rfl) m_NoMating) (clsEs_cons (clsE_own (by rfl) m_NoPainting) (clsEs_cons (clsE_own (by rfl) m_NoWeb) clsEs_nil (by simp)) (by simp)) (by simp)) (by simp)) (by simp)) (by simp)) (by simp)) (TbOk.cons m_NoLabels ⟨excCB_ok q_NoLabels, ka_NoLabels__NoDeeds_NoEnds_NoFlips_NoHand_NoMating_NoPainting_NoWeb⟩ (TbOk.cons m_NoNumber ⟨excCB_ok q_NoNumber, ka_NoNumber__NoDeeds_NoEnds_NoFlips_NoHand_NoMating_NoPainting_NoWeb⟩ TbOk.nil))))
  (s_cons (s_set (i := 2) nd rfl (by first | exact .inl rfl | exact .inr rfl) (d_F (f_lst (a_cons (d_and (d_isEb List.mem_cons_self hz hf rfl (by first | exact Or.inl rfl | exact Or.inr (Or.inl rfl) | exact Or.inr (Or.inr rfl)) (by rfl) z_isinstance (clsE_own (by rfl) m_NoLabels) (TbOk.cons m_NoLabels ⟨excCB_ok q_NoLabels, ki_NoLabels_NoLabels⟩ (TbOk.cons m_NoNumber ⟨excCB_ok q_NoNumber, ki_NoNumber_NoLabels⟩ TbOk.nil))) (d_one (d_isEb List.mem_cons_self hz hf rfl (by first | exact Or.inl rfl | exact Or.inr (Or.inl rfl) | exact Or.inr (Or.inr rfl)) (by rfl) z_isinstance (clsE_own (by rfl) m_WebError) (TbOk.cons m_NoLabels ⟨excCB_ok q_NoLabels, ki_NoLabels_WebError⟩ (TbOk.cons m_NoNumber ⟨excCB_ok q_NoNumber, ki_NoNumber_WebError⟩ TbOk.nil))))) (a_cons (d_isEb List.mem_cons_self hz hf rfl (by first | exact Or.inl rfl | exact Or.inr (Or.inl rfl) | exact Or.inr (Or.inr rfl)) (by rfl) z_isinstance (clsE_own (by rfl) m_NoNumber) (TbOk.cons m_NoLabels ⟨excCB_ok q_NoLabels, ki_NoLabels_NoNumber⟩ (TbOk.cons m_NoNumber ⟨excCB_ok q_NoNumber, ki_NoNumber_NoNumber⟩ TbOk.nil))) a_nil)))))
  (s_cons (s_if (w_or (t_val (d_var 1)) (w_or (t_cmp (o_ne hu) (m_cntB (d_var 2)) d_int) (w_or1 (t_cmp (o_ne hu) (d_isEb List.mem_cons_self hz hf rfl (by first | exact Or.inl rfl | exact Or.inr (Or.inl rfl) | exact Or.inr (Or.inr rfl)) (by rfl) z_isinstance (clsE_own (by rfl) m_WebError) (TbOk.cons m_NoLabels ⟨excCB_ok q_NoLabels, ki_NoLabels_WebError⟩ (TbOk.cons m_NoNumber ⟨excCB_ok q_NoNumber, ki_NoNumber_WebError⟩ TbOk.nil))) (d_ix o_ix (d_var 2) d_int))))).pt
    (s_one (s_ret rfl d_str))
    s_nil)
  (s_one (s_ret rfl (d_ix o_ix (d_F (f_lst (a_cons d_str (a_cons d_str a_nil)))) (m_idxB (d_var 2))))))))
theorem okx_law_refused {f : Addr} {fd : FuncData} (F : Fun K "_law_refused" "_law_refused" st_law_refused f fd) (z_repr : mg "repr" = none) {c_NoLabels : Addr} (m_NoLabels : mg "NoLabels" = some (.ref c_NoLabels)) {c_NoNumber : Addr} (m_NoNumber : mg "NoNumber" = some (.ref c_NoNumber)) {c_WebError : Addr} (m_WebError : mg "WebError" = some (.ref c_WebError)) (xf_NoNumber : VS.xfB K c_NoNumber "number" = true) (xm_NoLabels__NoNumber : PySem.W.exmOne K (.ref c_NoLabels) (.ref c_NoNumber) = some false) (xm_NoLabels__WebError : PySem.W.exmOne K (.ref c_NoLabels) (.ref c_WebError) = some true) (xm_NoNumber__NoNumber : PySem.W.exmOne K (.ref c_NoNumber) (.ref c_NoNumber) = some true) {f_then : Addr} {d_then : FuncData} (D_then : Df K mg "then" st_then ["one", "other"] f_then d_then) (Gx_then : FnG P w K mg base (L2N.CX P w) 5 f_then d_then ["one", "other"] (spX K mg bx_then 2 [false, false])) {f_inverse : Addr} {d_inverse : FuncData} (D_inverse : Df K mg "inverse" st_inverse ["one"] f_inverse d_inverse) (Gx_inverse : FnG P w K mg base (L2N.CX P w) 5 f_inverse d_inverse ["one"] (spX K mg bx_inverse 1 [false])) {f_cycles : Addr} {d_cycles : FuncData} (D_cycles : Df K mg "cycles" st_cycles ["one"] f_cycles d_cycles) (Gx_cycles : FnG P w K mg base (L2N.CX P w) 5 f_cycles d_cycles ["one"] (spX K mg bx_cycles 1 [false])) {f_unit : Addr} {d_unit : FuncData} (D_unit : Df K mg "unit" st_unit ["size"] f_unit d_unit) (Gx_unit : FnG P w K mg base (L2N.CX P w) 3 f_unit d_unit ["size"] (spX K mg bx_unit 1 [false])) {f_law_word : Addr} {d_law_word : FuncData} (D_law_word : Df K mg "_law_word" st_law_word ["_law_error"] f_law_word d_law_word) (Ge_law_word : FnE P w K mg base 1 f_law_word d_law_word ["_law_error"] (spE K mg b_law_word 3)) : FnG P w K mg base (L2N.CX P w) 6 f fd ["_law_which", "_law_one", "_law_other"] (spX K mg b_law_refused 4 [false, false, false]) :=
  have nd := sc_law_refused.nd
  fnX_of F sc_law_refused rfl fun cdv A outer s H E H0 O0 io g hG hr hx => have hu := room_hu hr
  (s_cons (s_try hx rfl rfl (fun g' pn xe hx hp =>
    (s_one (s_if (t_cmp (o_eq hu) (d_var 0) d_int)
      (s_one (s_expr (d_callX hx (Gx_then.mono (by decide)) hG hr (by rfl) D_then.mg D_then.fn.kp D_then.bd (a_cons (d_var 1) (a_cons (d_var 2) a_nil)))))
      (s_one (s_if (t_cmp (o_eq hu) (d_var 0) d_int)
        (s_one (s_expr (d_callX hx (Gx_inverse.mono (by decide)) hG hr (by rfl) D_inverse.mg D_inverse.fn.kp D_inverse.bd (a_cons (d_var 1) a_nil))))
        (s_one (s_if (t_cmp (o_eq hu) (d_var 0) d_int)
          (s_one (s_expr (d_callX hx (Gx_cycles.mono (by decide)) hG hr (by rfl) D_cycles.mg D_cycles.fn.kp D_cycles.bd (a_cons (d_var 1) a_nil))))
          (s_one (s_expr (d_callX hx (Gx_unit.mono (by decide)) hG hr (by rfl) D_unit.mg D_unit.fn.kp D_unit.bd (a_cons (d_var 1) a_nil)))))))))))
    (HdV.nmd (tn_1 (nm_own (by rfl) m_NoNumber) (TbOk.cons m_NoLabels xm_NoLabels__NoNumber (TbOk.cons m_NoNumber xm_NoNumber__NoNumber TbOk.nil))) nd rfl rfl rfl (fun a oe cls d pn g hz hf =>
      (s_one (s_ret rfl (d_tup (a_cons (d_callE List.mem_cons_self rfl hz hf rfl (by first | exact Or.inl rfl | exact Or.inr (Or.inl rfl) | exact Or.inr (Or.inr rfl)) (Ge_law_word.mono (by decide)) hG (roomE hr _) (by rfl) D_law_word.mg D_law_word.fn.kp D_law_word.bd) (a_cons (d_callB (c_repr hG hu) (by rfl) z_repr bb_repr (a_cons (d_xfb List.mem_cons_self hz hf rfl (by first | exact Or.inl rfl | exact Or.inr (Or.inl rfl) | exact Or.inr (Or.inr rfl)) (TbOk.cons m_NoNumber (VS.xfB_ok xf_NoNumber) TbOk.nil)) a_nil)) a_nil))))))
    (HdV.nmd (tn_1 (nm_own (by rfl) m_WebError) (TbOk.cons m_NoLabels xm_NoLabels__WebError TbOk.nil)) nd rfl rfl rfl (fun a oe cls d pn g hz hf =>
      (s_one (s_ret rfl (d_tup (a_cons (d_callE List.mem_cons_self rfl hz hf rfl (by first | exact Or.inl rfl | exact Or.inr (Or.inl rfl) | exact Or.inr (Or.inr rfl)) (Ge_law_word.mono (by decide)) hG (roomE hr _) (by rfl) D_law_word.mg D_law_word.fn.kp D_law_word.bd) (a_cons d_str a_nil))))))
    HdV.nil)))
  (s_one (s_ret rfl (d_tup (a_cons d_str (a_cons d_str a_nil))))))
theorem ok_law_is {f : Addr} {fd : FuncData} (F : Fun K "_law_is" "_law_is" st_law_is f fd) (z_bool : mg "bool" = none) (z_int : mg "int" = none) (z_isinstance : mg "isinstance" = none) (z_len : mg "len" = none) (z_list : mg "list" = none) (z_range : mg "range" = none) (z_sorted : mg "sorted" = none) (z_tuple : mg "tuple" = none) : FnG P w K mg base CX0 1 f fd ["_law_thing"] (spV K b_law_is 2 [false]) :=
  have nd := sc_law_is.nd
  fnV_of F sc_law_is rfl fun cdv A outer s H E H0 O0 io g hG hr => have hu := room_hu hr
  (s_cons (s_if (w_or (t_not (t_val (d_isi isT_tuple (by rfl) z_isinstance (by rfl) z_tuple bb_tuple (d_var 0)))) (w_or1 (t_not (t_chain (o_le hu) (o_le hu) d_int (d_callB c_len (by rfl) z_len bb_len (a_cons (d_var 0) a_nil)) d_int)))).pt
    (s_one (s_ret rfl d_bool))
    s_nil)
  (s_cons (s_for PassesOwn.never rfl (i_row (d_var 0)) (t_nm (i := 1) nd rfl (by first | exact .inl rfl | exact .inr rfl)) fun _ =>
    (s_one (s_if (w_or (t_not (t_val (d_isi isT_int (by rfl) z_isinstance (by rfl) z_int bb_int (d_var 1)))) (w_or1 (t_val (d_isi isT_bool (by rfl) z_isinstance (by rfl) z_bool bb_bool (d_var 1))))).pt
      (s_one (s_ret rfl d_bool))
      s_nil)))
  (s_one (s_ret rfl (d_cmp (o_eq hu) (d_F (f_callB (c_sorted hu) (by rfl) z_sorted bb_sorted (a_cons (d_var 0) a_nil))) (d_F (f_listRg rfl (by rfl) z_list (g_1 (by rfl) z_range (d_callB c_len (by rfl) z_len bb_len (a_cons (d_var 0) a_nil))))))))))
theorem ok_law_right {f : Addr} {fd : FuncData} (F : Fun K "_law_right" "_law_right" st_law_right f fd) (z_len : mg "len" = none) (z_range : mg "range" = none) (z_repr : mg "repr" = none) (z_tuple : mg "tuple" = none) {f_law_take : Addr} {d_law_take : FuncData} (D_law_take : Df K mg "_law_take" st_law_take ["_law_pot_here", "_law_many"] f_law_take d_law_take) (G_law_take : FnG P w K mg base CX0 1 f_law_take d_law_take ["_law_pot_here", "_law_many"] (spV K b_law_take 5 [true, false])) {f_law_perm : Addr} {d_law_perm : FuncData} (D_law_perm : Df K mg "_law_perm" st_law_perm ["_law_pot_here", "_law_size"] f_law_perm d_law_perm) (G_law_perm : FnG P w K mg base CX0 2 f_law_perm d_law_perm ["_law_pot_here", "_law_size"] (spV K b_law_perm 4 [true, false])) {f_law_strange : Addr} {d_law_strange : FuncData} (D_law_strange : Df K mg "_law_strange" st_law_strange ["_law_pot_here", "_law_one"] f_law_strange d_law_strange) (G_law_strange : FnG P w K mg base CX0 2 f_law_strange d_law_strange ["_law_pot_here", "_law_one"] (spV K b_law_strange 5 [true, false])) {f_unit : Addr} {d_unit : FuncData} (D_unit : Df K mg "unit" st_unit ["size"] f_unit d_unit) (G_unit : FnG P w K mg base CX0 3 f_unit d_unit ["size"] (spV K b_unit 1 [false])) {f_cycles : Addr} {d_cycles : FuncData} (D_cycles : Df K mg "cycles" st_cycles ["one"] f_cycles d_cycles) (G_cycles : FnG P w K mg base CX0 5 f_cycles d_cycles ["one"] (spV K b_cycles 1 [false])) {f_inverse : Addr} {d_inverse : FuncData} (D_inverse : Df K mg "inverse" st_inverse ["one"] f_inverse d_inverse) (G_inverse : FnG P w K mg base CX0 5 f_inverse d_inverse ["one"] (spV K b_inverse 1 [false])) {f_then : Addr} {d_then : FuncData} (D_then : Df K mg "then" st_then ["one", "other"] f_then d_then) (G_then : FnG P w K mg base CX0 5 f_then d_then ["one", "other"] (spV K b_then 2 [false, false])) {f_law_rounds : Addr} {d_law_rounds : FuncData} (D_law_rounds : Df K mg "_law_rounds" st_law_rounds ["_law_one"] f_law_rounds d_law_rounds) (G_law_rounds : FnG P w K mg base CX0 1 f_law_rounds d_law_rounds ["_law_one"] (spV K b_law_rounds 6 [false])) {f_law_back : Addr} {d_law_back : FuncData} (D_law_back : Df K mg "_law_back" st_law_back ["_law_one"] f_law_back d_law_back) (G_law_back : FnG P w K mg base CX0 1 f_law_back d_law_back ["_law_one"] (spV K b_law_back 2 [false])) {f_law_after : Addr} {d_law_after : FuncData} (D_law_after : Df K mg "_law_after" st_law_after ["_law_one", "_law_other"] f_law_after d_law_after) (G_law_after : FnG P w K mg base CX0 1 f_law_after d_law_after ["_law_one", "_law_other"] (spV K b_law_after 3 [false, false])) {f_is_perm : Addr} {d_is_perm : FuncData} (D_is_perm : Df K mg "is_perm" st_is_perm ["thing"] f_is_perm d_is_perm) (G_is_perm : FnG P w K mg base CX0 3 f_is_perm d_is_perm ["thing"] (spV K b_is_perm 2 [false])) {f_law_is : Addr} {d_law_is : FuncData} (D_law_is : Df K mg "_law_is" st_law_is ["_law_thing"] f_law_is d_law_is) (G_law_is : FnG P w K mg base CX0 1 f_law_is d_law_is ["_law_thing"] (spV K b_law_is 2 [false])) {f_law_refused : Addr} {d_law_refused : FuncData} (D_law_refused : Df K mg "_law_refused" st_law_refused ["_law_which", "_law_one", "_law_other"] f_law_refused d_law_refused) (G_law_refused : FnG P w K mg base CX0 6 f_law_refused d_law_refused ["_law_which", "_law_one", "_law_other"] (spV K b_law_refused 4 [false, false, false])) : FnG P w K mg base CX0 7 f fd ["_law_pot_here"] (spV K b_law_right 15 [true]) :=
  have nd := sc_law_right.nd
  fnV_of F sc_law_right rfl fun cdv A outer s H E H0 O0 io g hG hr => have hu := room_hu hr
  (s_cons (s_set (i := 1) nd rfl (by first | exact .inl rfl | exact .inr rfl) (d_op o_add d_int (d_callV (G_law_take.mono (by decide)) hG hr (by rfl) D_law_take.mg D_law_take.fn.kp D_law_take.bd (a_cons (d_var 0) (a_cons d_int a_nil)))))
  (s_cons (s_par (i := 2) (j := 3) nd rfl rfl rfl (by decide) rfl rfl (a_cons (d_callV (G_law_perm.mono (by decide)) hG hr (by rfl) D_law_perm.mg D_law_perm.fn.kp D_law_perm.bd (a_cons (d_var 0) (a_cons (d_var 1) a_nil))) (a_cons (d_callV (G_law_perm.mono (by decide)) hG hr (by rfl) D_law_perm.mg D_law_perm.fn.kp D_law_perm.bd (a_cons (d_var 0) (a_cons (d_var 1) a_nil))) a_nil)))
  (s_cons (s_set (i := 4) nd rfl (by first | exact .inl rfl | exact .inr rfl) (d_callV (G_law_perm.mono (by decide)) hG hr (by rfl) D_law_perm.mg D_law_perm.fn.kp D_law_perm.bd (a_cons (d_var 0) (a_cons (d_var 1) a_nil))))
  (s_cons (s_set (i := 5) nd rfl (by first | exact .inl rfl | exact .inr rfl) (d_callV (G_law_perm.mono (by decide)) hG hr (by rfl) D_law_perm.mg D_law_perm.fn.kp D_law_perm.bd (a_cons (d_var 0) (a_cons (d_op o_add d_int (d_op o_mod (d_op o_add (d_var 1) (d_callV (G_law_take.mono (by decide)) hG hr (by rfl) D_law_take.mg D_law_take.fn.kp D_law_take.bd (a_cons (d_var 0) (a_cons d_int a_nil)))) d_int)) a_nil))))
  (s_cons (s_set (i := 6) nd rfl (by first | exact .inl rfl | exact .inr rfl) (d_callV (G_law_strange.mono (by decide)) hG hr (by rfl) D_law_strange.mg D_law_strange.fn.kp D_law_strange.bd (a_cons (d_var 0) (a_cons (d_var 2) a_nil))))
  (s_cons (s_set (i := 7) nd rfl (by first | exact .inl rfl | exact .inr rfl) (d_callB (c_reprA hG hu) (by rfl) z_repr bb_repr (a_cons (d_F (f_lst (a_cons (d_var 2) (a_cons (d_var 3) (a_cons (d_var 6) a_nil))))) a_nil)))
  (s_cons (s_set (i := 8) nd rfl (by first | exact .inl rfl | exact .inr rfl) (d_F (f_lst (a_cons (d_callV (G_then.mono (by decide)) hG hr (by rfl) D_then.mg D_then.fn.kp D_then.bd (a_cons (d_var 2) (a_cons (d_var 3) a_nil))) (a_cons (d_callV (G_inverse.mono (by decide)) hG hr (by rfl) D_inverse.mg D_inverse.fn.kp D_inverse.bd (a_cons (d_var 2) a_nil)) (a_cons (d_callV (G_then.mono (by decide)) hG hr (by rfl) D_then.mg D_then.fn.kp D_then.bd (a_cons (d_var 2) (a_cons (d_callV (G_inverse.mono (by decide)) hG hr (by rfl) D_inverse.mg D_inverse.fn.kp D_inverse.bd (a_cons (d_var 2) a_nil)) a_nil))) (a_cons (d_callV (G_cycles.mono (by decide)) hG hr (by rfl) D_cycles.mg D_cycles.fn.kp D_cycles.bd (a_cons (d_var 2) a_nil)) (a_cons (d_callV (G_unit.mono (by decide)) hG hr (by rfl) D_unit.mg D_unit.fn.kp D_unit.bd (a_cons (d_var 1) a_nil)) a_nil))))))))
  (s_cons (s_set (i := 9) nd rfl (by first | exact .inl rfl | exact .inr rfl) (d_F (f_lst (a_cons (d_callV (G_law_after.mono (by decide)) hG hr (by rfl) D_law_after.mg D_law_after.fn.kp D_law_after.bd (a_cons (d_var 2) (a_cons (d_var 3) a_nil))) (a_cons (d_callV (G_law_back.mono (by decide)) hG hr (by rfl) D_law_back.mg D_law_back.fn.kp D_law_back.bd (a_cons (d_var 2) a_nil)) (a_cons (d_tupRg rfl (by rfl) z_tuple (g_1 (by rfl) z_range (d_var 1))) (a_cons (d_callV (G_law_rounds.mono (by decide)) hG hr (by rfl) D_law_rounds.mg D_law_rounds.fn.kp D_law_rounds.bd (a_cons (d_var 2) a_nil)) (a_cons (d_tupRg rfl (by rfl) z_tuple (g_1 (by rfl) z_range (d_var 1))) a_nil))))))))
  (s_cons (s_if (w_or (t_cmp (o_ne hu) (d_callB (c_reprA hG hu) (by rfl) z_repr bb_repr (a_cons (d_var 8) a_nil)) (d_callB (c_reprA hG hu) (by rfl) z_repr bb_repr (a_cons (d_var 9) a_nil))) (w_or1 (t_cmp (o_ne hu) (d_callV (G_then.mono (by decide)) hG hr (by rfl) D_then.mg D_then.fn.kp D_then.bd (a_cons (d_callV (G_then.mono (by decide)) hG hr (by rfl) D_then.mg D_then.fn.kp D_then.bd (a_cons (d_var 2) (a_cons (d_var 3) a_nil))) (a_cons (d_var 4) a_nil))) (d_callV (G_then.mono (by decide)) hG hr (by rfl) D_then.mg D_then.fn.kp D_then.bd (a_cons (d_var 2) (a_cons (d_callV (G_then.mono (by decide)) hG hr (by rfl) D_then.mg D_then.fn.kp D_then.bd (a_cons (d_var 3) (a_cons (d_var 4) a_nil))) a_nil)))))).pt
    (s_one (s_ret rfl d_bool))
    s_nil)
  (s_cons (s_if (w_or (t_cmp (o_ne hu) (d_callV (G_cycles.mono (by decide)) hG hr (by rfl) D_cycles.mg D_cycles.fn.kp D_cycles.bd (a_cons (d_callV (G_then.mono (by decide)) hG hr (by rfl) D_then.mg D_then.fn.kp D_then.bd (a_cons (d_callV (G_then.mono (by decide)) hG hr (by rfl) D_then.mg D_then.fn.kp D_then.bd (a_cons (d_var 3) (a_cons (d_var 2) a_nil))) (a_cons (d_callV (G_inverse.mono (by decide)) hG hr (by rfl) D_inverse.mg D_inverse.fn.kp D_inverse.bd (a_cons (d_var 3) a_nil)) a_nil))) a_nil)) (d_ix o_ix (d_var 9) d_int)) (w_or1 (t_cmp (o_ne hu) (d_callV (G_cycles.mono (by decide)) hG hr (by rfl) D_cycles.mg D_cycles.fn.kp D_cycles.bd (a_cons (d_callV (G_inverse.mono (by decide)) hG hr (by rfl) D_inverse.mg D_inverse.fn.kp D_inverse.bd (a_cons (d_var 2) a_nil)) a_nil)) (d_ix o_ix (d_var 9) d_int)))).pt
    (s_one (s_ret rfl d_bool))
    s_nil)
  (s_cons (s_if (t_cmp (o_ne hu) (d_callB (c_reprA hG hu) (by rfl) z_repr bb_repr (a_cons (d_F (f_lc (g' := g) (own := [("_law_thing", 10)]) rfl nd (i_row (d_F (f_lst (a_cons (d_var 2) (a_cons (d_var 5) (a_cons (d_var 6) a_nil)))))) (blkOk_by (N := N_law_right) (sc := (defScope st_law_right)) (by decide +kernel)) (fun _ _ _ _ _ => (t_nm (i := 10) nd rfl (by first | exact .inl rfl | exact .inr rfl))) (fun _ _ _ _ _ => q_nil) (fun _ _ _ _ _ => (d_callV (G_is_perm.mono (by decide)) hG hr (by rfl) D_is_perm.mg D_is_perm.fn.kp D_is_perm.bd (a_cons (d_var 10) a_nil))))) a_nil)) (d_callB (c_reprA hG hu) (by rfl) z_repr bb_repr (a_cons (d_F (f_lst (a_cons d_bool (a_cons d_bool (a_cons (d_callV (G_law_is.mono (by decide)) hG hr (by rfl) D_law_is.mg D_law_is.fn.kp D_law_is.bd (a_cons (d_var 6) a_nil)) a_nil))))) a_nil)))
    (s_one (s_ret rfl d_bool))
    s_nil)
  (s_cons (s_set (i := 11) nd rfl (by first | exact .inl rfl | exact .inr rfl) (d_F (f_lst (a_cons (d_callV (G_law_refused.mono (by decide)) hG hr (by rfl) D_law_refused.mg D_law_refused.fn.kp D_law_refused.bd (a_cons d_int (a_cons (d_var 2) (a_cons (d_var 6) a_nil)))) (a_cons (d_callV (G_law_refused.mono (by decide)) hG hr (by rfl) D_law_refused.mg D_law_refused.fn.kp D_law_refused.bd (a_cons d_int (a_cons (d_var 6) (a_cons (d_var 2) a_nil)))) (a_cons (d_callV (G_law_refused.mono (by decide)) hG hr (by rfl) D_law_refused.mg D_law_refused.fn.kp D_law_refused.bd (a_cons d_int (a_cons (d_var 2) (a_cons (d_var 5) a_nil)))) a_nil))))))
  (s_cons (s_set (i := 11) nd rfl (by first | exact .inl rfl | exact .inr rfl) (d_F (f_op o_catF (d_var 11) (d_F (f_lst (a_cons (d_callV (G_law_refused.mono (by decide)) hG hr (by rfl) D_law_refused.mg D_law_refused.fn.kp D_law_refused.bd (a_cons d_int (a_cons (d_var 6) (a_cons d_none a_nil)))) (a_cons (d_callV (G_law_refused.mono (by decide)) hG hr (by rfl) D_law_refused.mg D_law_refused.fn.kp D_law_refused.bd (a_cons d_int (a_cons (d_var 6) (a_cons d_none a_nil)))) a_nil)))))))
  (s_cons (s_unp (d_tup (a_cons (d_tup (a_cons d_str (a_cons d_str a_nil))) (a_cons (d_tup (a_cons d_str (a_cons d_str a_nil))) a_nil))) (t_tp rfl (ts_cons (t_nm (i := 12) nd rfl (by first | exact .inl rfl | exact .inr rfl)) (ts_cons (t_nm (i := 8) nd rfl (by first | exact .inl rfl | exact .inr rfl)) ts_nil))))
  (s_cons (s_set (i := 13) nd rfl (by first | exact .inl rfl | exact .inr rfl) (d_F (f_rep (a_cons (d_ifExp (w_and (t_val (d_callV (G_law_is.mono (by decide)) hG hr (by rfl) D_law_is.mg D_law_is.fn.kp D_law_is.bd (a_cons (d_var 6) a_nil))) (w_and1 (t_cmp (o_eq hu) (d_callB c_len (by rfl) z_len bb_len (a_cons (d_var 6) a_nil)) (d_var 1)))).pt (d_var 8) (d_var 12)) a_nil) d_int)))
  (s_cons (s_set (i := 13) nd rfl (by first | exact .inl rfl | exact .inr rfl) (d_F (f_op o_catF (d_F (f_op o_catF (d_var 13) (d_F (f_lst (a_cons (d_ifExp (t_cmp (o_eq hu) (d_callB c_len (by rfl) z_len bb_len (a_cons (d_var 5) a_nil)) (d_var 1)) (d_var 8) (d_var 12)) a_nil))))) (d_F (f_rep (a_cons (d_ifExp (t_val (d_callV (G_law_is.mono (by decide)) hG hr (by rfl) D_law_is.mg D_law_is.fn.kp D_law_is.bd (a_cons (d_var 6) a_nil))) (d_var 8) (d_var 12)) a_nil) d_int)))))
  (s_cons (s_set (i := 14) nd rfl (by first | exact .inl rfl | exact .inr rfl) (d_ix o_ix (d_F (f_lst (a_cons d_int (a_cons d_int (a_cons (d_neg d_int) (a_cons d_bool (a_cons d_none (a_cons d_str (a_cons (d_tup (a_cons d_int a_nil)) (a_cons (d_op o_pow d_int d_int) a_nil)))))))))) (d_callV (G_law_take.mono (by decide)) hG hr (by rfl) D_law_take.mg D_law_take.fn.kp D_law_take.bd (a_cons (d_var 0) (a_cons d_int a_nil)))))
  (s_cons (s_if (t_cmp (o_ne hu) (d_callV (G_law_refused.mono (by decide)) hG hr (by rfl) D_law_refused.mg D_law_refused.fn.kp D_law_refused.bd (a_cons d_int (a_cons (d_var 14) (a_cons d_none a_nil)))) (d_tup (a_cons d_str (a_cons (d_callB (c_reprA hG hu) (by rfl) z_repr bb_repr (a_cons (d_var 14) a_nil)) a_nil))))
    (s_one (s_ret rfl d_bool))
    s_nil)
  (s_one (s_ret rfl (d_and (d_cmp (o_eq hu) (d_var 11) (d_var 13)) (d_one (d_cmp (o_eq hu) (d_callB (c_reprA hG hu) (by rfl) z_repr bb_repr (a_cons (d_F (f_lst (a_cons (d_var 2) (a_cons (d_var 3) (a_cons (d_var 6) a_nil))))) a_nil)) (d_var 7))))))))))))))))))))))))
theorem ok_law {f : Addr} {fd : FuncData} (F : Fun K "law" "law" st_law f fd) (z_len : mg "len" = none) (z_max : mg "max" = none) (z_min : mg "min" = none) (z_range : mg "range" = none) {v_MOST_SIZE : Tok} (y_MOST_SIZE : mg "MOST_SIZE" = some (.int 5 v_MOST_SIZE)) {f_law_pot : Addr} {d_law_pot : FuncData} (D_law_pot : Df K mg "_law_pot" st_law_pot ["_law_script", "_law_k"] f_law_pot d_law_pot) (G_law_pot : FnG P w K mg base CX0 1 f_law_pot d_law_pot ["_law_script", "_law_k"] (spV K b_law_pot 4 [false, false])) {f_law_right : Addr} {d_law_right : FuncData} (D_law_right : Df K mg "_law_right" st_law_right ["_law_pot_here"] f_law_right d_law_right) (G_law_right : FnG P w K mg base CX0 7 f_law_right d_law_right ["_law_pot_here"] (spV K b_law_right 15 [true])) {f_cycles : Addr} {d_cycles : FuncData} (D_cycles : Df K mg "cycles" st_cycles ["one"] f_cycles d_cycles) (G_cycles : FnG P w K mg base CX0 5 f_cycles d_cycles ["one"] (spV K b_cycles 1 [false])) {f_inverse : Addr} {d_inverse : FuncData} (D_inverse : Df K mg "inverse" st_inverse ["one"] f_inverse d_inverse) (G_inverse : FnG P w K mg base CX0 5 f_inverse d_inverse ["one"] (spV K b_inverse 1 [false])) {f_then : Addr} {d_then : FuncData} (D_then : Df K mg "then" st_then ["one", "other"] f_then d_then) (G_then : FnG P w K mg base CX0 5 f_then d_then ["one", "other"] (spV K b_then 2 [false, false])) {f_unit : Addr} {d_unit : FuncData} (D_unit : Df K mg "unit" st_unit ["size"] f_unit d_unit) (G_unit : FnG P w K mg base CX0 3 f_unit d_unit ["size"] (spV K b_unit 1 [false])) : FnG P w K mg base CX0 8 f fd ["_law_script"] (spV K b_law 5 [false]) :=
  have nd := sc_law.nd
  fnV_of F sc_law rfl fun cdv A outer s H E H0 O0 io g hG hr => have hu := room_hu hr
  (s_cons (s_for PassesOwn.never rfl (i_range1 (by rfl) z_range (d_callB (c_max2 rfl) (by rfl) z_max bb_max (a_cons d_int (a_cons (d_callB (c_min2 rfl) (by rfl) z_min bb_min (a_cons (d_callB c_len (by rfl) z_len bb_len (a_cons (d_var 0) a_nil)) (a_cons d_int a_nil))) a_nil)))) (t_nm (i := 1) nd rfl (by first | exact .inl rfl | exact .inr rfl)) fun _ =>
    (s_cons (s_setF (i := 2) nd rfl (by first | exact .inl rfl | exact .inr rfl) (f_callV (G_law_pot.mono (by decide)) hG hr (by rfl) D_law_pot.mg D_law_pot.fn.kp D_law_pot.bd (a_cons (d_var 0) (a_cons (d_var 1) a_nil))))
    (s_one (s_for PassesOwn.never rfl (i_range1 (by rfl) z_range d_int) (t_nm (i := 3) nd rfl (by first | exact .inl rfl | exact .inr rfl)) fun _ =>
      (s_one (s_if (t_not (t_val (d_callV (G_law_right.mono (by decide)) hG hr (by rfl) D_law_right.mg D_law_right.fn.kp D_law_right.bd (a_cons (d_var 2) a_nil))))
        (s_one (s_ret rfl d_bool))
        s_nil))))))
  (s_cons (s_set (i := 4) nd rfl (by first | exact .inl rfl | exact .inr rfl) (d_F (f_lst (a_cons (d_callV (G_unit.mono (by decide)) hG hr (by rfl) D_unit.mg D_unit.fn.kp D_unit.bd (a_cons d_int a_nil)) (a_cons (d_callV (G_then.mono (by decide)) hG hr (by rfl) D_then.mg D_then.fn.kp D_then.bd (a_cons (d_tup (a_cons d_int (a_cons d_int (a_cons d_int a_nil)))) (a_cons (d_tup (a_cons d_int (a_cons d_int (a_cons d_int a_nil)))) a_nil))) (a_cons (d_callV (G_inverse.mono (by decide)) hG hr (by rfl) D_inverse.mg D_inverse.fn.kp D_inverse.bd (a_cons (d_tup (a_cons d_int (a_cons d_int (a_cons d_int a_nil)))) a_nil)) (a_cons (d_callV (G_cycles.mono (by decide)) hG hr (by rfl) D_cycles.mg D_cycles.fn.kp D_cycles.bd (a_cons (d_tup (a_cons d_int (a_cons d_int a_nil))) a_nil)) (a_cons (d_callV (G_cycles.mono (by decide)) hG hr (by rfl) D_cycles.mg D_cycles.fn.kp D_cycles.bd (a_cons (d_tup (a_cons d_int (a_cons d_int (a_cons d_int a_nil)))) a_nil)) a_nil))))))))
  (s_one (s_ret rfl (d_and (d_cmp (o_eq hu) (d_var 4) (d_F (f_lst (a_cons (d_tup (a_cons d_int (a_cons d_int (a_cons d_int a_nil)))) (a_cons (d_tup (a_cons d_int (a_cons d_int (a_cons d_int a_nil)))) (a_cons (d_tup (a_cons d_int (a_cons d_int (a_cons d_int a_nil)))) (a_cons (d_tup (a_cons d_int (a_cons d_int a_nil))) (a_cons (d_tup (a_cons d_int a_nil)) a_nil)))))))) (d_one (d_cmp (o_eq hu) (d_globI (by rfl) y_MOST_SIZE) d_int)))))))
end
theorem all_mk {l : PySem.W.OpenLaw} {w : World} {K : PySem.W.Frag} {h : Heap} {mg : Str → Option Value} {fa : Addr} (X : K.In h) (G : h.Ns mainGlobals mg) (hfa : mg "law" = some (.ref fa))
    {f1 : Addr} {od1 an1 : Option Addr} {sl1 : Array (Option Value)} {oc1 kV1 dc1 pm1 cd1 ct1 : Value} (a1 : PySem.W.nsIn K mainGlobals "_law_pot" = some (some (.ref f1))) (l1 : K.lookup f1 = some ⟨oc1, od1, .func (PySem.W.fnOf "_law_pot" "_law_pot" (defArgs st_law_pot) (defBody st_law_pot) (defScope st_law_pot) .none kV1 dc1 pm1 an1 cd1 ct1), sl1⟩) (c1 : PySem.W.codeIn K cd1 "_law_pot" = true) (k1 : PySem.W.keepIn K (.ref f1) = true)
    {f2 : Addr} {od2 an2 : Option Addr} {sl2 : Array (Option Value)} {oc2 kV2 dc2 pm2 cd2 ct2 : Value} (a2 : PySem.W.nsIn K mainGlobals "unit_by" = some (some (.ref f2))) (l2 : K.lookup f2 = some ⟨oc2, od2, .func (PySem.W.fnOf "unit_by" "unit_by" (defArgs st_unit_by) (defBody st_unit_by) (defScope st_unit_by) .none kV2 dc2 pm2 an2 cd2 ct2), sl2⟩) (c2 : PySem.W.codeIn K cd2 "unit_by" = true) (k2 : PySem.W.keepIn K (.ref f2) = true)
    {f3 : Addr} {od3 an3 : Option Addr} {sl3 : Array (Option Value)} {oc3 kV3 dc3 pm3 cd3 ct3 : Value} (a3 : PySem.W.nsIn K mainGlobals "is_whole" = some (some (.ref f3))) (l3 : K.lookup f3 = some ⟨oc3, od3, .func (PySem.W.fnOf "is_whole" "is_whole" (defArgs st_is_whole) (defBody st_is_whole) (defScope st_is_whole) .none kV3 dc3 pm3 an3 cd3 ct3), sl3⟩) (c3 : PySem.W.codeIn K cd3 "is_whole" = true) (k3 : PySem.W.keepIn K (.ref f3) = true)
    {f4 : Addr} {od4 an4 : Option Addr} {sl4 : Array (Option Value)} {oc4 kV4 dc4 pm4 cd4 ct4 : Value} (a4 : PySem.W.nsIn K mainGlobals "unit" = some (some (.ref f4))) (l4 : K.lookup f4 = some ⟨oc4, od4, .func (PySem.W.fnOf "unit" "unit" (defArgs st_unit) (defBody st_unit) (defScope st_unit) .none kV4 dc4 pm4 an4 cd4 ct4), sl4⟩) (c4 : PySem.W.codeIn K cd4 "unit" = true) (k4 : PySem.W.keepIn K (.ref f4) = true)
    {f5 : Addr} {od5 an5 : Option Addr} {sl5 : Array (Option Value)} {oc5 kV5 dc5 pm5 cd5 ct5 : Value} (a5 : PySem.W.nsIn K mainGlobals "is_below" = some (some (.ref f5))) (l5 : K.lookup f5 = some ⟨oc5, od5, .func (PySem.W.fnOf "is_below" "is_below" (defArgs st_is_below) (defBody st_is_below) (defScope st_is_below) .none kV5 dc5 pm5 an5 cd5 ct5), sl5⟩) (c5 : PySem.W.codeIn K cd5 "is_below" = true) (k5 : PySem.W.keepIn K (.ref f5) = true)
    {f6 : Addr} {od6 an6 : Option Addr} {sl6 : Array (Option Value)} {oc6 kV6 dc6 pm6 cd6 ct6 : Value} (a6 : PySem.W.nsIn K mainGlobals "is_perm" = some (some (.ref f6))) (l6 : K.lookup f6 = some ⟨oc6, od6, .func (PySem.W.fnOf "is_perm" "is_perm" (defArgs st_is_perm) (defBody st_is_perm) (defScope st_is_perm) .none kV6 dc6 pm6 an6 cd6 ct6), sl6⟩) (c6 : PySem.W.codeIn K cd6 "is_perm" = true) (k6 : PySem.W.keepIn K (.ref f6) = true)
    {f7 : Addr} {od7 an7 : Option Addr} {sl7 : Array (Option Value)} {oc7 kV7 dc7 pm7 cd7 ct7 : Value} (a7 : PySem.W.nsIn K mainGlobals "need_perm" = some (some (.ref f7))) (l7 : K.lookup f7 = some ⟨oc7, od7, .func (PySem.W.fnOf "need_perm" "need_perm" (defArgs st_need_perm) (defBody st_need_perm) (defScope st_need_perm) .none kV7 dc7 pm7 an7 cd7 ct7), sl7⟩) (c7 : PySem.W.codeIn K cd7 "need_perm" = true) (k7 : PySem.W.keepIn K (.ref f7) = true)
    {f8 : Addr} {od8 an8 : Option Addr} {sl8 : Array (Option Value)} {oc8 kV8 dc8 pm8 cd8 ct8 : Value} (a8 : PySem.W.nsIn K mainGlobals "then_by" = some (some (.ref f8))) (l8 : K.lookup f8 = some ⟨oc8, od8, .func (PySem.W.fnOf "then_by" "then_by" (defArgs st_then_by) (defBody st_then_by) (defScope st_then_by) .none kV8 dc8 pm8 an8 cd8 ct8), sl8⟩) (c8 : PySem.W.codeIn K cd8 "then_by" = true) (k8 : PySem.W.keepIn K (.ref f8) = true)
    {f9 : Addr} {od9 an9 : Option Addr} {sl9 : Array (Option Value)} {oc9 kV9 dc9 pm9 cd9 ct9 : Value} (a9 : PySem.W.nsIn K mainGlobals "then" = some (some (.ref f9))) (l9 : K.lookup f9 = some ⟨oc9, od9, .func (PySem.W.fnOf "then" "then" (defArgs st_then) (defBody st_then) (defScope st_then) .none kV9 dc9 pm9 an9 cd9 ct9), sl9⟩) (c9 : PySem.W.codeIn K cd9 "then" = true) (k9 : PySem.W.keepIn K (.ref f9) = true)
    {f10 : Addr} {od10 an10 : Option Addr} {sl10 : Array (Option Value)} {oc10 kV10 dc10 pm10 cd10 ct10 : Value} (a10 : PySem.W.nsIn K mainGlobals "inverse_by" = some (some (.ref f10))) (l10 : K.lookup f10 = some ⟨oc10, od10, .func (PySem.W.fnOf "inverse_by" "inverse_by" (defArgs st_inverse_by) (defBody st_inverse_by) (defScope st_inverse_by) .none kV10 dc10 pm10 an10 cd10 ct10), sl10⟩) (c10 : PySem.W.codeIn K cd10 "inverse_by" = true) (k10 : PySem.W.keepIn K (.ref f10) = true)
    {f11 : Addr} {od11 an11 : Option Addr} {sl11 : Array (Option Value)} {oc11 kV11 dc11 pm11 cd11 ct11 : Value} (a11 : PySem.W.nsIn K mainGlobals "inverse" = some (some (.ref f11))) (l11 : K.lookup f11 = some ⟨oc11, od11, .func (PySem.W.fnOf "inverse" "inverse" (defArgs st_inverse) (defBody st_inverse) (defScope st_inverse) .none kV11 dc11 pm11 an11 cd11 ct11), sl11⟩) (c11 : PySem.W.codeIn K cd11 "inverse" = true) (k11 : PySem.W.keepIn K (.ref f11) = true)
    {f12 : Addr} {od12 an12 : Option Addr} {sl12 : Array (Option Value)} {oc12 kV12 dc12 pm12 cd12 ct12 : Value} (a12 : PySem.W.nsIn K mainGlobals "cycles_by" = some (some (.ref f12))) (l12 : K.lookup f12 = some ⟨oc12, od12, .func (PySem.W.fnOf "cycles_by" "cycles_by" (defArgs st_cycles_by) (defBody st_cycles_by) (defScope st_cycles_by) .none kV12 dc12 pm12 an12 cd12 ct12), sl12⟩) (c12 : PySem.W.codeIn K cd12 "cycles_by" = true) (k12 : PySem.W.keepIn K (.ref f12) = true)
    {f13 : Addr} {od13 an13 : Option Addr} {sl13 : Array (Option Value)} {oc13 kV13 dc13 pm13 cd13 ct13 : Value} (a13 : PySem.W.nsIn K mainGlobals "cycles" = some (some (.ref f13))) (l13 : K.lookup f13 = some ⟨oc13, od13, .func (PySem.W.fnOf "cycles" "cycles" (defArgs st_cycles) (defBody st_cycles) (defScope st_cycles) .none kV13 dc13 pm13 an13 cd13 ct13), sl13⟩) (c13 : PySem.W.codeIn K cd13 "cycles" = true) (k13 : PySem.W.keepIn K (.ref f13) = true)
    {f14 : Addr} {od14 an14 : Option Addr} {sl14 : Array (Option Value)} {oc14 kV14 dc14 pm14 cd14 ct14 : Value} (a14 : PySem.W.nsIn K mainGlobals "_law_take" = some (some (.ref f14))) (l14 : K.lookup f14 = some ⟨oc14, od14, .func (PySem.W.fnOf "_law_take" "_law_take" (defArgs st_law_take) (defBody st_law_take) (defScope st_law_take) .none kV14 dc14 pm14 an14 cd14 ct14), sl14⟩) (c14 : PySem.W.codeIn K cd14 "_law_take" = true) (k14 : PySem.W.keepIn K (.ref f14) = true)
    {f15 : Addr} {od15 an15 : Option Addr} {sl15 : Array (Option Value)} {oc15 kV15 dc15 pm15 cd15 ct15 : Value} (a15 : PySem.W.nsIn K mainGlobals "_law_perm" = some (some (.ref f15))) (l15 : K.lookup f15 = some ⟨oc15, od15, .func (PySem.W.fnOf "_law_perm" "_law_perm" (defArgs st_law_perm) (defBody st_law_perm) (defScope st_law_perm) .none kV15 dc15 pm15 an15 cd15 ct15), sl15⟩) (c15 : PySem.W.codeIn K cd15 "_law_perm" = true) (k15 : PySem.W.keepIn K (.ref f15) = true)
    {f16 : Addr} {od16 an16 : Option Addr} {sl16 : Array (Option Value)} {oc16 kV16 dc16 pm16 cd16 ct16 : Value} (a16 : PySem.W.nsIn K mainGlobals "_law_strange" = some (some (.ref f16))) (l16 : K.lookup f16 = some ⟨oc16, od16, .func (PySem.W.fnOf "_law_strange" "_law_strange" (defArgs st_law_strange) (defBody st_law_strange) (defScope st_law_strange) .none kV16 dc16 pm16 an16 cd16 ct16), sl16⟩) (c16 : PySem.W.codeIn K cd16 "_law_strange" = true) (k16 : PySem.W.keepIn K (.ref f16) = true)
    {f17 : Addr} {od17 an17 : Option Addr} {sl17 : Array (Option Value)} {oc17 kV17 dc17 pm17 cd17 ct17 : Value} (a17 : PySem.W.nsIn K mainGlobals "_law_after" = some (some (.ref f17))) (l17 : K.lookup f17 = some ⟨oc17, od17, .func (PySem.W.fnOf "_law_after" "_law_after" (defArgs st_law_after) (defBody st_law_after) (defScope st_law_after) .none kV17 dc17 pm17 an17 cd17 ct17), sl17⟩) (c17 : PySem.W.codeIn K cd17 "_law_after" = true) (k17 : PySem.W.keepIn K (.ref f17) = true)
    {f18 : Addr} {od18 an18 : Option Addr} {sl18 : Array (Option Value)} {oc18 kV18 dc18 pm18 cd18 ct18 : Value} (a18 : PySem.W.nsIn K mainGlobals "_law_back" = some (some (.ref f18))) (l18 : K.lookup f18 = some ⟨oc18, od18, .func (PySem.W.fnOf "_law_back" "_law_back" (defArgs st_law_back) (defBody st_law_back) (defScope st_law_back) .none kV18 dc18 pm18 an18 cd18 ct18), sl18⟩) (c18 : PySem.W.codeIn K cd18 "_law_back" = true) (k18 : PySem.W.keepIn K (.ref f18) = true)
    {f19 : Addr} {od19 an19 : Option Addr} {sl19 : Array (Option Value)} {oc19 kV19 dc19 pm19 cd19 ct19 : Value} (a19 : PySem.W.nsIn K mainGlobals "_law_rounds" = some (some (.ref f19))) (l19 : K.lookup f19 = some ⟨oc19, od19, .func (PySem.W.fnOf "_law_rounds" "_law_rounds" (defArgs st_law_rounds) (defBody st_law_rounds) (defScope st_law_rounds) .none kV19 dc19 pm19 an19 cd19 ct19), sl19⟩) (c19 : PySem.W.codeIn K cd19 "_law_rounds" = true) (k19 : PySem.W.keepIn K (.ref f19) = true)
    {f20 : Addr} {od20 an20 : Option Addr} {sl20 : Array (Option Value)} {oc20 kV20 dc20 pm20 cd20 ct20 : Value} (a20 : PySem.W.nsIn K mainGlobals "_law_word" = some (some (.ref f20))) (l20 : K.lookup f20 = some ⟨oc20, od20, .func (PySem.W.fnOf "_law_word" "_law_word" (defArgs st_law_word) (defBody st_law_word) (defScope st_law_word) .none kV20 dc20 pm20 an20 cd20 ct20), sl20⟩) (c20 : PySem.W.codeIn K cd20 "_law_word" = true) (k20 : PySem.W.keepIn K (.ref f20) = true)
    {f21 : Addr} {od21 an21 : Option Addr} {sl21 : Array (Option Value)} {oc21 kV21 dc21 pm21 cd21 ct21 : Value} (a21 : PySem.W.nsIn K mainGlobals "_law_refused" = some (some (.ref f21))) (l21 : K.lookup f21 = some ⟨oc21, od21, .func (PySem.W.fnOf "_law_refused" "_law_refused" (defArgs st_law_refused) (defBody st_law_refused) (defScope st_law_refused) .none kV21 dc21 pm21 an21 cd21 ct21), sl21⟩) (c21 : PySem.W.codeIn K cd21 "_law_refused" = true) (k21 : PySem.W.keepIn K (.ref f21) = true)
    {f22 : Addr} {od22 an22 : Option Addr} {sl22 : Array (Option Value)} {oc22 kV22 dc22 pm22 cd22 ct22 : Value} (a22 : PySem.W.nsIn K mainGlobals "_law_is" = some (some (.ref f22))) (l22 : K.lookup f22 = some ⟨oc22, od22, .func (PySem.W.fnOf "_law_is" "_law_is" (defArgs st_law_is) (defBody st_law_is) (defScope st_law_is) .none kV22 dc22 pm22 an22 cd22 ct22), sl22⟩) (c22 : PySem.W.codeIn K cd22 "_law_is" = true) (k22 : PySem.W.keepIn K (.ref f22) = true)
    {f23 : Addr} {od23 an23 : Option Addr} {sl23 : Array (Option Value)} {oc23 kV23 dc23 pm23 cd23 ct23 : Value} (a23 : PySem.W.nsIn K mainGlobals "_law_right" = some (some (.ref f23))) (l23 : K.lookup f23 = some ⟨oc23, od23, .func (PySem.W.fnOf "_law_right" "_law_right" (defArgs st_law_right) (defBody st_law_right) (defScope st_law_right) .none kV23 dc23 pm23 an23 cd23 ct23), sl23⟩) (c23 : PySem.W.codeIn K cd23 "_law_right" = true) (k23 : PySem.W.keepIn K (.ref f23) = true)
    {f24 : Addr} {od24 an24 : Option Addr} {sl24 : Array (Option Value)} {oc24 kV24 dc24 pm24 cd24 ct24 : Value} (a24 : PySem.W.nsIn K mainGlobals "law" = some (some (.ref f24))) (l24 : K.lookup f24 = some ⟨oc24, od24, .func (PySem.W.fnOf "law" "law" (defArgs st_law) (defBody st_law) (defScope st_law) .none kV24 dc24 pm24 an24 cd24 ct24), sl24⟩) (c24 : PySem.W.codeIn K cd24 "law" = true) (k24 : PySem.W.keepIn K (.ref f24) = true)
    (z_abs : PySem.W.nsIn K mainGlobals "abs" = some none)
    (z_all : PySem.W.nsIn K mainGlobals "all" = some none)
    (z_bool : PySem.W.nsIn K mainGlobals "bool" = some none)
    (z_enumerate : PySem.W.nsIn K mainGlobals "enumerate" = some none)
    (z_int : PySem.W.nsIn K mainGlobals "int" = some none)
    (z_isinstance : PySem.W.nsIn K mainGlobals "isinstance" = some none)
    (z_len : PySem.W.nsIn K mainGlobals "len" = some none)
    (z_list : PySem.W.nsIn K mainGlobals "list" = some none)
    (z_max : PySem.W.nsIn K mainGlobals "max" = some none)
    (z_min : PySem.W.nsIn K mainGlobals "min" = some none)
    (z_range : PySem.W.nsIn K mainGlobals "range" = some none)
    (z_repr : PySem.W.nsIn K mainGlobals "repr" = some none)
    (z_sorted : PySem.W.nsIn K mainGlobals "sorted" = some none)
    (z_tuple : PySem.W.nsIn K mainGlobals "tuple" = some none)
    {v_MOST_SIZE : Tok} (y_MOST_SIZE : PySem.W.nsIn K mainGlobals "MOST_SIZE" = some (some (.int 5 v_MOST_SIZE)))
    {c_NoDeeds : Addr} (m_NoDeeds : PySem.W.nsIn K mainGlobals "NoDeeds" = some (some (.ref c_NoDeeds)))
    {c_NoEnds : Addr} (m_NoEnds : PySem.W.nsIn K mainGlobals "NoEnds" = some (some (.ref c_NoEnds)))
    {c_NoFlips : Addr} (m_NoFlips : PySem.W.nsIn K mainGlobals "NoFlips" = some (some (.ref c_NoFlips)))
    {c_NoHand : Addr} (m_NoHand : PySem.W.nsIn K mainGlobals "NoHand" = some (some (.ref c_NoHand)))
    {c_NoLabels : Addr} (m_NoLabels : PySem.W.nsIn K mainGlobals "NoLabels" = some (some (.ref c_NoLabels)))
    {c_NoMating : Addr} (m_NoMating : PySem.W.nsIn K mainGlobals "NoMating" = some (some (.ref c_NoMating)))
    {c_NoNumber : Addr} (m_NoNumber : PySem.W.nsIn K mainGlobals "NoNumber" = some (some (.ref c_NoNumber)))
    {c_NoPainting : Addr} (m_NoPainting : PySem.W.nsIn K mainGlobals "NoPainting" = some (some (.ref c_NoPainting)))
    {c_NoWeb : Addr} (m_NoWeb : PySem.W.nsIn K mainGlobals "NoWeb" = some (some (.ref c_NoWeb)))
    {c_WebError : Addr} (m_WebError : PySem.W.nsIn K mainGlobals "WebError" = some (some (.ref c_WebError))) (ka_NoLabels__NoDeeds_NoEnds_NoFlips_NoHand_NoMating_NoPainting_NoWeb : PySem.W.kitAny K (.ref c_NoLabels) [(.ref c_NoDeeds), (.ref c_NoEnds), (.ref c_NoFlips), (.ref c_NoHand), (.ref c_NoMating), (.ref c_NoPainting), (.ref c_NoWeb)] = some false) (ka_NoNumber__NoDeeds_NoEnds_NoFlips_NoHand_NoMating_NoPainting_NoWeb : PySem.W.kitAny K (.ref c_NoNumber) [(.ref c_NoDeeds), (.ref c_NoEnds), (.ref c_NoFlips), (.ref c_NoHand), (.ref c_NoMating), (.ref c_NoPainting), (.ref c_NoWeb)] = some false) (ki_NoLabels_NoLabels : PySem.W.kitOne K (.ref c_NoLabels) (.ref c_NoLabels) = some true) (ki_NoLabels_NoNumber : PySem.W.kitOne K (.ref c_NoLabels) (.ref c_NoNumber) = some false) (ki_NoLabels_WebError : PySem.W.kitOne K (.ref c_NoLabels) (.ref c_WebError) = some true) (ki_NoNumber_NoLabels : PySem.W.kitOne K (.ref c_NoNumber) (.ref c_NoLabels) = some false) (ki_NoNumber_NoNumber : PySem.W.kitOne K (.ref c_NoNumber) (.ref c_NoNumber) = some true) (ki_NoNumber_WebError : PySem.W.kitOne K (.ref c_NoNumber) (.ref c_WebError) = some false) (o_NoNumber : oexB K c_NoNumber bmLE "LookupError.__new__" = true) (q_NoLabels : excCB K c_NoLabels = true) (q_NoNumber : excCB K c_NoNumber = true) (r_NoLabels : raTB K c_NoLabels bmVE "ValueError.__new__" = true) (xf_NoNumber : VS.xfB K c_NoNumber "number" = true) (xm_NoLabels__NoNumber : PySem.W.exmOne K (.ref c_NoLabels) (.ref c_NoNumber) = some false) (xm_NoLabels__WebError : PySem.W.exmOne K (.ref c_NoLabels) (.ref c_WebError) = some true) (xm_NoNumber__NoNumber : PySem.W.exmOne K (.ref c_NoNumber) (.ref c_NoNumber) = some true)
    {f_INoNumber : Addr} {oINoNumber aINoNumber : Option Addr} {sINoNumber : Array (Option Value)} {uINoNumber vINoNumber wINoNumber xINoNumber yINoNumber zINoNumber : Value} (iC_NoNumber : PySem.W.findIn K (.ref c_NoNumber) "__init__" = some (some (.ref f_INoNumber))) (tI_NoNumber : PySem.W.typeIn K (.ref f_INoNumber) = some (.type "function")) (lI_NoNumber : K.lookup f_INoNumber = some ⟨uINoNumber, oINoNumber, .func (PySem.W.fnOf "__init__" "NoNumber.__init__" (defArgs ((clsB (topS 10)).getD 0 (.Pass ⟨0, 0, 0, 0⟩))) (defBody ((clsB (topS 10)).getD 0 (.Pass ⟨0, 0, 0, 0⟩))) (defScope ((clsB (topS 10)).getD 0 (.Pass ⟨0, 0, 0, 0⟩))) .none vINoNumber wINoNumber xINoNumber aINoNumber yINoNumber zINoNumber), sINoNumber⟩) (cI_NoNumber : PySem.W.codeIn K yINoNumber "NoNumber.__init__" = true) (kI_NoNumber : PySem.W.keepIn K (.ref f_INoNumber) = true) (nI_NoNumber : PySem.W.findIn K (.ref c_NoNumber) "number" = some none) :
    ∃ fd : FuncData, (∀ (s : Shared) (v : Value), BindsTo s fd ⟨[v], []⟩ [("_law_script", v)]) ∧ ∀ base : Heap, K.In base → base.Ns mainGlobals mg → FnG l.prog w K mg base CX0 8 fa fd ["_law_script"] (spV K b_law 5 [false]) := by
  have e := hfa.symm.trans (PySem.W.mg_of X G a24)
  cases e
  have z_abs := PySem.W.mg_none_of X G z_abs
  have z_all := PySem.W.mg_none_of X G z_all
  have z_bool := PySem.W.mg_none_of X G z_bool
  have z_enumerate := PySem.W.mg_none_of X G z_enumerate
  have z_int := PySem.W.mg_none_of X G z_int
  have z_isinstance := PySem.W.mg_none_of X G z_isinstance
  have z_len := PySem.W.mg_none_of X G z_len
  have z_list := PySem.W.mg_none_of X G z_list
  have z_max := PySem.W.mg_none_of X G z_max
  have z_min := PySem.W.mg_none_of X G z_min
  have z_range := PySem.W.mg_none_of X G z_range
  have z_repr := PySem.W.mg_none_of X G z_repr
  have z_sorted := PySem.W.mg_none_of X G z_sorted
  have z_tuple := PySem.W.mg_none_of X G z_tuple
  have m_NoDeeds := PySem.W.mg_of X G m_NoDeeds
  have m_NoEnds := PySem.W.mg_of X G m_NoEnds
  have m_NoFlips := PySem.W.mg_of X G m_NoFlips
  have m_NoHand := PySem.W.mg_of X G m_NoHand
  have m_NoLabels := PySem.W.mg_of X G m_NoLabels
  have m_NoMating := PySem.W.mg_of X G m_NoMating
  have m_NoNumber := PySem.W.mg_of X G m_NoNumber
  have m_NoPainting := PySem.W.mg_of X G m_NoPainting
  have m_NoWeb := PySem.W.mg_of X G m_NoWeb
  have m_WebError := PySem.W.mg_of X G m_WebError
  have y_MOST_SIZE := PySem.W.mg_of X G y_MOST_SIZE
  have F_law_pot := fun_mk (st := st_law_pot) l1 c1 k1
  have D_law_pot : Df K mg "_law_pot" st_law_pot ["_law_script", "_law_k"] f1 _ := ⟨F_law_pot, PySem.W.mg_of X G a1, F_law_pot.binds (ps := ["_law_script", "_law_k"]) fun _ _ _ _ _ _ us hl => match us, hl with | [_, _], _ => rfl⟩
  have F_unit_by := fun_mk (st := st_unit_by) l2 c2 k2
  have D_unit_by : Df K mg "unit_by" st_unit_by ["size"] f2 _ := ⟨F_unit_by, PySem.W.mg_of X G a2, F_unit_by.binds (ps := ["size"]) fun _ _ _ _ _ _ us hl => match us, hl with | [_], _ => rfl⟩
  have F_is_whole := fun_mk (st := st_is_whole) l3 c3 k3
  have D_is_whole : Df K mg "is_whole" st_is_whole ["thing"] f3 _ := ⟨F_is_whole, PySem.W.mg_of X G a3, F_is_whole.binds (ps := ["thing"]) fun _ _ _ _ _ _ us hl => match us, hl with | [_], _ => rfl⟩
  have F_unit := fun_mk (st := st_unit) l4 c4 k4
  have D_unit : Df K mg "unit" st_unit ["size"] f4 _ := ⟨F_unit, PySem.W.mg_of X G a4, F_unit.binds (ps := ["size"]) fun _ _ _ _ _ _ us hl => match us, hl with | [_], _ => rfl⟩
  have F_is_below := fun_mk (st := st_is_below) l5 c5 k5
  have D_is_below : Df K mg "is_below" st_is_below ["thing", "many"] f5 _ := ⟨F_is_below, PySem.W.mg_of X G a5, F_is_below.binds (ps := ["thing", "many"]) fun _ _ _ _ _ _ us hl => match us, hl with | [_, _], _ => rfl⟩
  have F_is_perm := fun_mk (st := st_is_perm) l6 c6 k6
  have D_is_perm : Df K mg "is_perm" st_is_perm ["thing"] f6 _ := ⟨F_is_perm, PySem.W.mg_of X G a6, F_is_perm.binds (ps := ["thing"]) fun _ _ _ _ _ _ us hl => match us, hl with | [_], _ => rfl⟩
  have F_need_perm := fun_mk (st := st_need_perm) l7 c7 k7
  have D_need_perm : Df K mg "need_perm" st_need_perm ["thing"] f7 _ := ⟨F_need_perm, PySem.W.mg_of X G a7, F_need_perm.binds (ps := ["thing"]) fun _ _ _ _ _ _ us hl => match us, hl with | [_], _ => rfl⟩
  have F_then_by := fun_mk (st := st_then_by) l8 c8 k8
  have D_then_by : Df K mg "then_by" st_then_by ["one", "other"] f8 _ := ⟨F_then_by, PySem.W.mg_of X G a8, F_then_by.binds (ps := ["one", "other"]) fun _ _ _ _ _ _ us hl => match us, hl with | [_, _], _ => rfl⟩
  have F_then := fun_mk (st := st_then) l9 c9 k9
  have D_then : Df K mg "then" st_then ["one", "other"] f9 _ := ⟨F_then, PySem.W.mg_of X G a9, F_then.binds (ps := ["one", "other"]) fun _ _ _ _ _ _ us hl => match us, hl with | [_, _], _ => rfl⟩
  have F_inverse_by := fun_mk (st := st_inverse_by) l10 c10 k10
  have D_inverse_by : Df K mg "inverse_by" st_inverse_by ["one"] f10 _ := ⟨F_inverse_by, PySem.W.mg_of X G a10, F_inverse_by.binds (ps := ["one"]) fun _ _ _ _ _ _ us hl => match us, hl with | [_], _ => rfl⟩
  have F_inverse := fun_mk (st := st_inverse) l11 c11 k11
  have D_inverse : Df K mg "inverse" st_inverse ["one"] f11 _ := ⟨F_inverse, PySem.W.mg_of X G a11, F_inverse.binds (ps := ["one"]) fun _ _ _ _ _ _ us hl => match us, hl with | [_], _ => rfl⟩
  have F_cycles_by := fun_mk (st := st_cycles_by) l12 c12 k12
  have D_cycles_by : Df K mg "cycles_by" st_cycles_by ["one"] f12 _ := ⟨F_cycles_by, PySem.W.mg_of X G a12, F_cycles_by.binds (ps := ["one"]) fun _ _ _ _ _ _ us hl => match us, hl with | [_], _ => rfl⟩
  have F_cycles := fun_mk (st := st_cycles) l13 c13 k13
  have D_cycles : Df K mg "cycles" st_cycles ["one"] f13 _ := ⟨F_cycles, PySem.W.mg_of X G a13, F_cycles.binds (ps := ["one"]) fun _ _ _ _ _ _ us hl => match us, hl with | [_], _ => rfl⟩
  have F_law_take := fun_mk (st := st_law_take) l14 c14 k14
  have D_law_take : Df K mg "_law_take" st_law_take ["_law_pot_here", "_law_many"] f14 _ := ⟨F_law_take, PySem.W.mg_of X G a14, F_law_take.binds (ps := ["_law_pot_here", "_law_many"]) fun _ _ _ _ _ _ us hl => match us, hl with | [_, _], _ => rfl⟩
  have F_law_perm := fun_mk (st := st_law_perm) l15 c15 k15
  have D_law_perm : Df K mg "_law_perm" st_law_perm ["_law_pot_here", "_law_size"] f15 _ := ⟨F_law_perm, PySem.W.mg_of X G a15, F_law_perm.binds (ps := ["_law_pot_here", "_law_size"]) fun _ _ _ _ _ _ us hl => match us, hl with | [_, _], _ => rfl⟩
  have F_law_strange := fun_mk (st := st_law_strange) l16 c16 k16
  have D_law_strange : Df K mg "_law_strange" st_law_strange ["_law_pot_here", "_law_one"] f16 _ := ⟨F_law_strange, PySem.W.mg_of X G a16, F_law_strange.binds (ps := ["_law_pot_here", "_law_one"]) fun _ _ _ _ _ _ us hl => match us, hl with | [_, _], _ => rfl⟩
  have F_law_after := fun_mk (st := st_law_after) l17 c17 k17
  have D_law_after : Df K mg "_law_after" st_law_after ["_law_one", "_law_other"] f17 _ := ⟨F_law_after, PySem.W.mg_of X G a17, F_law_after.binds (ps := ["_law_one", "_law_other"]) fun _ _ _ _ _ _ us hl => match us, hl with | [_, _], _ => rfl⟩
  have F_law_back := fun_mk (st := st_law_back) l18 c18 k18
  have D_law_back : Df K mg "_law_back" st_law_back ["_law_one"] f18 _ := ⟨F_law_back, PySem.W.mg_of X G a18, F_law_back.binds (ps := ["_law_one"]) fun _ _ _ _ _ _ us hl => match us, hl with | [_], _ => rfl⟩
  have F_law_rounds := fun_mk (st := st_law_rounds) l19 c19 k19
  have D_law_rounds : Df K mg "_law_rounds" st_law_rounds ["_law_one"] f19 _ := ⟨F_law_rounds, PySem.W.mg_of X G a19, F_law_rounds.binds (ps := ["_law_one"]) fun _ _ _ _ _ _ us hl => match us, hl with | [_], _ => rfl⟩
  have F_law_word := fun_mk (st := st_law_word) l20 c20 k20
  have D_law_word : Df K mg "_law_word" st_law_word ["_law_error"] f20 _ := ⟨F_law_word, PySem.W.mg_of X G a20, F_law_word.binds (ps := ["_law_error"]) fun _ _ _ _ _ _ us hl => match us, hl with | [_], _ => rfl⟩
  have F_law_refused := fun_mk (st := st_law_refused) l21 c21 k21
  have D_law_refused : Df K mg "_law_refused" st_law_refused ["_law_which", "_law_one", "_law_other"] f21 _ := ⟨F_law_refused, PySem.W.mg_of X G a21, F_law_refused.binds (ps := ["_law_which", "_law_one", "_law_other"]) fun _ _ _ _ _ _ us hl => match us, hl with | [_, _, _], _ => rfl⟩
  have F_law_is := fun_mk (st := st_law_is) l22 c22 k22
  have D_law_is : Df K mg "_law_is" st_law_is ["_law_thing"] f22 _ := ⟨F_law_is, PySem.W.mg_of X G a22, F_law_is.binds (ps := ["_law_thing"]) fun _ _ _ _ _ _ us hl => match us, hl with | [_], _ => rfl⟩
  have F_law_right := fun_mk (st := st_law_right) l23 c23 k23
  have D_law_right : Df K mg "_law_right" st_law_right ["_law_pot_here"] f23 _ := ⟨F_law_right, PySem.W.mg_of X G a23, F_law_right.binds (ps := ["_law_pot_here"]) fun _ _ _ _ _ _ us hl => match us, hl with | [_], _ => rfl⟩
  have F_law := fun_mk (st := st_law) l24 c24 k24
  have FI_NoNumber := fun_mk (st := ((clsB (topS 10)).getD 0 (.Pass ⟨0, 0, 0, 0⟩))) lI_NoNumber cI_NoNumber kI_NoNumber
  have B_NoNumber : Binds K _ ["self", "number"] [] := FI_NoNumber.binds (ps := ["self", "number"]) fun _ _ _ _ _ _ us hl => match us, hl with | [_, _], _ => rfl
  refine ⟨PySem.W.fnOf "law" "law" (defArgs st_law) (defBody st_law) (defScope st_law) .none kV24 dc24 pm24 an24 cd24 ct24, fun s v => .of_eq rfl, fun base _ _ => ?_⟩
  have I_NoNumber := fnI_of (P := l.prog) (w := w) (mg := mg) (base := base) (y := "number") (f := "number") bfLE (oexB_ok o_NoNumber) nI_NoNumber FI_NoNumber ⟨rfl, rfl, rfl, by decide +kernel, rfl, by decide +kernel, by decide +kernel⟩ rfl (by first | exact Or.inl rfl | exact Or.inr (Or.inl rfl) | exact Or.inr (Or.inr rfl)) (by first | exact Or.inl rfl | exact Or.inr (Or.inl rfl) | exact Or.inr (Or.inr rfl))
  have G_law_pot := ok_law_pot (P := l.prog) (w := w) (mg := mg) (base := base) F_law_pot z_abs z_int z_len
  have G_unit_by := ok_unit_by (P := l.prog) (w := w) (mg := mg) (base := base) F_unit_by z_range z_tuple
  have G_is_whole := ok_is_whole (P := l.prog) (w := w) (mg := mg) (base := base) F_is_whole z_bool z_int z_isinstance
  have G_unit := ok_unit (P := l.prog) (w := w) (mg := mg) (base := base) F_unit y_MOST_SIZE D_is_whole G_is_whole D_unit_by G_unit_by
  have Gx_unit := okx_unit (P := l.prog) (w := w) (mg := mg) (base := base) F_unit y_MOST_SIZE m_NoNumber o_NoNumber iC_NoNumber tI_NoNumber I_NoNumber B_NoNumber D_is_whole G_is_whole D_unit_by G_unit_by
  have G_is_below := ok_is_below (P := l.prog) (w := w) (mg := mg) (base := base) F_is_below D_is_whole G_is_whole
  have G_is_perm := ok_is_perm (P := l.prog) (w := w) (mg := mg) (base := base) F_is_perm z_all z_isinstance z_len z_list z_range z_sorted z_tuple y_MOST_SIZE D_is_below G_is_below
  have G_need_perm := ok_need_perm (P := l.prog) (w := w) (mg := mg) (base := base) F_need_perm D_is_perm G_is_perm
  have Gx_need_perm := okx_need_perm (P := l.prog) (w := w) (mg := mg) (base := base) F_need_perm m_NoLabels r_NoLabels D_is_perm G_is_perm
  have G_then_by := ok_then_by (P := l.prog) (w := w) (mg := mg) (base := base) F_then_by z_tuple
  have G_then := ok_then (P := l.prog) (w := w) (mg := mg) (base := base) F_then z_len D_need_perm G_need_perm D_then_by G_then_by
  have Gx_then := okx_then (P := l.prog) (w := w) (mg := mg) (base := base) F_then z_len m_NoLabels r_NoLabels D_need_perm Gx_need_perm D_then_by G_then_by
  have G_inverse_by := ok_inverse_by (P := l.prog) (w := w) (mg := mg) (base := base) F_inverse_by z_enumerate z_list z_tuple
  have G_inverse := ok_inverse (P := l.prog) (w := w) (mg := mg) (base := base) F_inverse D_need_perm G_need_perm D_inverse_by G_inverse_by
  have Gx_inverse := okx_inverse (P := l.prog) (w := w) (mg := mg) (base := base) F_inverse D_need_perm Gx_need_perm D_inverse_by G_inverse_by
  have G_cycles_by := ok_cycles_by (P := l.prog) (w := w) (mg := mg) (base := base) F_cycles_by z_sorted z_tuple
  have G_cycles := ok_cycles (P := l.prog) (w := w) (mg := mg) (base := base) F_cycles D_need_perm G_need_perm D_cycles_by G_cycles_by
  have Gx_cycles := okx_cycles (P := l.prog) (w := w) (mg := mg) (base := base) F_cycles D_need_perm Gx_need_perm D_cycles_by G_cycles_by
  have G_law_take := ok_law_take (P := l.prog) (w := w) (mg := mg) (base := base) F_law_take 
  have G_law_perm := ok_law_perm (P := l.prog) (w := w) (mg := mg) (base := base) F_law_perm z_len z_list z_range z_tuple D_law_take G_law_take
  have G_law_strange := ok_law_strange (P := l.prog) (w := w) (mg := mg) (base := base) F_law_strange z_len z_list D_law_take G_law_take
  have G_law_after := ok_law_after (P := l.prog) (w := w) (mg := mg) (base := base) F_law_after z_tuple
  have G_law_back := ok_law_back (P := l.prog) (w := w) (mg := mg) (base := base) F_law_back z_len z_range z_tuple
  have G_law_rounds := ok_law_rounds (P := l.prog) (w := w) (mg := mg) (base := base) F_law_rounds z_len z_list z_range z_sorted z_tuple
  have Ge_law_word := oke_law_word (P := l.prog) (w := w) (mg := mg) (base := base) F_law_word z_isinstance m_NoDeeds m_NoEnds m_NoFlips m_NoHand m_NoLabels m_NoMating m_NoNumber m_NoPainting m_NoWeb m_WebError q_NoLabels q_NoNumber ki_NoLabels_NoLabels ki_NoLabels_NoNumber ki_NoLabels_WebError ki_NoNumber_NoLabels ki_NoNumber_NoNumber ki_NoNumber_WebError ka_NoLabels__NoDeeds_NoEnds_NoFlips_NoHand_NoMating_NoPainting_NoWeb ka_NoNumber__NoDeeds_NoEnds_NoFlips_NoHand_NoMating_NoPainting_NoWeb
  have Gx_law_refused := okx_law_refused (P := l.prog) (w := w) (mg := mg) (base := base) F_law_refused z_repr m_NoLabels m_NoNumber m_WebError xf_NoNumber xm_NoLabels__NoNumber xm_NoLabels__WebError xm_NoNumber__NoNumber D_then Gx_then D_inverse Gx_inverse D_cycles Gx_cycles D_unit Gx_unit D_law_word Ge_law_word
  have G_law_refused := Gx_law_refused.ofX
  have G_law_is := ok_law_is (P := l.prog) (w := w) (mg := mg) (base := base) F_law_is z_bool z_int z_isinstance z_len z_list z_range z_sorted z_tuple
  have G_law_right := ok_law_right (P := l.prog) (w := w) (mg := mg) (base := base) F_law_right z_len z_range z_repr z_tuple D_law_take G_law_take D_law_perm G_law_perm D_law_strange G_law_strange D_unit G_unit D_cycles G_cycles D_inverse G_inverse D_then G_then D_law_rounds G_law_rounds D_law_back G_law_back D_law_after G_law_after D_is_perm G_is_perm D_law_is G_law_is D_law_refused G_law_refused
  have G_law := ok_law (P := l.prog) (w := w) (mg := mg) (base := base) F_law z_len z_max z_min z_range y_MOST_SIZE D_law_pot G_law_pot D_law_right G_law_right D_cycles G_cycles D_inverse G_inverse D_then G_then D_unit G_unit
  exact G_law
end K43
namespace VS
open PySem
variable [VS.TabL]
def isW : PyData → Bool
  | .int _ => true
  | _ => false
def Wp {α : Type} (r : Res α) (P : α → Sd → Prop) : Prop := match r with
  | .ok a s => P a s
  | _ => False
theorem wp_bind {α β : Type} {m : M α} {k : α → M β} {sd : Sd} {P : β → Sd → Prop} : Wp (M.bind m k sd) P ↔ Wp (m sd) fun a s => Wp (k a s) P := by
  unfold M.bind
  cases m sd <;> exact Iff.rfl
theorem wp_mono {α : Type} {r : Res α} {P Q : α → Sd → Prop} (h : Wp r P) (f : ∀ a s, P a s → Q a s) : Wp r Q := by
  cases r with
  | ok a s => exact f a s h
  | exc _ _ => exact h
  | stk => exact h
theorem wp_ex {α : Type} {r : Res α} {P : α → Sd → Prop} (h : Wp r P) : ∃ a s, r = .ok a s ∧ P a s := by
  cases r with
  | ok a s => exact ⟨a, s, rfl, h⟩
  | exc _ _ => exact False.elim h
  | stk => exact False.elim h
@[simp] theorem dataLt_int (i j : Int) : PySem.W.dataLt (.int i) (.int j) = decide (i < j) := by
  show PyProof.Rows.lexLt PyProof.Rows.itemOrd _ _ = _
  rw [show PySem.W.keyToks (.int i) = [.inl i] by rw [PySem.W.keyToks], show PySem.W.keyToks (.int j) = [.inl j] by rw [PySem.W.keyToks], PyProof.Rows.lex_cons]
  show (decide (i < j) || (!decide (j < i) && false)) = _
  simp
@[simp] theorem depth_int (i : Int) : (PyData.int i).depth = 0 := by
  simp [PyData.depth]
@[simp] theorem ltD_int (i j : Int) : ltD (.int i) (.int j) = some (.bool (decide (i < j))) := by
  simp [ltD, ordOk, isNone, PySem.W.alike]
@[simp] theorem gtD_int (i j : Int) : gtD (.int i) (.int j) = some (.bool (decide (j < i))) := by
  simp [gtD, ordOk, isNone, PySem.W.alike]
@[simp] theorem leD_int (i j : Int) : leD (.int i) (.int j) = some (.bool (decide (i ≤ j))) := by
  simp [leD, ordOk, isNone, PySem.W.alike]
  by_cases h : j < i
  · simp [h, Int.not_le.mpr h]
  · simp [h, Int.not_lt.mp h]
@[simp] theorem geD_int (i j : Int) : geD (.int i) (.int j) = some (.bool (decide (j ≤ i))) := by
  simp [geD, ordOk, isNone, PySem.W.alike]
  by_cases h : i < j
  · simp [h, Int.not_le.mpr h]
  · simp [h, Int.not_lt.mp h]
@[simp] theorem eqD_int (i j : Int) : eqD (.int i) (.int j) = some (.bool (decide (i = j))) := by
  simp [eqD, cmpOk, PyData.plain, PyData.eqv]
  by_cases h : i = j <;> simp [h]
@[simp] theorem neD_int (i j : Int) : neD (.int i) (.int j) = some (.bool (!decide (i = j))) := by
  simp [neD, cmpOk, PyData.plain, PyData.eqv]
  by_cases h : i = j <;> simp [h]
@[simp] theorem eqD_bool (i j : Bool) : eqD (.bool i) (.bool j) = some (.bool (i == j)) := by
  simp [eqD, cmpOk, PyData.plain, PyData.eqv, PyData.depth]
@[simp] theorem eqD_str (i j : Str) : eqD (.str i) (.str j) = some (.bool (i == j)) := by
  simp [eqD, cmpOk, PyData.plain, PyData.eqv, PyData.depth]
@[simp] theorem ite_app {α β : Type} {c : Prop} [Decidable c] (f g : α → β) (x : α) : (if c then f else g) x = if c then f x else g x := by
  split <;> rfl
theorem powD_int {i j : Int} (h0 : 0 ≤ j) (h1 : j ≤ 100000) (h2 : i.natAbs < 2 ^ 1000) : powD (.int i) (.int j) = some (.int (i ^ j.toNat)) := by
  simp only [powD, iop]
  rw [if_pos]
  simp [h0, h1, h2]
theorem fdivD_int {i j : Int} (h0 : 0 < j) (h1 : j < 1073741824 ∨ i.natAbs < 2 ^ 4000) : fdivD (.int i) (.int j) = some (.int (i / j)) := by
  simp only [fdivD, iop]
  rw [if_pos]
  rcases h1 with h | h
  · simp [h0, h]
  · simp only [Bool.and_eq_true, Bool.or_eq_true, decide_eq_true_eq]
    exact ⟨h0, .inr h⟩
theorem modD_int {i j : Int} (h0 : 0 < j) : modD (.int i) (.int j) = some (.int (i % j)) := by
  simp only [modD, iop]
  rw [if_pos (by simp [h0])]
theorem mulD_int {i j : Int} (h : -18446744073709551616 < i ∧ i < 18446744073709551616) : mulD (.int i) (.int j) = some (.int (i * j)) := by
  simp only [mulD, iop]
  rw [if_pos (by simp [h.1, h.2])]
theorem mulD_int' {i j : Int} (h : -18446744073709551616 < j ∧ j < 18446744073709551616) : mulD (.int i) (.int j) = some (.int (i * j)) := by
  simp only [mulD, iop]
  rw [if_pos (by simp [h.1, h.2])]
def Nxt (Q : Fl → Sd → Prop) (nx : Sd → Prop) : Fl → Sd → Prop
  | .nx, s => nx s
  | .ct, s => nx s
  | .bk, s => Q .nx s
  | .rt r, s => Q (.rt r) s
theorem loopF_inv {t : Tg} {mb : MS} {xs : List PyData} {Q : Fl → Sd → Prop} (Inv : Nat → Sd → Prop)
    (step : ∀ i x s, xs[i]? = some x → Inv i s → ∃ bs, binds t x = some bs ∧ Wp (mb (setsD s bs)) (Nxt Q (Inv (i + 1)))) (fin : ∀ s, Inv xs.length s → Q .nx s) {sd : Sd} (h : Inv 0 sd) : Wp (loopF t mb xs sd) Q := by
  have go : ∀ (k i : Nat) (s : Sd), i + k = xs.length → Inv i s → Wp (loopF t mb (xs.drop i) s) Q := by
    intro k
    induction k with
    | zero =>
      intro i s hi hI
      rw [List.drop_of_length_le (by omega)]
      have : i = xs.length := by omega
      subst this
      exact fin s hI
    | succ k ih =>
      intro i s hi hI
      have hl : i < xs.length := by omega
      rw [List.drop_eq_getElem_cons hl]
      obtain ⟨bs, e1, w⟩ := step i _ s (List.getElem?_eq_getElem hl) hI
      show Wp (M.bind (M.of (binds t xs[i])) _ s) Q
      rw [e1]
      show Wp (M.bind mb _ (setsD s bs)) Q
      rw [wp_bind]
      refine wp_mono w fun f s' z => ?_
      cases f with
      | nx => exact ih (i + 1) s' (by omega) z
      | ct => exact ih (i + 1) s' (by omega) z
      | bk => exact z
      | rt r => exact z
  have := go xs.length 0 sd (by omega) h
  simpa using this
theorem while_inv {t : M Bool} {mb : MS} {Q : Fl → Sd → Prop} (Inv : Nat → Sd → Prop)
    (step : ∀ n s, Inv n s → Wp (t s) fun k s1 => if k = true then Wp (mb s1) (Nxt Q fun s2 => ∃ n', n' < n ∧ Inv n' s2) else Q .nx s1) : ∀ (fuel n : Nat) (s : Sd), n < fuel → Inv n s → Wp (mWhile t mb fuel s) Q := by
  intro fuel
  induction fuel with
  | zero => exact fun n s h _ => absurd h (Nat.not_lt_zero n)
  | succ m ih =>
    intro n s hn hI
    show Wp (M.bind t _ s) Q
    rw [wp_bind]
    refine wp_mono (step n s hI) fun k s1 z => ?_
    cases k with
    | false => exact z
    | true =>
      rw [if_pos rfl] at z ⊢
      show Wp (M.bind mb _ s1) Q
      rw [wp_bind]
      refine wp_mono z fun f s2 y => ?_
      cases f with
      | nx =>
        obtain ⟨n', h1, h2⟩ := y
        exact ih n' s2 (by omega) h2
      | ct =>
        obtain ⟨n', h1, h2⟩ := y
        exact ih n' s2 (by omega) h2
      | bk => exact y
      | rt r => exact y
@[simp] theorem gdB_nil (sd : Sd) : gdB [] sd = true := by
  unfold gdB
  exact @decide_eq_true _ (Classical.propDecidable _) fun j hj => nomatch hj
theorem wipeD_get (sd : Sd) (i : Nat) : ∀ vs : List Nat, (wipeD sd vs)[i]? = if i ∈ vs ∧ i < sd.length then some none else sd[i]?
  | [] => by simp [wipeD]
  | v :: vs => by
    unfold wipeD
    rw [getElem?_set', wipeD_length, wipeD_get sd i vs]
    by_cases h : v = i
    · subst h
      by_cases h2 : v < sd.length <;> simp [h2]
    · have h' : ¬ i = v := fun e => h e.symm
      simp [h, h']
theorem sd_ext {a b : Sd} (hl : a.length = b.length) (h : ∀ i, i < a.length → a[i]? = b[i]?) : a = b := by
  apply List.ext_getElem?
  intro i
  by_cases hi : i < a.length
  · exact h i hi
  · rw [List.getElem?_eq_none (by omega), List.getElem?_eq_none (by omega)]
theorem setsD_length : ∀ (bs : List (Nat × PyData)) (sd : Sd), (setsD sd bs).length = sd.length
  | [], _ => rfl
  | (i, d) :: r, sd => by
    unfold setsD
    rw [setsD_length r, List.length_set]
theorem setsD_out : ∀ {bs : List (Nat × PyData)} {sd : Sd} {i : Nat}, (∀ b ∈ bs, b.1 ≠ i) → (setsD sd bs)[i]? = sd[i]?
  | [], _, _, _ => rfl
  | (j, d) :: r, sd, i, h => by
    unfold setsD
    rw [setsD_out fun b hb => h b (List.mem_cons_of_mem _ hb), List.getElem?_set_ne (h _ List.mem_cons_self)]
theorem wipe_sets_back {sd : Sd} {bs : List (Nat × PyData)} {vs : List Nat} (h : ∀ b ∈ bs, b.1 ∈ vs) : wipeD (setsD sd bs) vs = wipeD sd vs := by
  apply sd_ext
  · rw [wipeD_length, wipeD_length, setsD_length]
  · intro i hi
    rw [wipeD_length, setsD_length] at hi
    rw [wipeD_get, wipeD_get, setsD_length]
    by_cases hv : i ∈ vs
    · simp [hv, hi]
    · have : ∀ b ∈ bs, b.1 ≠ i := fun b hb e => hv (e ▸ h b hb)
      simp [hv, setsD_out this]
theorem wipe_twice (sd : Sd) (vs : List Nat) : wipeD (wipeD sd vs) vs = wipeD sd vs := by
  apply sd_ext
  · rw [wipeD_length, wipeD_length]
  · intro i hi
    rw [wipeD_length, wipeD_length] at hi
    rw [wipeD_get, wipeD_get, wipeD_length]
    by_cases hv : i ∈ vs
    · simp [hv, hi]
    · simp [hv]
end VS
namespace VS
open PySem
variable [VS.TabL]
section
variable {sd s1 s2 s3 : Sd} {ma mb mc : M Opd} {mas : M (List Opd)} {x y : Opd} {d e z : PyData} {f : PyData → PyData → Option PyData} {f1 : PyData → Option PyData} {t : M Bool} {a b k : MS} {m : MS} {r : Res Fl} {i j : Nat} {md : List Bool} {rs : List Opd} {ds : List PyData}
theorem e_c : mC d sd = .ok (.d d) sd := rfl
theorem e_var (i : Nat) (h : sd[i]? = some (some (.dat d)) := by rfl) : mVar i sd = .ok (.d d) sd := by simp [h]
theorem e_own (i : Nat) (h : sd[i]? = some (some (.own d)) := by rfl) : mVar i sd = .ok (.own i) sd := by simp [h]
theorem e_m2 (h1 : ma sd = .ok x s1) (h2 : mb s1 = .ok y s2) (g1 : x.get s2 = some d) (g2 : y.get s2 = some e) (h3 : f d e = some z) : m2 f ma mb sd = .ok (.d z) s2 := by
  simp [h1, h2, h3]
  simp only [Opd.get] at g1 g2
  cases x <;> cases y <;> simp_all
theorem e_d2 (h1 : ma sd = .ok (.d d) s1) (h2 : mb s1 = .ok (.d e) s2) (h3 : f d e = some z) : m2 f ma mb sd = .ok (.d z) s2 := e_m2 h1 h2 rfl rfl h3
theorem e_ixo (i : Nat) (j : Int) (h : sd[i]? = some (some (.own d))) (h3 : ixD d (.int j) = some z) : m2 ixD (mVar i) (mC (.int j)) sd = .ok (.d z) sd := by
  refine e_m2 (e_own i h) e_c ?_ rfl h3
  simp [h]
theorem e_seq (h1 : m sd = .ok .nx s1) (h2 : k s1 = r) : mSeq m k sd = r := by simp [h1, h2]
theorem e_set (h : ma sd = .ok (.d d) s1) : mSet i ma sd = .ok .nx (s1.set i (some (.dat d))) := by simp [h]
theorem e_if {c : Bool} (h : t sd = .ok c s1) (h2 : (if c = true then a s1 else b s1) = r) : mIf t a b sd = r := by
  simp [h]
  cases c <;> simpa using h2
theorem e_ift (h : t sd = .ok true s1) (h2 : a s1 = r) : mIf t a b sd = r := e_if h (by simpa using h2)
theorem e_iff (h : t sd = .ok false s1) (h2 : b s1 = r) : mIf t a b sd = r := e_if h (by simpa using h2)
theorem e_tb {c : Bool} (h : ma sd = .ok (.d (.bool c)) s1) : mTB ma sd = .ok c s1 := by simp [h]
theorem e_n1 (h : ma sd = .ok x s1) (g1 : x.get s1 = some d) (h3 : f1 d = some z) : mN (one f1) (mCons ma mNil) sd = .ok (.d z) s1 := by
  simp only [Opd.get] at g1
  cases x <;> simp_all
theorem e_ret (h : ma sd = .ok (.d d) s1) : mRet md ma sd = .ok (.rt (.dat d)) s1 := by simp [h]
theorem e_retF {mf : M PyData} (h : mf sd = .ok d s1) : mRetF mf sd = .ok (.rt (.frs d)) s1 := by simp [h]
theorem e_nil : mNil sd = .ok [] sd := rfl
theorem e_cons (h : ma sd = .ok x s1) (h2 : mas s1 = .ok rs s2) : mCons ma mas sd = .ok (x :: rs) s2 := by simp [h, h2]
theorem e_lst (h : mas sd = .ok rs s1) (h2 : datsO rs = some ds := by rfl) (h3 : ds.length ≤ sizeLine := by simp [sizeLine]) : mLst mas sd = .ok (.list ds) s1 := by simp [h, h2, h3]
theorem e_sub {xs : List PyData} {n : Nat} {kk : Int} (h : ma sd = .ok (.d d) s1) (ho : s1[i]? = some (some (.own (.list xs)))) (hn : L2.ixN xs.length kk = some n) : mSub i (mC (.int kk)) ma sd = .ok .nx (s1.set i (some (.own (.list (xs.set n d))))) := by
  simp [h, ho, hn]
end
theorem e_dF {sd s1 : Sd} {mf : M PyData} {d : PyData} (h : mf sd = .ok d s1) : dF mf sd = .ok (.d d) s1 := by simp [h]
theorem e_lc {sd s1 s2 : Sd} {ms : M Src} {t : Tg} {mt : M Bool} {me : M Opd} {vs : List Nat} {src : Src} {d : PyData} (hs : ms sd = .ok src s1) (h : loopC src.gd vs t mt me src.xs [] s1 = .ok d s2) : mLc ms t mt me vs sd = .ok d s2 := by simp [hs, h]
theorem boolsOf_map (bs : List Bool) : boolsOf (bs.map .bool) = some bs := by
  induction bs with
  | nil => rfl
  | cons b bs ih => simp [boolsOf, ih]
theorem all_map {α : Type} (xs : List α) (f : α → Bool) : allD (.list (xs.map fun x => .bool (f x))) = some (.bool (xs.all f)) := by
  have e : (xs.map fun x => PyData.bool (f x)) = (xs.map f).map .bool := by simp
  show (boolsOf (xs.map fun x => PyData.bool (f x))).map _ = _
  rw [e, boolsOf_map]
  simp [List.all_map]
theorem e_andt {sd s1 : Sd} {ma mb : M Opd} {r : Res Opd} (h : ma sd = .ok (.d (.bool true)) s1) (h2 : mb s1 = r) : mAndV ma mb sd = r := by simp [h, h2]
theorem e_andf {sd s1 : Sd} {ma mb : M Opd} (h : ma sd = .ok (.d (.bool false)) s1) : mAndV ma mb sd = .ok (.d (.bool false)) s1 := by simp [h]
theorem e_and {sd : Sd} {ma mb : M Opd} {p q : Bool} (h : ma sd = .ok (.d (.bool p)) sd) (h2 : p = true → mb sd = .ok (.d (.bool q)) sd) : mAndV ma mb sd = .ok (.d (.bool (p && q))) sd := by
  cases p with
  | false => exact e_andf h
  | true => exact e_andt h (h2 rfl)
theorem e_call1 {sd s1 sf pd : Sd} {b : MS} {N : Nat} {ma : M Opd} {x z : PyData} (h : ma sd = .ok (.d x) s1) (hb : b pd = .ok (.rt (.dat z)) sf) (hp : pad N [.dat x] = pd := by rfl) : mCallD b N [false] (mCons ma mNil) sd = .ok (.d z) s1 := by
  subst hp
  simp only [pad] at hb
  simp [h]
  simp at hb
  simp [hb]
theorem e_call2 {sd s1 s2 sf pd : Sd} {b : MS} {N : Nat} {ma mb : M Opd} {x y z : PyData} (h : ma sd = .ok (.d x) s1) (h2 : mb s1 = .ok (.d y) s2) (hb : b pd = .ok (.rt (.dat z)) sf) (hp : pad N [.dat x, .dat y] = pd := by rfl) : mCallD b N [false, false] (mCons ma (mCons mb mNil)) sd = .ok (.d z) s2 := by
  subst hp
  simp only [pad] at hb
  simp [h, h2]
  simp at hb
  simp [hb]
theorem e_is {sd s1 : Sd} {ma : M Opd} {p : PyData → Bool} {x : PyData} {c : Bool} (h : ma sd = .ok (.d x) s1) (hc : p x = c := by rfl) : mIs p ma sd = .ok (.d (.bool c)) s1 := by simp [h, hc]
noncomputable def bPot : MS :=
  (mSeq (mSet 2 (mC (.int 0)))
  (mSeq (mIf (mTB (m2 ltD (mVar 1) (mN (one lenD) (mCons (mVar 0) mNil))))
    (mSet 2 (m2 modD (mN (one absD) (mCons (m2 ixD (mVar 0) (mVar 1)) mNil)) (m2 powD (m2 powD (mC (.int 10)) (mC (.int 60))) (mC (.int 14)))))
    sNx)
  (mSeq (mSet 3 (m2 modD (m2 powD (m2 addD (m2 addD (m2 modD (mVar 2) (mC (.int 2305843009213693921))) (m2 mulD (mC (.int 104729)) (mVar 1))) (mC (.int 1))) (mC (.int 3))) (mC (.int 2305843009213693951))))
  (mRetF (mLst (mCons (m2 mulD (mVar 2) (mN (one intD) (mCons (m2 geD (mVar 2) (m2 powD (mC (.int 10)) (mC (.int 18)))) mNil))) (mCons (mVar 3) (mCons (mC (.int 0)) mNil))))))))
structure Pot (a m c : Int) : Prop where
  a0 : 0 ≤ a
  a1 : a < 10 ^ 840
  m0 : 0 ≤ m
  m1 : m < 2305843009213693951
  c0 : 0 ≤ c
theorem lt_pow1000 {i : Int} (h0 : 0 ≤ i) (h1 : i < 2 ^ 900) : i.natAbs < 2 ^ 1000 := by
  have e : (2 : Int) ^ 900 = ((2 ^ 900 : Nat) : Int) := by norm_cast
  have h2 : (2 : Nat) ^ 900 ≤ 2 ^ 1000 := Nat.pow_le_pow_right (by decide) (by decide)
  omega
theorem ix_ints (ns : List Int) (k : Nat) (h : k < ns.length) : ixD (.list (ns.map .int)) (.int k) = some (.int ns[k]) := L2.atI_nat (by simp [h])
theorem pot_tail {d : PyData} {k c : Int} (hk : 0 ≤ k) (hk1 : k < 1000) (h0 : 0 ≤ c) (h1 : c < 10 ^ 840) : ∃ a m s, (mSeq (mSet 3 (m2 modD (m2 powD (m2 addD (m2 addD (m2 modD (mVar 2) (mC (.int 2305843009213693921))) (m2 mulD (mC (.int 104729)) (mVar 1))) (mC (.int 1))) (mC (.int 3))) (mC (.int 2305843009213693951))))
  (mRetF (mLst (mCons (m2 mulD (mVar 2) (mN (one intD) (mCons (m2 geD (mVar 2) (m2 powD (mC (.int 10)) (mC (.int 18)))) mNil))) (mCons (mVar 3) (mCons (mC (.int 0)) mNil)))))) [some (.dat d), some (.dat (.int k)), some (.dat (.int c)), none] = .ok (.rt (.frs (.list [.int a, .int m, .int 0]))) s ∧ Pot a m 0 := by
  have p1 : 0 ≤ c % 2305843009213693921 := Int.emod_nonneg _ (by decide)
  have p2 : c % 2305843009213693921 < 2305843009213693921 := Int.emod_lt_of_pos _ (by decide)
  have big : (2 : Int) ^ 900 > 2305843009213693921 + 104729 * 1000 + 1 := by decide +kernel
  have q : (c % 2305843009213693921 + 104729 * k + 1).natAbs < 2 ^ 1000 := lt_pow1000 (by omega) (by omega)
  refine ⟨c * (if 10 ^ 18 ≤ c then 1 else 0), _, _, e_seq (e_set (e_d2 (e_d2 (e_d2 (e_d2 (e_d2 (e_var 2) e_c (modD_int (by decide))) (e_d2 e_c (e_var 1) (mulD_int (by decide))) rfl) e_c rfl) e_c (powD_int (by decide) (by decide) q)) e_c (modD_int (by decide))))
    (e_retF (e_lst (e_cons (e_d2 (e_var 2) (e_n1 (d := .bool (decide (10 ^ 18 ≤ c))) (e_d2 (e_var 2) (e_d2 e_c e_c (powD_int (by decide) (by decide) (by decide +kernel))) (geD_int _ _)) rfl (z := .int (if 10 ^ 18 ≤ c then 1 else 0)) ?_) (mulD_int' ?_)) (e_cons (e_var 3) (e_cons e_c e_nil))))), ?_⟩
  · simp [intD]
  · split <;> decide
  · refine ⟨?_, ?_, Int.emod_nonneg _ (by decide), Int.emod_lt_of_pos _ (by decide), by decide⟩
    · split <;> omega
    · split <;> omega
theorem pot_ok (ns : List Int) (k : Nat) (hk : k < 1000) : ∃ a m s, bPot [some (.dat (.list (ns.map .int))), some (.dat (.int k)), none, none] = .ok (.rt (.frs (.list [.int a, .int m, .int 0]))) s ∧ Pot a m 0 := by
  have e1 : (mTB (m2 ltD (mVar 1) (mN (one lenD) (mCons (mVar 0) mNil)))) [some (.dat (.list (ns.map .int))), some (.dat (.int k)), some (.dat (.int 0)), none] = .ok (decide ((k : Int) < ns.length)) [some (.dat (.list (ns.map .int))), some (.dat (.int k)), some (.dat (.int 0)), none] := by
    simp
  by_cases h : k < ns.length
  · have e2 : decide ((k : Int) < ns.length) = true := by simp [h]
    rw [e2] at e1
    obtain ⟨a, m, s, q, P⟩ := pot_tail (d := .list (ns.map .int)) (k := k) (c := (if ns[k] < 0 then -ns[k] else ns[k]) % (10 ^ Int.toNat 60) ^ Int.toNat 14) (by omega) (by omega) (Int.emod_nonneg _ (by decide +kernel)) (by
      have := Int.emod_lt_of_pos (if ns[k] < 0 then -ns[k] else ns[k]) (show (0 : Int) < (10 ^ Int.toNat 60) ^ Int.toNat 14 by decide +kernel)
      have e : ((10 : Int) ^ Int.toNat 60) ^ Int.toNat 14 = 10 ^ 840 := by decide +kernel
      rw [e] at this ⊢
      exact this)
    refine ⟨a, m, s, e_seq (e_set e_c) (e_seq (e_ift e1 (e_set (e_d2 (e_n1 (e_d2 (e_var 0) (e_var 1) (ix_ints ns k h)) rfl rfl) (e_d2 (e_d2 e_c e_c (powD_int (by decide) (by decide) (by decide +kernel))) e_c (powD_int (by decide) (by decide) (by decide +kernel))) (modD_int (by decide +kernel))))) q), P⟩
  · have e2 : decide ((k : Int) < ns.length) = false := by simp; omega
    rw [e2] at e1
    obtain ⟨a, m, s, q, P⟩ := pot_tail (d := .list (ns.map .int)) (k := k) (c := 0) (by omega) (by omega) (by decide) (by decide +kernel)
    exact ⟨a, m, s, e_seq (e_set e_c) (e_seq (e_iff e1 rfl) q), P⟩
theorem e_seqr {sd s1 : Sd} {m k : MS} {r : Rt} (h1 : m sd = .ok (.rt r) s1) : mSeq m k sd = .ok (.rt r) s1 := by simp [h1]
noncomputable def bTake : MS :=
  (mSeq (mIf (mTB (m2 gtD (m2 ixD (mVar 0) (mC (.int 0))) (mC (.int 0))))
    (mSeq (mSet 2 (m2 modD (m2 ixD (mVar 0) (mC (.int 0))) (mVar 1)))
    (mSeq (mSub 0 (mC (.int 0)) (m2 fdivD (m2 ixD (mVar 0) (mC (.int 0))) (mVar 1)))
    (mRet [true, false] (mVar 2))))
    sNx)
  (mSeq (mSub 0 (mC (.int 2)) (m2 addD (m2 ixD (mVar 0) (mC (.int 2))) (mC (.int 1))))
  (mSeq (mSet 3 (m2 modD (m2 powD (m2 addD (m2 ixD (mVar 0) (mC (.int 1))) (m2 mulD (mC (.int 86028157)) (m2 ixD (mVar 0) (mC (.int 2))))) (mC (.int 3))) (mC (.int 2305843009213693907))))
  (mSeq (mSet 4 (m2 modD (m2 powD (m2 addD (m2 addD (mVar 3) (m2 modD (m2 ixD (mVar 0) (mC (.int 1))) (mC (.int 1000003)))) (m2 mulD (mC (.int 31)) (m2 ixD (mVar 0) (mC (.int 2))))) (mC (.int 5))) (mC (.int 2305843009213693921))))
  (mRet [true, false] (m2 modD (m2 fdivD (mVar 4) (mC (.int 4096))) (mVar 1)))))))
abbrev potL (a m c : Int) : PyData := .list [.int a, .int m, .int c]
theorem ix_pot0 (a m c : Int) : ixD (potL a m c) (.int 0) = some (.int a) := L2.atI_nat (j := 0) rfl
theorem ix_pot1 (a m c : Int) : ixD (potL a m c) (.int 1) = some (.int m) := L2.atI_nat (j := 1) rfl
theorem ix_pot2 (a m c : Int) : ixD (potL a m c) (.int 2) = some (.int c) := L2.atI_nat (j := 2) rfl
theorem lt_pow4000 {a : Int} (h0 : 0 ≤ a) (h1 : a < 10 ^ 840) : a.natAbs < 2 ^ 4000 := by
  have e : (10 : Int) ^ 840 = ((10 ^ 840 : Nat) : Int) := by norm_cast
  have h2 : (10 : Nat) ^ 840 ≤ 2 ^ 4000 := by decide +kernel
  omega
theorem take_ok {a m c n : Int} (P : Pot a m c) (hc : c < 2 ^ 800) (hn : 0 < n) : ∃ r a' c' s, bTake [some (.own (potL a m c)), some (.dat (.int n)), none, none, none] = .ok (.rt (.dat (.int r))) s ∧ s[0]? = some (some (.own (potL a' m c'))) ∧ 0 ≤ r ∧ r < n ∧ Pot a' m c' ∧ c' ≤ c + 1 := by
  obtain ⟨a0, a1, m0, m1, c0⟩ := P
  have e1 : (mTB (m2 gtD (m2 ixD (mVar 0) (mC (.int 0))) (mC (.int 0)))) [some (.own (potL a m c)), some (.dat (.int n)), none, none, none] = .ok (decide (0 < a)) [some (.own (potL a m c)), some (.dat (.int n)), none, none, none] :=
    e_tb (e_d2 (e_ixo 0 0 rfl (ix_pot0 a m c)) e_c (gtD_int _ _))
  by_cases h : 0 < a
  · rw [decide_eq_true h] at e1
    refine ⟨a % n, a / n, c, _, e_seqr (e_ift e1 (e_seq (e_set (e_d2 (e_ixo 0 0 rfl (ix_pot0 a m c)) (e_var 1) (modD_int hn))) (e_seq (e_sub (xs := [.int a, .int m, .int c]) (n := 0) (e_d2 (e_ixo 0 0 rfl (ix_pot0 a m c)) (e_var 1) (fdivD_int hn (.inr (lt_pow4000 a0 a1)))) rfl (by rfl)) (e_ret (e_var 2))))), rfl, Int.emod_nonneg _ (by omega), Int.emod_lt_of_pos _ hn, ⟨Int.ediv_nonneg a0 (by omega), ?_, m0, m1, c0⟩, by omega⟩
    exact Int.lt_of_le_of_lt (Int.ediv_le_self n a0) a1
  · rw [decide_eq_false h] at e1
    have big : (2 : Int) ^ 900 = 2 ^ 800 * 2 ^ 100 := by decide +kernel
    have b2 : (2 : Int) ^ 100 = 1267650600228229401496703205376 := by decide +kernel
    rw [b2] at big
    have q1 : (m + 86028157 * (c + 1)).natAbs < 2 ^ 1000 := lt_pow1000 (by omega) (by omega)
    have o0 : 0 ≤ (m + 86028157 * (c + 1)) ^ (3 : Int).toNat % 2305843009213693907 := Int.emod_nonneg _ (by decide)
    have o1 : (m + 86028157 * (c + 1)) ^ (3 : Int).toNat % 2305843009213693907 < 2305843009213693907 := Int.emod_lt_of_pos _ (by decide)
    have w0 : 0 ≤ m % 1000003 := Int.emod_nonneg _ (by decide)
    have w1 : m % 1000003 < 1000003 := Int.emod_lt_of_pos _ (by decide)
    generalize hone : (m + 86028157 * (c + 1)) ^ (3 : Int).toNat % 2305843009213693907 = one at o0 o1
    have q2 : (one + m % 1000003 + 31 * (c + 1)).natAbs < 2 ^ 1000 := lt_pow1000 (by omega) (by omega)
    refine ⟨_, a, c + 1, _, e_seq (e_iff e1 rfl) (e_seq (e_sub (xs := [.int a, .int m, .int c]) (n := 2) (e_d2 (e_ixo 0 2 rfl (ix_pot2 a m c)) e_c rfl) rfl (by rfl))
      (e_seq (e_set (e_d2 (e_d2 (e_d2 (e_ixo 0 1 rfl (ix_pot1 a m (c + 1))) (e_d2 e_c (e_ixo 0 2 rfl (ix_pot2 a m (c + 1))) (mulD_int (by decide))) rfl) e_c (powD_int (by decide) (by decide) q1)) e_c ((modD_int (by decide)).trans (by rw [hone]))))
      (e_seq (e_set (e_d2 (e_d2 (e_d2 (e_d2 (e_var 3) (e_d2 (e_ixo 0 1 rfl (ix_pot1 a m (c + 1))) e_c (modD_int (by decide))) rfl) (e_d2 e_c (e_ixo 0 2 rfl (ix_pot2 a m (c + 1))) (mulD_int (by decide))) rfl) e_c (powD_int (by decide) (by decide) q2)) e_c (modD_int (by decide))))
        (e_ret (e_d2 (e_d2 (e_var 4) e_c (fdivD_int (by decide) (.inl (by decide)))) (e_var 1) (modD_int hn)))))), rfl, Int.emod_nonneg _ (by omega), Int.emod_lt_of_pos _ hn, ⟨a0, a1, m0, m1, by omega⟩, by omega⟩
theorem call_take {sd s1 : Sd} {i : Nat} {a m c n : Int} {mn : M Opd} (h : sd[i]? = some (some (.own (potL a m c)))) (hn : mn sd = .ok (.d (.int n)) s1) (h1 : s1[i]? = some (some (.own (potL a m c)))) (P : Pot a m c) (hc : c < 2 ^ 800) (n0 : 0 < n) :
    ∃ r a' c', mCallD bTake 5 [true, false] (mCons (mVar i) (mCons mn mNil)) sd = .ok (.d (.int r)) (s1.set i (some (.own (potL a' m c')))) ∧ 0 ≤ r ∧ r < n ∧ Pot a' m c' ∧ c' ≤ c + 1 := by
  obtain ⟨r, a', c', s, e, g, r0, r1, P', hc'⟩ := take_ok P hc n0
  refine ⟨r, a', c', ?_, r0, r1, P', hc'⟩
  have l0 : s ≠ [] := fun z => by
    rw [z] at g
    cases g
  obtain ⟨s0, st, rfl⟩ := List.exists_cons_of_ne_nil l0
  have g : s0 = some (.own (potL a' m c')) := by simpa using g
  subst g
  simp [h, hn, h1, e]
end VS
namespace WebS
open PySem VS
variable [VS.TabL]
noncomputable def b_is_whole : MS :=
  (mRet [false] (mAndV (mIs PyData.isInt (mVar 0)) (mNotV (mIs PyData.isBool (mVar 0)))))
noncomputable def b_is_below : MS :=
  (mRet [false, false] (mAndV (mCallD b_is_whole 1 [false] (mCons (mVar 0) mNil)) (mChain leD ltD (mC (.int 0)) (mVar 0) (mVar 1))))
theorem is_whole_eq (d : PyData) : b_is_whole [some (.dat d)] = .ok (.rt (.dat (.bool (isW d)))) [some (.dat d)] := by
  cases d <;> simp [b_is_whole, isW, PyData.isInt, PyData.isBool]
def below (n : Int) : PyData → Bool
  | .int i => decide (0 ≤ i) && decide (i < n)
  | _ => false
theorem is_below_eq (d : PyData) (n : Int) : b_is_below [some (.dat d), some (.dat (.int n))] = .ok (.rt (.dat (.bool (below n d)))) [some (.dat d), some (.dat (.int n))] := by
  cases d with
  | int i =>
    by_cases h : 0 ≤ i <;> simp [b_is_below, is_whole_eq, isW, below, h]
  | _ => simp [b_is_below, is_whole_eq, isW, below]
def rise : List PyData → Bool
  | x :: y :: r => PySem.W.dataLt x y && rise (y :: r)
  | _ => true
theorem below_int {n : Int} {d : PyData} (h : below n d = true) : ∃ i, d = .int i ∧ 0 ≤ i ∧ i < n := by
  cases d with
  | int i =>
    simp [below] at h
    exact ⟨i, rfl, h⟩
  | _ => simp [below] at h
def rb (n : Int) : PyData → Bool
  | .tuple ds => ds.all (below n) && rise ds
  | _ => false
def tupOk : PyData → Bool
  | .tuple ds => decide (ds.length ≤ 1000)
  | _ => true
end WebS
namespace VS
open PySem
variable [VS.TabL]
abbrev iL (ns : List Int) : List PyData := ns.map PyData.int
abbrev itup (ns : List Int) : PyData := .tuple (iL ns)
theorem plain_ints (ns : List Int) : PyData.plainAll (iL ns) = true := by
  induction ns with
  | nil => simp [PyData.plainAll]
  | cons n ns ih => simpa [PyData.plainAll, PyData.plain] using ih
theorem depth_ints (ns : List Int) : PyData.depthAll (iL ns) = 0 := by
  induction ns with
  | nil => simp [PyData.depthAll]
  | cons n ns ih => simpa [PyData.depthAll, PyData.depth] using ih
theorem eqv_ints : ∀ ns ms : List Int, PyData.eqvAll (iL ns) (iL ms) = decide (ns = ms)
  | [], [] => by simp [PyData.eqvAll]
  | [], _ :: _ => by simp [PyData.eqvAll]
  | _ :: _, [] => by simp [PyData.eqvAll]
  | n :: ns, m :: ms => by
    simp only [List.map_cons, PyData.eqvAll, PyData.eqv, eqv_ints ns ms]
    by_cases h : n = m <;> simp [h]
theorem eqD_ints (ns ms : List Int) : eqD (.list (iL ns)) (.list (iL ms)) = some (.bool (decide (ns = ms))) := by
  simp [eqD, cmpOk, PyData.plain, PyData.depth, plain_ints, depth_ints, PyData.eqv, eqv_ints]
theorem sortOk_ints (ns : List Int) (h : ns.length ≤ sizeLine) : sortOk (iL ns) = true := by
  simp [sortOk, PySem.W.alike, isTup1, isOther, PyData.depth, h]
def leI (a b : Int) : Bool := decide (a ≤ b)
theorem dataLe_int (a b : Int) : PySem.W.dataLe false id (PyData.int a) (PyData.int b) = leI a b := by
  have e : PySem.W.dataLe false id (PyData.int a) (PyData.int b) = !PySem.W.dataLt (.int b) (.int a) := rfl
  rw [e, dataLt_int]
  unfold leI
  by_cases h : b < a
  · simp [h, Int.not_le.mpr h]
  · simp [h, Int.not_lt.mp h]
theorem sort_ints (ns : List Int) : sortD (iL ns) = iL (ns.mergeSort leI) := by
  unfold sortD
  exact (List.map_mergeSort (s := PySem.W.dataLe false id) (f := PyData.int) fun a _ b _ => (dataLe_int a b).symm).symm
theorem sortedD_ints (ns : List Int) (h : ns.length ≤ sizeLine) : sortedD (.list (iL ns)) = some (.list (iL (ns.mergeSort leI))) := by
  unfold sortedD
  simp only []
  rw [sortOk_ints ns h, sort_ints]
  rfl
theorem rgL_ints (a b : Int) : rgL a b = iL ((List.range (b - a).toNat).map fun i => a + (i : Nat)) := by
  unfold rgL
  simp
theorem e_nf1 {sd s1 : Sd} {ma : M Opd} {x : Opd} {d z : PyData} {f1 : PyData → Option PyData} (h : ma sd = .ok x s1) (g1 : x.get s1 = some d) (h3 : f1 d = some z) : mNF (one f1) (mCons ma mNil) sd = .ok z s1 := by
  simp only [Opd.get] at g1
  cases x <;> simp_all
end VS
namespace VS
open PySem
variable [VS.TabL]
section
variable {sd s1 : Sd} {ma : M Opd} {t u : M Bool} {p q c : Bool}
theorem e_tst (h : ma sd = .ok (.d (.bool c)) s1) : mTest ma sd = .ok c s1 := by simp [h]
theorem e_not (h : t sd = .ok c s1) : mNot t sd = .ok (!c) s1 := by simp [h]
theorem e_nott (h : t sd = .ok true s1) : mNot t sd = .ok false s1 := by simp [h]
theorem e_notf (h : t sd = .ok false s1) : mNot t sd = .ok true s1 := by simp [h]
theorem e_or (h : t sd = .ok p sd) (h2 : p = false → u sd = .ok q sd) : mOr t u sd = .ok (p || q) sd := by
  cases p with
  | true => simp [h]
  | false => simp [h, h2 rfl]
theorem e_andT (h : t sd = .ok p sd) (h2 : p = true → u sd = .ok q sd) : mAnd t u sd = .ok (p && q) sd := by
  cases p with
  | false => simp [h]
  | true => simp [h, h2 rfl]
end
end VS
namespace WebS
open PySem VS
variable [VS.TabL]
def intOf : PyData → Int
  | .int i => i
  | _ => 0
def upto (n : Int) : List Int := (List.range (n - 0).toNat).map fun i => 0 + ((i : Nat) : Int)
end WebS
namespace VS
open PySem
variable [VS.TabL]
structure Sm (w dp : Nat) (d : PyData) : Prop where
  ls : d.leavesShort 45 = true
  sh : d.showable = true
  dp : d.depth ≤ dp
  wt : d.weight ≤ w
theorem Sm.mono {w w' dp dp' : Nat} {d : PyData} (h : Sm w dp d) (h1 : w ≤ w') (h2 : dp ≤ dp') : Sm w' dp' d := ⟨h.ls, h.sh, Nat.le_trans h.dp h2, Nat.le_trans h.wt h1⟩
theorem sm_all {w dp k : Nat} : ∀ {ds : List PyData}, (∀ x ∈ ds, Sm w dp x) → ds.length ≤ k → PyData.leavesShortAll 45 ds = true ∧ PyData.showableAll ds = true ∧ PyData.depthAll ds ≤ dp ∧ PyData.weightAll ds ≤ ds.length * (w + 1)
  | [], _, _ => ⟨by simp [PyData.leavesShortAll], by simp [PyData.showableAll], by simp [PyData.depthAll], by simp [PyData.weightAll]⟩
  | x :: r, h, hl => by
    have hx := h x List.mem_cons_self
    simp only [List.length_cons] at hl
    obtain ⟨a, b, c, d⟩ := sm_all (k := k) (ds := r) (fun y hy => h y (List.mem_cons_of_mem _ hy)) (by omega)
    refine ⟨by simp [PyData.leavesShortAll, hx.ls, a], by simp [PyData.showableAll, hx.sh, b], ?_, ?_⟩
    · simp only [PyData.depthAll]
      have := hx.dp
      omega
    · simp only [PyData.weightAll, List.length_cons]
      have := hx.wt
      rw [Nat.add_mul]
      omega
theorem sm_tuple {w dp k : Nat} {ds : List PyData} (h : ∀ x ∈ ds, Sm w dp x) (hl : ds.length ≤ k) : Sm (k * (w + 1)) (dp + 1) (.tuple ds) := by
  obtain ⟨a, b, c, d⟩ := sm_all h hl
  refine ⟨by simpa [PyData.leavesShort] using a, by simpa [PyData.showable] using b, by simpa [PyData.depth] using c, ?_⟩
  simp only [PyData.weight]
  exact Nat.le_trans d (Nat.mul_le_mul_right _ hl)
theorem sm_list {w dp k : Nat} {ds : List PyData} (h : ∀ x ∈ ds, Sm w dp x) (hl : ds.length ≤ k) : Sm (k * (w + 1)) (dp + 1) (.list ds) := by
  obtain ⟨a, b, c, d⟩ := sm_all h hl
  refine ⟨by simpa [PyData.leavesShort] using a, by simpa [PyData.showable] using b, by simpa [PyData.depth] using c, ?_⟩
  simp only [PyData.weight]
  exact Nat.le_trans d (Nat.mul_le_mul_right _ hl)
def mixOk (d : PyData) : Bool := !d.hasDict || !hasL d
theorem show_of {d : PyData} (h : Sm 300000 60 d) (hm : mixOk d = true) : showOk d = true := by
  have l := PyData.shown_le 45 (by decide) d h.ls
  have := h.wt
  have hz : d.shown.length ≤ sizeLine := by
    simp only [sizeLine]
    omega
  unfold showOk
  rw [h.sh, decide_eq_true h.dp, decide_eq_true hz]
  unfold mixT
  rw [show mixO d = true from hm]
  rfl
theorem log2_lt40 {n : Nat} (h : n < 10 ^ 12) : n.log2 < 40 := by
  by_cases hn : n = 0
  · subst hn
    decide
  · rw [Nat.log2_lt hn]
    have : (10 : Nat) ^ 12 < 2 ^ 40 := by decide
    omega
theorem sm_int {i : Int} (h : i.natAbs < 10 ^ 12) : Sm 50 0 (.int i) := by
  have l := PyData.shown_int_le h
  have g := log2_lt40 h
  refine ⟨?_, ?_, ?_, ?_⟩
  · simp only [PyData.leavesShort, decide_eq_true_eq]
    omega
  · simp only [PyData.showable, decide_eq_true_eq]
    omega
  · simp [PyData.depth]
  · simp only [PyData.weight]
    split <;> omega
theorem sm_bool (b : Bool) : Sm 50 0 (.bool b) := ⟨by simp [PyData.leavesShort], by simp [PyData.showable], by simp [PyData.depth], by simp [PyData.weight]⟩
end VS
namespace VS
open PySem
variable [VS.TabL]
theorem e_tup {sd s1 : Sd} {mas : M (List Opd)} {rs : List Opd} {ds : List PyData} (h : mas sd = .ok rs s1) (h2 : datsO rs = some ds := by rfl) (h3 : ds.length ≤ sizeLine := by simp [sizeLine]) : mTup mas sd = .ok (.d (.tuple ds)) s1 := by simp [h, h2, h3]
theorem e_drop {sd s1 : Sd} {ma : M Opd} {x : Opd} (h : ma sd = .ok x s1) : mDrop ma sd = .ok .nx s1 := by simp [h]
theorem e_mut {sd s1 : Sd} {i : Nat} {me : M Opd} {f : List PyData → List PyData → Option (List PyData × PyData)} {xs ys xs' : List PyData} {d z : PyData} (h0 : sd[i]? = some (some (.own (.list ys)))) (he : me sd = .ok (.d d) s1) (h : s1[i]? = some (some (.own (.list xs)))) (hf : f xs [d] = some (xs', z)) : mMut i f (mCons me mNil) sd = .ok (.d z) (s1.set i (some (.own (.list xs')))) := by
  unfold mMut
  simp only [M.bind, ownL, h0, ownOf, mCons, he, mNil, M.ret, M.of, datsO, Option.map, h, hf, putL]
theorem pop_at {xs : List PyData} {k : Nat} {d : PyData} (hk : xs[k]? = some d) (hl : xs.length ≤ 10000000) : popF xs [.int k] = some (xs.eraseIdx k, d) := by
  have hk1 : k < xs.length := (List.getElem?_eq_some_iff.mp hk).1
  have e1 : seqIndex? ((k : Nat) : Int) xs.length = some k := by
    have := seqIndex_of (k := ((k : Nat) : Int)) (n := xs.length) (by omega) (by omega)
    simpa using this
  have e2 : (decide (-(2 ^ 63) ≤ ((k : Nat) : Int)) && decide (((k : Nat) : Int) < 2 ^ 63)) = true := by
    rw [Bool.and_eq_true, decide_eq_true_eq, decide_eq_true_eq]
    constructor <;> omega
  rw [popF, if_pos e2, e1]
  simp only [hk, Option.map]
end VS
namespace WebS
open PySem VS
variable [VS.TabL]
def leL (a b : List Int) : Bool := PySem.W.dataLe false id (itup a) (itup b)
theorem e_chain {sd : Sd} {a b c : Int} {mb : M Opd} (h : mb sd = .ok (.d (.int b)) sd) : mChain leD leD (mC (.int a)) mb (mC (.int c)) sd = .ok (.d (.bool (decide (a ≤ b) && decide (b ≤ c)))) sd := by
  by_cases h1 : a ≤ b <;> simp [h, h1]
theorem upto_mem {n i : Int} (h : i ∈ upto n) : 0 ≤ i ∧ i < n := by
  unfold upto at h
  obtain ⟨k, hk, rfl⟩ := List.mem_map.mp h
  have := List.mem_range.mp hk
  omega
theorem upto_nodup (n : Int) : (upto n).Nodup := by
  unfold upto List.Nodup
  rw [List.pairwise_map]
  exact List.nodup_range.imp fun h e => h (by omega)
theorem le_of_lt {a b : List Int} (h : PySem.W.dataLt (itup a) (itup b) = true) : leL a b = true := by
  have e : leL a b = !PySem.W.dataLt (itup b) (itup a) := rfl
  rw [e]
  cases q : PySem.W.dataLt (itup b) (itup a) with
  | false => rfl
  | true =>
    have := (PyProof.Rows.listOrd PyProof.Rows.itemOrd).trans _ _ _ h q
    rw [(PyProof.Rows.listOrd PyProof.Rows.itemOrd).irrefl] at this
    cases this
end WebS
namespace VS
open PySem
variable [VS.TabL]
section
variable {sd s1 s2 : Sd} {P : Fl → Sd → Prop} {m k a b : MS} {i : Nat}
theorem wp_of {α : Type} {r : Res α} {a : α} {s : Sd} {P : α → Sd → Prop} (h : r = .ok a s) (hp : P a s) : Wp r P := by
  rw [h]
  exact hp
theorem wp_sq (h : Wp (m sd) fun f s => f = .nx ∧ Wp (k s) P) : Wp (mSeq m k sd) P := by
  show Wp (M.bind m _ sd) P
  rw [wp_bind]
  refine wp_mono h fun f s z => ?_
  obtain ⟨rfl, z⟩ := z
  exact z
theorem wp_set {ma : M Opd} (h : Wp (ma sd) fun x s => ∃ d, x = .d d ∧ P .nx (s.set i (some (.dat d)))) : Wp (mSet i ma sd) P := by
  show Wp (M.bind ma _ sd) P
  rw [wp_bind]
  refine wp_mono h fun f s z => ?_
  obtain ⟨d, rfl, z⟩ := z
  exact z
theorem wp_setF {mf : M PyData} (h : Wp (mf sd) fun d s => P .nx (s.set i (some (.own d)))) : Wp (mSetF i mf sd) P := by
  show Wp (M.bind mf _ sd) P
  rw [wp_bind]
  exact wp_mono h fun f s z => z
theorem wp_drop {ma : M Opd} (h : Wp (ma sd) fun _ s => P .nx s) : Wp (mDrop ma sd) P := by
  show Wp (M.bind ma _ sd) P
  rw [wp_bind]
  exact wp_mono h fun f s z => z
theorem wp_for {ms : M Src} {t : Tg} {xs : List PyData} (hs : ms sd = .ok ⟨xs, []⟩ s1) (h : Wp (loopF t m xs s1) P) : Wp (mFor ms t m sd) P := by
  show Wp (M.bind ms _ sd) P
  rw [wp_bind, hs]
  exact h
theorem wp_ret {md : List Bool} {ma : M Opd} (h : Wp (ma sd) fun x s => ∃ d, x = .d d ∧ P (.rt (.dat d)) s) : Wp (mRet md ma sd) P := by
  show Wp (M.bind ma _ sd) P
  rw [wp_bind]
  refine wp_mono h fun x s z => ?_
  obtain ⟨d, rfl, z⟩ := z
  exact z
theorem wp_take {a m c n : Int} {mn : M Opd} {Q : Opd → Sd → Prop} (h : sd[i]? = some (some (.own (potL a m c)))) (hn : mn sd = .ok (.d (.int n)) s1) (h1 : s1[i]? = some (some (.own (potL a m c)))) (p : Pot a m c) (hc : c < 2 ^ 800) (n0 : 0 < n)
    (q : ∀ r a' c', 0 ≤ r → r < n → Pot a' m c' → c' ≤ c + 1 → Q (.d (.int r)) (s1.set i (some (.own (potL a' m c'))))) : Wp (mCallD bTake 5 [true, false] (mCons (mVar i) (mCons mn mNil)) sd) Q := by
  obtain ⟨r, a', c', e, h1, h2, h3, h4⟩ := call_take h hn h1 p hc n0
  exact wp_of e (q r a' c' h1 h2 h3 h4)
theorem wp_d2 {ma mb : M Opd} {f : PyData → PyData → Option PyData} {Q : Opd → Sd → Prop} (h : Wp (ma sd) fun x s => ∃ d, x = .d d ∧ Wp (mb s) fun y s2 => ∃ e z, y = .d e ∧ f d e = some z ∧ Q (.d z) s2) : Wp (m2 f ma mb sd) Q := by
  show Wp (M.bind ma _ sd) Q
  rw [wp_bind]
  refine wp_mono h fun x s z => ?_
  obtain ⟨d, rfl, z⟩ := z
  rw [wp_bind]
  refine wp_mono z fun y s2 z => ?_
  obtain ⟨e, w, rfl, h2, z⟩ := z
  simp [h2]
  exact z
theorem wp_mut {f : List PyData → List PyData → Option (List PyData × PyData)} {me : M Opd} {ys : List PyData} {Q : Opd → Sd → Prop} (h0 : sd[i]? = some (some (.own (.list ys)))) (h : Wp (me sd) fun x s => ∃ d xs xs' z, x = .d d ∧ s[i]? = some (some (.own (.list xs))) ∧ f xs [d] = some (xs', z) ∧ Q (.d z) (s.set i (some (.own (.list xs'))))) : Wp (mMut i f (mCons me mNil) sd) Q := by
  obtain ⟨x, s, e, d, xs, xs', z, rfl, h1, h2, q⟩ := wp_ex h
  exact wp_of (e_mut h0 e h1 h2) q
end
section
variable {sd s1 s2 : Sd} {ma mb : M Opd}
theorem e_setF {i : Nat} {mf : M PyData} {d : PyData} (h : mf sd = .ok d s1) : mSetF i mf sd = .ok .nx (s1.set i (some (.own d))) := by simp [h]
theorem e_rg1 {n : Int} (h : ma sd = .ok (.d (.int n)) s1) (h0 : -1000000 ≤ n) (h1 : n ≤ 1000000) : mRg (mR1 ma) sd = .ok ⟨rgL 0 n, []⟩ s1 := by
  have q2 : rgOk1 0 n = true := by
    unfold rgOk1
    simp only [Bool.and_eq_true, decide_eq_true_eq]
    omega
  unfold mRg mR1 mI
  simp only [M.bind, h, getM, Opd.get, M.ret]
  rw [if_pos q2]
  rfl
theorem neD_nil (xs : List PyData) : neD (.list xs) (.list []) = some (.bool (!xs.isEmpty)) := by
  cases xs with
  | nil => simp [neD, cmpOk, PyData.plain, PyData.plainAll, PyData.depth, PyData.depthAll, PyData.eqv, PyData.eqvAll]
  | cons x r =>
    unfold neD
    split
    · simp [PyData.eqv, PyData.eqvAll]
    · simp [lenOff]
theorem tenK : 10000 ≤ sizeLine := by simp [sizeLine]
end
end VS
namespace WebS
open PySem VS
variable [VS.TabL]
def kd (ks : List Bool) (i : Int) : Bool := ks.getD i.toNat false
def wayI (w : List Int) : Prop := (∃ i, w = [i]) ∨ ∃ i j, w = [i, j] ∧ i < j
theorem erase_perm : ∀ (t : List Int) (i : Nat) (h : i < t.length), (t[i] :: t.eraseIdx i).Perm t
  | x :: t, 0, _ => List.Perm.refl _
  | x :: t, i + 1, h => by
    have ih := erase_perm t i (by simpa using h)
    simp only [List.getElem_cons_succ, List.eraseIdx_cons_succ]
    exact (List.Perm.swap _ _ _).trans (List.Perm.cons _ ih)
theorem erase_map {α β : Type} (f : α → β) : ∀ (t : List α) (i : Nat), (t.map f).eraseIdx i = (t.eraseIdx i).map f
  | [], _ => rfl
  | x :: t, 0 => rfl
  | x :: t, i + 1 => by simp [erase_map f t i]
structure Mid (ks : List Bool) (base rest : List Int) (k : Bool) (W : List (List Int)) (left : List Int) : Prop where
  ways : ∀ w ∈ W, wayI w
  same : ∀ w ∈ W, ∃ k, ∀ i ∈ w, kd ks i = k
  perm : (W.flatten ++ left ++ rest).Perm base
  srt : left.Pairwise (· < ·)
  lk : ∀ i ∈ left, kd ks i = k
theorem Mid.one {ks : List Bool} {base rest : List Int} {k : Bool} {W : List (List Int)} {h : Int} {t : List Int} (A : Mid ks base rest k W (h :: t)) : Mid ks base rest k (W ++ [[h]]) t := by
  refine ⟨fun w hw => ?_, fun w hw => ?_, ?_, (List.pairwise_cons.mp A.srt).2, fun i hi => A.lk i (List.mem_cons_of_mem _ hi)⟩
  · rcases List.mem_append.mp hw with hw | hw
    · exact A.ways w hw
    · rw [List.mem_singleton.mp hw]
      exact .inl ⟨h, rfl⟩
  · rcases List.mem_append.mp hw with hw | hw
    · exact A.same w hw
    · rw [List.mem_singleton.mp hw]
      exact ⟨k, fun i hi => by
        rw [List.mem_singleton.mp hi]
        exact A.lk h List.mem_cons_self⟩
  · have := A.perm
    simpa using this
theorem Mid.two {ks : List Bool} {base rest : List Int} {k : Bool} {W : List (List Int)} {h : Int} {t : List Int} (A : Mid ks base rest k W (h :: t)) (i : Nat) (hi : i < t.length) : Mid ks base rest k (W ++ [[h, t[i]]]) (t.eraseIdx i) := by
  have sub : (t.eraseIdx i).Sublist t := List.eraseIdx_sublist _ _
  have hm : t[i] ∈ t := List.getElem_mem hi
  refine ⟨fun w hw => ?_, fun w hw => ?_, ?_, ((List.pairwise_cons.mp A.srt).2).sublist sub, fun i hi => A.lk i (List.mem_cons_of_mem _ (sub.subset hi))⟩
  · rcases List.mem_append.mp hw with hw | hw
    · exact A.ways w hw
    · rw [List.mem_singleton.mp hw]
      exact .inr ⟨h, t[i], rfl, (List.pairwise_cons.mp A.srt).1 _ hm⟩
  · rcases List.mem_append.mp hw with hw | hw
    · exact A.same w hw
    · rw [List.mem_singleton.mp hw]
      refine ⟨k, fun j hj => ?_⟩
      rcases List.mem_cons.mp hj with rfl | hj
      · exact A.lk _ List.mem_cons_self
      · rw [List.mem_singleton.mp hj]
        exact A.lk _ (List.mem_cons_of_mem _ hm)
  · have p := A.perm
    refine List.Perm.trans ?_ p
    have q : (t[i] :: t.eraseIdx i).Perm t := erase_perm t i hi
    simp only [List.flatten_append, List.flatten_cons, List.flatten_nil, List.append_nil, List.append_assoc, List.cons_append, List.nil_append]
    refine List.Perm.append_left _ (List.Perm.cons _ ?_)
    have := q.append_right rest
    simpa using this
end WebS
namespace WebS
open PySem VS
variable [VS.TabL]
def quadOf (p q : Int) : List Bool := [0, 1, 2, 3].map fun x : Int => decide (p = x) || decide (q = x)
def six : List (List Bool) := [quadOf 0 1, quadOf 0 2, quadOf 0 3, quadOf 1 2, quadOf 1 3, quadOf 2 3]
theorem rgL_get {n : Int} {i : Nat} {x : PyData} (h : (rgL 0 n)[i]? = some x) : x = .int i ∧ i < n.toNat := by
  unfold rgL at h
  obtain ⟨hi, rfl⟩ := List.getElem?_eq_some_iff.mp h
  simp at hi ⊢
  omega
theorem upto_rg (n : Int) : rgL 0 n = iL (upto n) := rgL_ints 0 n
theorem ways_le : ∀ {W : List (List Int)}, (∀ w ∈ W, wayI w) → W.length ≤ W.flatten.length
  | [], _ => by simp
  | w :: r, h => by
    have ih := ways_le fun x hx => h x (List.mem_cons_of_mem _ hx)
    rw [List.flatten_cons, List.length_append, List.length_cons]
    rcases h w List.mem_cons_self with ⟨i, rfl⟩ | ⟨i, j, rfl, _⟩ <;> simp only [List.length_cons, List.length_nil] <;> omega
theorem upto_length (n : Int) : (upto n).length = n.toNat := by
  unfold upto
  simp
structure World (most n : Int) (W : List (List Int)) (qs : List (List Bool)) : Prop where
  n0 : 0 ≤ n
  n1 : n ≤ most
  qn : (qs.length : Int) = n
  six : ∀ q ∈ qs, q ∈ six
  ways : ∀ w ∈ W, wayI w
  same : ∀ w ∈ W, ∃ k, ∀ i ∈ w, kd qs.flatten i = k
  perm : W.flatten.Perm (upto (4 * n))
  srt : W.Pairwise fun a b => leL a b = true
end WebS
namespace VS
open PySem
variable [VS.TabL]
section
variable {sd s1 s2 : Sd} {b : MS} {N i : Nat} {Q : Opd → Sd → Prop}
theorem wp_callO {d0 d1 x : PyData} {mn : M Opd} (h : sd[i]? = some (some (.own d0))) (hn : mn sd = .ok (.d x) s1) (h1 : s1[i]? = some (some (.own d1)))
    (hb : Wp (b (pad N [.own d1, .dat x])) fun f s => ∃ z d', f = .rt (.dat z) ∧ s[0]? = some (some (.own d')) ∧ Q (.d z) (s1.set i (some (.own d')))) : Wp (mCallD b N [true, false] (mCons (mVar i) (mCons mn mNil)) sd) Q := by
  obtain ⟨f, s, e, z, d', rfl, g, q⟩ := wp_ex hb
  refine wp_of ?_ q
  have l0 : s ≠ [] := fun z => by
    rw [z] at g
    cases g
  obtain ⟨s0, st, rfl⟩ := List.exists_cons_of_ne_nil l0
  have g : s0 = some (.own d') := by simpa using g
  subst g
  simp only [pad] at e
  simp [h, hn, h1]
  simp at e
  simp [e]
theorem e_callF2 {sd s1 s2 sf pd : Sd} {b : MS} {N : Nat} {ma mb : M Opd} {x y z : PyData} (h : ma sd = .ok (.d x) s1) (h2 : mb s1 = .ok (.d y) s2) (hb : b pd = .ok (.rt (.frs z)) sf) (hp : pad N [.dat x, .dat y] = pd := by rfl) : mCallF b N [false, false] (mCons ma (mCons mb mNil)) sd = .ok z s2 := by
  subst hp
  simp only [pad] at hb
  simp [h, h2]
  simp at hb
  simp [hb]
end
theorem e_cells {sd : Sd} {ns : List Int} {lo hi : Int} (i : Nat) (h : sd[i]? = some (some (.dat (.list (ns.map .int)))) := by rfl) : (mN (two maxD2) (mCons (mC (.int lo)) (mCons (mN (two minD2) (mCons (mN (one lenD) (mCons (mVar i) mNil)) (mCons (mC (.int hi)) mNil))) mNil))) sd = .ok (.d (.int (max lo (min (ns.length : Int) hi)))) sd := by
  have e : ∀ a b : Int, (if b > a then b else a) = max a b := fun a b => by
    split <;> omega
  have e2 : ∀ a b : Int, (if b < a then b else a) = min a b := fun a b => by
    split <;> omega
  simp [h, maxD2, minD2]
  split <;> split <;> omega
theorem wp_pot {sd : Sd} {ns : List Int} {k : Nat} {Q : PyData → Sd → Prop} (i j : Nat) (hk : k < 1000) (q : ∀ a m, Pot a m 0 → Q (potL a m 0) sd) (h : sd[i]? = some (some (.dat (.list (ns.map .int)))) := by rfl) (h2 : sd[j]? = some (some (.dat (.int k))) := by rfl) : Wp (mCallF bPot 4 [false, false] (mCons (mVar i) (mCons (mVar j) mNil)) sd) Q := by
  obtain ⟨a, m, s, e, P⟩ := pot_ok ns k hk
  exact wp_of (e_callF2 (e_var i h) (e_var j h2) e) (q a m P)
end VS
namespace WebS
open PySem VS
variable [VS.TabL]
theorem World.bound {most n : Int} {W : List (List Int)} {qs : List (List Bool)} (w : World most n W qs) {x : List Int} (hx : x ∈ W) {i : Int} (hi : i ∈ x) : 0 ≤ i ∧ i < 4 * n := upto_mem (w.perm.mem_iff.mp (List.mem_flatten.mpr ⟨x, hx, hi⟩))
theorem World.len {most n : Int} {W : List (List Int)} {qs : List (List Bool)} (w : World most n W qs) : (W.length : Int) ≤ 4 * n := by
  have q1 := ways_le w.ways
  have q2 := w.perm.length_eq
  rw [upto_length] at q2
  have := w.n0
  omega
end WebS
namespace PermS
open PySem VS
def ins (x : Nat) : List Nat → List (List Nat)
  | [] => [[x]]
  | y :: t => (x :: y :: t) :: (ins x t).map (y :: ·)
def perms : Nat → List (List Nat)
  | 0 => [[]]
  | n + 1 => (perms n).flatMap (ins n)
theorem mem_ins (x : Nat) : ∀ (a b : List Nat), a ++ x :: b ∈ ins x (a ++ b)
  | [], [] => by simp [ins]
  | [], y :: b => by simp [ins]
  | y :: a, b => by
    show y :: (a ++ x :: b) ∈ ins x (y :: (a ++ b))
    unfold ins
    exact List.mem_cons_of_mem _ (List.mem_map.mpr ⟨_, mem_ins x a b, rfl⟩)
theorem mem_perms : ∀ (n : Nat) (p : List Nat), p.Perm (List.range n) → p ∈ perms n
  | 0, p, h => by
    have := h.length_eq
    simp at this
    subst this
    simp [perms]
  | n + 1, p, h => by
    have hm : n ∈ p := h.mem_iff.mpr (by simp)
    obtain ⟨a, b, rfl⟩ := List.append_of_mem hm
    have h2 : (a ++ b).Perm (List.range n) := by
      have e : (n :: (a ++ b)).Perm (n :: List.range n) := by
        refine (List.perm_middle.symm.trans h).trans ?_
        rw [List.range_succ]
        exact List.perm_append_singleton n _
      exact e.cons_inv
    unfold perms
    exact List.mem_flatMap.mpr ⟨a ++ b, mem_perms n _ h2, mem_ins n a b⟩
def aft (p q : List Nat) : List Nat := p.map fun i => q.getD i 0
def bck (p : List Nat) : List Nat := (List.range p.length).map fun i => p.idxOf i
def walk (p : List Nat) (s : Nat) : Nat → Nat → Nat
  | 0, _ => 0
  | f + 1, i => bif Nat.beq (p.getD i 0) s then 1 else walk p s f (p.getD i 0) + 1
def lens (p : List Nat) : List Nat := p.map fun i => walk p i 6 i
def cnt (l : List Nat) (k : Nat) : Nat := l.foldr (fun x a => bif Nat.beq x k then a + 1 else a) 0
def typ (p : List Nat) : List Nat := let l := lens p; [cnt l 1, cnt l 2, cnt l 3, cnt l 4, cnt l 5]
def eqL : List Nat → List Nat → Bool
  | [], [] => true
  | x :: a, y :: b => Nat.beq x y && eqL a b
  | _, _ => false
theorem eqL_eq : ∀ {a b : List Nat}, eqL a b = true → a = b
  | [], [], _ => rfl
  | x :: a, y :: b, h => by
    simp only [eqL, Bool.and_eq_true] at h
    rw [Nat.eq_of_beq_eq_true h.1, eqL_eq h.2]
  | [], _ :: _, h => by simp [eqL] at h
  | _ :: _, [], h => by simp [eqL] at h
def backOk (n : Nat) : Bool := (perms n).all fun a => eqL (typ (bck a)) (typ a)
def swap (n k : Nat) : List Nat := (List.range n).map fun i => bif Nat.beq i k then k + 1 else bif Nat.beq i (k + 1) then k else i
def conjOk (n : Nat) : Bool := (perms n).all fun a => let t := typ a; (List.range (n - 1)).all fun k => eqL (typ (aft (aft (swap n k) a) (swap n k))) t
theorem conj5 : ([1, 2, 3, 4, 5].all conjOk) = true := by decide +kernel
theorem getD_map {f : Nat → Nat} {b : List Nat} {i : Nat} (h : i < b.length) : (b.map f).getD i 0 = f (b.getD i 0) := by
  rw [List.getD_eq_getElem?_getD, List.getD_eq_getElem?_getD, List.getElem?_map, List.getElem?_eq_getElem h]
  rfl
theorem aft_assoc {a b c : List Nat} (h : ∀ i ∈ a, i < b.length) : aft (aft a b) c = aft a (aft b c) := by
  unfold aft
  rw [List.map_map]
  refine List.map_congr_left fun i hi => ?_
  exact (getD_map (f := fun i => c.getD i 0) (h i hi)).symm
theorem aft_rangeR {b : List Nat} {n : Nat} (h : ∀ i ∈ b, i < n) : aft b (List.range n) = b := by
  unfold aft
  refine (List.map_congr_left fun i hi => ?_).trans (List.map_id b)
  rw [List.getD_eq_getElem?_getD, List.getElem?_range (h i hi)]
  rfl
theorem aft_rangeL {c : List Nat} {n : Nat} (h : c.length = n) : aft (List.range n) c = c := by
  subst h
  refine List.ext_getElem? fun i => ?_
  unfold aft
  rw [List.getElem?_map]
  by_cases hi : i < c.length
  · rw [List.getElem?_range hi, List.getElem?_eq_getElem hi]
    show some (c.getD i 0) = _
    rw [List.getD_eq_getElem?_getD, List.getElem?_eq_getElem hi]
    rfl
  · rw [List.getElem?_eq_none (l := List.range c.length) (by rw [List.length_range]; omega), List.getElem?_eq_none (l := c) (by omega)]
    rfl
abbrev Pm (n : Nat) (p : List Nat) : Prop := p.Perm (List.range n)
theorem Pm.len {n : Nat} {p : List Nat} (h : Pm n p) : p.length = n := h.length_eq.trans (List.length_range ..)
theorem Pm.lt {n : Nat} {p : List Nat} (h : Pm n p) : ∀ i ∈ p, i < n := fun i hi => List.mem_range.mp (h.mem_iff.mp hi)
theorem Pm.aft {n : Nat} {p q : List Nat} (h : Pm n p) (k : Pm n q) : Pm n (aft p q) := by
  have e : (PermS.aft (List.range n) q) = q := aft_rangeL k.len
  refine (List.Perm.map (fun i => q.getD i 0) h).trans ?_
  show (PermS.aft (List.range n) q).Perm _
  rw [e]
  exact k
inductive Gen (n : Nat) : List Nat → Prop
  | one : Gen n (List.range n)
  | step {b : List Nat} {k : Nat} : Gen n b → k + 1 < n → Gen n (aft b (swap n k))
def dec (n : Nat) : Nat → List Nat → Bool
  | 0, b => eqL b (List.range n)
  | f + 1, b => eqL b (List.range n) || (List.range (n - 1)).any fun k => Nat.blt (b.idxOf (k + 1)) (b.idxOf k) && dec n f (aft b (swap n k))
theorem swap_pm {n k : Nat} (h5 : n ≤ 5) (h : k + 1 < n) : Pm n (swap n k) ∧ aft (swap n k) (swap n k) = List.range n := by
  have all : ∀ n < 6, ∀ k < 5, k + 1 < n → (swap n k).isPerm (List.range n) = true ∧ aft (swap n k) (swap n k) = List.range n := by decide +kernel
  obtain ⟨a, b⟩ := all n (by omega) k (by omega) h
  exact ⟨List.isPerm_iff.mp a, b⟩
theorem dec_gen {n : Nat} (h5 : n ≤ 5) : ∀ (f : Nat) (b : List Nat), Pm n b → dec n f b = true → Gen n b
  | 0, b, _, h => by
    rw [eqL_eq h]
    exact .one
  | f + 1, b, hb, h => by
    unfold dec at h
    rcases Bool.or_eq_true _ _ ▸ h with h | h
    · rw [eqL_eq h]
      exact .one
    · obtain ⟨k, hk, h⟩ := List.any_eq_true.mp h
      have hk := List.mem_range.mp hk
      have hk : k + 1 < n := by omega
      obtain ⟨s1, s2⟩ := swap_pm h5 hk
      have g := dec_gen h5 f _ (hb.aft s1) (Bool.and_eq_true _ _ ▸ h).2
      have e : aft (aft b (swap n k)) (swap n k) = b := by
        rw [aft_assoc (fun i hi => by rw [s1.len]; exact hb.lt i hi), s2, aft_rangeR hb.lt]
      rw [← e]
      exact .step g hk
theorem all_dec : ([0, 1, 2, 3, 4, 5].all fun n => (perms n).all (dec n 10)) = true := by decide +kernel
theorem gen_all {n : Nat} (h5 : n ≤ 5) {b : List Nat} (h : Pm n b) : Gen n b := by
  have q := List.all_eq_true.mp all_dec n (by
    have : n = 0 ∨ n = 1 ∨ n = 2 ∨ n = 3 ∨ n = 4 ∨ n = 5 := by omega
    rcases this with rfl | rfl | rfl | rfl | rfl | rfl <;> decide)
  exact dec_gen h5 10 b h (List.all_eq_true.mp q b (mem_perms n b h))
theorem typ_swap {n k : Nat} (h1 : 1 ≤ n) (h5 : n ≤ 5) (hk : k + 1 < n) {a : List Nat} (ha : Pm n a) : typ (aft (aft (swap n k) a) (swap n k)) = typ a := by
  have q := List.all_eq_true.mp conj5 n (by
    have : n = 1 ∨ n = 2 ∨ n = 3 ∨ n = 4 ∨ n = 5 := by omega
    rcases this with rfl | rfl | rfl | rfl | rfl <;> decide)
  have q := List.all_eq_true.mp q a (mem_perms n a ha)
  exact eqL_eq (List.all_eq_true.mp q k (List.mem_range.mpr (by omega)))
theorem typ_conj {n : Nat} (h1 : 1 ≤ n) (h5 : n ≤ 5) {b : List Nat} (g : Gen n b) : Pm n b ∧ ∀ (a c : List Nat), Pm n a → Pm n c → aft b c = List.range n → typ (aft (aft b a) c) = typ a := by
  induction g with
  | one =>
    refine ⟨List.Perm.refl _, fun a c ha hc e => ?_⟩
    have ec : c = List.range n := by rw [← e, aft_rangeL hc.len]
    rw [aft_rangeL ha.len, ec, aft_rangeR ha.lt]
  | @step b k g hk ih =>
    obtain ⟨hb, ih⟩ := ih
    obtain ⟨s1, s2⟩ := swap_pm h5 hk
    refine ⟨hb.aft s1, fun a c ha hc e => ?_⟩
    have L : ∀ {x y : List Nat}, Pm n x → Pm n y → ∀ i ∈ x, i < y.length := fun hx hy i hi => by rw [hy.len]; exact hx.lt i hi
    have e1 : aft b (aft (swap n k) c) = List.range n := by rw [← aft_assoc (L hb s1), e]
    have q := ih (aft (aft (swap n k) a) (swap n k)) (aft (swap n k) c) ((s1.aft ha).aft s1) (s1.aft hc) e1
    rw [typ_swap h1 h5 hk ha] at q
    rw [← q]
    have r : aft (aft (aft (swap n k) a) (swap n k)) (aft (swap n k) c) = aft (swap n k) (aft a c) := by
      rw [aft_assoc (L (s1.aft ha) s1), ← aft_assoc (L s1 s1), s2, aft_rangeL hc.len, aft_assoc (L s1 ha)]
    rw [aft_assoc (L (hb.aft s1) ha), aft_assoc (L hb s1), aft_assoc (L hb ((s1.aft ha).aft s1)), r]
theorem back5 : ([1, 2, 3, 4, 5].all backOk) = true := by decide +kernel
end PermS
namespace VS
open PySem
variable [VS.TabL]
abbrev eI (f : Int → PyData) (hs : List Int) : List (PyData × PyData) := hs.map fun h => (.int h, f h)
section
variable {sd s1 s2 : Sd} {b : MS} {N i : Nat}
theorem e_call1n {sf pd : Sd} {ma : M Opd} {x : PyData} (h : ma sd = .ok (.d x) s1) (hb : b pd = .ok .nx sf) (hp : pad N [.dat x] = pd := by rfl) : mCallD b N [false] (mCons ma mNil) sd = .ok (.d .none) s1 := by
  subst hp
  simp only [pad] at hb
  simp [h]
  simp at hb
  simp [hb]
theorem e_rowT {ds : List PyData} {ma : M Opd} (h : ma sd = .ok (.d (.tuple ds)) s1) : mRow ma sd = .ok ⟨ds, []⟩ s1 := by simp [h]
theorem e_rowLd {ds : List PyData} {ma : M Opd} (h : ma sd = .ok (.d (.list ds)) s1) : mRow ma sd = .ok ⟨ds, []⟩ s1 := by simp [h]
theorem e_ifD {α : Type} {t : M Bool} {a b : M α} {c : Bool} {r : Res α} (h : t sd = .ok c s1) (h2 : (if c = true then a s1 else b s1) = r) : mIf t a b sd = r := by
  simp [h]
  cases c <;> simpa using h2
end
theorem ix_tup {ds : List PyData} {j : Nat} {v : PyData} (h : ds[j]? = some v) : ixD (.tuple ds) (.int j) = some v := L2.atI_nat h
theorem ix_list {ds : List PyData} {j : Nat} {v : PyData} (h : ds[j]? = some v) : ixD (.list ds) (.int j) = some v := L2.atI_nat h
end VS
namespace WebS
open PySem VS
variable [VS.TabL]
structure Webd (n : Int) (W : List (List Int)) : Prop where
  n0 : 0 ≤ n
  n1 : n ≤ 60
  ways : ∀ w ∈ W, wayI w
  perm : W.flatten.Perm (upto (4 * n))
  srt : W.Pairwise fun a b => leL a b = true
abbrev webD (n : Int) (W : List (List Int)) : PyData := .tuple [.int n, .tuple (W.map itup)]
section
variable {n : Int} {W : List (List Int)}
theorem Webd.nodup (w : Webd n W) : W.flatten.Nodup := w.perm.nodup_iff.mpr (upto_nodup _)
theorem Webd.bound (w : Webd n W) {x : List Int} (hx : x ∈ W) {i : Int} (hi : i ∈ x) : 0 ≤ i ∧ i < 4 * n := upto_mem (w.perm.mem_iff.mp (List.mem_flatten.mpr ⟨x, hx, hi⟩))
theorem Webd.flen (w : Webd n W) : (W.flatten.length : Int) = 4 * n := by
  have h1 := w.n0
  rw [w.perm.length_eq, upto_length]
  omega
theorem Webd.len (w : Webd n W) : (W.length : Int) ≤ 4 * n := by
  have q1 := ways_le w.ways
  have q2 := w.flen
  omega
theorem upto_in {n i : Int} (h0 : 0 ≤ i) (h1 : i < n) : i ∈ upto n := by
  unfold upto
  exact List.mem_map.mpr ⟨i.toNat, List.mem_range.mpr (by omega), by omega⟩
theorem Webd.mem (w : Webd n W) {h : Int} (h0 : 0 ≤ h) (h1 : h < 4 * n) : h ∈ W.flatten := w.perm.mem_iff.mpr (upto_in h0 h1)
def wayAt (W : List (List Int)) (h : Int) : Nat := W.findIdx fun w => w.contains h
theorem wayAt_eq : ∀ {W : List (List Int)} {i : Nat} {h : Int} {x : List Int}, W.flatten.Nodup → W[i]? = some x → h ∈ x → wayAt W h = i
  | [], _, _, _, _, hi, _ => by simp at hi
  | w :: W, 0, h, x, nd, hi, hm => by
    simp at hi
    subst hi
    unfold wayAt
    rw [List.findIdx_cons]
    have : w.contains h = true := by simpa using hm
    rw [this]
    rfl
  | w :: W, i + 1, h, x, nd, hi, hm => by
    simp at hi
    rw [List.flatten_cons, List.nodup_append] at nd
    have no : ¬ h ∈ w := fun z => nd.2.2 h z h (List.mem_flatten.mpr ⟨x, List.mem_of_getElem? hi, hm⟩) rfl
    have ih := wayAt_eq nd.2.1 hi hm
    unfold wayAt at ih ⊢
    rw [List.findIdx_cons]
    have : w.contains h = false := by simpa using no
    rw [this]
    show _ + 1 = _
    rw [ih]
theorem Webd.at (w : Webd n W) {h : Int} (h0 : 0 ≤ h) (h1 : h < 4 * n) : ∃ x, W[wayAt W h]? = some x ∧ h ∈ x := by
  obtain ⟨x, hx, hm⟩ := List.mem_flatten.mp (w.mem h0 h1)
  obtain ⟨i, hi⟩ := List.mem_iff_getElem?.mp hx
  rw [wayAt_eq w.nodup hi hm]
  exact ⟨x, hi, hm⟩
def acrossI (W : List (List Int)) (h : Int) : Option Int := match W.getD (wayAt W h) [] with
  | [i, j] => some (i + j - h)
  | _ => none
def optD : Option Int → PyData
  | none => .none
  | some i => .int i
theorem acrossI_one {i : Nat} {a : Int} (nd : W.flatten.Nodup) (h : W[i]? = some [a]) : acrossI W a = none := by
  unfold acrossI
  rw [wayAt_eq nd h List.mem_cons_self, List.getD_eq_getElem?_getD, h]
  rfl
theorem acrossI_two {i : Nat} {a b h : Int} (nd : W.flatten.Nodup) (hw : W[i]? = some [a, b]) (hm : h ∈ [a, b]) : acrossI W h = some (a + b - h) := by
  unfold acrossI
  rw [wayAt_eq nd hw hm, List.getD_eq_getElem?_getD, hw]
  rfl
end
end WebS
namespace WebS
open PySem VS
variable [VS.TabL]
variable {n : Int} {W : List (List Int)}
abbrev acrD (W : List (List Int)) (h : Int) : PyData := optD (acrossI W h)
def endsI (W : List (List Int)) : List Int := (W.filter fun w => w.length == 1).map fun w => w.headD 0
def handsOf (p : Int) : List Int := [4 * p, 4 * p + 1, 4 * p + 2, 4 * p + 3]
end WebS
namespace VS
open PySem
variable [VS.TabL]
theorem nodict_ints : ∀ ns : List Int, PyData.hasDictAll (iL ns) = false
  | [] => by simp [PyData.hasDictAll]
  | n :: ns => by simp [PyData.hasDictAll, PyData.hasDict]; simpa using nodict_ints ns
theorem nodict_rows : ∀ W : List (List Int), PyData.hasDictAll (W.map itup) = false
  | [] => by simp [PyData.hasDictAll]
  | w :: W => by simp [PyData.hasDictAll, PyData.hasDict, nodict_ints w, nodict_rows W]
theorem sm_itup {ns : List Int} {k : Nat} (h : ∀ i ∈ ns, i.natAbs < 10 ^ 12) (hl : ns.length ≤ k) : Sm (k * 51) 1 (itup ns) := sm_tuple (w := 50) (dp := 0) (fun x hx => by
  obtain ⟨i, hi, rfl⟩ := List.mem_map.mp hx
  exact sm_int (h i hi)) (by simpa using hl)
theorem show_itup {ns : List Int} (h : ∀ i ∈ ns, i.natAbs < 10 ^ 12) (hl : ns.length ≤ 1000) : showOk (itup ns) = true := show_of ((sm_itup h hl).mono (by decide) (by decide)) (by simp [mixOk, PyData.hasDict, nodict_ints])
end VS
namespace WebS
open PySem VS
variable [VS.TabL]
variable {n : Int} {W : List (List Int)}
theorem Webd.show (w : Webd n W) : showOk (webD n W) = true := by
  have l := w.len
  have n0 := w.n0
  have n1 := w.n1
  have s1 : ∀ x ∈ W.map itup, Sm 102 1 x := fun x hx => by
    obtain ⟨y, hy, rfl⟩ := List.mem_map.mp hx
    refine sm_itup (k := 2) (fun i hi => ?_) ?_
    · have := w.bound hy hi
      omega
    · rcases w.ways y hy with ⟨i, rfl⟩ | ⟨i, j, rfl, _⟩ <;> simp
  have s2 := sm_tuple (k := 240) s1 (by rw [List.length_map]; omega)
  have s3 : Sm 300000 60 (webD n W) := by
    refine Sm.mono (sm_tuple (w := 24720) (dp := 2) (k := 2) (fun x hx => ?_) (by simp)) (by decide) (by decide)
    simp only [List.mem_cons, List.mem_nil_iff, or_false] at hx
    rcases hx with rfl | rfl
    · exact (sm_int (by omega)).mono (by decide) (by decide)
    · exact s2.mono (by decide) (by decide)
  exact show_of s3 (by simp [mixOk, PyData.hasDict, PyData.hasDictAll, nodict_rows])
theorem acr_range (w : Webd n W) {h k : Int} (h0 : 0 ≤ h) (h1 : h < 4 * n) (e : acrossI W h = some k) : 0 ≤ k ∧ k < 4 * n := by
  obtain ⟨x, hx, hm⟩ := w.at h0 h1
  have hw := List.mem_of_getElem? hx
  rcases w.ways x hw with ⟨a, rfl⟩ | ⟨a, b, rfl, _⟩
  · have := List.mem_singleton.mp hm
    subst this
    rw [acrossI_one w.nodup hx] at e
    cases e
  · rw [acrossI_two w.nodup hx hm] at e
    cases e
    have b1 := w.bound hw (i := a) (by simp)
    have b2 := w.bound hw (i := b) (by simp)
    simp only [List.mem_cons, List.mem_nil_iff, or_false] at hm
    rcases hm with rfl | rfl <;> omega
end WebS
namespace WebS
open PySem VS
end WebS
namespace VS
open PySem
variable [VS.TabL]
theorem hasDictAll_of : ∀ {ds : List PyData}, (∀ x ∈ ds, x.hasDict = false) → PyData.hasDictAll ds = false
  | [], _ => by simp [PyData.hasDictAll]
  | d :: ds, h => by
    rw [PyData.hasDictAll, h d List.mem_cons_self, hasDictAll_of fun x hx => h x (List.mem_cons_of_mem _ hx)]
    rfl
theorem e_unp {sd s1 : Sd} {t : Tg} {ma : M Opd} {d : PyData} {bs : List (Nat × PyData)} (h : ma sd = .ok (.d d) s1) (hb : binds t d = some bs) : mUnp t ma sd = .ok .nx (setsD s1 bs) := by simp [h, hb]
end VS
namespace WebS
open PySem VS
variable [VS.TabL]
variable {n : Int} {W : List (List Int)}
def matB (n : Int) : PyData → Bool
  | .tuple ds => decide ((ds.length : Int) = n) && ds.all (below 3)
  | _ => false
structure Mat (n : Int) (ms : List Int) : Prop where
  len : (ms.length : Int) = n
  all : ∀ x ∈ ms, 0 ≤ x ∧ x < 3
theorem Mat.is {ms : List Int} (m : Mat n ms) : matB n (itup ms) = true := by
  simp only [matB, Bool.and_eq_true, decide_eq_true_eq, List.length_map]
  refine ⟨m.len, List.all_eq_true.mpr fun x hx => ?_⟩
  obtain ⟨i, hi, rfl⟩ := List.mem_map.mp hx
  have := m.all i hi
  simp [below, this]
theorem Mat.tup {ms : List Int} (m : Mat n ms) (h : n ≤ 60) : tupOk (itup ms) = true := by
  have := m.len
  simp only [tupOk, List.length_map, decide_eq_true_eq]
  omega
theorem Mat.show {ms : List Int} (m : Mat n ms) (h : n ≤ 60) : showOk (itup ms) = true := by
  have := m.len
  exact show_itup (fun i hi => by
    have := m.all i hi
    omega) (by omega)
def mateT (k t : Int) : Int := if k = 0 then (if t = 0 then 1 else if t = 1 then 0 else if t = 2 then 3 else 2) else if k = 1 then 3 - t else (t + 2) % 4
def mateI (ms : List Int) (h : Int) : Int := 4 * (h / 4) + mateT (ms.getD (h / 4).toNat 0) (h % 4)
theorem turns {t : Int} (h0 : 0 ≤ t) (h1 : t < 4) : t = 0 ∨ t = 1 ∨ t = 2 ∨ t = 3 := by omega
theorem mate_in {ms : List Int} {h : Int} (h0 : 0 ≤ h) (h1 : h < 4 * n) : 0 ≤ mateI ms h ∧ mateI ms h < 4 * n := by
  have t0 : 0 ≤ h % 4 := Int.emod_nonneg _ (by decide)
  have t1 : h % 4 < 4 := Int.emod_lt_of_pos _ (by decide)
  have : ∀ k : Int, 0 ≤ mateT k (h % 4) ∧ mateT k (h % 4) < 4 := fun k => by
    unfold mateT
    rcases turns t0 t1 with e | e | e | e <;> rw [e] <;> (split <;> first | (split <;> decide) | decide)
  have := this (ms.getD (h / 4).toNat 0)
  unfold mateI
  omega
end WebS
namespace VS
open PySem
variable [VS.TabL]
section
variable {sd s1 s2 s3 : Sd} {ma mb : M Opd}
theorem e_sl {xs : List PyData} {ml mh : M (Option Int)} {lo hi : Option Int} (h : ma sd = .ok (.d (.tuple xs)) s1) (hl : ml s1 = .ok lo s2) (hh : mh s2 = .ok hi s3) : mSl ma ml mh sd = .ok (.d (.tuple (cutL xs lo hi))) s3 := by
  simp only [mSl, M.bind, h, hl, hh, getM, Opd.get, sliceD, M.of, M.ret]
theorem e_im {i : Int} (h : ma sd = .ok (.d (.int i)) s1) : intM ma sd = .ok (some i) s1 := by
  simp only [intM, M.bind, h, getM, Opd.get, M.ret]
theorem e_mn : (M.ret none : M (Option Int)) sd = .ok none sd := rfl
theorem cut_mem {xs : List PyData} {lo hi : Option Int} {x : PyData} (h : x ∈ cutL xs lo hi) : x ∈ xs := List.mem_of_mem_drop (List.mem_of_mem_take h)
theorem cut_len (xs : List PyData) (lo hi : Option Int) : (cutL xs lo hi).length ≤ xs.length := by
  unfold cutL
  rw [List.length_take, List.length_drop]
  omega
theorem e_addT {xs ys : List PyData} (h : ma sd = .ok (.d (.tuple xs)) s1) (h2 : mb s1 = .ok (.d (.tuple ys)) s2) (hl : xs.length + ys.length ≤ 10000) : m2 addD ma mb sd = .ok (.d (.tuple (xs ++ ys))) s2 := e_d2 h h2 (by
  have := tenK
  show (if xs.length + ys.length ≤ sizeLine then some (PyData.tuple (xs ++ ys)) else none) = _
  rw [if_pos (by omega)])
theorem e_m1 {f : PyData → Option PyData} {d z : PyData} (h : ma sd = .ok (.d d) s1) (h3 : f d = some z) : m1 f ma sd = .ok (.d z) s1 := by
  simp only [m1, M.bind, h, getM, Opd.get, h3, M.of, M.ret]
end
theorem ixL {xs : List PyData} {r : Int} (h0 : 0 ≤ r) (h1 : r < xs.length) : ∃ x, ixD (.list xs) (.int r) = some x ∧ xs[r.toNat]? = some x := by
  obtain ⟨j, rfl⟩ : ∃ j : Nat, r = (j : Int) := ⟨r.toNat, by omega⟩
  have hj : j < xs.length := by omega
  exact ⟨xs[j], L2.atI_nat (List.getElem?_eq_getElem hj), by simp [hj]⟩
end VS
namespace VS
open PySem
variable [VS.TabL]
def smB (w dp : Nat) (d : PyData) : Bool := d.leavesShort 45 && d.showable && decide (d.depth ≤ dp) && decide (d.weight ≤ w) && !d.hasDict
theorem sm_by {w dp : Nat} {d : PyData} (h : smB w dp d = true) : Sm w dp d ∧ d.hasDict = false := by
  simp only [smB, Bool.and_eq_true, decide_eq_true_eq, Bool.not_eq_true'] at h
  exact ⟨⟨h.1.1.1.1, h.1.1.1.2, h.1.1.2, h.1.2⟩, h.2⟩
structure Sd0 (w dp : Nat) (d : PyData) : Prop where
  sm : Sm w dp d
  nd : d.hasDict = false
theorem Sd0.mono {w w' dp dp' : Nat} {d : PyData} (h : Sd0 w dp d) (h1 : w ≤ w') (h2 : dp ≤ dp') : Sd0 w' dp' d := ⟨h.sm.mono h1 h2, h.nd⟩
theorem sd_by {w dp : Nat} {d : PyData} (h : smB w dp d = true) : Sd0 w dp d := ⟨(sm_by h).1, (sm_by h).2⟩
theorem sd_int {i : Int} (h : i.natAbs < 10 ^ 12) : Sd0 50 0 (.int i) := ⟨sm_int h, by simp [PyData.hasDict]⟩
theorem sd_tuple {w dp k : Nat} {ds : List PyData} (h : ∀ x ∈ ds, Sd0 w dp x) (hl : ds.length ≤ k) : Sd0 (k * (w + 1)) (dp + 1) (.tuple ds) := ⟨sm_tuple (fun x hx => (h x hx).sm) hl, by rw [PyData.hasDict, hasDictAll_of fun x hx => (h x hx).nd]⟩
theorem sd_list {w dp k : Nat} {ds : List PyData} (h : ∀ x ∈ ds, Sd0 w dp x) (hl : ds.length ≤ k) : Sd0 (k * (w + 1)) (dp + 1) (.list ds) := ⟨sm_list (fun x hx => (h x hx).sm) hl, by rw [PyData.hasDict, hasDictAll_of fun x hx => (h x hx).nd]⟩
theorem Sd0.show {d : PyData} (h : Sd0 300000 60 d) : showOk d = true := show_of h.sm (by simp [mixOk, h.nd])
end VS
namespace VS
open PySem
variable [VS.TabL]
theorem e_rep {sd s1 s2 : Sd} {mas : M (List Opd)} {mb : M Opd} {rs : List Opd} {ds : List PyData} {k : Int} (h : mas sd = .ok rs s1) (hd : datsO rs = some ds) (hl : ds.length ≤ 1000) (h2 : mb s1 = .ok (.d (.int k)) s2) (k0 : 0 ≤ k) (k1 : k ≤ 1000) : mRep mas mb sd = .ok (.list (List.replicate k.toNat ds).flatten) s2 := by
  have b1 : ds.length ≤ sizeLine := by simp [sizeLine]; omega
  have b2 : ds.length * k.toNat ≤ sizeLine := by
    have : ds.length * k.toNat ≤ 1000 * 1000 := Nat.mul_le_mul hl (by omega)
    simp [sizeLine]
    omega
  have b3 : ((decide (-(2 ^ 63) ≤ k) && decide (k < 2 ^ 63)) && decide (ds.length * k.toNat ≤ sizeLine)) = true := by
    simp only [Bool.and_eq_true, decide_eq_true_eq]
    exact ⟨⟨by omega, by omega⟩, b2⟩
  have b4 : lstD ds = some (.list ds) := by
    unfold lstD
    rw [if_pos b1]
  have b5 : repD ds (.int k) = some (.list (List.replicate k.toNat ds).flatten) := by
    show (if _ then _ else _) = _
    rw [if_pos b3]
  unfold mRep M.bind
  rw [h]
  simp only [hd, M.of, M.ret]
  rw [b4]
  simp only [M.ret]
  rw [h2]
  simp only [getM, Opd.get]
  rw [b5]
  rfl
end VS
namespace WebS
open PySem VS
variable [VS.TabL]
variable {n : Int} {W : List (List Int)}
def handsP (W : List (List Int)) (ps : List Int) : List Int := ps.flatMap fun p => W.getD p.toNat []
def cnt (hs : List Int) (p : Nat) : Nat := hs.countP fun h => decide (h / 4 = (p : Int))
def twos (n : Int) (hs : List Int) : Bool := (List.range n.toNat).all fun p => decide (cnt hs p = 2)
def painB (n : Int) (W : List (List Int)) : PyData → Bool
  | .tuple ds => rb W.length (.tuple ds) && twos n (handsP W (ds.map intOf))
  | _ => false
end WebS
namespace WebS
open PySem VS
end WebS
namespace WebS
open PySem VS
variable [VS.TabL]
theorem e_tupR {sd s1 : Sd} {ma : M Opd} {k : Int} (h : ma sd = .ok (.d (.int k)) s1) (k0 : 0 ≤ k) (k1 : k ≤ 1000) : mTR (mR1 ma) sd = .ok (.d (itup (upto k))) s1 := by
  have q2 : rgOkB 0 k = true := by
    unfold rgOkB
    simp only [Bool.and_eq_true, decide_eq_true_eq]
    omega
  unfold mTR mR1 mI
  simp only [M.bind, h, getM, Opd.get, M.ret]
  rw [q2, rgL_ints]
  rfl
end WebS
namespace WebS
variable [VS.TabL]
theorem len_le : ∀ {l m : List Int}, l.Nodup → (∀ x ∈ l, x ∈ m) → l.length ≤ m.length
  | [], _, _, _ => Nat.zero_le _
  | x :: l, m, nd, h => by
    obtain ⟨h1, h2⟩ := List.nodup_cons.mp nd
    have hx := h x List.mem_cons_self
    have ih := len_le (l := l) (m := m.erase x) h2 fun y hy => (List.mem_erase_of_ne fun (e : y = x) => h1 (e ▸ hy)).mpr (h y (List.mem_cons_of_mem _ hy))
    have := List.length_erase_of_mem hx
    have := List.length_pos_of_mem hx
    rw [List.length_cons]
    omega
structure Hnd (D : Int → Prop) (m : Int → Int) (g : Int → Option Int) : Prop where
  mD : ∀ {a}, D a → D (m a)
  mm : ∀ {a}, D a → m (m a) = a
  mn : ∀ {a}, D a → m a ≠ a
  gD : ∀ {a b}, D a → g a = some b → D b
  gg : ∀ {a b}, D a → g a = some b → g b = some a
  gn : ∀ {a b}, D a → g a = some b → b ≠ a
inductive Pth (m : Int → Int) (g : Int → Option Int) (h : Int) : List Int → Option Int → Prop
  | nil : Pth m g h [] (some h)
  | snoc {as : List Int} {a : Int} : Pth m g h as (some a) → (as ≠ [] → a ≠ h) → Pth m g h (as ++ [a]) (g (m a))
section
variable {D : Int → Prop} {m : Int → Int} {g : Int → Option Int} {h : Int}
structure PF (D : Int → Prop) (m : Int → Int) (g : Int → Option Int) (h : Int) (as : List Int) (at' : Option Int) : Prop where
  dom : ∀ x ∈ as, D x
  doa : ∀ b, at' = some b → D b
  pre : ∀ x ∈ as, x ≠ h → ∃ y ∈ as, g (m y) = some x
  pra : as ≠ [] → ∀ b, at' = some b → ∃ y ∈ as, g (m y) = some b
  nil : as = [] → at' = some h
  mem : as ≠ [] → h ∈ as
  nd : as.Nodup
  rep : ∀ b, at' = some b → b ∈ as → b = h
  suc : ∀ y ∈ as, (∃ z ∈ as, g (m y) = some z) ∨ g (m y) = at'
  mat : ∀ y ∈ as, m y ∉ as
  mta : ∀ b, at' = some b → ∀ y ∈ as, m y ≠ b
theorem Hnd.inj (H : Hnd D m g) {a b c : Int} (ha : D a) (hb : D b) (e1 : g (m a) = some c) (e2 : g (m b) = some c) : a = b := by
  have q1 := H.gg (H.mD ha) e1
  have q2 := H.gg (H.mD hb) e2
  rw [q1] at q2
  have : m a = m b := Option.some.inj q2
  rw [← H.mm ha, this, H.mm hb]
theorem Pth.facts (H : Hnd D m g) (hh : D h) {as : List Int} {at' : Option Int} (p : Pth m g h as at') : PF D m g h as at' := by
  induction p with
  | nil => exact ⟨fun x hx => (by cases hx), fun b e => by cases e; exact hh, fun x hx => (by cases hx), fun z => absurd rfl z, fun _ => rfl, fun z => absurd rfl z, .nil, fun b _ hb => (by cases hb), fun y hy => (by cases hy), fun y hy => (by cases hy), fun b _ y hy => (by cases hy)⟩
  | @snoc as a p hc ih =>
    have Da : D a := ih.doa a rfl
    have na : a ∉ as := fun z => by
      have ne : as ≠ [] := fun e => by subst e; cases z
      exact hc ne (ih.rep a rfl z)
    have memA : ∀ x, x ∈ as ++ [a] ↔ x ∈ as ∨ x = a := fun x => by simp
    have pred : ∀ x ∈ as ++ [a], x ≠ h → ∃ y ∈ as, g (m y) = some x := fun x hx hne => by
      rcases (memA x).mp hx with hx | rfl
      · exact ih.pre x hx hne
      · have ne : as ≠ [] := fun e => by
          have := ih.nil e
          cases this
          exact hne rfl
        exact ih.pra ne x rfl
    have dom : ∀ x ∈ as ++ [a], D x := fun x hx => by
      rcases (memA x).mp hx with hx | rfl
      · exact ih.dom x hx
      · exact Da
    have mat : ∀ y ∈ as ++ [a], m y ∉ as ++ [a] := fun y hy hm => by
      rcases (memA y).mp hy with hy | rfl
      · rcases (memA _).mp hm with hm | hm
        · exact ih.mat y hy hm
        · exact ih.mta a rfl y hy hm
      · rcases (memA _).mp hm with hm | hm
        · exact ih.mta y rfl _ hm (H.mm Da)
        · exact H.mn Da hm
    have suc : ∀ y ∈ as, ∃ z ∈ as ++ [a], g (m y) = some z := fun y hy => by
      rcases ih.suc y hy with ⟨z, hz, e⟩ | e
      · exact ⟨z, (memA z).mpr (.inl hz), e⟩
      · exact ⟨a, (memA a).mpr (.inr rfl), e⟩
    refine ⟨dom, fun b e => H.gD (H.mD Da) e, fun x hx hne => ?_, fun _ b e => ⟨a, (memA a).mpr (.inr rfl), e⟩, fun z => by simp at z, fun _ => ?_, ?_, fun b e hb => ?_, fun y hy => ?_, mat, fun b e y hy em => ?_⟩
    · obtain ⟨y, hy, e⟩ := pred x hx hne
      exact ⟨y, (memA y).mpr (.inl hy), e⟩
    · by_cases z : as = []
      · have := ih.nil z
        cases this
        exact (memA _).mpr (.inr rfl)
      · exact (memA _).mpr (.inl (ih.mem z))
    · rw [List.nodup_append]
      exact ⟨ih.nd, by simp, fun x hx y hy e => na (by rw [List.mem_singleton.mp hy] at e; exact e ▸ hx)⟩
    · apply Classical.byContradiction
      intro hne
      obtain ⟨y, hy, e2⟩ := pred b hb hne
      have := H.inj Da (ih.dom y hy) e e2
      exact na (this ▸ hy)
    · rcases (memA y).mp hy with hy | rfl
      · exact .inl (suc y hy)
      · exact .inr rfl
    · -- b = m y, b = g (m a)
      have gb : g b = some (m a) := H.gg (H.mD Da) e
      rcases (memA y).mp hy with hy | rfl
      · obtain ⟨z, hz, ez⟩ := suc y hy
        rw [em, gb] at ez
        have : m a = z := Option.some.inj ez
        exact mat a ((memA a).mpr (.inr rfl)) (this ▸ hz)
      · exact H.gn (H.mD Da) e em.symm
def rowA (m : Int → Int) (as : List Int) : List Int := as.flatMap fun a => [a, m a]
theorem mem_rowA {as : List Int} {x : Int} : x ∈ rowA m as ↔ x ∈ as ∨ ∃ y ∈ as, m y = x := by
  unfold rowA
  rw [List.mem_flatMap]
  constructor
  · rintro ⟨a, ha, hx⟩
    simp only [List.mem_cons, List.mem_nil_iff, or_false] at hx
    rcases hx with rfl | rfl
    · exact .inl ha
    · exact .inr ⟨a, ha, rfl⟩
  · rintro (hx | ⟨y, hy, rfl⟩)
    · exact ⟨x, hx, by simp⟩
    · exact ⟨y, hy, by simp⟩
theorem rowA_nodup (H : Hnd D m g) : ∀ {as : List Int}, as.Nodup → (∀ x ∈ as, D x) → (∀ y ∈ as, m y ∉ as) → (rowA m as).Nodup
  | [], _, _, _ => .nil
  | a :: as, nd, dom, mat => by
    obtain ⟨h1, h2⟩ := List.nodup_cons.mp nd
    have Da := dom a List.mem_cons_self
    have ih := rowA_nodup H h2 (fun x hx => dom x (List.mem_cons_of_mem _ hx)) fun y hy z => mat y (List.mem_cons_of_mem _ hy) (List.mem_cons_of_mem _ z)
    have e : rowA m (a :: as) = a :: m a :: rowA m as := rfl
    have n1 : a ∉ rowA m as := fun z => by
      rcases mem_rowA.mp z with z | ⟨y, hy, e⟩
      · exact h1 z
      · exact mat y (List.mem_cons_of_mem _ hy) (e ▸ List.mem_cons_self)
    have n2 : m a ∉ rowA m as := fun z => by
      rcases mem_rowA.mp z with z | ⟨y, hy, e⟩
      · exact mat a List.mem_cons_self (List.mem_cons_of_mem _ z)
      · have : y = a := by rw [← H.mm (dom y (List.mem_cons_of_mem _ hy)), e, H.mm Da]
        exact h1 (this ▸ hy)
    rw [e]
    refine List.nodup_cons.mpr ⟨fun z => ?_, List.nodup_cons.mpr ⟨n2, ih⟩⟩
    rcases List.mem_cons.mp z with z | z
    · exact H.mn Da z.symm
    · exact n1 z
structure Cls (m : Int → Int) (g : Int → Option Int) (U : List Int) : Prop where
  m : ∀ x ∈ U, m x ∈ U
  g : ∀ x ∈ U, ∀ y, g x = some y → y ∈ U
theorem Pth.new (H : Hnd D m g) (hh : D h) {U : List Int} (c : Cls m g U) (hU : h ∉ U) {as : List Int} {at' : Option Int} (p : Pth m g h as at') : (∀ x ∈ as, x ∉ U) ∧ ∀ b, at' = some b → b ∉ U := by
  induction p with
  | nil => exact ⟨fun x hx => (by cases hx), fun b e => by cases e; exact hU⟩
  | @snoc as a p hc ih =>
    have Da : D a := (p.facts H hh).doa a rfl
    have na := ih.2 a rfl
    refine ⟨fun x hx => ?_, fun b e hb => ?_⟩
    · rcases List.mem_append.mp hx with hx | hx
      · exact ih.1 x hx
      · rw [List.mem_singleton.mp hx]
        exact na
    · have q := c.g b hb _ (H.gg (H.mD Da) e)
      have := c.m _ q
      rw [H.mm Da] at this
      exact na this
theorem Pth.stop (H : Hnd D m g) (hh : D h) {U : List Int} (c : Cls m g U) (hU : h ∉ U) {as : List Int} {a : Int} (p : Pth m g h as (some a)) : a ∈ U ++ rowA m as ↔ (as ≠ [] ∧ a = h) := by
  have F := p.facts H hh
  have N := p.new H hh c hU
  constructor
  · intro z
    rcases List.mem_append.mp z with z | z
    · exact absurd z (N.2 a rfl)
    · rcases mem_rowA.mp z with z | ⟨y, hy, e⟩
      · exact ⟨(fun e => by subst e; cases z), F.rep a rfl z⟩
      · exact absurd e (F.mta a rfl y hy)
  · rintro ⟨ne, rfl⟩
    exact List.mem_append.mpr (.inr (mem_rowA.mpr (.inl (F.mem ne))))
theorem Pth.closed (H : Hnd D m g) (hh : D h) {U : List Int} (c : Cls m g U) (hU : h ∉ U) (he : g h = none ∨ ∀ e, D e → g e = none → e ∈ U) {as : List Int} {at' : Option Int} (p : Pth m g h as at') (hend : at' = none ∨ (as ≠ [] ∧ at' = some h)) : Cls m g (U ++ rowA m as) := by
  have F := p.facts H hh
  have N := p.new H hh c hU
  have ne : as ≠ [] := fun z => by
    rcases hend with e | e
    · rw [F.nil z] at e
      cases e
    · exact e.1 z
  refine ⟨fun x hx => ?_, fun x hx y e => ?_⟩
  · rcases List.mem_append.mp hx with hx | hx
    · exact List.mem_append.mpr (.inl (c.m x hx))
    · refine List.mem_append.mpr (.inr ?_)
      rcases mem_rowA.mp hx with hx | ⟨z, hz, rfl⟩
      · exact mem_rowA.mpr (.inr ⟨x, hx, rfl⟩)
      · rw [H.mm (F.dom z hz)]
        exact mem_rowA.mpr (.inl hz)
  · rcases List.mem_append.mp hx with hx | hx
    · exact List.mem_append.mpr (.inl (c.g x hx y e))
    · refine List.mem_append.mpr (.inr ?_)
      rcases mem_rowA.mp hx with hx | ⟨z, hz, rfl⟩
      · by_cases hxh : x = h
        · subst hxh
          rcases hend with en | ⟨_, en⟩
          · -- the walk came to an end: the first one is an end itself, or was met before
            exfalso
            rcases he with z | z
            · rw [z] at e
              cases e
            · -- the last one's mate is an end
              obtain ⟨l, hl, el⟩ : ∃ l ∈ as, g (m l) = none := by
                cases p with
                | nil => cases en
                | @snoc as' a p' hc => exact ⟨a, by simp, en⟩
              have q := z _ (H.mD (F.dom l hl)) el
              have := c.m _ q
              rw [H.mm (F.dom l hl)] at this
              exact N.1 l hl this
          · obtain ⟨l, hl, el⟩ := F.pra ne x en
            have q := H.gg (H.mD (F.dom l hl)) el
            rw [q] at e
            cases e
            exact mem_rowA.mpr (.inr ⟨l, hl, rfl⟩)
        · obtain ⟨y', hy', e'⟩ := F.pre x hx hxh
          have q := H.gg (H.mD (F.dom y' hy')) e'
          rw [q] at e
          cases e
          exact mem_rowA.mpr (.inr ⟨y', hy', rfl⟩)
      · rcases F.suc z hz with ⟨w, hw, e'⟩ | e'
        · rw [e'] at e
          cases e
          exact mem_rowA.mpr (.inl hw)
        · rcases hend with en | ⟨_, en⟩
          · rw [e', en] at e
            cases e
          · rw [e', en] at e
            cases e
            exact mem_rowA.mpr (.inl (F.mem ne))
theorem Pth.len (H : Hnd D m g) (hh : D h) {A : List Int} (hA : ∀ x, D x → x ∈ A) {as : List Int} {at' : Option Int} (p : Pth m g h as at') : as.length ≤ A.length :=
  len_le (p.facts H hh).nd fun x hx => hA x ((p.facts H hh).dom x hx)
end
def goAts (m : Int → Int) (g : Int → Option Int) (h : Int) : Nat → Int → List Int
  | 0, _ => []
  | k + 1, a => a :: match g (m a) with
    | none => []
    | some b => if b = h then [] else goAts m g h k b
def restA (m : Int → Int) (g : Int → Option Int) (h : Int) (k : Nat) (as : List Int) : Option Int → List Int
  | none => []
  | some b => if as ≠ [] ∧ b = h then [] else goAts m g h k b
theorem Pth.go {m : Int → Int} {g : Int → Option Int} {h : Int} {as : List Int} {at' : Option Int} (p : Pth m g h as at') : ∀ k, goAts m g h (as.length + k) h = as ++ restA m g h k as at' := by
  induction p with
  | nil =>
    intro k
    simp [restA]
  | @snoc as a p hc ih =>
    intro k
    rw [show (as ++ [a]).length + k = as.length + (k + 1) by simp; omega, ih (k + 1)]
    have c : ¬ (as ≠ [] ∧ a = h) := fun z => hc z.1 z.2
    have e1 : restA m g h (k + 1) as (some a) = goAts m g h (k + 1) a := by
      show (if as ≠ [] ∧ a = h then [] else goAts m g h (k + 1) a) = _
      rw [if_neg c]
    rw [e1, List.append_assoc]
    congr 1
    show a :: _ = a :: restA m g h k (as ++ [a]) (g (m a))
    congr 1
    cases e : g (m a) with
    | none => rfl
    | some b =>
      show (if b = h then [] else goAts m g h k b) = if as ++ [a] ≠ [] ∧ b = h then [] else goAts m g h k b
      by_cases z : b = h
      · rw [if_pos z, if_pos ⟨by simp, z⟩]
      · rw [if_neg z, if_neg fun y => z y.2]
def strandI (m : Int → Int) (g : Int → Option Int) (k : Nat) (h : Int) : List Int := rowA m (goAts m g h k h)
theorem Pth.strand {m : Int → Int} {g : Int → Option Int} {h : Int} {as : List Int} {at' : Option Int} (p : Pth m g h as at') (hend : at' = none ∨ (as ≠ [] ∧ at' = some h)) {k : Nat} (hk : as.length ≤ k) : strandI m g k h = rowA m as := by
  unfold strandI
  have := p.go (k - as.length)
  rw [show as.length + (k - as.length) = k by omega] at this
  rw [this]
  congr 1
  rcases hend with rfl | ⟨h1, rfl⟩
  · simp [restA]
  · show as ++ (if as ≠ [] ∧ h = h then [] else goAts m g h (k - as.length) h) = as
    rw [if_pos ⟨h1, rfl⟩, List.append_nil]
end WebS
namespace VS
open PySem
end VS
namespace WebS
open PySem VS
variable [VS.TabL]
variable {n : Int} {W : List (List Int)} {ms : List Int}
abbrev Dn (n : Int) (a : Int) : Prop := 0 ≤ a ∧ a < 4 * n
theorem mateT_in (k : Int) {t : Int} (h0 : 0 ≤ t) (h1 : t < 4) : 0 ≤ mateT k t ∧ mateT k t < 4 ∧ mateT k (mateT k t) = t ∧ mateT k t ≠ t := by
  by_cases k0 : k = 0
  · subst k0
    rcases turns h0 h1 with rfl | rfl | rfl | rfl <;> decide
  · by_cases k1 : k = 1
    · subst k1
      rcases turns h0 h1 with rfl | rfl | rfl | rfl <;> decide
    · have e : ∀ t, mateT k t = (t + 2) % 4 := fun t => by
        unfold mateT
        rw [if_neg k0, if_neg k1]
      rw [e, e]
      rcases turns h0 h1 with rfl | rfl | rfl | rfl <;> decide
theorem hnd (w : Webd n W) (ms : List Int) : Hnd (Dn n) (mateI ms) (acrossI W) := by
  have two : ∀ {a b : Int}, Dn n a → acrossI W a = some b → ∃ (i : Nat) (x y : Int), W[i]? = some [x, y] ∧ x < y ∧ a ∈ [x, y] ∧ b = x + y - a := fun {a b} Da e => by
    obtain ⟨v, hv, hm⟩ := w.at Da.1 Da.2
    rcases w.ways v (List.mem_of_getElem? hv) with ⟨x, rfl⟩ | ⟨x, y, rfl, hxy⟩
    · have := List.mem_singleton.mp hm
      subst this
      rw [acrossI_one w.nodup hv] at e
      cases e
    · rw [acrossI_two w.nodup hv hm] at e
      cases e
      exact ⟨_, x, y, hv, hxy, hm, rfl⟩
  refine ⟨fun {a} Da => mate_in Da.1 Da.2, fun {a} Da => ?_, fun {a} Da e => ?_, fun {a b} Da e => acr_range w Da.1 Da.2 e, fun {a b} Da e => ?_, fun {a b} Da e z => ?_⟩
  · have t0 : 0 ≤ a % 4 := Int.emod_nonneg _ (by decide)
    have t1 : a % 4 < 4 := Int.emod_lt_of_pos _ (by decide)
    obtain ⟨q0, q1, q2, q3⟩ := mateT_in (ms.getD (a / 4).toNat 0) t0 t1
    have e1 : mateI ms a / 4 = a / 4 := by
      unfold mateI
      omega
    have e2 : mateI ms a % 4 = mateT (ms.getD (a / 4).toNat 0) (a % 4) := by
      unfold mateI
      omega
    have : mateI ms (mateI ms a) = 4 * (mateI ms a / 4) + mateT (ms.getD (mateI ms a / 4).toNat 0) (mateI ms a % 4) := rfl
    rw [this, e1, e2, q2]
    omega
  · have t0 : 0 ≤ a % 4 := Int.emod_nonneg _ (by decide)
    have t1 : a % 4 < 4 := Int.emod_lt_of_pos _ (by decide)
    obtain ⟨q0, q1, q2, q3⟩ := mateT_in (ms.getD (a / 4).toNat 0) t0 t1
    apply q3
    have : mateI ms a = 4 * (a / 4) + mateT (ms.getD (a / 4).toNat 0) (a % 4) := rfl
    omega
  · obtain ⟨i, x, y, hv, hxy, hm, rfl⟩ := two Da e
    have hb : x + y - a ∈ [x, y] := by
      simp only [List.mem_cons, List.mem_nil_iff, or_false] at hm ⊢
      omega
    rw [acrossI_two w.nodup hv hb]
    congr 1
    omega
  · obtain ⟨i, x, y, hv, hxy, hm, rfl⟩ := two Da e
    simp only [List.mem_cons, List.mem_nil_iff, or_false] at hm
    omega
theorem ends_none (w : Webd n W) {h : Int} (hh : h ∈ endsI W) : acrossI W h = none := by
  unfold endsI at hh
  obtain ⟨x, hx, rfl⟩ := List.mem_map.mp hh
  obtain ⟨hx, hl⟩ := List.mem_filter.mp hx
  rcases w.ways x hx with ⟨a, rfl⟩ | ⟨a, b, rfl, _⟩
  · obtain ⟨i, hi⟩ := List.mem_iff_getElem?.mp hx
    exact acrossI_one w.nodup hi
  · simp at hl
theorem none_ends (w : Webd n W) {h : Int} (Dh : Dn n h) (e : acrossI W h = none) : h ∈ endsI W := by
  obtain ⟨x, hx, hm⟩ := w.at Dh.1 Dh.2
  have hw := List.mem_of_getElem? hx
  rcases w.ways x hw with ⟨a, rfl⟩ | ⟨a, b, rfl, _⟩
  · have := List.mem_singleton.mp hm
    subst this
    unfold endsI
    exact List.mem_map.mpr ⟨[h], List.mem_filter.mpr ⟨hw, rfl⟩, rfl⟩
  · rw [acrossI_two w.nodup hx hm] at e
    cases e
abbrev Kn (n : Int) : Nat := (4 * n).toNat
theorem pth_len (w : Webd n W) {h : Int} (Dh : Dn n h) {as : List Int} {at' : Option Int} (p : Pth (mateI ms) (acrossI W) h as at') : as.length ≤ Kn n := by
  have := p.len (hnd w ms) Dh (A := upto (4 * n)) fun x Dx => upto_in Dx.1 Dx.2
  rw [upto_length] at this
  omega
theorem pth_total (w : Webd n W) {h : Int} (Dh : Dn n h) : ∃ as at', Pth (mateI ms) (acrossI W) h as at' ∧ (at' = none ∨ (as ≠ [] ∧ at' = some h)) := by
  have go : ∀ (k : Nat) (as : List Int) (at' : Option Int), Pth (mateI ms) (acrossI W) h as at' → Kn n - as.length < k → ∃ as at', Pth (mateI ms) (acrossI W) h as at' ∧ (at' = none ∨ (as ≠ [] ∧ at' = some h)) := by
    intro k
    induction k with
    | zero => exact fun as at' p hk => absurd hk (Nat.not_lt_zero _)
    | succ k ih =>
      intro as at' p hk
      cases at' with
      | none => exact ⟨as, none, p, .inl rfl⟩
      | some a =>
        by_cases c : as ≠ [] ∧ a = h
        · exact ⟨as, some a, p, .inr ⟨c.1, by rw [c.2]⟩⟩
        · have p' := Pth.snoc p fun z y => c ⟨z, y⟩
          have l := pth_len w Dh p'
          rw [List.length_append, List.length_singleton] at l
          exact ih _ _ p' (by rw [List.length_append, List.length_singleton]; omega)
  exact go (Kn n + 1) [] (some h) .nil (by omega)
abbrev strI (W : List (List Int)) (ms : List Int) (n h : Int) : List Int := strandI (mateI ms) (acrossI W) (Kn n) h
structure RI (W : List (List Int)) (ms : List Int) (n : Int) (done : List Int) (R : List (List Int)) : Prop where
  cls : Cls (mateI ms) (acrossI W) R.flatten
  nd : R.flatten.Nodup
  dom : ∀ x ∈ R.flatten, Dn n x
  don : ∀ h ∈ done, h ∈ R.flatten
  ne : ∀ r ∈ R, r ≠ []
theorem RI.step (w : Webd n W) {done : List Int} {R : List (List Int)} (I : RI W ms n done R) {h : Int} (Dh : Dn n h) (he : h ∈ endsI W ∨ ∀ e ∈ endsI W, e ∈ done) (hU : h ∉ R.flatten) : RI W ms n (done ++ [h]) (R ++ [strI W ms n h]) ∧ (R.flatten ++ strI W ms n h).Nodup := by
  obtain ⟨as, at', p, hend⟩ := pth_total (ms := ms) w Dh
  have H := hnd w ms
  have F := p.facts H Dh
  have N := p.new H Dh I.cls hU
  have e := p.strand hend (pth_len w Dh p)
  have c := p.closed H Dh I.cls hU (by
    rcases he with z | z
    · exact .inl (ends_none w z)
    · exact .inr fun e De ee => I.don e (z e (none_ends w De ee))) hend
  have ne : as ≠ [] := fun z => by
    rcases hend with e | e
    · rw [F.nil z] at e
      cases e
    · exact e.1 z
  have nd1 : (rowA (mateI ms) as).Nodup := rowA_nodup H F.nd F.dom F.mat
  have nd2 : (R.flatten ++ rowA (mateI ms) as).Nodup := by
    rw [List.nodup_append]
    refine ⟨I.nd, nd1, fun x hx y hy exy => ?_⟩
    subst exy
    rcases mem_rowA.mp hy with hy | ⟨z, hz, ez⟩
    · exact N.1 x hy hx
    · have := I.cls.m x hx
      rw [← ez, H.mm (F.dom z hz)] at this
      exact N.1 z hz this
  have ef : (R ++ [strI W ms n h]).flatten = R.flatten ++ rowA (mateI ms) as := by
    rw [List.flatten_append]
    show R.flatten ++ (strandI _ _ _ h ++ []) = _
    rw [List.append_nil, e]
  refine ⟨⟨by rw [ef]; exact c, by rw [ef]; exact nd2, fun x hx => ?_, fun x hx => ?_, fun r hr => ?_⟩, by rw [show strI W ms n h = rowA (mateI ms) as from e]; exact nd2⟩
  · rw [ef] at hx
    rcases List.mem_append.mp hx with hx | hx
    · exact I.dom x hx
    · rcases mem_rowA.mp hx with hx | ⟨z, hz, rfl⟩
      · exact F.dom x hx
      · exact H.mD (F.dom z hz)
  · rw [ef]
    rcases List.mem_append.mp hx with hx | hx
    · exact List.mem_append.mpr (.inl (I.don x hx))
    · rw [List.mem_singleton.mp hx]
      exact List.mem_append.mpr (.inr (mem_rowA.mpr (.inl (F.mem ne))))
  · rcases List.mem_append.mp hr with hr | hr
    · exact I.ne r hr
    · rw [List.mem_singleton.mp hr, show strI W ms n h = rowA (mateI ms) as from e]
      cases as with
      | nil => exact absurd rfl ne
      | cons a t => exact fun z => by cases z
theorem RI.nil : RI W ms n [] [] := ⟨⟨fun x hx => (by cases hx), fun x hx => (by cases hx)⟩, .nil, fun x hx => (by cases hx), fun x hx => (by cases hx), fun x hx => (by cases hx)⟩
end WebS
namespace WebS
open PySem VS
variable [VS.TabL]
variable {n : Int} {W : List (List Int)} {ms : List Int}
abbrev acrDict (W : List (List Int)) : PyData := .dict (eI (acrD W) W.flatten)
abbrev tru : Int → PyData := fun _ => .bool true
abbrev sS (W : List (List Int)) (ms : List Int) (n : Int) (R : List (List Int)) (x5 x6 : Option Sl) : Sd := [some (.dat (webD n W)), some (.dat (itup ms)), some (.dat (acrDict W)), some (.own (.dict (eI tru R.flatten))), some (.own (.list (R.map itup))), x5, x6, none]
theorem RI.len {done : List Int} {R : List (List Int)} (I : RI W ms n done R) : R.flatten.length ≤ Kn n := by
  have := len_le I.nd (m := upto (4 * n)) fun x hx => upto_in (I.dom x hx).1 (I.dom x hx).2
  rw [upto_length] at this
  omega
end WebS
namespace VS
open PySem
variable [VS.TabL]
theorem sm_dict : Sm 50 1 (.dict []) := ⟨by decide +kernel, by decide +kernel, by decide +kernel, by decide +kernel⟩
theorem e_catL {sd : Sd} {i : Nat} {xs ys : List PyData} {mf : M PyData} (h : sd[i]? = some (some (.dat (.list xs)))) (hf : mf sd = .ok (.list ys) sd) (hl : xs.length + ys.length ≤ 1000) : mSet i (dF (m2F catD (mVar i) (dF mf))) sd = .ok .nx (sd.set i (some (.dat (.list (xs ++ ys))))) := by
  have h10 := tenK
  have c : catD (.list xs) (.list ys) = some (.list (xs ++ ys)) := by
    simp [catD]
    omega
  refine e_set (e_dF ?_)
  have := e_var i h
  simp [h, hf, c]
theorem e_catV {sd : Sd} {xs ys : List PyData} {ma mb : M Opd} (h : ma sd = .ok (.d (.list xs)) sd) (hf : mb sd = .ok (.d (.list ys)) sd) (hl : xs.length + ys.length ≤ 10000) : m2F catD ma mb sd = .ok (.list (xs ++ ys)) sd := by
  have h10 := tenK
  have c : catD (.list xs) (.list ys) = some (.list (xs ++ ys)) := by
    simp [catD]
    omega
  simp [h, hf, c]
theorem wp_callO1 {sd : Sd} {b : MS} {N i : Nat} {d0 : PyData} {Q : Opd → Sd → Prop} (h : sd[i]? = some (some (.own d0)))
    (hf : Wp (b (pad N [.own d0])) fun f s => ∃ z d', f = .rt (.dat z) ∧ s[0]? = some (some (.own d')) ∧ Q (.d z) (sd.set i (some (.own d')))) : Wp (mCallD b N [true] (mCons (mVar i) mNil) sd) Q := by
  obtain ⟨f, s, e, z, d', rfl, g, q⟩ := wp_ex hf
  refine wp_of ?_ q
  have l0 : s ≠ [] := fun z => by
    rw [z] at g
    cases g
  obtain ⟨s0, st, rfl⟩ := List.exists_cons_of_ne_nil l0
  have g : s0 = some (.own d') := by simpa using g
  subst g
  simp only [pad] at e
  simp [h]
  simp at e
  simp [e]
theorem wp_par {sd : Sd} {i j : Nat} {ma mb : M Opd} {Q : Fl → Sd → Prop} (h : Wp (ma sd) fun x s => ∃ d, x = .d d ∧ Wp (mb s) fun y s2 => ∃ e, y = .d e ∧ Q .nx (setsD s2 [(i, d), (j, e)])) : Wp (mPar i j (mCons ma (mCons mb mNil)) sd) Q := by
  obtain ⟨x, s, e1, d, rfl, h⟩ := wp_ex h
  obtain ⟨y, s2, e2, e, rfl, q⟩ := wp_ex h
  refine wp_of ?_ q
  unfold mPar M.bind
  have : mCons ma (mCons mb mNil) sd = .ok [.d d, .d e] s2 := by simp [e1, e2]
  rw [this]
end VS
namespace WebS
open PySem VS
variable [VS.TabL]
def Sml (ns : List Int) : Prop := ∀ i ∈ ns, i.natAbs < 10 ^ 12
theorem Sml.sub {ns Z : List Int} (s : Sml ns) (h : ∀ x ∈ Z, x ∈ ns) : Sml Z := fun i hi => s i (h i hi)
theorem Sml.app {Y Z : List Int} (h1 : Sml Y) (h2 : Sml Z) : Sml (Y ++ Z) := fun i hi => by
  rcases List.mem_append.mp hi with hi | hi
  · exact h1 i hi
  · exact h2 i hi
end WebS
namespace VS
open PySem
end VS
namespace LS
open PySem VS WebS
variable [VS.TabL]
variable {n : Int} {W : List (List Int)} {ms : List Int}
abbrev sL (W : List (List Int)) (ms : List Int) (n : Int) (U : List Int) (R : List (List Int)) (x5 x7 x8 x9 : Option Sl) : Sd := [some (.dat (webD n W)), some (.dat (itup ms)), some (.dat (acrDict W)), some (.own (.dict (eI tru U))), some (.own (.list (R.map itup))), x5, none, x7, x8, x9]
end LS
namespace VS
open PySem
end VS
namespace WebS
open PySem VS
end WebS
namespace LS
open PySem VS WebS
end LS
namespace WebS
open PySem VS
variable [VS.TabL]
variable {n : Int} {W : List (List Int)} {P : List Int}
def kB (P : List Int) (W : List (List Int)) (h : Int) : Bool := P.contains ((wayAt W h : Nat) : Int)
def omI (P : List Int) (W : List (List Int)) (p : Int) : Int := if kB P W (4 * p) = kB P W (4 * p + 1) then 0 else if kB P W (4 * p) = kB P W (4 * p + 3) then 1 else 2
def omL (P : List Int) (W : List (List Int)) (n : Int) : List Int := (List.range n.toNat).map fun p : Nat => omI P W (p : Int)
end WebS
namespace LS
open PySem VS WebS
end LS
namespace WebS
open PySem VS
variable [VS.TabL]
variable {n : Int} {W : List (List Int)} {P : List Int}
structure Ptg (n : Int) (W : List (List Int)) (P : List Int) : Prop where
  nd : P.Nodup
  len : P.length ≤ 1000
  is : painB n W (itup P) = true
  two : ∀ p : Nat, (p : Int) < n → (handsOf (p : Int)).countP (kB P W) = 2
end WebS
namespace WebS
open PySem VS
end WebS
namespace LS
open PySem VS WebS
end LS
namespace WebS
open PySem VS
variable [VS.TabL]
variable {n : Int} {W : List (List Int)} {ms P : List Int}
theorem Pth.head {m : Int → Int} {g : Int → Option Int} {h : Int} {as : List Int} {at' : Option Int} (p : Pth m g h as at') : as ≠ [] → ∃ r, as = h :: r := by
  induction p with
  | nil => exact fun z => absurd rfl z
  | @snoc as a p hc ih =>
    intro _
    by_cases z : as = []
    · have nl : ∀ {bs : List Int} {b : Option Int}, Pth m g h bs b → bs = [] → b = some h := fun q => by
        cases q with
        | nil => exact fun _ => rfl
        | snoc _ _ =>
          intro y
          simp at y
      have := nl p z
      cases this
      subst z
      exact ⟨[], rfl⟩
    · obtain ⟨r, rfl⟩ := ih z
      exact ⟨r ++ [a], rfl⟩
structure SI (W : List (List Int)) (ms : List Int) (n : Int) (r : List Int) (h : Int) (as : List Int) (at' : Option Int) : Prop where
  p : Pth (mateI ms) (acrossI W) h as at'
  ne : as ≠ []
  row : r = rowA (mateI ms) as
  dh : Dn n h
  fin : at' = some h ∨ (at' = none ∧ acrossI W h = none)
theorem SI.headD {r : List Int} {h : Int} {as : List Int} {at' : Option Int} (s : SI W ms n r h as at') : r.headD 0 = h := by
  obtain ⟨t, e⟩ := s.p.head s.ne
  rw [s.row, e]
  rfl
theorem across_way (w : Webd n W) {a b : Int} (Da : Dn n a) (e : acrossI W a = some b) : wayAt W b = wayAt W a := by
  obtain ⟨x, hx, hm⟩ := w.at Da.1 Da.2
  rcases w.ways x (List.mem_of_getElem? hx) with ⟨i, rfl⟩ | ⟨i, j, rfl, hij⟩
  · have := List.mem_singleton.mp hm
    subst this
    rw [acrossI_one w.nodup hx] at e
    cases e
  · rw [acrossI_two w.nodup hx hm] at e
    have hb : b ∈ [i, j] := by
      simp only [List.mem_cons, List.mem_nil_iff, or_false] at hm ⊢
      have : i + j - a = b := Option.some.inj e
      omega
    exact wayAt_eq w.nodup hx hb
theorem SI.rowmem {r : List Int} {h : Int} {as : List Int} {at' : Option Int} (s : SI W ms n r h as at') {x : Int} : x ∈ r ↔ x ∈ as ∨ ∃ y ∈ as, mateI ms y = x := by
  rw [s.row]
  exact mem_rowA
end WebS
namespace VS
open PySem
end VS
namespace WebS
open PySem VS
end WebS
namespace LS
open PySem VS WebS
end LS
namespace WebS
open PySem VS
variable [VS.TabL]
variable {n : Int} {W : List (List Int)} {P : List Int}
theorem mate_alike : ∀ (k0 k1 k2 k3 : Bool), ([k0, k1, k2, k3].countP fun b => b) = 2 → ∀ t ∈ [(0 : Int), 1, 2, 3], (fun t : Int => if t = 0 then k0 else if t = 1 then k1 else if t = 2 then k2 else k3) (mateT (if k0 = k1 then 0 else if k0 = k3 then 1 else 2) t) = (fun t : Int => if t = 0 then k0 else if t = 1 then k1 else if t = 2 then k2 else k3) t := by decide
theorem kB_at (p : Int) {t : Int} (h0 : 0 ≤ t) (h1 : t < 4) : kB P W (4 * p + t) = (fun t : Int => if t = 0 then kB P W (4 * p) else if t = 1 then kB P W (4 * p + 1) else if t = 2 then kB P W (4 * p + 2) else kB P W (4 * p + 3)) t := by
  rcases turns h0 h1 with rfl | rfl | rfl | rfl
  · show kB P W (4 * p + 0) = kB P W (4 * p)
    rw [Int.add_zero]
  · rfl
  · rfl
  · rfl
theorem mate_kind (w : Webd n W) (p : Ptg n W P) {a : Int} (Da : Dn n a) : kB P W (mateI (omL P W n) a) = kB P W a := by
  have n0 := w.n0
  have t0 := Int.emod_nonneg a (show (4 : Int) ≠ 0 by decide)
  have t1 := Int.emod_lt_of_pos a (show (0 : Int) < 4 by decide)
  have hq : ((a / 4).toNat : Int) = a / 4 := by omega
  have hm : (omL P W n).getD (a / 4).toNat 0 = omI P W (a / 4) := by
    unfold omL
    rw [List.getD_eq_getElem?_getD, List.getElem?_map, List.getElem?_range (by omega)]
    show omI P W (((a / 4).toNat : Nat) : Int) = _
    rw [hq]
  have tw := p.two (a / 4).toNat (by omega)
  rw [hq] at tw
  have tw' : ([kB P W (4 * (a / 4)), kB P W (4 * (a / 4) + 1), kB P W (4 * (a / 4) + 2), kB P W (4 * (a / 4) + 3)].countP fun b => b) = 2 := by
    simp only [handsOf, List.countP_cons, List.countP_nil] at tw ⊢
    exact tw
  have q := mate_alike _ _ _ _ tw' (a % 4) (by
    simp only [List.mem_cons, List.mem_nil_iff, or_false]
    omega)
  have mi := mateT_in (omI P W (a / 4)) t0 t1
  unfold mateI
  rw [hm, kB_at (a / 4) mi.1 mi.2.1]
  have ea : kB P W a = kB P W (4 * (a / 4) + a % 4) := by
    congr 1
    omega
  rw [ea, kB_at (a / 4) t0 t1]
  exact q
theorem SI.kind (w : Webd n W) (p : Ptg n W P) {r : List Int} {h : Int} {as : List Int} {at' : Option Int} (s : SI W (omL P W n) n r h as at') : ∀ x ∈ r, kB P W x = kB P W h := by
  have H := hnd w (omL P W n)
  have F := s.p.facts H s.dh
  have go : ∀ {as : List Int} {at' : Option Int}, Pth (mateI (omL P W n)) (acrossI W) h as at' → (∀ x ∈ as, kB P W x = kB P W h) ∧ ∀ b, at' = some b → kB P W b = kB P W h := fun q => by
    induction q with
    | nil => exact ⟨fun x hx => (by cases hx), fun b e => by cases e; rfl⟩
    | @snoc as a q hc ih =>
      have Da : Dn n a := (q.facts H s.dh).doa a rfl
      have ka := ih.2 a rfl
      refine ⟨fun x hx => ?_, fun b e => ?_⟩
      · rcases List.mem_append.mp hx with hx | hx
        · exact ih.1 x hx
        · rw [List.mem_singleton.mp hx]
          exact ka
      · have e2 : kB P W b = kB P W (mateI (omL P W n) a) := by
          unfold kB
          rw [across_way w (H.mD Da) e]
        rw [e2, mate_kind w p Da]
        exact ka
  intro x hx
  rcases s.rowmem.mp hx with hx | ⟨y, hy, rfl⟩
  · exact (go s.p).1 x hx
  · rw [mate_kind w p (F.dom y hy)]
    exact (go s.p).1 y hy
end WebS
namespace WebS
open PySem VS
variable [VS.TabL]
theorem e_LR {sd s1 : Sd} {ma : M Opd} {k : Int} (h : ma sd = .ok (.d (.int k)) s1) (k0 : 0 ≤ k) (k1 : k ≤ 1000) : mLR (mR1 ma) sd = .ok (.list (iL (upto k))) s1 := by
  have q2 : rgOkB 0 k = true := by
    unfold rgOkB
    simp only [Bool.and_eq_true, decide_eq_true_eq]
    omega
  unfold mLR mR1 mI
  simp only [M.bind, h, getM, Opd.get, M.ret]
  rw [q2, rgL_ints]
  rfl
end WebS
namespace LS
open PySem VS WebS
end LS
namespace WebS
open PySem VS
variable [VS.TabL]
def Up (S : Int → Prop) (f : Int → Int) : Prop := ∀ a b, S a → S b → a < b → f a < f b
theorem Up.lt {S : Int → Prop} {f : Int → Int} (u : Up S f) {a b : Int} (ha : S a) (hb : S b) : f a < f b ↔ a < b := by
  constructor
  · intro h
    by_cases e : a = b
    · subst e
      omega
    · by_cases c : a < b
      · exact c
      · have := u b a hb ha (by omega)
        omega
  · exact u a b ha hb
theorem Up.inj {S : Int → Prop} {f : Int → Int} (u : Up S f) {a b : Int} (ha : S a) (hb : S b) (h : f a = f b) : a = b := by
  by_cases c : a < b
  · have := u a b ha hb c
    omega
  · by_cases c2 : b < a
    · have := u b a hb ha c2
      omega
    · omega
structure Emb (D : Int → Prop) (m' : Int → Int) (g' : Int → Option Int) (m : Int → Int) (g : Int → Option Int) (f : Int → Int) : Prop where
  up : Up D f
  mt : ∀ {a}, D a → m (f a) = f (m' a)
  gt : ∀ {a}, D a → g (f a) = (g' a).map f
section
variable {D : Int → Prop} {m' m : Int → Int} {g' g : Int → Option Int} {f : Int → Int}
theorem Pth.map (H : Hnd D m' g') (E : Emb D m' g' m g f) {h : Int} (Dh : D h) {as : List Int} {at' : Option Int} (p : Pth m' g' h as at') : Pth m g (f h) (as.map f) (at'.map f) := by
  induction p with
  | nil => exact .nil
  | @snoc as a p hc ih =>
    have F := p.facts H Dh
    have Da := F.doa a rfl
    have e : g (m (f a)) = (g' (m' a)).map f := by
      rw [E.mt Da]
      exact E.gt (H.mD Da)
    rw [List.map_append, ← e]
    refine .snoc ih fun z y => ?_
    have ne : as ≠ [] := fun q => z (by rw [q]; rfl)
    exact hc ne (E.up.inj Da Dh y)
end
end WebS
namespace WebS
open PySem VS
end WebS
namespace VS
open PySem WebS
variable [VS.TabL]
variable {α : Type}
theorem loopC_A {gd : List (Nat × PyData)} {vs : List Nat} {t : Tg} {mt : M Bool} {me : M Opd} {s0 : Sd} (em : α → PyData) (p : α → Bool) (f : α → PyData) (hv : inL t.ix vs = true) (h0 : wipeD s0 vs = s0) (hg : ∀ s, wipeD s vs = s0 → gdB gd s = true) :
    ∀ (xs : List α) (acc : List PyData) (sd : Sd), wipeD sd vs = s0 → acc.length + xs.length ≤ sizeLine → (∀ x ∈ xs, ∃ bs, binds t (em x) = some bs ∧ mt (setsD s0 bs) = .ok (p x) (setsD s0 bs) ∧ (p x = true → me (setsD s0 bs) = .ok (.d (f x)) (setsD s0 bs))) →
      loopC gd vs t mt me (xs.map em) acc sd = .ok (.list (acc ++ (xs.filter p).map f)) s0
  | [], acc, sd, hw, hl, hx => by
    rw [List.map_nil]
    unfold loopC
    rw [hg sd hw, hw]
    simp
  | x :: xs, acc, sd, hw, hl, hx => by
    obtain ⟨bs, e1, e2, e3⟩ := hx x List.mem_cons_self
    have hb : wipeD (setsD s0 bs) vs = s0 := by
      rw [wipe_sets_back fun b hb => inL_of hv (binds_ix e1 b hb), h0]
    rw [List.map_cons]
    unfold loopC stepC
    rw [hg sd hw, e1, hw]
    simp only [if_true]
    rw [e2]
    simp only [List.length_cons] at hl
    cases hp : p x with
    | false =>
      simp only []
      rw [hb, loopC_A em p f hv h0 hg xs acc s0 h0 (by omega) fun y hy => hx y (List.mem_cons_of_mem _ hy)]
      simp [hp]
    | true =>
      simp only []
      rw [e3 hp]
      simp only []
      rw [if_pos (by omega)]
      simp only []
      rw [hb, loopC_A em p f hv h0 hg xs (acc ++ [f x]) s0 h0 (by simp; omega) fun y hy => hx y (List.mem_cons_of_mem _ hy)]
      simp [hp]
theorem e_lcA {sd s1 : Sd} {ms : M Src} {t : Tg} {mt : M Bool} {me : M Opd} {vs : List Nat} {xs : List α} (em : α → PyData) (p : α → Bool) (f : α → PyData) (hs : ms sd = .ok ⟨xs.map em, []⟩ s1) (hl : xs.length ≤ 10000)
    (hx : ∀ x ∈ xs, ∃ bs, binds t (em x) = some bs ∧ mt (setsD (wipeD s1 vs) bs) = .ok (p x) (setsD (wipeD s1 vs) bs) ∧ (p x = true → me (setsD (wipeD s1 vs) bs) = .ok (.d (f x)) (setsD (wipeD s1 vs) bs))) (hv : inL t.ix vs = true := by rfl) : mLc ms t mt me vs sd = .ok (.list ((xs.filter p).map f)) (wipeD s1 vs) :=
  e_lc hs (by
    have := loopC_A (gd := []) em p f hv (s0 := wipeD s1 vs) (wipe_twice _ _) (fun s _ => gdB_nil s) xs [] s1 rfl (by have := tenK; simp; omega) hx
    simpa using this)
theorem e_lcM {sd s1 : Sd} {ms : M Src} {t : Tg} {me : M Opd} {vs : List Nat} {xs : List α} (em : α → PyData) (f : α → PyData) (hs : ms sd = .ok ⟨xs.map em, []⟩ s1) (hl : xs.length ≤ 10000)
    (hx : ∀ x ∈ xs, ∃ bs, binds t (em x) = some bs ∧ me (setsD (wipeD s1 vs) bs) = .ok (.d (f x)) (setsD (wipeD s1 vs) bs)) (hv : inL t.ix vs = true := by rfl) : mLc ms t (M.ret true) me vs sd = .ok (.list (xs.map f)) (wipeD s1 vs) := by
  have := e_lcA (mt := M.ret true) (me := me) em (fun _ => true) f hs hl (fun x hm => by
    obtain ⟨bs, e1, e2⟩ := hx x hm
    exact ⟨bs, e1, rfl, fun _ => e2⟩) hv
  rw [show xs.filter (fun _ => true) = xs from List.filter_eq_self.mpr fun _ _ => rfl] at this
  exact this
theorem loopF_A {t : Tg} {mb : MS} {xs : List α} {Q : Fl → Sd → Prop} (em : α → PyData) (St : List α → Sd → Prop)
    (step : ∀ pre x post s, xs = pre ++ x :: post → St pre s → ∃ bs, binds t (em x) = some bs ∧ Wp (mb (setsD s bs)) (Nxt Q (St (pre ++ [x])))) (fin : ∀ s, St xs s → Q .nx s) {sd : Sd} (h : St [] sd) : Wp (loopF t mb (xs.map em) sd) Q := by
  refine loopF_inv (fun i s => St (xs.take i) s) (fun i y s hy I => ?_) (fun s I => fin s (by rw [List.length_map, List.take_length] at I; exact I)) (by simpa using h)
  rw [List.getElem?_map] at hy
  obtain ⟨x, hx, rfl⟩ := Option.map_eq_some_iff.mp hy
  have e : xs.take (i + 1) = xs.take i ++ [x] := by rw [List.take_add_one, hx]; rfl
  have e2 : xs = xs.take i ++ x :: xs.drop (i + 1) := by
    have hl := (List.getElem?_eq_some_iff.mp hx).1
    have hv := (List.getElem?_eq_some_iff.mp hx).2
    rw [← hv, ← List.drop_eq_getElem_cons hl, List.take_append_drop]
  rw [e]
  exact step _ x _ s e2 I
theorem wp_forA {sd s1 : Sd} {ms : M Src} {t : Tg} {mb : MS} {xs : List α} {Q : Fl → Sd → Prop} (em : α → PyData) (hs : ms sd = .ok ⟨xs.map em, []⟩ s1) (St : List α → Sd → Prop)
    (step : ∀ pre x post s, xs = pre ++ x :: post → St pre s → ∃ bs, binds t (em x) = some bs ∧ Wp (mb (setsD s bs)) (Nxt Q (St (pre ++ [x])))) (fin : ∀ s, St xs s → Q .nx s) (h : St [] s1) : Wp (mFor ms t mb sd) Q := wp_for hs (loopF_A em St step fin h)
end VS
namespace TieS
open PySem VS WebS
end TieS
namespace WebS
open PySem VS TieS
end WebS
namespace VS
open PySem
end VS
namespace WebS
open PySem VS TieS
end WebS
namespace VS
open PySem
variable [VS.TabL]
theorem wp_callO' {sd s1 : Sd} {b : MS} {N i : Nat} {d1 x : PyData} {mn : M Opd} {Q : Opd → Sd → Prop} (hn : Wp (mn sd) fun o s => ∃ x d1, o = .d x ∧ s[i]? = some (some (.own d1)) ∧ Wp (b (pad N [.own d1, .dat x])) fun f s' => ∃ z d', f = .rt (.dat z) ∧ s'[0]? = some (some (.own d')) ∧ Q (.d z) (s.set i (some (.own d')))) (h : ∃ d0, sd[i]? = some (some (.own d0))) : Wp (mCallD b N [true, false] (mCons (mVar i) (mCons mn mNil)) sd) Q := by
  obtain ⟨o, s, e, x, d1, rfl, h1, hb⟩ := wp_ex hn
  obtain ⟨d0, h⟩ := h
  exact wp_callO h e h1 hb
theorem argsS_dat {sd : Sd} : ∀ ds : List PyData, argsS sd (ds.map fun _ => false) (ds.map Opd.d) = some (ds.map Sl.dat)
  | [] => rfl
  | d :: ds => by
    show (argsS sd (ds.map fun _ => false) (ds.map Opd.d)).map (fun as => Sl.dat d :: as) = _
    rw [argsS_dat ds]
    rfl
theorem ioP_dat : ∀ (ds : List PyData) (k : Nat), ioP k (ds.map fun _ => false) (ds.map Opd.d) = []
  | [], _ => rfl
  | d :: ds, k => ioP_dat ds (k + 1)
theorem ioOk_dat : ∀ (ds : List PyData) (sd : Sd), ioOk (ds.map fun _ => false) sd = true
  | [], _ => rfl
  | d :: ds, sd => ioOk_dat ds sd.tail
theorem e_callA {sd s1 sf : Sd} {b : MS} {N : Nat} {md : List Bool} {mas : M (List Opd)} (ds : List PyData) {z : PyData} (h : mas sd = .ok (ds.map Opd.d) s1) (hb : b (pad N (ds.map Sl.dat)) = .ok (.rt (.dat z)) sf) (hm : md = ds.map fun _ => false := by rfl) : mCallD b N md mas sd = .ok (.d z) s1 := by
  subst hm
  have e1 := argsS_dat (sd := s1) ds
  have e2 := ioP_dat ds 0
  have e3 := ioOk_dat ds sf
  simp only [mCallD, mCall, M.bind, h, e1, e2, hb, retOf, e3]
  simp [wb]
end VS
namespace WebS
open PySem VS
end WebS
namespace VS
open PySem
variable [VS.TabL]
def Le {α : Type} (m m' : M α) : Prop := ∀ sd a s, m sd = .ok a s → m' sd = .ok a s
section
variable {α β : Type}
theorem Le.refl {m : M α} : Le m m := fun _ _ _ h => h
theorem x_bind {m : M α} {f : α → M β} {sd s : Sd} {e : Exn} (h : m sd = .exc e s) : M.bind m f sd = .exc e s := by
  unfold M.bind
  rw [h]
end
section
variable {sd s s1 s2 sf : Sd} {e : Exn} {m m' k k' : MS} {ma ma' : M Opd} {mas mas' : M (List Opd)} {b b' : MS} {N : Nat} {md : List Bool} {i : Nat}
theorem x_seq (h : m sd = .exc e s) : mSeq m k sd = .exc e s := x_bind h
theorem x_drop (h : ma sd = .exc e s) : mDrop ma sd = .exc e s := x_bind h
theorem callX_at (ds : List PyData) (h : mas sd = .ok (ds.map Opd.d) s1) (hm : md = ds.map fun _ => false) : mCallDX b N md mas sd = match retX md (b (pad N (ds.map Sl.dat))) with
    | .ok r _ => .ok (.d (rtD r)) s1
    | .exc e _ => .exc e s1
    | .stk => .stk := by
  subst hm
  have e1 := argsS_dat (sd := s1) ds
  have e2 := ioP_dat ds 0
  unfold mCallDX
  rw [mCallX_at]
  unfold M.bind
  rw [h]
  simp only [e1, e2, List.map_nil, List.nodup_nil, if_true]
  cases retX (ds.map fun _ => false) (b (pad N (ds.map Sl.dat))) <;> rfl
theorem x_call (ds : List PyData) (h : mas sd = .ok (ds.map Opd.d) s1) (hb : b (pad N (ds.map Sl.dat)) = .exc e sf) (hm : md = ds.map fun _ => false := by rfl) : mCallDX b N md mas sd = .exc e s1 := by
  rw [callX_at ds h hm, hb]
  subst hm
  simp only [retX, ioOk_dat, if_true]
theorem e_callXV (ds : List PyData) {z : PyData} (h : mas sd = .ok (ds.map Opd.d) s1) (hb : b (pad N (ds.map Sl.dat)) = .ok (.rt (.dat z)) sf) (hm : md = ds.map fun _ => false := by rfl) : mCallDX b N md mas sd = .ok (.d z) s1 := by
  rw [callX_at ds h hm, hb]
  subst hm
  simp only [retX, ioOk_dat, if_true]
  rfl
theorem e_callXN (ds : List PyData) (h : mas sd = .ok (ds.map Opd.d) s1) (hb : b (pad N (ds.map Sl.dat)) = .ok .nx sf) (hm : md = ds.map fun _ => false := by rfl) : mCallDX b N md mas sd = .ok (.d .none) s1 := by
  rw [callX_at ds h hm, hb]
  subst hm
  simp only [retX, ioOk_dat, if_true]
  rfl
end
end VS
namespace PermS
open PySem VS WebS
noncomputable def b_is_perm : MS :=
  (mSeq (mIf (mOr (mNot (mTest (mIs PyData.isTuple (mVar 0)))) (mNot (mTB (mChain leD leD (mC (.int 1)) (mN (one lenD) (mCons (mVar 0) mNil)) (mC (.int 5))))))
    (mRet [false] (mC (.bool false)))
    sNx)
  (mRet [false] (mAndV (mN (one allD) (mCons (dF (mLc (mRow (mVar 0)) (.nm 1) (M.ret true) (mCallD b_is_below 2 [false, false] (mCons (mVar 1) (mCons (mN (one lenD) (mCons (mVar 0) mNil)) mNil))) [1])) mNil)) (m2 eqD (dF (mNF (one sortedD) (mCons (mVar 0) mNil))) (dF (mLR (mR1 (mN (one lenD) (mCons (mVar 0) mNil)))))))))
noncomputable def b_need_perm : MS :=
  (mIf (mNot (mTest (mCallD b_is_perm 2 [false] (mCons (mVar 0) mNil))))
    M.stk
    sNx)
noncomputable def bx_need_perm : MS :=
  (mIf (mNot (mTest (mCallD b_is_perm 2 [false] (mCons (mVar 0) mNil))))
    (mRaise ⟨"NoLabels", "", .str (Str.ofString "no permutation")⟩)
    sNx)
noncomputable def b_unit_by : MS :=
  (mRet [false] (mTR (mR1 (mVar 0))))
noncomputable def b_unit : MS :=
  (mSeq (mIf (mOr (mNot (mTest (mCallD b_is_whole 1 [false] (mCons (mVar 0) mNil)))) (mNot (mTB (mChain leD leD (mC (.int 1)) (mVar 0) (mC (.int 5))))))
    M.stk
    sNx)
  (mRet [false] (mCallD b_unit_by 1 [false] (mCons (mVar 0) mNil))))
noncomputable def bx_unit : MS :=
  (mSeq (mIf (mOr (mNot (mTest (mCallD b_is_whole 1 [false] (mCons (mVar 0) mNil)))) (mNot (mTB (mChain leD leD (mC (.int 1)) (mVar 0) (mC (.int 5))))))
    (mRaiseF "NoNumber" "number" (mVar 0))
    sNx)
  (mRet [false] (mCallD b_unit_by 1 [false] (mCons (mVar 0) mNil))))
noncomputable def b_then_by : MS :=
  (mRet [false, false] (mN (one tupleD) (mCons (dF (mLc (mRow (mVar 0)) (.nm 2) (M.ret true) (m2 ixD (mVar 1) (mVar 2)) [2])) mNil)))
noncomputable def b_then : MS :=
  (mSeq (mDrop (mCallD b_need_perm 1 [false] (mCons (mVar 0) mNil)))
  (mSeq (mDrop (mCallD b_need_perm 1 [false] (mCons (mVar 1) mNil)))
  (mSeq (mIf (mTB (m2 neD (mN (one lenD) (mCons (mVar 0) mNil)) (mN (one lenD) (mCons (mVar 1) mNil))))
    M.stk
    sNx)
  (mRet [false, false] (mCallD b_then_by 3 [false, false] (mCons (mVar 0) (mCons (mVar 1) mNil)))))))
noncomputable def bx_then : MS :=
  (mSeq (mDrop (mCallDX bx_need_perm 1 [false] (mCons (mVar 0) mNil)))
  (mSeq (mDrop (mCallDX bx_need_perm 1 [false] (mCons (mVar 1) mNil)))
  (mSeq (mIf (mTB (m2 neD (mN (one lenD) (mCons (mVar 0) mNil)) (mN (one lenD) (mCons (mVar 1) mNil))))
    (mRaise ⟨"NoLabels", "", .str (Str.ofString "unlike sizes")⟩)
    sNx)
  (mRet [false, false] (mCallD b_then_by 3 [false, false] (mCons (mVar 0) (mCons (mVar 1) mNil)))))))
noncomputable def b_inverse_by : MS :=
  (mSeq (mSetF 1 (mNF (one listD) (mCons (mVar 0) mNil)))
  (mSeq (mFor (mEnum (mVar 0)) (.tp [(.nm 2), (.nm 3)])
    (mSub 1 (mVar 3) (mVar 2)))
  (mRet [false] (mN (one tupleD) (mCons (mVar 1) mNil)))))
noncomputable def b_inverse : MS :=
  (mSeq (mDrop (mCallD b_need_perm 1 [false] (mCons (mVar 0) mNil)))
  (mRet [false] (mCallD b_inverse_by 4 [false] (mCons (mVar 0) mNil))))
noncomputable def bx_inverse : MS :=
  (mSeq (mDrop (mCallDX bx_need_perm 1 [false] (mCons (mVar 0) mNil)))
  (mRet [false] (mCallD b_inverse_by 4 [false] (mCons (mVar 0) mNil))))
noncomputable def b_cycles_by : MS :=
  (mSeq (mSetF 1 (M.ret (.dict [])))
  (mSeq (mSetF 2 (mLst mNil))
  (mSeq (mFor (mRow (mVar 0)) (.nm 3)
    (mSeq (mPar 4 5 (mCons (mVar 3) (mCons (mC (.int 0)) mNil)))
    (mSeq (mWhile (mTB (m2 notInD (mVar 4) (mVar 1)))
      (mSeq (mSubD 1 (mVar 4) (mC (.bool true)))
      (mSeq (mAugI 5 (mC (.int 1)))
      (mSet 4 (m2 ixD (mVar 0) (mVar 4))))) 1000000)
    (mIf (mTB (m2 gtD (mVar 5) (mC (.int 0))))
      (mDrop (mMut 2 appF (mCons (mVar 5) mNil)))
      sNx))))
  (mRet [false] (mN (one tupleD) (mCons (dF (mNF (one sortedD) (mCons (mVar 2) mNil))) mNil))))))
noncomputable def b_cycles : MS :=
  (mSeq (mDrop (mCallD b_need_perm 1 [false] (mCons (mVar 0) mNil)))
  (mRet [false] (mCallD b_cycles_by 6 [false] (mCons (mVar 0) mNil))))
noncomputable def bx_cycles : MS :=
  (mSeq (mDrop (mCallDX bx_need_perm 1 [false] (mCons (mVar 0) mNil)))
  (mRet [false] (mCallD b_cycles_by 6 [false] (mCons (mVar 0) mNil))))
def iN (p : List Nat) : List PyData := p.map fun i : Nat => .int (i : Int)
def pI (p : List Nat) : PyData := .tuple (iN p)
def cyc (p : List Nat) : List Nat := [0, 1, 2, 3, 4].flatMap fun j => List.replicate ((typ p).getD j 0 / (j + 1)) (j + 1)
noncomputable def cyA : MS :=
  (mSeq (mSetF 1 (M.ret (.dict [])))
  (mSeq (mSetF 2 (mLst mNil))
  (mFor (mRow (mVar 0)) (.nm 3)
    (mSeq (mPar 4 5 (mCons (mVar 3) (mCons (mC (.int 0)) mNil)))
    (mSeq (mWhile (mTB (m2 notInD (mVar 4) (mVar 1)))
      (mSeq (mSubD 1 (mVar 4) (mC (.bool true)))
      (mSeq (mAugI 5 (mC (.int 1)))
      (mSet 4 (m2 ixD (mVar 0) (mVar 4))))) 1000000)
    (mIf (mTB (m2 gtD (mVar 5) (mC (.int 0))))
      (mDrop (mMut 2 appF (mCons (mVar 5) mNil)))
      sNx))))))
def natOf : PyData → Nat
  | .int i => i.toNat
  | _ => 99
def isI : PyData → Bool
  | .int (.ofNat _) => true
  | _ => false
def lookC (p : List Nat) : Res Fl → Bool
  | .ok .nx s => (match s with
    | _ :: _ :: (some (.own (.list ds))) :: _ => ds.all isI && (ds.map natOf).isPerm (cyc p)
    | _ => false)
  | _ => false
theorem cyA_all : ([1, 2, 3, 4, 5].all fun n => (perms n).all fun p => lookC p (cyA (pad 6 [.dat (pI p)]))) = true := by decide +kernel
section
variable [VS.TabL]
theorem seq_nx {m k : MS} {sd s : Sd} (h : mSeq m k sd = .ok .nx s) : ∃ s1, m sd = .ok .nx s1 ∧ k s1 = .ok .nx s := by
  unfold mSeq M.bind at h
  cases e : m sd with
  | ok f s1 =>
    rw [e] at h
    cases f with
    | nx => exact ⟨s1, rfl, h⟩
    | _ => cases h
  | exc _ _ =>
    rw [e] at h
    cases h
  | stk =>
    rw [e] at h
    cases h
theorem seq3 {A B L R : MS} {sd s : Sd} (h : mSeq A (mSeq B L) sd = .ok .nx s) : mSeq A (mSeq B (mSeq L R)) sd = R s := by
  obtain ⟨s1, h1, h⟩ := seq_nx h
  obtain ⟨s2, h2, h⟩ := seq_nx h
  exact e_seq h1 (e_seq h2 (e_seq h rfl))
def nI (p : List Nat) : List Int := p.map fun i : Nat => (i : Int)
theorem iN_iL (p : List Nat) : iN p = iL (nI p) := by
  unfold iN nI iL
  rw [List.map_map]
  rfl
theorem isI_nat : ∀ {ds : List PyData}, ds.all isI = true → ds = iN (ds.map natOf)
  | [], _ => rfl
  | d :: ds, h => by
    rw [List.all_cons, Bool.and_eq_true] at h
    have e := isI_nat h.2
    unfold isI at h
    cases d with
    | int i =>
      cases i with
      | ofNat n =>
        show _ = PyData.int _ :: iN (ds.map natOf)
        rw [← e]
        rfl
      | negSucc n => simp at h
    | _ => simp at h
theorem lookC_of {p : List Nat} {r : Res Fl} (h : lookC p r = true) : ∃ (s : Sd) (l : List Nat), r = .ok .nx s ∧ s[2]? = some (some (.own (.list (iN l)))) ∧ l.Perm (cyc p) := by
  unfold lookC at h
  split at h
  · split at h
    · rename_i ds _
      rw [Bool.and_eq_true] at h
      refine ⟨_, ds.map natOf, rfl, ?_, List.isPerm_iff.mp h.2⟩
      rw [← isI_nat h.1]
      rfl
    · cases h
  · cases h
theorem cyc_sorted : ([1, 2, 3, 4, 5].all fun n => (perms n).all fun p => decide ((cyc p).Pairwise (· ≤ ·)) && decide ((cyc p).length ≤ 5)) = true := by decide +kernel
theorem in5 {n : Nat} (h1 : 1 ≤ n) (h5 : n ≤ 5) : n ∈ [1, 2, 3, 4, 5] := by
  have : n = 1 ∨ n = 2 ∨ n = 3 ∨ n = 4 ∨ n = 5 := by omega
  rcases this with rfl | rfl | rfl | rfl | rfl <;> decide
theorem sort_as {l m : List Nat} (h : l.Perm m) (hm : m.Pairwise (· ≤ ·)) : (nI l).mergeSort leI = nI m := by
  have p : ((nI l).mergeSort leI).Perm (nI m) := (List.mergeSort_perm _ leI).trans (h.map _)
  have tr : ∀ a b c : Int, leI a b = true → leI b c = true → leI a c = true := fun a b c h1 h2 => by
    unfold leI at *
    simp at *
    omega
  have to : ∀ a b : Int, (leI a b || leI b a) = true := fun a b => by
    unfold leI
    simp
    omega
  have s1 := List.pairwise_mergeSort tr to (nI l)
  have s2 : (nI m).Pairwise fun a b => leI a b = true := by
    unfold nI
    rw [List.pairwise_map]
    refine hm.imp fun h => ?_
    unfold leI
    simp
    omega
  refine List.Perm.eq_of_pairwise (le := fun a b => leI a b = true) (fun a b _ _ h1 h2 => ?_) s1 s2 p
  unfold leI at h1 h2
  simp at h1 h2
  omega
theorem cyc_facts {n : Nat} (h1 : 1 ≤ n) (h5 : n ≤ 5) {p : List Nat} (h : Pm n p) : (cyc p).Pairwise (· ≤ ·) ∧ (cyc p).length ≤ 5 := by
  have q := List.all_eq_true.mp (List.all_eq_true.mp cyc_sorted n (in5 h1 h5)) p (mem_perms n p h)
  rw [Bool.and_eq_true, decide_eq_true_eq, decide_eq_true_eq] at q
  exact q
theorem sorted_ret {s : Sd} {k : Nat} {l m : List Nat} (h : s[k]? = some (some (.own (.list (iN l))))) (hp : l.Perm m) (hm : m.Pairwise (· ≤ ·)) (hl : m.length ≤ 5) :
    mRet [false] (mN (one tupleD) (mCons (dF (mNF (one sortedD) (mCons (mVar k) mNil))) mNil)) s = .ok (.rt (.dat (pI m))) s := by
  have e : mVar k s = .ok (.own k) s := by simp [h]
  have g : (Opd.own k).get s = some (.list (iN l)) := by simp [Opd.get, h]
  have z : 5 ≤ sizeLine := by simp [sizeLine]
  refine e_ret (e_n1 (e_dF (e_nf1 e g (z := .list (iN m)) ?_)) rfl rfl)
  rw [iN_iL, sortedD_ints _ (by unfold nI; rw [List.length_map, hp.length_eq]; omega), sort_as hp hm, iN_iL]
theorem cycles_by_ok {n : Nat} (h1 : 1 ≤ n) (h5 : n ≤ 5) {p : List Nat} (h : Pm n p) : ∃ s, b_cycles_by (pad 6 [.dat (pI p)]) = .ok (.rt (.dat (pI (cyc p)))) s := by
  have q := List.all_eq_true.mp (List.all_eq_true.mp cyA_all n (in5 h1 h5)) p (mem_perms n p h)
  obtain ⟨s, l, e1, e2, e3⟩ := lookC_of q
  obtain ⟨f1, f2⟩ := cyc_facts h1 h5 h
  exact ⟨s, (seq3 e1).trans (sorted_ret e2 e3 f1 f2)⟩
theorem cyc_conj {n : Nat} (h1 : 1 ≤ n) (h5 : n ≤ 5) {a b c : List Nat} (ha : Pm n a) (hb : Pm n b) (hc : Pm n c) (e : aft b c = List.range n) : cyc (aft (aft b a) c) = cyc a := by
  unfold cyc
  rw [(typ_conj h1 h5 (gen_all h5 hb)).2 a c ha hc e]
theorem cyc_back {n : Nat} (h1 : 1 ≤ n) (h5 : n ≤ 5) {a : List Nat} (ha : Pm n a) : cyc (bck a) = cyc a := by
  unfold cyc
  rw [eqL_eq (List.all_eq_true.mp (List.all_eq_true.mp back5 n (in5 h1 h5)) a (mem_perms n a ha))]
end
end PermS
namespace PermS
open PySem VS WebS
def lookT (q : List Nat) : Res Fl → Bool
  | .ok (.rt (.dat (.tuple ds))) _ => ds.all isI && eqL (ds.map natOf) q
  | _ => false
theorem inv_all : ([1, 2, 3, 4, 5].all fun n => (perms n).all fun p => lookT (bck p) (b_inverse_by (pad 4 [.dat (pI p)]))) = true := by decide +kernel
def bckOk (n : Nat) (p : List Nat) : Bool := (bck p).isPerm (List.range n) && eqL (aft p (bck p)) (List.range n) && eqL (aft (bck p) p) (List.range n)
theorem bck_all : ([1, 2, 3, 4, 5].all fun n => (perms n).all fun p => bckOk n p) = true := by decide +kernel
section
variable [VS.TabL]
theorem bck_facts {n : Nat} (h1 : 1 ≤ n) (h5 : n ≤ 5) {p : List Nat} (h : Pm n p) : Pm n (bck p) ∧ aft p (bck p) = List.range n ∧ aft (bck p) p = List.range n := by
  have q := List.all_eq_true.mp (List.all_eq_true.mp bck_all n (in5 h1 h5)) p (mem_perms n p h)
  unfold bckOk at q
  rw [Bool.and_eq_true, Bool.and_eq_true] at q
  exact ⟨List.isPerm_iff.mp q.1.1, eqL_eq q.1.2, eqL_eq q.2⟩
theorem lookT_of {q : List Nat} {r : Res Fl} (h : lookT q r = true) : ∃ s, r = .ok (.rt (.dat (pI q))) s := by
  unfold lookT at h
  split at h
  · rename_i ds s
    rw [Bool.and_eq_true] at h
    refine ⟨s, ?_⟩
    unfold pI
    rw [← eqL_eq h.2, ← isI_nat h.1]
  · cases h
theorem inverse_by_ok {n : Nat} (h1 : 1 ≤ n) (h5 : n ≤ 5) {p : List Nat} (h : Pm n p) : ∃ s, b_inverse_by (pad 4 [.dat (pI p)]) = .ok (.rt (.dat (pI (bck p)))) s :=
  lookT_of (List.all_eq_true.mp (List.all_eq_true.mp inv_all n (in5 h1 h5)) p (mem_perms n p h))
theorem iN_get {q : List Nat} {i : Nat} (h : i < q.length) : (iN q)[i]? = some (.int (q.getD i 0 : Nat)) := by
  unfold iN
  rw [List.getElem?_map, List.getElem?_eq_getElem h, List.getD_eq_getElem?_getD, List.getElem?_eq_getElem h]
  rfl
theorem iN_aft (p q : List Nat) : iN (aft p q) = p.map fun i => PyData.int (q.getD i 0 : Nat) := by
  unfold iN aft
  rw [List.map_map]
  rfl
theorem then_row {p q : List Nat} (h : ∀ i ∈ p, i < q.length) (hp : p.length ≤ 1000) : mRet [false, false] (mN (one tupleD) (mCons (dF (mLc (mRow (mVar 0)) (.nm 2) (M.ret true) (m2 ixD (mVar 1) (mVar 2)) [2])) mNil)) (pad 3 [.dat (pI p), .dat (pI q)]) = .ok (.rt (.dat (pI (aft p q)))) (pad 3 [.dat (pI p), .dat (pI q)]) := by
  have e := e_lcM (sd := pad 3 [.dat (pI p), .dat (pI q)]) (s1 := pad 3 [.dat (pI p), .dat (pI q)]) (ms := mRow (mVar 0)) (t := .nm 2) (me := m2 ixD (mVar 1) (mVar 2)) (vs := [2]) (xs := p) (fun i : Nat => PyData.int i) (fun i => PyData.int (q.getD i 0 : Nat)) (e_rowT (ds := iN p) (e_var 0)) (by omega) fun i hi => ⟨[(2, .int i)], rfl, e_d2 (e_var (d := pI q) 1) (e_var (d := .int i) 2) (ix_tup (iN_get (h i hi)))⟩
  rw [← iN_aft] at e
  exact e_ret (e_n1 (f1 := tupleD) (d := .list (iN (aft p q))) (e_dF e) rfl rfl)
theorem then_by_ok {p q : List Nat} (h : ∀ i ∈ p, i < q.length) (hp : p.length ≤ 1000) : b_then_by (pad 3 [.dat (pI p), .dat (pI q)]) = .ok (.rt (.dat (pI (aft p q)))) (pad 3 [.dat (pI p), .dat (pI q)]) := then_row h hp
def isP : PyData → Bool
  | .tuple ds => (decide (1 ≤ (ds.length : Int)) && decide ((ds.length : Int) ≤ 5)) && (ds.all (below ds.length) && decide ((ds.map intOf).mergeSort leI = upto ds.length))
  | _ => false
theorem is_perm_eq (d : PyData) : b_is_perm [some (.dat d), none] = .ok (.rt (.dat (.bool (isP d)))) [some (.dat d), none] := by
  unfold b_is_perm
  cases d with
  | tuple ds =>
    have el : mN (one lenD) (mCons (mVar 0) mNil) [some (.dat (.tuple ds)), none] = .ok (.d (.int ds.length)) [some (.dat (.tuple ds)), none] := e_n1 (e_var 0) rfl rfl
    have c := e_tb (e_chain (a := 1) (c := 5) el)
    cases hc : (decide (1 ≤ (ds.length : Int)) && decide ((ds.length : Int) ≤ 5)) with
    | false =>
      rw [hc] at c
      refine e_seqr (e_ift (e_or (p := false) (q := true) (e_nott (e_tst (e_is (e_var 0)))) fun _ => e_notf c) ?_)
      refine (e_ret e_c).trans ?_
      simp [isP, hc]
    | true =>
      rw [hc] at c
      refine e_seq (e_iff (e_or (q := false) (e_nott (e_tst (e_is (e_var 0)))) fun _ => e_nott c) rfl) ?_
      have hl : ds.length ≤ 5 := by
        rw [Bool.and_eq_true, decide_eq_true_eq, decide_eq_true_eq] at hc
        omega
      have hz : ds.length ≤ sizeLine := by
        have : 5 ≤ sizeLine := by simp [sizeLine]
        omega
      have ea : mN (one allD) (mCons (dF (mLc (mRow (mVar 0)) (.nm 1) (M.ret true) (mCallD b_is_below 2 [false, false] (mCons (mVar 1) (mCons (mN (one lenD) (mCons (mVar 0) mNil)) mNil))) [1])) mNil) [some (.dat (.tuple ds)), none] = .ok (.d (.bool (ds.all (below ds.length)))) [some (.dat (.tuple ds)), none] := by
        have e := e_lcM (sd := [some (.dat (.tuple ds)), none]) (s1 := [some (.dat (.tuple ds)), none]) (ms := mRow (mVar 0)) (t := .nm 1) (me := mCallD b_is_below 2 [false, false] (mCons (mVar 1) (mCons (mN (one lenD) (mCons (mVar 0) mNil)) mNil))) (vs := [1]) (xs := ds) (fun d : PyData => d) (fun d => PyData.bool (below ds.length d)) (by rw [List.map_id']; exact e_rowT (ds := ds) (e_var 0)) (by omega) fun d hd => ⟨[(1, d)], rfl, e_call2 (e_var (d := d) 1) (e_n1 (e_var (d := .tuple ds) 0) rfl rfl) (is_below_eq d ds.length)⟩
        exact e_n1 (e_dF e) rfl (all_map ds (below ds.length))
      refine (e_ret (e_and (p := ds.all (below ds.length)) (q := decide ((ds.map intOf).mergeSort leI = upto ds.length)) ea fun h => ?_)).trans ?_
      · have ei : ds = iL (ds.map intOf) := by
          unfold iL
          rw [List.map_map]
          refine ((List.map_congr_left fun x hx => ?_).trans (List.map_id ds)).symm
          obtain ⟨i, rfl, _⟩ := below_int (List.all_eq_true.mp h x hx)
          rfl
        have es : sortedD (.tuple ds) = some (.list (iL ((ds.map intOf).mergeSort leI))) := by
          have q := sortedD_ints (ds.map intOf) (by rw [List.length_map]; exact hz)
          rw [← ei] at q
          exact q
        exact e_d2 (e_dF (e_nf1 (e_var (d := .tuple ds) 0) rfl es)) (e_dF (e_LR el (by omega) (by omega))) (eqD_ints _ _)
      · simp [isP, hc]
  | _ =>
    refine e_seqr (e_ift (e_or (p := true) (q := true) (e_notf (e_tst (e_is (e_var 0)))) fun h => by cases h) ?_)
    exact e_ret e_c
end
end PermS
namespace NumS
open PySem VS WebS
variable [VS.TabL]
theorem sm_intB {i : Int} (h : i.natAbs < 10 ^ 40) : Sm 400 0 (.int i) := by
  have l : (PyData.shown (.int i)).length ≤ 41 := by
    have e := PySem.int_text_length_le10 (k := 40) (by decide) h
    show (Str.ofString (toString i)).length ≤ 41
    rw [ofString_length]
    exact e
  have g : i.natAbs.log2 < 140 := by
    by_cases hn : i.natAbs = 0
    · rw [hn]
      decide
    · rw [Nat.log2_lt hn]
      have : (10 : Nat) ^ 40 < 2 ^ 140 := by decide
      omega
  refine ⟨?_, ?_, ?_, ?_⟩
  · simp only [PyData.leavesShort, decide_eq_true_eq]
    omega
  · simp only [PyData.showable, decide_eq_true_eq]
    omega
  · simp [PyData.depth]
  · simp only [PyData.weight]
    split <;> omega
theorem show_intB {i : Int} (h : i.natAbs < 10 ^ 40) : showOk (.int i) = true := show_of ((sm_intB h).mono (by decide) (by decide)) (by simp [mixOk, PyData.hasDict])
theorem e_isE {s : Sd} {T : Tbl} {xi : XI} {i : Nat} {x : Exn} {t : Str → Option Bool} {b : Bool} (h : s[i]? = some (some (.exn xi x))) (hT : T x.cls = xi.c) (ht : t x.cls = some b) : mIsE T xi i t s = .ok (.d (.bool b)) s := by
  unfold mIsE
  rw [exnM_at h hT]
  simp only [M.bind, M.of, ht, M.ret]
theorem e_xf {s : Sd} {T : Tbl} {xi : XI} {i : Nat} {x : Exn} {f : Str} {t : Str → Option Bool} {b : Bool} (h : s[i]? = some (some (.exn xi x))) (hT : T x.cls = xi.c) (ht : t x.cls = some b) (hf : x.fld = f) (hn : f ≠ "") : mXf T xi i f t s = .ok (.d x.arg) s := by
  unfold mXf
  rw [exnM_at h hT]
  simp only [M.bind, M.of, ht]
  rw [if_pos ⟨hf, hn⟩]
  rfl
theorem x_raiseF {sd s : Sd} {c f : Str} {ma : M Opd} {x : PyData} (h : ma sd = .ok (.d x) s) : mRaiseF c f ma sd = .exc ⟨c, f, x⟩ s := by
  unfold mRaiseF M.bind
  rw [h]
end NumS
namespace PermS
open PySem VS WebS
section
variable [VS.TabL]
theorem upto_nI (n : Nat) : upto (n : Int) = nI (List.range n) := by
  unfold upto nI
  have : ((n : Int) - 0).toNat = n := by omega
  rw [this]
  refine List.map_congr_left fun i _ => ?_
  omega
theorem nI_inj {l m : List Nat} (h : (nI l).Perm (nI m)) : l.Perm m := by
  have q := h.map Int.toNat
  have e : ∀ l : List Nat, (nI l).map Int.toNat = l := fun l => by
    unfold nI
    rw [List.map_map]
    exact (List.map_congr_left fun i _ => rfl).trans (List.map_id l)
  rwa [e, e] at q
theorem pI_len (p : List Nat) : (iN p).length = p.length := List.length_map ..
theorem below_isI {n : Int} {d : PyData} (h : below n d = true) : isI d = true := by
  obtain ⟨i, rfl, h0, _⟩ := below_int h
  cases i with
  | ofNat k => rfl
  | negSucc k => exact absurd h0 (by omega)
theorem isP_of {n : Nat} (h1 : 1 ≤ n) (h5 : n ≤ 5) {p : List Nat} (h : Pm n p) : isP (pI p) = true := by
  have l := h.len
  unfold isP pI
  simp only [pI_len, l, Bool.and_eq_true, decide_eq_true_eq, List.all_eq_true]
  refine ⟨⟨by omega, by omega⟩, fun d hd => ?_, ?_⟩
  · obtain ⟨i, hi, rfl⟩ := List.mem_map.mp hd
    have := h.lt i hi
    unfold below
    simp only [Bool.and_eq_true, decide_eq_true_eq]
    omega
  · have e : (iN p).map intOf = nI p := by
      unfold iN nI
      rw [List.map_map]
      rfl
    have s : (List.range n).Pairwise (· ≤ ·) := List.pairwise_lt_range.imp fun h => Nat.le_of_lt h
    rw [e, sort_as h s, upto_nI]
theorem isP_pm {d : PyData} (h : isP d = true) : ∃ n p, 1 ≤ n ∧ n ≤ 5 ∧ Pm n p ∧ d = pI p := by
  cases d with
  | tuple ds =>
    unfold isP at h
    simp only [Bool.and_eq_true, decide_eq_true_eq] at h
    obtain ⟨⟨h1, h5⟩, ha, hs⟩ := h
    have e : ds = iN (ds.map natOf) := isI_nat (List.all_eq_true.mpr fun x hx => below_isI (List.all_eq_true.mp ha x hx))
    refine ⟨ds.length, ds.map natOf, by omega, by omega, nI_inj ?_, congrArg _ e⟩
    have e2 : ds.map intOf = nI (ds.map natOf) := by
      conv => lhs; rw [e]
      unfold iN nI
      rw [List.map_map]
      rfl
    rw [← upto_nI, ← hs, e2]
    exact (List.mergeSort_perm _ _).symm
  | _ => simp [isP] at h
theorem need_told {d : PyData} (h : isP d = true) : b_need_perm [some (.dat d)] = .ok .nx [some (.dat d)] := by
  have e := e_nott (e_tst (e_call1 (b := b_is_perm) (N := 2) (e_var (d := d) (sd := [some (.dat d)]) 0) (by rw [← h]; exact is_perm_eq d)))
  exact e_iff e rfl
theorem need_x {d : PyData} (h : isP d = false) : bx_need_perm [some (.dat d)] = .exc ⟨"NoLabels", "", .str (Str.ofString "no permutation")⟩ [some (.dat d)] := by
  have e := e_notf (e_tst (e_call1 (b := b_is_perm) (N := 2) (e_var (d := d) (sd := [some (.dat d)]) 0) (by rw [← h]; exact is_perm_eq d)))
  exact e_ift e rfl
theorem needx_told {d : PyData} (h : isP d = true) : bx_need_perm [some (.dat d)] = .ok .nx [some (.dat d)] := by
  have e := e_nott (e_tst (e_call1 (b := b_is_perm) (N := 2) (e_var (d := d) (sd := [some (.dat d)]) 0) (by rw [← h]; exact is_perm_eq d)))
  exact e_iff e rfl
end
end PermS
namespace PermS
open PySem VS WebS
section
variable [VS.TabL]
def NoL (r : Res Fl) : Prop := ∃ (m : Str) (s : Sd), r = .exc ⟨"NoLabels", "", .str m⟩ s
theorem inverse_told {n : Nat} (h1 : 1 ≤ n) (h5 : n ≤ 5) {p : List Nat} (h : Pm n p) : b_inverse [some (.dat (pI p))] = .ok (.rt (.dat (pI (bck p)))) [some (.dat (pI p))] := by
  obtain ⟨s, e⟩ := inverse_by_ok h1 h5 h
  exact e_seq (e_drop (e_call1n (e_var 0) (need_told (isP_of h1 h5 h)))) (e_ret (e_call1 (e_var 0) e))
theorem inversex_told {n : Nat} (h1 : 1 ≤ n) (h5 : n ≤ 5) {p : List Nat} (h : Pm n p) : bx_inverse [some (.dat (pI p))] = .ok (.rt (.dat (pI (bck p)))) [some (.dat (pI p))] := by
  obtain ⟨s, e⟩ := inverse_by_ok h1 h5 h
  exact e_seq (e_drop (e_callXN [pI p] (e_cons (e_var 0) e_nil) (needx_told (isP_of h1 h5 h)))) (e_ret (e_call1 (e_var 0) e))
theorem inversex_x {d : PyData} (h : isP d = false) : NoL (bx_inverse [some (.dat d)]) :=
  ⟨_, _, x_seq (x_drop (x_call [d] (e_cons (e_var 0) e_nil) (need_x h)))⟩
theorem cycles_told {n : Nat} (h1 : 1 ≤ n) (h5 : n ≤ 5) {p : List Nat} (h : Pm n p) : b_cycles [some (.dat (pI p))] = .ok (.rt (.dat (pI (cyc p)))) [some (.dat (pI p))] := by
  obtain ⟨s, e⟩ := cycles_by_ok h1 h5 h
  exact e_seq (e_drop (e_call1n (e_var 0) (need_told (isP_of h1 h5 h)))) (e_ret (e_call1 (e_var 0) e))
theorem cyclesx_told {n : Nat} (h1 : 1 ≤ n) (h5 : n ≤ 5) {p : List Nat} (h : Pm n p) : bx_cycles [some (.dat (pI p))] = .ok (.rt (.dat (pI (cyc p)))) [some (.dat (pI p))] := by
  obtain ⟨s, e⟩ := cycles_by_ok h1 h5 h
  exact e_seq (e_drop (e_callXN [pI p] (e_cons (e_var 0) e_nil) (needx_told (isP_of h1 h5 h)))) (e_ret (e_call1 (e_var 0) e))
theorem cyclesx_x {d : PyData} (h : isP d = false) : NoL (bx_cycles [some (.dat d)]) :=
  ⟨_, _, x_seq (x_drop (x_call [d] (e_cons (e_var 0) e_nil) (need_x h)))⟩
theorem len_pI {sd : Sd} {p : List Nat} (i : Nat) (h : sd[i]? = some (some (.dat (pI p)))) : mN (one lenD) (mCons (mVar i) mNil) sd = .ok (.d (.int p.length)) sd := by
  have := e_n1 (f1 := lenD) (d := pI p) (z := .int p.length) (e_var i h) rfl (by show some (PyData.int ((iN p).length : Nat)) = _; rw [pI_len])
  exact this
theorem then_told {n : Nat} (h1 : 1 ≤ n) (h5 : n ≤ 5) {p q : List Nat} (hp : Pm n p) (hq : Pm n q) : b_then [some (.dat (pI p)), some (.dat (pI q))] = .ok (.rt (.dat (pI (aft p q)))) [some (.dat (pI p)), some (.dat (pI q))] := by
  refine e_seq (e_drop (e_call1n (e_var (d := pI p) 0) (need_told (isP_of h1 h5 hp)))) (e_seq (e_drop (e_call1n (e_var (d := pI q) 1) (need_told (isP_of h1 h5 hq)))) (e_seq (e_iff (e_tb (e_d2 (len_pI 0 rfl) (len_pI 1 rfl) (by rw [neD_int, hp.len, hq.len]; simp))) rfl) ?_))
  exact e_ret (e_call2 (e_var 0) (e_var 1) (then_by_ok (fun i hi => by rw [hq.len]; exact hp.lt i hi) (by rw [hp.len]; omega)))
theorem thenx_told {n : Nat} (h1 : 1 ≤ n) (h5 : n ≤ 5) {p q : List Nat} (hp : Pm n p) (hq : Pm n q) : bx_then [some (.dat (pI p)), some (.dat (pI q))] = .ok (.rt (.dat (pI (aft p q)))) [some (.dat (pI p)), some (.dat (pI q))] := by
  refine e_seq (e_drop (e_callXN [pI p] (e_cons (e_var 0) e_nil) (needx_told (isP_of h1 h5 hp)))) (e_seq (e_drop (e_callXN [pI q] (e_cons (e_var 1) e_nil) (needx_told (isP_of h1 h5 hq)))) (e_seq (e_iff (e_tb (e_d2 (len_pI 0 rfl) (len_pI 1 rfl) (by rw [neD_int, hp.len, hq.len]; simp))) rfl) ?_))
  exact e_ret (e_call2 (e_var 0) (e_var 1) (then_by_ok (fun i hi => by rw [hq.len]; exact hp.lt i hi) (by rw [hp.len]; omega)))
theorem thenx_a {a b : PyData} (h : isP a = false) : NoL (bx_then [some (.dat a), some (.dat b)]) :=
  ⟨_, _, x_seq (x_drop (x_call [a] (e_cons (e_var 0) e_nil) (need_x h)))⟩
theorem thenx_b {a b : PyData} (ha : isP a = true) (h : isP b = false) : NoL (bx_then [some (.dat a), some (.dat b)]) :=
  ⟨_, _, e_seq (e_drop (e_callXN [a] (e_cons (e_var 0) e_nil) (needx_told ha))) (x_seq (x_drop (x_call [b] (e_cons (e_var 1) e_nil) (need_x h))))⟩
theorem thenx_len {p q : List Nat} (ha : isP (pI p) = true) (hb : isP (pI q) = true) (h : p.length ≠ q.length) : NoL (bx_then [some (.dat (pI p)), some (.dat (pI q))]) :=
  ⟨_, _, e_seq (e_drop (e_callXN [pI p] (e_cons (e_var 0) e_nil) (needx_told ha))) (e_seq (e_drop (e_callXN [pI q] (e_cons (e_var 1) e_nil) (needx_told hb))) (x_seq (e_ift (e_tb (e_d2 (len_pI 0 rfl) (len_pI 1 rfl) (by
    rw [neD_int]
    have : ¬ ((p.length : Int) = q.length) := by omega
    simp [this]))) rfl)))⟩
end
end PermS
namespace PermS
open PySem VS WebS
section
variable [VS.TabL]
def sizeB : PyData → Bool
  | .int i => decide (1 ≤ i) && decide (i ≤ 5)
  | _ => false
theorem unit_test (d : PyData) : (mOr (mNot (mTest (mCallD b_is_whole 1 [false] (mCons (mVar 0) mNil)))) (mNot (mTB (mChain leD leD (mC (.int 1)) (mVar 0) (mC (.int 5)))))) [some (.dat d)] = .ok (!sizeB d) [some (.dat d)] := by
  have a := e_not (e_tst (e_call1 (b := b_is_whole) (N := 1) (e_var (d := d) (sd := [some (.dat d)]) 0) (is_whole_eq d)))
  cases d with
  | int i =>
    have c := e_not (e_tb (e_chain (a := 1) (c := 5) (e_var (d := .int i) (sd := [some (.dat (.int i))]) 0)))
    have := e_or (p := false) a fun _ => c
    exact this
  | _ => exact e_or (p := true) (q := true) a fun h => by cases h
theorem unit_row {n : Nat} (h5 : n ≤ 5) : b_unit_by [some (.dat (.int n))] = .ok (.rt (.dat (pI (List.range n)))) [some (.dat (.int n))] := by
  have e := e_tupR (k := (n : Int)) (e_var (d := .int n) (sd := [some (.dat (.int n))]) 0) (by omega) (by omega)
  rw [upto_nI] at e
  unfold pI
  rw [iN_iL]
  exact e_ret e
theorem unit_told {n : Nat} (h1 : 1 ≤ n) (h5 : n ≤ 5) : b_unit [some (.dat (.int n))] = .ok (.rt (.dat (pI (List.range n)))) [some (.dat (.int n))] := by
  have e := unit_test (.int n)
  have z : sizeB (.int n) = true := by
    unfold sizeB
    rw [Bool.and_eq_true, decide_eq_true_eq, decide_eq_true_eq]
    omega
  rw [z] at e
  exact e_seq (e_iff e rfl) (e_ret (e_call1 (e_var 0) (unit_row h5)))
theorem unitx_x {d : PyData} (h : sizeB d = false) : bx_unit [some (.dat d)] = .exc ⟨"NoNumber", "number", d⟩ [some (.dat d)] := by
  have e := unit_test d
  rw [h] at e
  exact x_seq (e_ift e (NumS.x_raiseF (e_var 0)))
end
end PermS
namespace PermS
open PySem VS WebS
noncomputable def b_law_after : MS :=
  (mRet [false, false] (mN (one tupleD) (mCons (dF (mLc (mRow (mVar 0)) (.nm 2) (M.ret true) (m2 ixD (mVar 1) (mVar 2)) [2])) mNil)))
noncomputable def b_law_back : MS :=
  (mRet [false] (mN (one tupleD) (mCons (dF (mLc (mRg (mR1 (mN (one lenD) (mCons (mVar 0) mNil)))) (.nm 1) (M.ret true) (mIdxT (mVar 0) (mVar 1)) [1])) mNil)))
noncomputable def b_law_rounds : MS :=
  (mSeq (mSetF 1 (mLst mNil))
  (mSeq (mSetF 2 (mLR (mR1 (mN (one lenD) (mCons (mVar 0) mNil)))))
  (mSeq (mWhile (mTB (m2 neD (mVar 2) (dF (mLst mNil))))
    (mSeq (mSet 3 (m2 ixD (mVar 2) (mC (.int 0))))
    (mSeq (mSet 4 (m2 ixD (mVar 0) (mVar 3)))
    (mSeq (mSet 5 (mC (.int 1)))
    (mSeq (mDrop (mMut 2 remF (mCons (mVar 3) mNil)))
    (mSeq (mWhile (mTB (m2 neD (mVar 4) (mVar 3)))
      (mSeq (mDrop (mMut 2 remF (mCons (mVar 4) mNil)))
      (mSeq (mSet 4 (m2 ixD (mVar 0) (mVar 4)))
      (mSet 5 (m2 addD (mVar 5) (mC (.int 1)))))) 1000000)
    (mDrop (mMut 1 appF (mCons (mVar 5) mNil)))))))) 1000000)
  (mRet [false] (mN (one tupleD) (mCons (dF (mNF (one sortedD) (mCons (mVar 1) mNil))) mNil))))))
noncomputable def b_law_is : MS :=
  (mSeq (mIf (mOr (mNot (mTest (mIs PyData.isTuple (mVar 0)))) (mNot (mTB (mChain leD leD (mC (.int 1)) (mN (one lenD) (mCons (mVar 0) mNil)) (mC (.int 5))))))
    (mRet [false] (mC (.bool false)))
    sNx)
  (mSeq (mFor (mRow (mVar 0)) (.nm 1)
    (mIf (mOr (mNot (mTest (mIs PyData.isInt (mVar 1)))) (mTest (mIs PyData.isBool (mVar 1))))
      (mRet [false] (mC (.bool false)))
      sNx))
  (mRet [false] (m2 eqD (dF (mNF (one sortedD) (mCons (mVar 0) mNil))) (dF (mLR (mR1 (mN (one lenD) (mCons (mVar 0) mNil)))))))))
noncomputable def rdA : MS :=
  (mSeq (mSetF 1 (mLst mNil))
  (mSeq (mSetF 2 (mLR (mR1 (mN (one lenD) (mCons (mVar 0) mNil)))))
  (mWhile (mTB (m2 neD (mVar 2) (dF (mLst mNil))))
    (mSeq (mSet 3 (m2 ixD (mVar 2) (mC (.int 0))))
    (mSeq (mSet 4 (m2 ixD (mVar 0) (mVar 3)))
    (mSeq (mSet 5 (mC (.int 1)))
    (mSeq (mDrop (mMut 2 remF (mCons (mVar 3) mNil)))
    (mSeq (mWhile (mTB (m2 neD (mVar 4) (mVar 3)))
      (mSeq (mDrop (mMut 2 remF (mCons (mVar 4) mNil)))
      (mSeq (mSet 4 (m2 ixD (mVar 0) (mVar 4)))
      (mSet 5 (m2 addD (mVar 5) (mC (.int 1)))))) 1000000)
    (mDrop (mMut 1 appF (mCons (mVar 5) mNil)))))))) 1000000)))
def lookR (p : List Nat) : Res Fl → Bool
  | .ok .nx s => (match s with
    | _ :: (some (.own (.list ds))) :: _ => ds.all isI && (ds.map natOf).isPerm (cyc p)
    | _ => false)
  | _ => false
theorem rdA_all : ([1, 2, 3, 4, 5].all fun n => (perms n).all fun p => lookR p (rdA (pad 6 [.dat (pI p)]))) = true := by decide +kernel
section
variable [VS.TabL]
theorem lookR_of {p : List Nat} {r : Res Fl} (h : lookR p r = true) : ∃ (s : Sd) (l : List Nat), r = .ok .nx s ∧ s[1]? = some (some (.own (.list (iN l)))) ∧ l.Perm (cyc p) := by
  unfold lookR at h
  split at h
  · split at h
    · rename_i ds _
      rw [Bool.and_eq_true] at h
      refine ⟨_, ds.map natOf, rfl, ?_, List.isPerm_iff.mp h.2⟩
      rw [← isI_nat h.1]
      rfl
    · cases h
  · cases h
theorem law_rounds_ok {n : Nat} (h1 : 1 ≤ n) (h5 : n ≤ 5) {p : List Nat} (h : Pm n p) : ∃ s, b_law_rounds (pad 6 [.dat (pI p)]) = .ok (.rt (.dat (pI (cyc p)))) s := by
  have q := List.all_eq_true.mp (List.all_eq_true.mp rdA_all n (in5 h1 h5)) p (mem_perms n p h)
  obtain ⟨s, l, e1, e2, e3⟩ := lookR_of q
  obtain ⟨f1, f2⟩ := cyc_facts h1 h5 h
  exact ⟨s, (seq3 e1).trans (sorted_ret e2 e3 f1 f2)⟩
theorem nks_iN : ∀ p : List Nat, nksOf (iN p) = some (p.map fun j : Nat => NestedKey.num (j : Int))
  | [] => rfl
  | i :: p => by
    show (match nkOf (.int (i : Int)), nksOf (iN p) with
      | some k, some ks => some (k :: ks)
      | _, _ => none) = _
    rw [nks_iN p]
    rfl
theorem num_beq (j i : Nat) : (NestedKey.num (j : Int) == NestedKey.num (i : Int)) = (j == i) := by
  rw [Bool.eq_iff_iff, beq_iff_eq, beq_iff_eq]
  constructor
  · intro h
    injection h with h
    omega
  · intro h
    rw [h]
theorem idx_num (i : Nat) : ∀ p : List Nat, (p.map fun j : Nat => NestedKey.num (j : Int)).idxOf (.num (i : Int)) = p.idxOf i
  | [] => rfl
  | j :: p => by
    rw [List.map_cons, List.idxOf_cons, List.idxOf_cons, num_beq, idx_num i p]
theorem index_iN {p : List Nat} {i : Nat} (h : i ∈ p) : indexTD (iN p) (.int i) = some (.int (p.idxOf i : Nat)) := by
  have m : NestedKey.num (i : Int) ∈ p.map fun j : Nat => NestedKey.num (j : Int) := List.mem_map.mpr ⟨i, h, rfl⟩
  have d : (NestedKey.num (i : Int)).depth ≤ 8 := by
    unfold NestedKey.depth
    omega
  unfold indexTD
  rw [nks_iN, show nkOf (.int (i : Int)) = some (.num (i : Int)) from rfl]
  simp only []
  rw [if_pos ⟨m, d⟩, idx_num]
theorem law_back_ok {n : Nat} (h5 : n ≤ 5) {p : List Nat} (h : Pm n p) : b_law_back (pad 2 [.dat (pI p)]) = .ok (.rt (.dat (pI (bck p)))) (pad 2 [.dat (pI p)]) := by
  have l := h.len
  have er : mRg (mR1 (mN (one lenD) (mCons (mVar 0) mNil))) (pad 2 [.dat (pI p)]) = .ok ⟨iN (List.range p.length), []⟩ (pad 2 [.dat (pI p)]) := by
    have := e_rg1 (len_pI (sd := pad 2 [.dat (pI p)]) 0 rfl) (by omega) (by omega)
    rw [upto_rg, upto_nI, ← iN_iL] at this
    exact this
  have e := e_lcM (sd := pad 2 [.dat (pI p)]) (s1 := pad 2 [.dat (pI p)]) (t := .nm 1) (me := mIdxT (mVar 0) (mVar 1)) (vs := [1]) (xs := List.range p.length) (fun i : Nat => PyData.int i) (fun i => PyData.int (p.idxOf i : Nat)) er (by rw [List.length_range]; omega) fun i hi => ⟨[(1, .int i)], rfl, by
    have hm : i ∈ p := h.mem_iff.mpr (by rw [← l]; exact hi)
    have e1 : mVar 0 (setsD (wipeD (pad 2 [.dat (pI p)]) [1]) [(1, .int i)]) = .ok (.d (pI p)) (setsD (wipeD (pad 2 [.dat (pI p)]) [1]) [(1, .int i)]) := e_var 0
    have e2 : mVar 1 (setsD (wipeD (pad 2 [.dat (pI p)]) [1]) [(1, .int i)]) = .ok (.d (.int i)) (setsD (wipeD (pad 2 [.dat (pI p)]) [1]) [(1, .int i)]) := e_var 1
    unfold mIdxT M.bind
    rw [e1]
    unfold pI at e2 ⊢
    simp only []
    rw [e2]
    simp only [getM, Opd.get, M.of, index_iN hm, M.ret]
    ⟩
  have eb : (List.range p.length).map (fun i => PyData.int (p.idxOf i : Nat)) = iN (bck p) := by
    unfold iN bck
    rw [List.map_map]
    rfl
  rw [eb] at e
  exact e_ret (e_n1 (f1 := tupleD) (d := .list (iN (bck p))) (e_dF e) rfl rfl)
theorem law_after_ok {p q : List Nat} (h : ∀ i ∈ p, i < q.length) (hp : p.length ≤ 1000) : b_law_after (pad 3 [.dat (pI p), .dat (pI q)]) = .ok (.rt (.dat (pI (aft p q)))) (pad 3 [.dat (pI p), .dat (pI q)]) := then_row h hp
end
end PermS
namespace K43
open PySem VS WebS PermS NumS
section
variable [VS.TabL]
theorem nb (b : Bool) : neD (.bool b) (.bool b) = some (.bool false) := by cases b <;> rfl
theorem word_labels {m : Str} : ∀ (T : Tbl) (xi : XI), T "NoLabels" = xi.c → ∃ s, b_law_word T xi (pad 3 [.exn xi ⟨"NoLabels", "", .str m⟩]) = .ok (.rt (.dat (.str (Str.ofString "labels")))) s := fun T xi hT => by
  have i0 : ∀ sd : Sd, sd[0]? = some (some (.exn xi ⟨"NoLabels", "", .str m⟩)) → mIsE T xi 0 (tb [("NoLabels", false), ("NoNumber", false)]) sd = .ok (.d (.bool false)) sd := fun sd h => e_isE h hT rfl
  have i1 : ∀ sd : Sd, sd[0]? = some (some (.exn xi ⟨"NoLabels", "", .str m⟩)) → mIsE T xi 0 (tb [("NoLabels", true), ("NoNumber", false)]) sd = .ok (.d (.bool true)) sd := fun sd h => e_isE h hT rfl
  have i2 : ∀ sd : Sd, sd[0]? = some (some (.exn xi ⟨"NoLabels", "", .str m⟩)) → mIsE T xi 0 (tb [("NoLabels", false), ("NoNumber", true)]) sd = .ok (.d (.bool false)) sd := fun sd h => e_isE h hT rfl
  have n1 : neD (.int 1) (.int 1) = some (.bool false) := by rw [neD_int]; rfl
  unfold b_law_word
  refine ⟨[some (.exn xi ⟨"NoLabels", "", .str m⟩), some (.dat (.bool false)), some (.dat (.list [.bool true, .bool false]))], ?_⟩
  refine e_seq (e_set (i0 _ rfl)) (e_seq (e_set (e_dF (e_lst (ds := [.bool true, .bool false]) (e_cons (e_andt (i1 _ rfl) (i1 _ rfl)) (e_cons (i2 _ rfl) e_nil))))) (e_seq (e_iff (e_or (p := false) (q := false) (e_tst (e_var 1)) fun _ => e_or (p := false) (q := false) (e_tb (e_d2 (d := .int 1) rfl e_c n1)) fun _ => e_tb (e_d2 (i1 _ rfl) (e_d2 (e_var 2) e_c (ix_list (j := 0) rfl)) (nb true))) rfl) ?_))
  exact e_ret (e_d2 (e_dF (e_lst (ds := [.str (Str.ofString "labels"), .str (Str.ofString "number")]) (e_cons e_c (e_cons e_c e_nil)))) (e := .int 0) rfl (ix_list (j := 0) rfl))
theorem word_number {d : PyData} : ∀ (T : Tbl) (xi : XI), T "NoNumber" = xi.c → ∃ s, b_law_word T xi (pad 3 [.exn xi ⟨"NoNumber", "number", d⟩]) = .ok (.rt (.dat (.str (Str.ofString "number")))) s := fun T xi hT => by
  have i0 : ∀ sd : Sd, sd[0]? = some (some (.exn xi ⟨"NoNumber", "number", d⟩)) → mIsE T xi 0 (tb [("NoLabels", false), ("NoNumber", false)]) sd = .ok (.d (.bool false)) sd := fun sd h => e_isE h hT rfl
  have i1 : ∀ sd : Sd, sd[0]? = some (some (.exn xi ⟨"NoNumber", "number", d⟩)) → mIsE T xi 0 (tb [("NoLabels", true), ("NoNumber", false)]) sd = .ok (.d (.bool false)) sd := fun sd h => e_isE h hT rfl
  have i2 : ∀ sd : Sd, sd[0]? = some (some (.exn xi ⟨"NoNumber", "number", d⟩)) → mIsE T xi 0 (tb [("NoLabels", false), ("NoNumber", true)]) sd = .ok (.d (.bool true)) sd := fun sd h => e_isE h hT rfl
  have n1 : neD (.int 1) (.int 1) = some (.bool false) := by rw [neD_int]; rfl
  unfold b_law_word
  refine ⟨[some (.exn xi ⟨"NoNumber", "number", d⟩), some (.dat (.bool false)), some (.dat (.list [.bool false, .bool true]))], ?_⟩
  refine e_seq (e_set (i0 _ rfl)) (e_seq (e_set (e_dF (e_lst (ds := [.bool false, .bool true]) (e_cons (e_andf (i1 _ rfl)) (e_cons (i2 _ rfl) e_nil))))) (e_seq (e_iff (e_or (p := false) (q := false) (e_tst (e_var 1)) fun _ => e_or (p := false) (q := false) (e_tb (e_d2 (d := .int 1) rfl e_c n1)) fun _ => e_tb (e_d2 (i1 _ rfl) (e_d2 (e_var 2) e_c (ix_list (j := 0) rfl)) (nb false))) rfl) ?_))
  exact e_ret (e_d2 (e_dF (e_lst (ds := [.str (Str.ofString "labels"), .str (Str.ofString "number")]) (e_cons e_c (e_cons e_c e_nil)))) (e := .int 1) rfl (ix_list (j := 1) rfl))
noncomputable def doors : MS :=
    (mIf (mTB (m2 eqD (mVar 0) (mC (.int 0))))
      (mDrop (mCallDX bx_then 2 [false, false] (mCons (mVar 1) (mCons (mVar 2) mNil))))
      (mIf (mTB (m2 eqD (mVar 0) (mC (.int 1))))
        (mDrop (mCallDX bx_inverse 1 [false] (mCons (mVar 1) mNil)))
        (mIf (mTB (m2 eqD (mVar 0) (mC (.int 2))))
          (mDrop (mCallDX bx_cycles 1 [false] (mCons (mVar 1) mNil)))
          (mDrop (mCallDX bx_unit 1 [false] (mCons (mVar 1) mNil))))))
noncomputable def HS : List Hd := [⟨(tb [("NoLabels", false), ("NoNumber", true)]), some 3, fun T xi =>
      (mRet [false, false, false] (mTup (mCons (mCallE T xi 3 b_law_word 3) (mCons (mN (one reprD) (mCons (mXf T xi 3 "number" (tb [("NoNumber", true)])) mNil)) mNil))))⟩,
    ⟨(tb [("NoLabels", true)]), some 3, fun T xi =>
      (mRet [false, false, false] (mTup (mCons (mCallE T xi 3 b_law_word 3) (mCons (mC (.str (Str.ofString ""))) mNil))))⟩]
abbrev sR (w : Int) (a b : PyData) (e : Option Sl) : Sd := [some (.dat (.int w)), some (.dat a), some (.dat b), e]
abbrev two (x y : String) : PyData := .tuple [.str (Str.ofString x), .str (Str.ofString y)]
theorem refused_told {w : Int} {a b : PyData} (h : doors (sR w a b none) = .ok .nx (sR w a b none)) : b_law_refused (sR w a b none) = .ok (.rt (.dat (two "told" ""))) (sR w a b none) :=
  e_seq (mTry_ok (mb := doors) (hs := HS) h) (e_ret (e_tup (ds := [.str (Str.ofString "told"), .str (Str.ofString "")]) (e_cons e_c (e_cons e_c e_nil))))
theorem call_word {w : Int} {a b : PyData} {x : Exn} {T : Tbl} {xi : XI} {wd : Str} (hT : T x.cls = xi.c) (hk : ∃ s, b_law_word T xi (pad 3 [.exn xi x]) = .ok (.rt (.dat (.str wd))) s) : mCallE T xi 3 b_law_word 3 (sR w a b (some (.exn xi x))) = .ok (.d (.str wd)) (sR w a b (some (.exn xi x))) := by
  obtain ⟨s, e1⟩ := hk
  unfold mCallE
  rw [exnM_at rfl hT, e1]
  show (match (if ioOk [false] s = true then Res.ok (.dat (.str wd)) s else .stk) with
    | .ok r _ => Res.ok (Opd.d (rtD r)) _
    | _ => .stk) = _
  rw [if_pos (show ioOk [false] s = true from ioOk_dat [.none] s)]
  rfl
theorem refused_labels {w : Int} {a b : PyData} {m : Str} (h : doors (sR w a b none) = .exc ⟨"NoLabels", "", .str m⟩ (sR w a b none)) : b_law_refused (sR w a b none) = .ok (.rt (.dat (two "labels" ""))) (sR w a b none) := by
  refine e_seqr (mTry_exc (mb := doors) (hs := HS) h fun T xi hT => ?_)
  have c := call_word (w := w) (a := a) (b := b) hT (word_labels (m := m) T xi hT)
  unfold HS
  simp only [hRun, show tb [("NoLabels", false), ("NoNumber", true)] ("NoLabels" : Str) = some false from rfl, show tb [("NoLabels", true)] ("NoLabels" : Str) = some true from rfl]
  show clrI (some 3) (mRet [false, false, false] (mTup (mCons (mCallE T xi 3 b_law_word 3) (mCons (mC (.str (Str.ofString ""))) mNil))) (sR w a b (some (.exn xi ⟨"NoLabels", "", .str m⟩)))) = _
  rw [e_ret (e_tup (ds := [.str (Str.ofString "labels"), .str (Str.ofString "")]) (e_cons c (e_cons e_c e_nil)))]
  rfl
theorem refused_number {w : Int} {a b d z : PyData} (hz : reprD d = some z) (h : doors (sR w a b none) = .exc ⟨"NoNumber", "number", d⟩ (sR w a b none)) : b_law_refused (sR w a b none) = .ok (.rt (.dat (.tuple [.str (Str.ofString "number"), z]))) (sR w a b none) := by
  refine e_seqr (mTry_exc (mb := doors) (hs := HS) h fun T xi hT => ?_)
  have c := call_word (w := w) (a := a) (b := b) hT (word_number (d := d) T xi hT)
  have f : mXf T xi 3 "number" (tb [("NoNumber", true)]) (sR w a b (some (.exn xi ⟨"NoNumber", "number", d⟩))) = .ok (.d d) (sR w a b (some (.exn xi ⟨"NoNumber", "number", d⟩))) := e_xf rfl hT (b := true) rfl rfl (by decide)
  unfold HS
  simp only [hRun, show tb [("NoLabels", false), ("NoNumber", true)] ("NoNumber" : Str) = some true from rfl]
  show clrI (some 3) (mRet [false, false, false] (mTup (mCons (mCallE T xi 3 b_law_word 3) (mCons (mN (one reprD) (mCons (mXf T xi 3 "number" (tb [("NoNumber", true)])) mNil)) mNil))) (sR w a b (some (.exn xi ⟨"NoNumber", "number", d⟩)))) = _
  rw [e_ret (e_tup (ds := [.str (Str.ofString "number"), z]) (e_cons c (e_cons (e_n1 f rfl hz) e_nil)))]
  rfl
end
end K43
namespace K43
open PySem VS WebS PermS NumS
section
variable [VS.TabL]
theorem at_w {w k : Int} {a b : PyData} : mTB (m2 eqD (mVar 0) (VS.mC (.int k))) (sR w a b none) = .ok (decide (w = k)) (sR w a b none) := e_tb (e_d2 (e_var 0) e_c (eqD_int _ _))
theorem hear_then {a b : PyData} {n : Nat} {p q : List Nat} (h1 : 1 ≤ n) (h5 : n ≤ 5) (hp : Pm n p) (hq : Pm n q) (ea : a = pI p) (eb : b = pI q) : b_law_refused (sR 0 a b none) = .ok (.rt (.dat (two "told" ""))) (sR 0 a b none) := by
  subst ea
  subst eb
  exact refused_told (e_ift at_w (e_drop (e_callXV [pI p, pI q] (e_cons (e_var 1) (e_cons (e_var 2) e_nil)) (thenx_told h1 h5 hp hq))))
theorem hear_thenx {a b : PyData} (h : NoL (PermS.bx_then [some (.dat a), some (.dat b)])) : b_law_refused (sR 0 a b none) = .ok (.rt (.dat (two "labels" ""))) (sR 0 a b none) := by
  obtain ⟨m, s, e⟩ := h
  exact refused_labels (m := m) (e_ift at_w (x_drop (x_call [a, b] (e_cons (e_var 1) (e_cons (e_var 2) e_nil)) e)))
theorem hear_inv {a b : PyData} {n : Nat} {p : List Nat} (h1 : 1 ≤ n) (h5 : n ≤ 5) (hp : Pm n p) (ea : a = pI p) : b_law_refused (sR 1 a b none) = .ok (.rt (.dat (two "told" ""))) (sR 1 a b none) := by
  subst ea
  exact refused_told (e_iff at_w (e_ift at_w (e_drop (e_callXV [pI p] (e_cons (e_var 1) e_nil) (inversex_told h1 h5 hp)))))
theorem hear_invx {a b : PyData} (h : isP a = false) : b_law_refused (sR 1 a b none) = .ok (.rt (.dat (two "labels" ""))) (sR 1 a b none) := by
  obtain ⟨m, s, e⟩ := inversex_x h
  exact refused_labels (m := m) (e_iff at_w (e_ift at_w (x_drop (x_call [a] (e_cons (e_var 1) e_nil) e))))
theorem hear_cyc {a b : PyData} {n : Nat} {p : List Nat} (h1 : 1 ≤ n) (h5 : n ≤ 5) (hp : Pm n p) (ea : a = pI p) : b_law_refused (sR 2 a b none) = .ok (.rt (.dat (two "told" ""))) (sR 2 a b none) := by
  subst ea
  exact refused_told (e_iff at_w (e_iff at_w (e_ift at_w (e_drop (e_callXV [pI p] (e_cons (e_var 1) e_nil) (cyclesx_told h1 h5 hp))))))
theorem hear_cycx {a b : PyData} (h : isP a = false) : b_law_refused (sR 2 a b none) = .ok (.rt (.dat (two "labels" ""))) (sR 2 a b none) := by
  obtain ⟨m, s, e⟩ := cyclesx_x h
  exact refused_labels (m := m) (e_iff at_w (e_iff at_w (e_ift at_w (x_drop (x_call [a] (e_cons (e_var 1) e_nil) e)))))
theorem hear_unitx {d b z : PyData} (hz : reprD d = some z) (h : sizeB d = false) : b_law_refused (sR 3 d b none) = .ok (.rt (.dat (.tuple [.str (Str.ofString "number"), z]))) (sR 3 d b none) :=
  refused_number hz (e_iff at_w (e_iff at_w (e_iff at_w (x_drop (x_call [d] (e_cons (e_var 1) e_nil) (unitx_x h))))))
end
end K43
namespace K43
open PySem VS WebS PermS NumS
section
variable [VS.TabL]
theorem erase_iN : ∀ (t : List Nat) (i : Nat), (iN t).eraseIdx i = iN (t.eraseIdx i) := fun t i => erase_map (fun j : Nat => PyData.int (j : Int)) t i
theorem erase_permN : ∀ (t : List Nat) (i : Nat) (h : i < t.length), (t[i] :: t.eraseIdx i).Perm t
  | x :: t, 0, _ => List.Perm.refl _
  | x :: t, i + 1, h => by
    have h : i < t.length := by simpa using h
    exact (List.Perm.swap x (t[i]) (t.eraseIdx i)).trans ((erase_permN t i h).cons x)
def DInv (n : Nat) (m B : Int) (N : Nat) (s : Sd) : Prop := ∃ a c left found, s = [some (.own (potL a m c)), some (.dat (.int n)), some (.own (.list (iN left))), some (.own (.list (iN found)))] ∧ left.length = N ∧ c + left.length ≤ B ∧ Pot a m c ∧ (found ++ left).Perm (List.range n)
noncomputable def dTest : M Bool := mTB (m2 neD (mVar 2) (dF (mLst mNil)))
noncomputable def dBody : MS := mDrop (mMut 3 appF (mCons (mMut 2 popF (mCons (mCallD b_law_take 5 [true, false] (mCons (mVar 0) (mCons (mN (one lenD) (mCons (mVar 2) mNil)) mNil))) mNil)) mNil))
theorem d_turn {n : Nat} {m B : Int} {N : Nat} {s : Sd} (hn : n ≤ 5) (hB : B < 2 ^ 800) (I : DInv n m B N s) :
    Wp (dTest s) fun b s1 => if b = true then Wp (dBody s1) (Nxt (fun f s => f = .nx ∧ DInv n m B 0 s) fun s2 => ∃ n', n' < N ∧ DInv n m B n' s2) else ((Fl.nx : Fl) = .nx ∧ DInv n m B 0 s1) := by
  obtain ⟨a, c, left, found, rfl, hN, hc, P, hp⟩ := I
  refine wp_of (e_tb (e_m2 (e_own 2) (e_dF (e_lst e_nil)) rfl rfl (neD_nil _))) ?_
  have hl := hp.length_eq
  rw [List.length_append, List.length_range] at hl
  cases left with
  | nil => exact ⟨rfl, a, c, [], found, rfl, rfl, hc, P, hp⟩
  | cons h t =>
    have cs : (h :: t).length = t.length + 1 := rfl
    have z := tenK
    refine wp_drop (wp_mut (i := 3) (ys := iN found) rfl (wp_mut (i := 2) (ys := iN (h :: t)) rfl (wp_take (i := 0) (n := (h :: t).length) rfl (e_n1 (e_own 2) rfl (by show some (PyData.int ((iN (h :: t)).length : Nat)) = _; rw [pI_len])) rfl P (by omega) (by omega) fun r a' c' r0 r1 P' hc' => ?_)))
    obtain ⟨q, rfl⟩ : ∃ q : Nat, r = (q : Int) := ⟨r.toNat, by omega⟩
    have hr : q < (h :: t).length := by omega
    have eg : (iN (h :: t))[q]? = some (.int ((h :: t)[q] : Nat)) := by
      have := iN_get hr
      rwa [List.getD_eq_getElem?_getD, List.getElem?_eq_getElem hr] at this
    refine ⟨_, iN (h :: t), (iN (h :: t)).eraseIdx q, _, rfl, rfl, pop_at eg (by rw [pI_len]; omega), _, iN found, iN (found ++ [(h :: t)[q]]), .none, rfl, rfl, ?_, ?_⟩
    · show appF (iN found) [.int ((h :: t)[q] : Nat)] = _
      have : found.length < sizeLine := by omega
      simp [appF, iN, this]
    · refine ⟨t.length, by omega, a', c', (h :: t).eraseIdx q, found ++ [(h :: t)[q]], ?_, ?_, ?_, P', ?_⟩
      · rw [erase_iN]
        rfl
      · rw [List.length_eraseIdx, if_pos hr, cs]
        omega
      · rw [List.length_eraseIdx, if_pos hr, cs]
        rw [cs] at hc
        omega
      · refine List.Perm.trans ?_ hp
        rw [List.append_assoc]
        exact (erase_permN (h :: t) q hr).append_left found
theorem d_all {n : Nat} {m B : Int} {N : Nat} {s : Sd} (hn : n ≤ 5) (hB : B < 2 ^ 800) (I : DInv n m B N s) (hN : N < 1000000) : Wp (mWhile dTest dBody 1000000 s) fun f s => f = .nx ∧ DInv n m B 0 s :=
  while_inv (fun N s => DInv n m B N s) (fun N s h => d_turn hn hB h) 1000000 N s hN I
theorem lperm_eq : b_law_perm = mSeq (mSetF 2 (mLR (mR1 (mVar 1)))) (mSeq (mSetF 3 (mLst mNil)) (mSeq (mWhile dTest dBody 1000000) (mRet [true, false] (mN (one tupleD) (mCons (mVar 3) mNil))))) := rfl
theorem perm_wp {n : Nat} {a m c : Int} (hn : n ≤ 5) (P : Pot a m c) (hc : c < 2 ^ 700) : Wp (b_law_perm (pad 4 [.own (potL a m c), .dat (.int n)])) fun f s => ∃ p a' c', f = .rt (.dat (pI p)) ∧ s[0]? = some (some (.own (potL a' m c'))) ∧ Pot a' m c' ∧ c' ≤ c + n ∧ Pm n p := by
  rw [lperm_eq]
  have l0 : (List.range n).length = n := List.length_range ..
  have w := d_all (n := n) (m := m) (B := c + n) (N := n) (s := [some (.own (potL a m c)), some (.dat (.int n)), some (.own (.list (iN (List.range n)))), some (.own (.list (iN [])))]) hn (by omega) ⟨a, c, List.range n, [], rfl, l0, by omega, P, List.Perm.refl _⟩ (by omega)
  generalize mWhile dTest dBody 1000000 = W at w ⊢
  have er := e_LR (k := (n : Int)) (e_var (d := .int n) (sd := pad 4 [.own (potL a m c), .dat (.int n)]) 1) (by omega) (by omega)
  rw [upto_nI, ← iN_iL] at er
  have e1 := e_setF (i := 2) er
  have e2 : mSetF 3 (mLst mNil) ((pad 4 [.own (potL a m c), .dat (.int n)]).set 2 (some (.own (.list (iN (List.range n)))))) = .ok .nx [some (.own (potL a m c)), some (.dat (.int n)), some (.own (.list (iN (List.range n)))), some (.own (.list (iN [])))] := rfl
  generalize pad 4 [.own (potL a m c), .dat (.int n)] = s0 at e1 e2 ⊢
  generalize s0.set 2 (some (.own (.list (iN (List.range n))))) = s1 at e1 e2
  generalize mSetF 2 (mLR (mR1 (mVar 1))) = A at e1 ⊢
  generalize mSetF 3 (mLst mNil) = B at e2 ⊢
  refine wp_sq (wp_of e1 ⟨rfl, wp_sq (wp_of e2 ⟨rfl, ?_⟩)⟩)
  refine wp_sq (wp_mono w fun f s h => ⟨h.1, ?_⟩)
  obtain ⟨_, a', c', left, found, rfl, h0, h1, P', hp⟩ := h
  have e0 : left = [] := List.length_eq_zero_iff.mp h0
  subst e0
  rw [List.append_nil] at hp
  refine wp_of (e_ret (md := [true, false]) (e_n1 (f1 := tupleD) (e_own 3) rfl rfl)) ⟨found, a', c', rfl, rfl, P', by simpa using h1, hp⟩
end
end K43
namespace K43
open PySem VS WebS PermS NumS
section
variable [VS.TabL]
theorem is_law_is : b_law_is = PermS.b_law_is := rfl
noncomputable def isBody : MS :=
    (mIf (mOr (mNot (mTest (mIs PyData.isInt (mVar 1)))) (mTest (mIs PyData.isBool (mVar 1))))
      (mRet [false] (mC (.bool false)))
      sNx)
theorem is_turn {D d : PyData} : isBody [some (.dat D), some (.dat d)] = if isW d = true then .ok .nx [some (.dat D), some (.dat d)] else .ok (.rt (.dat (.bool false))) [some (.dat D), some (.dat d)] := by
  have a := e_tst (e_is (p := PyData.isInt) (c := PyData.isInt d) (e_var (d := d) (sd := [some (.dat D), some (.dat d)]) 1))
  have b := e_tst (e_is (p := PyData.isBool) (c := PyData.isBool d) (e_var (d := d) (sd := [some (.dat D), some (.dat d)]) 1))
  have c := e_or (e_not a) fun _ => b
  cases d with
  | int i => exact e_iff c rfl
  | bool b => exact e_ift c (e_ret e_c)
  | _ => exact e_ift c (e_ret e_c)
theorem is_row {D : PyData} : ∀ (xs : List PyData) (z : Option Sl), ∃ s : Sd, s[0]? = some (some (.dat D)) ∧ s.length = 2 ∧ loopF (.nm 1) isBody xs [some (.dat D), z] = if xs.all isW = true then .ok .nx s else .ok (.rt (.dat (.bool false))) s
  | [], z => ⟨_, rfl, rfl, rfl⟩
  | x :: xs, z => by
    cases hx : isW x with
    | true =>
      obtain ⟨s, h0, hl, e⟩ := is_row (D := D) xs (some (.dat x))
      refine ⟨s, h0, hl, ?_⟩
      rw [List.all_cons, hx, Bool.true_and, ← e]
      show M.bind isBody _ [some (.dat D), some (.dat x)] = _
      unfold M.bind
      rw [is_turn, if_pos hx]
    | false =>
      refine ⟨[some (.dat D), some (.dat x)], rfl, rfl, ?_⟩
      rw [List.all_cons, hx, Bool.false_and, if_neg (by decide)]
      show M.bind isBody _ [some (.dat D), some (.dat x)] = _
      unfold M.bind
      rw [is_turn, if_neg (by rw [hx]; decide)]
      rfl
theorem isW_int {d : PyData} (h : isW d = true) : d = .int (intOf d) := by
  cases d with
  | int i => rfl
  | _ => cases h
theorem below_W {n : Int} {d : PyData} (h : below n d = true) : isW d = true := by
  obtain ⟨i, rfl, _⟩ := below_int h
  rfl
theorem law_is_eq (d : PyData) : ∃ s, b_law_is [some (.dat d), none] = .ok (.rt (.dat (.bool (isP d)))) s := by
  rw [is_law_is]
  unfold PermS.b_law_is
  cases d with
  | tuple ds =>
    have el : ∀ sd : Sd, sd[0]? = some (some (.dat (.tuple ds))) → mN (one lenD) (mCons (mVar 0) mNil) sd = .ok (.d (.int ds.length)) sd := fun sd h => e_n1 (e_var 0 h) rfl rfl
    have c := e_tb (e_chain (a := 1) (c := 5) (el [some (.dat (.tuple ds)), none] rfl))
    cases hc : (decide (1 ≤ (ds.length : Int)) && decide ((ds.length : Int) ≤ 5)) with
    | false =>
      rw [hc] at c
      rw [show isP (.tuple ds) = false from by simp only [isP, hc, Bool.false_and]]
      exact ⟨_, e_seqr (e_ift (e_or (p := false) (q := true) (e_nott (e_tst (e_is (e_var 0)))) fun _ => e_notf c) (e_ret e_c))⟩
    | true =>
      rw [hc] at c
      have hl : ds.length ≤ 5 := by
        rw [Bool.and_eq_true, decide_eq_true_eq, decide_eq_true_eq] at hc
        omega
      have hz : ds.length ≤ sizeLine := by
        have : 5 ≤ sizeLine := by simp [sizeLine]
        omega
      obtain ⟨s, h0, h2, e⟩ := is_row (D := .tuple ds) ds none
      have ef : mFor (mRow (mVar 0)) (.nm 1) isBody [some (.dat (.tuple ds)), none] = loopF (.nm 1) isBody ds [some (.dat (.tuple ds)), none] := by
        have er := e_rowT (ds := ds) (sd := [some (.dat (.tuple ds)), none]) (e_var 0)
        show M.bind _ _ _ = _
        unfold M.bind
        rw [er]
        rfl
      cases hw : ds.all isW with
      | false =>
        rw [hw, if_neg (by decide)] at e
        have : ds.all (below ds.length) = false := by
          rw [List.all_eq_false] at hw ⊢
          obtain ⟨x, hx, hn⟩ := hw
          exact ⟨x, hx, fun h => hn (below_W h)⟩
        rw [show isP (.tuple ds) = false from by simp only [isP, hc, this, Bool.false_and, Bool.and_false]]
        exact ⟨s, e_seq (e_iff (e_or (q := false) (e_nott (e_tst (e_is (e_var 0)))) fun _ => e_nott c) rfl) (e_seqr (ef.trans e))⟩
      | true =>
        rw [hw, if_pos rfl] at e
        have ei : ds = iL (ds.map intOf) := by
          unfold iL
          rw [List.map_map]
          exact ((List.map_congr_left fun x hx => (isW_int (List.all_eq_true.mp hw x hx)).symm).trans (List.map_id ds)).symm
        have es : sortedD (.tuple ds) = some (.list (iL ((ds.map intOf).mergeSort leI))) := by
          have q := sortedD_ints (ds.map intOf) (by rw [List.length_map]; exact hz)
          rw [← ei] at q
          exact q
        have hb : decide ((ds.map intOf).mergeSort leI = upto ds.length) = true → ds.all (below ds.length) = true := fun h => by
          have hp : (ds.map intOf).Perm (upto ds.length) := by
            have := List.mergeSort_perm (ds.map intOf) leI
            rw [of_decide_eq_true h] at this
            exact this.symm
          refine List.all_eq_true.mpr fun x hx => ?_
          have hi := upto_mem (hp.mem_iff.mp (List.mem_map.mpr ⟨x, hx, rfl⟩))
          have hx2 := isW_int (List.all_eq_true.mp hw x hx)
          rw [hx2]
          unfold below
          simp only [Bool.and_eq_true, decide_eq_true_eq]
          exact hi
        have hq : isP (.tuple ds) = decide ((ds.map intOf).mergeSort leI = upto ds.length) := by
          cases hd : decide ((ds.map intOf).mergeSort leI = upto ds.length) with
          | false => simp only [isP, hd, Bool.and_false]
          | true => simp only [isP, hc, hd, hb hd, Bool.and_true]
        rw [hq]
        exact ⟨s, e_seq (e_iff (e_or (q := false) (e_nott (e_tst (e_is (e_var 0)))) fun _ => e_nott c) rfl) (e_seq (ef.trans e) (e_ret (e_d2 (e_dF (e_nf1 (e_var (d := .tuple ds) 0 h0) rfl es)) (e_dF (e_LR (el s h0) (by omega) (by omega))) (eqD_ints _ _))))⟩
  | _ => exact ⟨_, e_seqr (e_ift (e_or (p := true) (q := true) (e_notf (e_tst (e_is (e_var 0)))) fun h => by cases h) (e_ret e_c))⟩
end
end K43
namespace K43
open PySem VS WebS PermS NumS
section
variable [VS.TabL]
mutual
theorem mix_nd : ∀ d : PyData, d.hasDict = false → mixR d = true
  | .none, _ => rfl
  | .bool _, _ => rfl
  | .int _, _ => rfl
  | .str _, _ => rfl
  | .list xs, h => by
    unfold mixR
    exact mixs_nd xs (by simpa [PyData.hasDict] using h)
  | .tuple xs, h => by
    unfold mixR
    exact mixs_nd xs (by simpa [PyData.hasDict] using h)
  | .dict es, h => by simp [PyData.hasDict] at h
theorem mixs_nd : ∀ xs : List PyData, PyData.hasDictAll xs = false → mixRs xs = true
  | [], _ => rfl
  | x :: xs, h => by
    simp only [PyData.hasDictAll, Bool.or_eq_false_iff] at h
    unfold mixRs
    rw [mix_nd x h.1, mixs_nd xs h.2]
    rfl
end
theorem mixRs_all : ∀ {xs : List PyData}, (∀ x ∈ xs, mixR x = true) → mixRs xs = true
  | [], _ => rfl
  | x :: xs, h => by
    unfold mixRs
    rw [h x List.mem_cons_self, mixRs_all fun y hy => h y (List.mem_cons_of_mem _ hy)]
    rfl
theorem showR_of {d : PyData} (h : Sm 300000 60 d) (hm : mixR d = true) : showOkR d = true := by
  have l := PyData.shown_le 45 (by decide) d h.ls
  have := h.wt
  have hz : d.shown.length ≤ sizeLine := by
    simp only [sizeLine]
    omega
  unfold showOkR
  rw [h.sh, decide_eq_true h.dp, decide_eq_true hz, hm]
  rfl
structure Ox (x : PyData) : Prop where
  sm : Sm 10000 10 x
  mx : mixR x = true
theorem ox_sd {x : PyData} {w dp : Nat} (h : Sd0 w dp x) (hw : w ≤ 10000) (hd : dp ≤ 10) : Ox x := ⟨h.sm.mono hw hd, mix_nd x h.nd⟩
theorem ox_by {x : PyData} (h : smB 1000 10 x = true) : Ox x := ox_sd (sd_by h) (by decide) (by decide)
theorem ox_dict : Ox (.dict []) := ⟨sm_dict.mono (by decide) (by decide), rfl⟩
abbrev parts (p : List Nat) : List PyData := [.int (-1), .int p.length, .int (p.getD 0 0 : Nat), .bool true, .none, .str (Str.ofString "0"), .tuple [.int 0], .int (10 ^ 39)]
def put (p : List Nat) (r : Int) (y : PyData) : PyData := .tuple (cutL (iN p) none (some r) ++ [y] ++ cutL (iN p) (some (r + 1)) none)
abbrev badA (p : List Nat) (r : Int) : List PyData := (parts p).map (put p r)
abbrev badB (p : List Nat) (r : Int) : List PyData := [.tuple (cutL (iN p) none (some r) ++ cutL (iN p) (some (r + 1)) none), .tuple (iN p ++ [.int p.length]), .tuple (iN p ++ iN p), .list (iN p), .tuple [], .int 0]
abbrev badC (p : List Nat) : List PyData := [.none, .bool true, .str (Str.ofString "01"), .dict [], .tuple [.tuple (iN p)]]
theorem sd_iN {n : Nat} (h5 : n ≤ 5) {p : List Nat} (h : Pm n p) : ∀ x ∈ iN p, Sd0 50 0 x := fun x hx => by
  obtain ⟨i, hi, rfl⟩ := List.mem_map.mp hx
  have := h.lt i hi
  exact sd_int (by omega)
theorem bads_ox {n : Nat} (h1 : 1 ≤ n) (h5 : n ≤ 5) {p : List Nat} (h : Pm n p) (r : Int) : ∀ d ∈ badA p r ++ badB p r ++ badC p, Ox d := by
  have sI := sd_iN h5 h
  have l := h.len
  have lN : (iN p).length = n := (pI_len p).trans l
  have lA := cut_len (iN p) none (some r)
  have lB := cut_len (iN p) (some (r + 1)) none
  have sA : ∀ x ∈ cutL (iN p) none (some r), Sd0 500 2 x := fun x hx => (sI x (cut_mem hx)).mono (by decide) (by decide)
  have sB : ∀ x ∈ cutL (iN p) (some (r + 1)) none, Sd0 500 2 x := fun x hx => (sI x (cut_mem hx)).mono (by decide) (by decide)
  have sP : ∀ x ∈ iN p, Sd0 500 2 x := fun x hx => (sI x hx).mono (by decide) (by decide)
  have row : ∀ ds : List PyData, ds.length ≤ 12 → (∀ x ∈ ds, Sd0 500 2 x) → Ox (.tuple ds) := fun ds hl hs => ox_sd (sd_tuple (k := 12) hs hl) (by decide) (by decide)
  have two : ∀ as bs : List PyData, (∀ x ∈ as, Sd0 500 2 x) → (∀ x ∈ bs, Sd0 500 2 x) → ∀ x ∈ as ++ bs, Sd0 500 2 x := fun as bs ha hb x hx => (List.mem_append.mp hx).elim (ha x) (hb x)
  have sn : Sd0 500 2 (.int (p.length : Int)) := (sd_int (by omega)).mono (by decide) (by decide)
  have s0 : Sd0 500 2 (.int (p.getD 0 0 : Nat)) := by
    have : p.getD 0 0 < 5 := by
      cases p with
      | nil => simp
      | cons i p =>
        have := h.lt i List.mem_cons_self
        show i < 5
        omega
    exact (sd_int (by omega)).mono (by decide) (by decide)
  intro d hd
  rcases List.mem_append.mp hd with hd | hd
  · rcases List.mem_append.mp hd with hd | hd
    · obtain ⟨y, hy, rfl⟩ := List.mem_map.mp hd
      have sy : Sd0 500 2 y := by
        simp only [parts, List.mem_cons, List.mem_nil_iff, or_false] at hy
        rcases hy with rfl | rfl | rfl | rfl | rfl | rfl | rfl | rfl
        · exact sd_by (by decide +kernel)
        · exact sn
        · exact s0
        · exact sd_by (by decide +kernel)
        · exact sd_by (by decide +kernel)
        · exact sd_by (by decide +kernel)
        · exact sd_by (by decide +kernel)
        · exact Sd0.mono (w := 400) (dp := 0) ⟨sm_intB (by decide +kernel), by simp [PyData.hasDict]⟩ (by decide) (by decide)
      refine row _ ?_ (two _ _ (two _ _ sA fun x hx => by rw [List.mem_singleton.mp hx]; exact sy) sB)
      simp only [List.length_append, List.length_cons, List.length_nil]
      omega
    · simp only [badB, List.mem_cons, List.mem_nil_iff, or_false] at hd
      rcases hd with rfl | rfl | rfl | rfl | rfl | rfl
      · exact row _ (by simp only [List.length_append]; omega) (two _ _ sA sB)
      · exact row _ (by simp only [List.length_append, List.length_cons, List.length_nil]; omega) (two _ _ sP fun x hx => by rw [List.mem_singleton.mp hx]; exact sn)
      · exact row _ (by simp only [List.length_append]; omega) (two _ _ sP sP)
      · exact ox_sd (sd_list (k := 12) sP (by omega)) (by decide) (by decide)
      · exact ox_by (by decide +kernel)
      · exact ox_by (by decide +kernel)
  · simp only [badC, List.mem_cons, List.mem_nil_iff, or_false] at hd
    rcases hd with rfl | rfl | rfl | rfl | rfl
    · exact ox_by (by decide +kernel)
    · exact ox_by (by decide +kernel)
    · exact ox_by (by decide +kernel)
    · exact ox_dict
    · exact ox_sd (sd_tuple (k := 1) (w := 300) (dp := 2) (fun x hx => by
        rw [List.mem_singleton.mp hx]
        exact (sd_tuple (k := 5) sI (by omega)).mono (by decide) (by decide)) (by simp)) (by decide) (by decide)
abbrev sS (a m c : Int) (p : List Nat) (r : Int) (L : Option Sl) : Sd := [some (.own (potL a m c)), some (.dat (pI p)), some (.dat (.int r)), L, none]
theorem len5 {sd : Sd} {p : List Nat} (h : sd[1]? = some (some (.dat (pI p)))) : mN (one lenD) (mCons (mVar 1) mNil) sd = .ok (.d (.int p.length)) sd := len_pI 1 h
theorem pow39 : powD (.int 10) (.int 39) = some (.int (10 ^ 39)) := powD_int (i := 10) (j := 39) (by decide) (by decide) (by decide +kernel)
theorem row_a {n : Nat} (h1 : 1 ≤ n) {p : List Nat} (h : Pm n p) (a m c r : Int) : (mLst (mCons (m1 negD (VS.mC (.int 1))) (mCons (mN (one lenD) (mCons (mVar 1) mNil)) (mCons (m2 ixD (mVar 1) (VS.mC (.int 0))) (mCons (VS.mC (.bool true)) (mCons (VS.mC .none) (mCons (VS.mC (.str (Str.ofString "0"))) (mCons (mTup (mCons (VS.mC (.int 0)) mNil)) (mCons (m2 powD (VS.mC (.int 10)) (VS.mC (.int 39))) mNil))))))))) (sS a m c p r none) = .ok (.list (parts p)) (sS a m c p r none) := by
  have l := h.len
  have i0 : ixD (pI p) (.int 0) = some (.int (p.getD 0 0 : Nat)) := ix_tup (j := 0) (iN_get (q := p) (i := 0) (by omega))
  exact e_lst (ds := parts p) (e_cons (e_m1 e_c rfl) (e_cons (len5 rfl) (e_cons (e_d2 (e_var (d := pI p) 1) e_c i0) (e_cons e_c (e_cons e_c (e_cons e_c (e_cons (e_tup (ds := [.int 0]) (e_cons e_c e_nil)) (e_cons (e_d2 e_c e_c pow39) e_nil))))))))
theorem elt_a {n : Nat} (h5 : n ≤ 5) {p : List Nat} (h : Pm n p) (a m c r : Int) (y : PyData) : (m2 addD (m2 addD (mSl (mVar 1) (VS.M.ret none) (intM (mVar 2))) (mTup (mCons (mVar 4) mNil))) (mSl (mVar 1) (intM (m2 addD (mVar 2) (VS.mC (.int 1)))) (VS.M.ret none))) [some (.own (potL a m c)), some (.dat (pI p)), some (.dat (.int r)), none, some (.dat y)] = .ok (.d (put p r y)) [some (.own (potL a m c)), some (.dat (pI p)), some (.dat (.int r)), none, some (.dat y)] := by
  have lN : (iN p).length = n := (pI_len p).trans h.len
  have lA := cut_len (iN p) none (some r)
  have lB := cut_len (iN p) (some (r + 1)) none
  have ea : m2 addD (mSl (mVar 1) (VS.M.ret none) (intM (mVar 2))) (mTup (mCons (mVar 4) mNil)) [some (.own (potL a m c)), some (.dat (pI p)), some (.dat (.int r)), none, some (.dat y)] = .ok (.d (.tuple (cutL (iN p) none (some r) ++ [y]))) [some (.own (potL a m c)), some (.dat (pI p)), some (.dat (.int r)), none, some (.dat y)] :=
    e_addT (e_sl (e_var 1) e_mn (e_im (e_var 2))) (e_tup (ds := [y]) (e_cons (e_var 4) e_nil)) (by simp only [List.length_cons, List.length_nil]; omega)
  exact e_addT ea (e_sl (e_var 1) (e_im (e_d2 (e_var (d := .int r) 2) (e_c (d := .int 1)) rfl)) e_mn) (by simp only [List.length_append, List.length_cons, List.length_nil]; omega)
theorem set_a {n : Nat} (h1 : 1 ≤ n) (h5 : n ≤ 5) {p : List Nat} (h : Pm n p) (a m c r : Int) : mSet 3 (dF (mLc (mRow (dF (mLst (mCons (m1 negD (VS.mC (.int 1))) (mCons (mN (one lenD) (mCons (mVar 1) mNil)) (mCons (m2 ixD (mVar 1) (VS.mC (.int 0))) (mCons (VS.mC (.bool true)) (mCons (VS.mC .none) (mCons (VS.mC (.str (Str.ofString "0"))) (mCons (mTup (mCons (VS.mC (.int 0)) mNil)) (mCons (m2 powD (VS.mC (.int 10)) (VS.mC (.int 39))) mNil))))))))))) (.nm 4) (VS.M.ret true) (m2 addD (m2 addD (mSl (mVar 1) (VS.M.ret none) (intM (mVar 2))) (mTup (mCons (mVar 4) mNil))) (mSl (mVar 1) (intM (m2 addD (mVar 2) (VS.mC (.int 1)))) (VS.M.ret none))) [4])) (sS a m c p r none) = .ok .nx (sS a m c p r (some (.dat (.list (badA p r))))) := by
  have e := e_lcM (sd := sS a m c p r none) (s1 := sS a m c p r none) (ms := mRow (dF (mLst (mCons (m1 negD (VS.mC (.int 1))) (mCons (mN (one lenD) (mCons (mVar 1) mNil)) (mCons (m2 ixD (mVar 1) (VS.mC (.int 0))) (mCons (VS.mC (.bool true)) (mCons (VS.mC .none) (mCons (VS.mC (.str (Str.ofString "0"))) (mCons (mTup (mCons (VS.mC (.int 0)) mNil)) (mCons (m2 powD (VS.mC (.int 10)) (VS.mC (.int 39))) mNil))))))))))) (t := .nm 4) (me := (m2 addD (m2 addD (mSl (mVar 1) (VS.M.ret none) (intM (mVar 2))) (mTup (mCons (mVar 4) mNil))) (mSl (mVar 1) (intM (m2 addD (mVar 2) (VS.mC (.int 1)))) (VS.M.ret none)))) (vs := [4]) (xs := parts p) (fun d : PyData => d) (put p r) (by rw [List.map_id']; exact e_rowLd (e_dF (row_a h1 h a m c r))) (by simp) fun y hy => ⟨[(4, y)], rfl, elt_a h5 h a m c r y⟩
  exact e_set (e_dF e)
theorem row_b {n : Nat} (h5 : n ≤ 5) {p : List Nat} (h : Pm n p) (a m c r : Int) (L : Option Sl) : (mLst (mCons (m2 addD (mSl (mVar 1) (VS.M.ret none) (intM (mVar 2))) (mSl (mVar 1) (intM (m2 addD (mVar 2) (VS.mC (.int 1)))) (VS.M.ret none))) (mCons (m2 addD (mVar 1) (mTup (mCons (mN (one lenD) (mCons (mVar 1) mNil)) mNil))) (mCons (m2 addD (mVar 1) (mVar 1)) (mCons (dF (mNF (one listD) (mCons (mVar 1) mNil))) (mCons (mTup mNil) (mCons (VS.mC (.int 0)) mNil))))))) (sS a m c p r L) = .ok (.list (badB p r)) (sS a m c p r L) := by
  have lN : (iN p).length = n := (pI_len p).trans h.len
  have lA := cut_len (iN p) none (some r)
  have lB := cut_len (iN p) (some (r + 1)) none
  exact e_lst (ds := badB p r) (e_cons (e_addT (e_sl (e_var 1) e_mn (e_im (e_var 2))) (e_sl (e_var 1) (e_im (e_d2 (e_var (d := .int r) 2) (e_c (d := .int 1)) rfl)) e_mn) (by omega)) (e_cons (e_addT (e_var 1) (e_tup (ds := [.int p.length]) (e_cons (len5 rfl) e_nil)) (by simp only [List.length_cons, List.length_nil]; omega)) (e_cons (e_addT (e_var 1) (e_var 1) (by omega)) (e_cons (e_dF (e_nf1 (e_var (d := pI p) 1) rfl rfl)) (e_cons (e_tup (ds := []) e_nil) (e_cons e_c e_nil))))))
theorem row_c {p : List Nat} (a m c r : Int) (L : Option Sl) : (mLst (mCons (VS.mC .none) (mCons (VS.mC (.bool true)) (mCons (VS.mC (.str (Str.ofString "01"))) (mCons (dF (VS.M.ret (.dict []))) (mCons (mTup (mCons (mVar 1) mNil)) mNil)))))) (sS a m c p r L) = .ok (.list (badC p)) (sS a m c p r L) :=
  e_lst (ds := badC p) (e_cons e_c (e_cons e_c (e_cons e_c (e_cons (e_dF rfl) (e_cons (e_tup (ds := [pI p]) (e_cons (e_var 1) e_nil)) e_nil)))))
theorem strange_wp {n : Nat} (h1 : 1 ≤ n) (h5 : n ≤ 5) {p : List Nat} (h : Pm n p) {a m c : Int} (P : Pot a m c) (hc : c < 2 ^ 700) : Wp (b_law_strange (pad 5 [.own (potL a m c), .dat (pI p)])) fun f s => ∃ d a' c', f = .rt (.dat d) ∧ Ox d ∧ s[0]? = some (some (.own (potL a' m c'))) ∧ Pot a' m c' ∧ c' ≤ c + 2 := by
  have l := h.len
  unfold b_law_strange
  refine wp_sq (wp_set (wp_take (i := 0) (n := (p.length : Int)) rfl (len5 rfl) rfl P (by omega) (by omega) fun r a1 c1 r0 r1 P1 hc1 => ⟨_, rfl, rfl, ?_⟩))
  show Wp (mSeq _ _ (sS a1 m c1 p r none)) _
  refine wp_sq (wp_of (set_a h1 h5 h a1 m c1 r) ⟨rfl, ?_⟩)
  have u := e_catL (i := 3) (sd := sS a1 m c1 p r (some (.dat (.list (badA p r))))) rfl (row_b h5 h a1 m c1 r _) (by simp)
  refine wp_sq (wp_of u ⟨rfl, ?_⟩)
  show Wp (mSeq _ _ (sS a1 m c1 p r (some (.dat (.list (badA p r ++ badB p r)))))) _
  have v := e_catL (i := 3) (sd := sS a1 m c1 p r (some (.dat (.list (badA p r ++ badB p r))))) rfl (row_c a1 m c1 r _) (by simp)
  refine wp_sq (wp_of v ⟨rfl, ?_⟩)
  show Wp (mRet _ _ (sS a1 m c1 p r (some (.dat (.list (badA p r ++ badB p r ++ badC p)))))) _
  have ln : (badA p r ++ badB p r ++ badC p).length = 19 := by simp
  have ox := bads_ox h1 h5 h r
  generalize badA p r ++ badB p r ++ badC p = L at ln ox ⊢
  have eL : mN (one lenD) (mCons (mVar 3) mNil) (sS a1 m c1 p r (some (.dat (.list L)))) = .ok (.d (.int 19)) (sS a1 m c1 p r (some (.dat (.list L)))) := by
    have := e_n1 (f1 := lenD) (e_var (d := .list L) (sd := sS a1 m c1 p r (some (.dat (.list L)))) 3) rfl (show lenD (.list L) = some (.int L.length) from rfl)
    rw [ln] at this
    exact this
  refine wp_ret (wp_d2 (wp_of (e_var (d := .list L) 3) ⟨_, rfl, wp_take (i := 0) (n := 19) rfl eL rfl P1 (by omega) (by decide) fun q a3 c3 q0 q1 P3 hc3 => ?_⟩))
  obtain ⟨x, ex, mx⟩ := ixL (r := q) (xs := L) q0 (by omega)
  exact ⟨_, x, rfl, ex, _, rfl, x, a3, c3, rfl, ox x (List.mem_of_getElem? mx), rfl, P3, by omega⟩
end
end K43
namespace VS
end VS
namespace CrossS
open PySem VS WebS LS
end CrossS
namespace WebS
open PySem VS
variable [VS.TabL]
variable {n : Int} {W : List (List Int)} {ms ms' P : List Int}
theorem Pth.congr {m m' : Int → Int} {g : Int → Option Int} {h : Int} {as : List Int} {at' : Option Int} (p : Pth m g h as at') : (∀ a ∈ as, m a = m' a) → Pth m' g h as at' := by
  induction p with
  | nil => exact fun _ => .nil
  | snoc p q ih =>
    intro e
    have p' := ih fun a ha => e a (List.mem_append_left _ ha)
    rw [e _ (List.mem_append_right _ (List.mem_singleton.mpr rfl))]
    exact .snoc p' q
end WebS
namespace CrossS
open PySem VS WebS LS
end CrossS
namespace VS
open PySem L2
variable [VS.TabL]
theorem rg_range (k : Nat) : rgL 0 (k : Int) = (List.range k).map fun i : Nat => PyData.int (i : Nat) := by
  unfold rgL
  rw [Int.sub_zero, Int.toNat_natCast]
  exact List.map_congr_left fun i _ => by rw [Int.zero_add]
end VS
namespace K43
open PySem VS WebS PermS NumS
section
variable [VS.TabL]
theorem eq_plain {d : PyData} (p : d.plain = true) (h : d.depth ≤ 60) : eqD d d = some (.bool true) := by
  unfold eqD
  rw [if_pos (by unfold cmpOk; rw [p, decide_eq_true (by omega)]; rfl), PySem.SeqAt.eqv_refl_plain d p]
theorem ne_plain {d : PyData} (p : d.plain = true) (h : d.depth ≤ 60) : neD d d = some (.bool false) := by
  unfold neD
  rw [if_pos (by unfold cmpOk; rw [p, decide_eq_true (by omega)]; rfl), PySem.SeqAt.eqv_refl_plain d p]
  rfl
theorem pI_itup (p : List Nat) : pI p = itup (nI p) := by
  unfold pI itup
  rw [iN_iL]
theorem pI_plain (p : List Nat) : (pI p).plain = true ∧ (pI p).depth ≤ 1 := by
  rw [pI_itup]
  exact ⟨by simp [PyData.plain, plain_ints], by simp [PyData.depth, depth_ints]⟩
theorem ne_pI (p : List Nat) : neD (pI p) (pI p) = some (.bool false) := ne_plain (pI_plain p).1 (Nat.le_trans (pI_plain p).2 (by decide))
theorem ne_str (a : Str) : neD (.str a) (.str a) = some (.bool false) := ne_plain rfl (by simp [PyData.depth])
structure Tn (n k : Nat) (p q t u : List Nat) (d : PyData) : Prop where
  n1 : 1 ≤ n
  n5 : n ≤ 5
  k1 : 1 ≤ k
  k5 : k ≤ 5
  p : Pm n p
  q : Pm n q
  t : Pm n t
  u : Pm k u
  d : Ox d
abbrev sT (A : Option Sl) (n : Nat) (p q t u : List Nat) (d : PyData) (x7 x8 x9 x10 x11 x12 x13 x14 : Option Sl) : Sd := [A, some (.dat (.int n)), some (.dat (pI p)), some (.dat (pI q)), some (.dat (pI t)), some (.dat (pI u)), some (.dat d), x7, x8, x9, x10, x11, x12, x13, x14]
theorem ox_pI {n : Nat} (h5 : n ≤ 5) {p : List Nat} (h : Pm n p) : Ox (pI p) := ox_sd (sd_tuple (k := 5) (sd_iN h5 h) (by rw [pI_len, h.len]; exact h5)) (by decide) (by decide)
theorem repr_list {ds : List PyData} (h0 : ds ≠ []) (hl : ds.length ≤ 25) (h : ∀ x ∈ ds, Ox x) : ∃ w, reprAD (.list ds) = some (.str w) := by
  have s : Sm 300000 60 (.list ds) := (sm_list (k := 25) (fun x hx => (h x hx).sm) hl).mono (by decide) (by decide)
  cases ds with
  | nil => exact absurd rfl h0
  | cons x xs =>
    refine ⟨_, if_pos (showR_of s ?_)⟩
    unfold mixR
    exact mixRs_all fun y hy => (h y hy).mx
variable {A x7 x8 x9 x10 x11 x12 x13 x14 : Option Sl} {n k : Nat} {p q t u : List Nat} {d : PyData}
theorem c_then {sd : Sd} {n : Nat} {a b : List Nat} {ma mb : M Opd} (h1 : 1 ≤ n) (h5 : n ≤ 5) (ha : Pm n a) (hb : Pm n b) (ea : ma sd = .ok (.d (pI a)) sd) (eb : mb sd = .ok (.d (pI b)) sd) : mCallD b_then 2 [false, false] (mCons ma (mCons mb mNil)) sd = .ok (.d (pI (aft a b))) sd := e_callA [pI a, pI b] (e_cons ea (e_cons eb e_nil)) (then_told h1 h5 ha hb)
theorem c_inv {sd : Sd} {n : Nat} {a : List Nat} {ma : M Opd} (h1 : 1 ≤ n) (h5 : n ≤ 5) (ha : Pm n a) (ea : ma sd = .ok (.d (pI a)) sd) : mCallD b_inverse 1 [false] (mCons ma mNil) sd = .ok (.d (pI (bck a))) sd := e_callA [pI a] (e_cons ea e_nil) (inverse_told h1 h5 ha)
theorem c_cyc {sd : Sd} {n : Nat} {a : List Nat} {ma : M Opd} (h1 : 1 ≤ n) (h5 : n ≤ 5) (ha : Pm n a) (ea : ma sd = .ok (.d (pI a)) sd) : mCallD b_cycles 1 [false] (mCons ma mNil) sd = .ok (.d (pI (cyc a))) sd := e_callA [pI a] (e_cons ea e_nil) (cycles_told h1 h5 ha)
theorem e_trR {sd : Sd} {n : Nat} {ma : M Opd} (h5 : n ≤ 5) (h : ma sd = .ok (.d (.int n)) sd) : mTR (mR1 ma) sd = .ok (.d (pI (List.range n))) sd := by
  have e := e_tupR (k := (n : Int)) h (by omega) (by omega)
  rw [upto_nI] at e
  unfold pI
  rw [iN_iL]
  exact e
abbrev toldL (n : Nat) (p q : List Nat) : List PyData := [pI (aft p q), pI (bck p), pI (List.range n), pI (cyc p), pI (List.range n)]
theorem s7 (T : Tn n k p q t u d) {K : PyData} (hK : reprAD (.list [pI p, pI q, d]) = some K) : (mSet 7 (mN (one reprAD) (mCons (dF (mLst (mCons (mVar 2) (mCons (mVar 3) (mCons (mVar 6) mNil))))) mNil))) (sT A n p q t u d none none none none none none none none) = .ok .nx (sT A n p q t u d (some (.dat K)) none none none none none none none) :=
  e_set (e_n1 (d := .list [pI p, pI q, d]) (e_dF (e_lst (ds := [pI p, pI q, d]) (e_cons (e_var 2) (e_cons (e_var 3) (e_cons (e_var 6) e_nil))))) rfl hK)
theorem s8 (T : Tn n k p q t u d) {K : PyData} : (mSet 8 (dF (mLst (mCons (mCallD b_then 2 [false, false] (mCons (mVar 2) (mCons (mVar 3) mNil))) (mCons (mCallD b_inverse 1 [false] (mCons (mVar 2) mNil)) (mCons (mCallD b_then 2 [false, false] (mCons (mVar 2) (mCons (mCallD b_inverse 1 [false] (mCons (mVar 2) mNil)) mNil))) (mCons (mCallD b_cycles 1 [false] (mCons (mVar 2) mNil)) (mCons (mCallD b_unit 1 [false] (mCons (mVar 1) mNil)) mNil)))))))) (sT A n p q t u d (some (.dat K)) none none none none none none none) = .ok .nx (sT A n p q t u d (some (.dat K)) (some (.dat (.list (toldL n p q)))) none none none none none none) := by
  have c2 : mVar 2 (sT A n p q t u d (some (.dat K)) none none none none none none none) = .ok (.d (pI p)) (sT A n p q t u d (some (.dat K)) none none none none none none none) := e_var 2
  have b := bck_facts T.n1 T.n5 T.p
  have e3 := c_then T.n1 T.n5 T.p b.1 c2 (c_inv T.n1 T.n5 T.p c2)
  rw [b.2.1] at e3
  exact e_set (e_dF (e_lst (ds := toldL n p q) (e_cons (c_then T.n1 T.n5 T.p T.q c2 (e_var 3)) (e_cons (c_inv T.n1 T.n5 T.p c2) (e_cons e3 (e_cons (c_cyc T.n1 T.n5 T.p c2) (e_cons (e_callA [.int n] (e_cons (e_var (d := .int n) 1) e_nil) (unit_told T.n1 T.n5)) e_nil)))))))
theorem s9 (T : Tn n k p q t u d) {K : PyData} : (mSet 9 (dF (mLst (mCons (mCallD b_law_after 3 [false, false] (mCons (mVar 2) (mCons (mVar 3) mNil))) (mCons (mCallD b_law_back 2 [false] (mCons (mVar 2) mNil)) (mCons (mTR (mR1 (mVar 1))) (mCons (mCallD b_law_rounds 6 [false] (mCons (mVar 2) mNil)) (mCons (mTR (mR1 (mVar 1))) mNil)))))))) (sT A n p q t u d (some (.dat K)) (some (.dat (.list (toldL n p q)))) none none none none none none) = .ok .nx (sT A n p q t u d (some (.dat K)) (some (.dat (.list (toldL n p q)))) (some (.dat (.list (toldL n p q)))) none none none none none) := by
  have c2 : mVar 2 (sT A n p q t u d (some (.dat K)) (some (.dat (.list (toldL n p q)))) none none none none none none) = .ok (.d (pI p)) (sT A n p q t u d (some (.dat K)) (some (.dat (.list (toldL n p q)))) none none none none none none) := e_var 2
  obtain ⟨sf, ec⟩ := law_rounds_ok T.n1 T.n5 T.p
  have pl := T.p.len
  have n5 := T.n5
  exact e_set (e_dF (e_lst (ds := toldL n p q) (e_cons (e_callA [pI p, pI q] (e_cons c2 (e_cons (e_var 3) e_nil)) (law_after_ok (fun i hi => by rw [T.q.len]; exact T.p.lt i hi) (by omega))) (e_cons (e_callA [pI p] (e_cons c2 e_nil) (law_back_ok T.n5 T.p)) (e_cons (e_trR T.n5 (e_var 1)) (e_cons (e_callA [pI p] (e_cons c2 e_nil) ec) (e_cons (e_trR T.n5 (e_var 1)) e_nil)))))))
theorem cyc_len (h1 : 1 ≤ n) (h5 : n ≤ 5) (h : Pm n p) : Ox (pI (cyc p)) := by
  have c := (cyc_facts h1 h5 h).2
  refine ox_sd (sd_tuple (w := 50) (dp := 0) (k := 5) (fun x hx => ?_) (by rw [pI_len]; exact c)) (by decide) (by decide)
  obtain ⟨i, hi, rfl⟩ := List.mem_map.mp hx
  have : i ≤ 5 := by
    obtain ⟨j, hj, hi⟩ := List.mem_flatMap.mp hi
    have := (List.mem_replicate.mp hi).2
    simp only [List.mem_cons, List.mem_nil_iff, or_false] at hj
    omega
  exact sd_int (by omega)
theorem s10 (T : Tn n k p q t u d) {K : PyData} : (mIf (mOr (mTB (m2 neD (mN (one reprAD) (mCons (mVar 8) mNil)) (mN (one reprAD) (mCons (mVar 9) mNil)))) (mTB (m2 neD (mCallD b_then 2 [false, false] (mCons (mCallD b_then 2 [false, false] (mCons (mVar 2) (mCons (mVar 3) mNil))) (mCons (mVar 4) mNil))) (mCallD b_then 2 [false, false] (mCons (mVar 2) (mCons (mCallD b_then 2 [false, false] (mCons (mVar 3) (mCons (mVar 4) mNil))) mNil)))))) (mRet [true] (VS.mC (.bool false))) sNx) (sT A n p q t u d (some (.dat K)) (some (.dat (.list (toldL n p q)))) (some (.dat (.list (toldL n p q)))) none none none none none) = .ok .nx (sT A n p q t u d (some (.dat K)) (some (.dat (.list (toldL n p q)))) (some (.dat (.list (toldL n p q)))) none none none none none) := by
  have b := bck_facts T.n1 T.n5 T.p
  obtain ⟨w, ew⟩ := repr_list (ds := toldL n p q) (by simp) (by simp) fun x hx => by
    simp only [toldL, List.mem_cons, List.mem_nil_iff, or_false] at hx
    rcases hx with rfl | rfl | rfl | rfl | rfl
    · exact ox_pI T.n5 (T.p.aft T.q)
    · exact ox_pI T.n5 b.1
    · exact ox_pI T.n5 (List.Perm.refl _)
    · exact cyc_len T.n1 T.n5 T.p
    · exact ox_pI T.n5 (List.Perm.refl _)
  have c2 : mVar 2 (sT A n p q t u d (some (.dat K)) (some (.dat (.list (toldL n p q)))) (some (.dat (.list (toldL n p q)))) none none none none none) = .ok (.d (pI p)) (sT A n p q t u d (some (.dat K)) (some (.dat (.list (toldL n p q)))) (some (.dat (.list (toldL n p q)))) none none none none none) := e_var 2
  have c3 : mVar 3 (sT A n p q t u d (some (.dat K)) (some (.dat (.list (toldL n p q)))) (some (.dat (.list (toldL n p q)))) none none none none none) = .ok (.d (pI q)) (sT A n p q t u d (some (.dat K)) (some (.dat (.list (toldL n p q)))) (some (.dat (.list (toldL n p q)))) none none none none none) := e_var 3
  have c4 : mVar 4 (sT A n p q t u d (some (.dat K)) (some (.dat (.list (toldL n p q)))) (some (.dat (.list (toldL n p q)))) none none none none none) = .ok (.d (pI t)) (sT A n p q t u d (some (.dat K)) (some (.dat (.list (toldL n p q)))) (some (.dat (.list (toldL n p q)))) none none none none none) := e_var 4
  have l := c_then T.n1 T.n5 (T.p.aft T.q) T.t (c_then T.n1 T.n5 T.p T.q c2 c3) c4
  have r := c_then T.n1 T.n5 T.p (T.q.aft T.t) c2 (c_then T.n1 T.n5 T.q T.t c3 c4)
  rw [aft_assoc fun i hi => by rw [T.q.len]; exact T.p.lt i hi] at l
  exact e_iff (e_or (p := false) (q := false) (e_tb (e_d2 (e_n1 (e_var 8) rfl ew) (e_n1 (e_var 9) rfl ew) (ne_str w))) fun _ => e_tb (e_d2 l r (ne_pI _))) rfl
theorem s11 (T : Tn n k p q t u d) {K : PyData} : (mIf (mOr (mTB (m2 neD (mCallD b_cycles 1 [false] (mCons (mCallD b_then 2 [false, false] (mCons (mCallD b_then 2 [false, false] (mCons (mVar 3) (mCons (mVar 2) mNil))) (mCons (mCallD b_inverse 1 [false] (mCons (mVar 3) mNil)) mNil))) mNil)) (m2 ixD (mVar 9) (VS.mC (.int 3))))) (mTB (m2 neD (mCallD b_cycles 1 [false] (mCons (mCallD b_inverse 1 [false] (mCons (mVar 2) mNil)) mNil)) (m2 ixD (mVar 9) (VS.mC (.int 3)))))) (mRet [true] (VS.mC (.bool false))) sNx) (sT A n p q t u d (some (.dat K)) (some (.dat (.list (toldL n p q)))) (some (.dat (.list (toldL n p q)))) none none none none none) = .ok .nx (sT A n p q t u d (some (.dat K)) (some (.dat (.list (toldL n p q)))) (some (.dat (.list (toldL n p q)))) none none none none none) := by
  have b := bck_facts T.n1 T.n5 T.q
  have c2 : mVar 2 (sT A n p q t u d (some (.dat K)) (some (.dat (.list (toldL n p q)))) (some (.dat (.list (toldL n p q)))) none none none none none) = .ok (.d (pI p)) (sT A n p q t u d (some (.dat K)) (some (.dat (.list (toldL n p q)))) (some (.dat (.list (toldL n p q)))) none none none none none) := e_var 2
  have c3 : mVar 3 (sT A n p q t u d (some (.dat K)) (some (.dat (.list (toldL n p q)))) (some (.dat (.list (toldL n p q)))) none none none none none) = .ok (.d (pI q)) (sT A n p q t u d (some (.dat K)) (some (.dat (.list (toldL n p q)))) (some (.dat (.list (toldL n p q)))) none none none none none) := e_var 3
  have x := c_cyc T.n1 T.n5 ((T.q.aft T.p).aft b.1) (c_then T.n1 T.n5 (T.q.aft T.p) b.1 (c_then T.n1 T.n5 T.q T.p c3 c2) (c_inv T.n1 T.n5 T.q c3))
  rw [cyc_conj T.n1 T.n5 T.p T.q b.1 b.2.1] at x
  have b2 := bck_facts T.n1 T.n5 T.p
  have y := c_cyc T.n1 T.n5 b2.1 (c_inv T.n1 T.n5 T.p c2)
  rw [cyc_back T.n1 T.n5 T.p] at y
  have z : m2 ixD (mVar 9) (VS.mC (.int 3)) (sT A n p q t u d (some (.dat K)) (some (.dat (.list (toldL n p q)))) (some (.dat (.list (toldL n p q)))) none none none none none) = .ok (.d (pI (cyc p))) (sT A n p q t u d (some (.dat K)) (some (.dat (.list (toldL n p q)))) (some (.dat (.list (toldL n p q)))) none none none none none) := e_d2 (e_var (d := .list (toldL n p q)) 9) e_c (ix_list (j := 3) rfl)
  exact e_iff (e_or (p := false) (q := false) (e_tb (e_d2 x z (ne_pI _))) fun _ => e_tb (e_d2 y z (ne_pI _))) rfl
theorem s12 (T : Tn n k p q t u d) {K : PyData} : (mIf (mTB (m2 neD (mN (one reprAD) (mCons (dF (mLc (mRow (dF (mLst (mCons (mVar 2) (mCons (mVar 5) (mCons (mVar 6) mNil)))))) (.nm 10) (VS.M.ret true) (mCallD b_is_perm 2 [false] (mCons (mVar 10) mNil)) [10])) mNil)) (mN (one reprAD) (mCons (dF (mLst (mCons (VS.mC (.bool true)) (mCons (VS.mC (.bool true)) (mCons (mCallD b_law_is 2 [false] (mCons (mVar 6) mNil)) mNil))))) mNil)))) (mRet [true] (VS.mC (.bool false))) sNx) (sT A n p q t u d (some (.dat K)) (some (.dat (.list (toldL n p q)))) (some (.dat (.list (toldL n p q)))) none none none none none) = .ok .nx (sT A n p q t u d (some (.dat K)) (some (.dat (.list (toldL n p q)))) (some (.dat (.list (toldL n p q)))) none none none none none) := by
  have er : mRow (dF (mLst (mCons (mVar 2) (mCons (mVar 5) (mCons (mVar 6) mNil))))) (sT A n p q t u d (some (.dat K)) (some (.dat (.list (toldL n p q)))) (some (.dat (.list (toldL n p q)))) none none none none none) = .ok ⟨[pI p, pI u, d], []⟩ (sT A n p q t u d (some (.dat K)) (some (.dat (.list (toldL n p q)))) (some (.dat (.list (toldL n p q)))) none none none none none) := e_rowLd (e_dF (e_lst (ds := [pI p, pI u, d]) (e_cons (e_var 2) (e_cons (e_var 5) (e_cons (e_var 6) e_nil)))))
  have e := e_lcM (sd := (sT A n p q t u d (some (.dat K)) (some (.dat (.list (toldL n p q)))) (some (.dat (.list (toldL n p q)))) none none none none none)) (s1 := (sT A n p q t u d (some (.dat K)) (some (.dat (.list (toldL n p q)))) (some (.dat (.list (toldL n p q)))) none none none none none)) (ms := mRow (dF (mLst (mCons (mVar 2) (mCons (mVar 5) (mCons (mVar 6) mNil)))))) (t := .nm 10) (me := mCallD b_is_perm 2 [false] (mCons (mVar 10) mNil)) (vs := [10]) (xs := [pI p, pI u, d]) (fun d : PyData => d) (fun d => PyData.bool (isP d)) (by rw [List.map_id']; exact er) (by simp) fun y hy => ⟨[(10, y)], rfl, e_call1 (e_var (d := y) 10) (is_perm_eq y)⟩
  rw [show [pI p, pI u, d].map (fun d => PyData.bool (isP d)) = [.bool true, .bool true, .bool (isP d)] from by rw [List.map_cons, List.map_cons, List.map_cons, isP_of T.n1 T.n5 T.p, isP_of T.k1 T.k5 T.u]; rfl] at e
  obtain ⟨sf, el⟩ := law_is_eq d
  obtain ⟨w, ew⟩ := repr_list (ds := [.bool true, .bool true, .bool (isP d)]) (by simp) (by simp) fun x hx => by
    simp only [List.mem_cons, List.mem_nil_iff, or_false] at hx
    rcases hx with rfl | rfl | rfl <;> exact ox_sd ⟨sm_bool _, by simp [PyData.hasDict]⟩ (by decide) (by decide)
  exact e_iff (e_tb (e_d2 (e_n1 (e_dF e) rfl ew) (e_n1 (e_dF (e_lst (ds := [.bool true, .bool true, .bool (isP d)]) (e_cons e_c (e_cons e_c (e_cons (e_call1 (e_var (d := d) 6) el) e_nil))))) rfl ew) (ne_str w))) rfl
abbrev wd (b : Bool) : PyData := if b = true then two "told" "" else two "labels" ""
def ofSize (n : Nat) (d : PyData) : Bool := isP d && (match d with | .tuple ds => ds.length == n | _ => false)
theorem r_one (T : Tn n k p q t u d) : b_law_refused (sR 0 (pI p) d none) = .ok (.rt (.dat (wd (ofSize n d)))) (sR 0 (pI p) d none) := by
  cases h : isP d with
  | false =>
    rw [show ofSize n d = false from by simp [ofSize, h]]
    exact hear_thenx (thenx_b (isP_of T.n1 T.n5 T.p) h)
  | true =>
    obtain ⟨j, y, j1, j5, hy, rfl⟩ := isP_pm h
    have l := hy.len
    by_cases hn : j = n
    · subst hn
      rw [show ofSize j (pI y) = true from by simp [ofSize, h, show isP (PyData.tuple (iN y)) = true from h, pI, pI_len, l]]
      exact hear_then T.n1 T.n5 T.p hy rfl rfl
    · rw [show ofSize n (pI y) = false from by simp [ofSize, h, pI, pI_len, l, hn]]
      exact hear_thenx (thenx_len (isP_of T.n1 T.n5 T.p) h (by rw [T.p.len, l]; omega))
theorem r_two (T : Tn n k p q t u d) : b_law_refused (sR 0 d (pI p) none) = .ok (.rt (.dat (wd (ofSize n d)))) (sR 0 d (pI p) none) := by
  cases h : isP d with
  | false =>
    rw [show ofSize n d = false from by simp [ofSize, h]]
    exact hear_thenx (thenx_a h)
  | true =>
    obtain ⟨j, y, j1, j5, hy, rfl⟩ := isP_pm h
    have l := hy.len
    by_cases hn : j = n
    · subst hn
      rw [show ofSize j (pI y) = true from by simp [ofSize, h, show isP (PyData.tuple (iN y)) = true from h, pI, pI_len, l]]
      exact hear_then T.n1 T.n5 hy T.p rfl rfl
    · rw [show ofSize n (pI y) = false from by simp [ofSize, h, pI, pI_len, l, hn]]
      exact hear_thenx (thenx_len h (isP_of T.n1 T.n5 T.p) (by rw [T.p.len, l]; omega))
theorem r_three (T : Tn n k p q t u d) : b_law_refused (sR 0 (pI p) (pI u) none) = .ok (.rt (.dat (wd (decide (k = n))))) (sR 0 (pI p) (pI u) none) := by
  by_cases hn : k = n
  · subst hn
    rw [decide_eq_true rfl]
    exact hear_then T.n1 T.n5 T.p T.u rfl rfl
  · rw [decide_eq_false hn]
    exact hear_thenx (thenx_len (isP_of T.n1 T.n5 T.p) (isP_of T.k1 T.k5 T.u) (by rw [T.p.len, T.u.len]; omega))
theorem r_four : b_law_refused (sR 1 d .none none) = .ok (.rt (.dat (wd (isP d)))) (sR 1 d .none none) := by
  cases h : isP d with
  | false => exact hear_invx h
  | true =>
    obtain ⟨j, y, j1, j5, hy, rfl⟩ := isP_pm h
    exact hear_inv j1 j5 hy rfl
theorem r_five : b_law_refused (sR 2 d .none none) = .ok (.rt (.dat (wd (isP d)))) (sR 2 d .none none) := by
  cases h : isP d with
  | false => exact hear_cycx h
  | true =>
    obtain ⟨j, y, j1, j5, hy, rfl⟩ := isP_pm h
    exact hear_cyc j1 j5 hy rfl
theorem c_ref {sd sf : Sd} {w : Int} {a b z : PyData} {ma mb : M Opd} (ea : ma sd = .ok (.d a) sd) (eb : mb sd = .ok (.d b) sd) (h : b_law_refused (sR w a b none) = .ok (.rt (.dat z)) sf) : mCallD b_law_refused 4 [false, false, false] (mCons (VS.mC (.int w)) (mCons ma (mCons mb mNil))) sd = .ok (.d z) sd := e_callA [.int w, a, b] (e_cons e_c (e_cons ea (e_cons eb e_nil))) h
theorem s13 (T : Tn n k p q t u d) {K : PyData} {b1 b3 b4 : Bool} (h1 : b1 = ofSize n d) (h3 : b3 = decide (k = n)) : (mSet 11 (dF (mLst (mCons (mCallD b_law_refused 4 [false, false, false] (mCons (VS.mC (.int 0)) (mCons (mVar 2) (mCons (mVar 6) mNil)))) (mCons (mCallD b_law_refused 4 [false, false, false] (mCons (VS.mC (.int 0)) (mCons (mVar 6) (mCons (mVar 2) mNil)))) (mCons (mCallD b_law_refused 4 [false, false, false] (mCons (VS.mC (.int 0)) (mCons (mVar 2) (mCons (mVar 5) mNil)))) mNil)))))) (sT A n p q t u d (some (.dat K)) (some (.dat (.list (toldL n p q)))) (some (.dat (.list (toldL n p q)))) none none none none none) = .ok .nx (sT A n p q t u d (some (.dat K)) (some (.dat (.list (toldL n p q)))) (some (.dat (.list (toldL n p q)))) none (some (.dat (.list [wd b1, wd b1, wd b3]))) none none none) := by
  subst h1
  subst h3
  exact e_set (e_dF (e_lst (ds := [wd (ofSize n d), wd (ofSize n d), wd (decide (k = n))]) (e_cons (c_ref (e_var 2) (e_var 6) (r_one T)) (e_cons (c_ref (e_var 6) (e_var 2) (r_two T)) (e_cons (c_ref (e_var 2) (e_var 5) (r_three T)) e_nil)))))
theorem s14 (T : Tn n k p q t u d) {K : PyData} {b1 b3 b4 : Bool} (h4 : b4 = isP d) : (mSet 11 (dF (m2F catD (mVar 11) (dF (mLst (mCons (mCallD b_law_refused 4 [false, false, false] (mCons (VS.mC (.int 1)) (mCons (mVar 6) (mCons (VS.mC .none) mNil)))) (mCons (mCallD b_law_refused 4 [false, false, false] (mCons (VS.mC (.int 2)) (mCons (mVar 6) (mCons (VS.mC .none) mNil)))) mNil))))))) (sT A n p q t u d (some (.dat K)) (some (.dat (.list (toldL n p q)))) (some (.dat (.list (toldL n p q)))) none (some (.dat (.list [wd b1, wd b1, wd b3]))) none none none) = .ok .nx (sT A n p q t u d (some (.dat K)) (some (.dat (.list (toldL n p q)))) (some (.dat (.list (toldL n p q)))) none (some (.dat (.list [wd b1, wd b1, wd b3, wd b4, wd b4]))) none none none) := by
  subst h4
  have u := e_lst (sd := (sT A n p q t u d (some (.dat K)) (some (.dat (.list (toldL n p q)))) (some (.dat (.list (toldL n p q)))) none (some (.dat (.list [wd b1, wd b1, wd b3]))) none none none)) (ds := [wd (isP d), wd (isP d)]) (e_cons (c_ref (e_var 6) (e_c (d := .none)) r_four) (e_cons (c_ref (e_var 6) (e_c (d := .none)) r_five) e_nil))
  exact e_catL (i := 11) (xs := [wd b1, wd b1, wd b3]) (ys := [wd (isP d), wd (isP d)]) rfl u (by simp)
theorem s15 {K : PyData} {b1 b3 b4 : Bool} : (mUnp (.tp [(.nm 12), (.nm 8)]) (mTup (mCons (mTup (mCons (VS.mC (.str (Str.ofString "labels"))) (mCons (VS.mC (.str (Str.ofString ""))) mNil))) (mCons (mTup (mCons (VS.mC (.str (Str.ofString "told"))) (mCons (VS.mC (.str (Str.ofString ""))) mNil))) mNil)))) (sT A n p q t u d (some (.dat K)) (some (.dat (.list (toldL n p q)))) (some (.dat (.list (toldL n p q)))) none (some (.dat (.list [wd b1, wd b1, wd b3, wd b4, wd b4]))) none none none) = .ok .nx (sT A n p q t u d (some (.dat K)) (some (.dat (two "told" ""))) (some (.dat (.list (toldL n p q)))) none (some (.dat (.list [wd b1, wd b1, wd b3, wd b4, wd b4]))) (some (.dat (two "labels" ""))) none none) :=
  e_unp (bs := [(12, two "labels" ""), (8, two "told" "")]) (e_tup (ds := [two "labels" "", two "told" ""]) (e_cons (e_tup (ds := [.str (Str.ofString "labels"), .str (Str.ofString "")]) (e_cons e_c (e_cons e_c e_nil))) (e_cons (e_tup (ds := [.str (Str.ofString "told"), .str (Str.ofString "")]) (e_cons e_c (e_cons e_c e_nil))) e_nil))) rfl
theorem e_wd {sd : Sd} {tt : M Bool} {b : Bool} (h : tt sd = .ok b sd) (e8 : sd[8]? = some (some (.dat (two "told" "")))) (e12 : sd[12]? = some (some (.dat (two "labels" "")))) : mIf tt (mVar 8) (mVar 12) sd = .ok (.d (wd b)) sd := by
  cases b with
  | true => exact e_ifD h (a := mVar 8) (b := mVar 12) (e_var 8 e8)
  | false => exact e_ifD h (a := mVar 8) (b := mVar 12) (e_var 12 e12)
theorem t_is {sd : Sd} (h : sd[6]? = some (some (.dat d))) : mTest (mCallD b_law_is 2 [false] (mCons (mVar 6) mNil)) sd = .ok (isP d) sd := by
  obtain ⟨sf, el⟩ := law_is_eq d
  exact e_tst (e_call1 (e_var (d := d) 6 h) el)
theorem t_size {sd : Sd} (h : sd[6]? = some (some (.dat d))) (h1 : sd[1]? = some (some (.dat (.int n)))) : mAnd (mTest (mCallD b_law_is 2 [false] (mCons (mVar 6) mNil))) (mTB (m2 eqD (mN (one lenD) (mCons (mVar 6) mNil)) (mVar 1))) sd = .ok (ofSize n d) sd := by
  cases hp : isP d with
  | false =>
    rw [show ofSize n d = (false && false) from by simp [ofSize, hp]]
    have := t_is h
    rw [hp] at this
    exact e_andT this fun h => by cases h
  | true =>
    obtain ⟨j, y, j1, j5, hy, rfl⟩ := isP_pm hp
    have l := hy.len
    have := t_is h
    rw [hp] at this
    have e := e_andT this fun _ => e_tb (e_d2 (len_pI 6 h) (e_var (d := .int n) 1 h1) (eqD_int _ _))
    rw [show ofSize n (pI y) = (true && decide ((y.length : Int) = n)) from by
      have hp2 : isP (PyData.tuple (iN y)) = true := hp
      have : ofSize n (pI y) = (y.length == n) := by simp [ofSize, hp2, pI, pI_len]
      rw [this, Bool.true_and, Bool.eq_iff_iff, beq_iff_eq, decide_eq_true_eq]
      omega]
    exact e
theorem t_least {sd : Sd} (hu : Pm k u) (h : sd[5]? = some (some (.dat (pI u)))) (h1 : sd[1]? = some (some (.dat (.int n)))) : mTB (m2 eqD (mN (one lenD) (mCons (mVar 5) mNil)) (mVar 1)) sd = .ok (decide (k = n)) sd := by
  have e := e_tb (e_d2 (len_pI 5 h) (e_var (d := .int n) 1 h1) (eqD_int _ _))
  rw [hu.len] at e
  rw [show decide (k = n) = decide ((k : Int) = n) from by rw [Bool.eq_iff_iff, decide_eq_true_eq, decide_eq_true_eq]; omega]
  exact e
theorem s16 (T : Tn n k p q t u d) {K : PyData} {b1 b3 b4 : Bool} (h1 : b1 = ofSize n d) : (mSet 13 (dF (mRep (mCons (mIf (mAnd (mTest (mCallD b_law_is 2 [false] (mCons (mVar 6) mNil))) (mTB (m2 eqD (mN (one lenD) (mCons (mVar 6) mNil)) (mVar 1)))) (mVar 8) (mVar 12)) mNil) (VS.mC (.int 2))))) (sT A n p q t u d (some (.dat K)) (some (.dat (two "told" ""))) (some (.dat (.list (toldL n p q)))) none (some (.dat (.list [wd b1, wd b1, wd b3, wd b4, wd b4]))) (some (.dat (two "labels" ""))) none none) = .ok .nx (sT A n p q t u d (some (.dat K)) (some (.dat (two "told" ""))) (some (.dat (.list (toldL n p q)))) none (some (.dat (.list [wd b1, wd b1, wd b3, wd b4, wd b4]))) (some (.dat (two "labels" ""))) (some (.dat (.list [wd b1, wd b1]))) none) := by
  subst h1
  exact e_set (e_dF (e_rep (ds := [wd (ofSize n d)]) (k := 2) (e_cons (e_wd (t_size rfl rfl) rfl rfl) e_nil) rfl (by simp) e_c (by decide) (by decide)))
theorem s17 (T : Tn n k p q t u d) {K : PyData} {b1 b3 b4 : Bool} (h3 : b3 = decide (k = n)) (h4 : b4 = isP d) : (mSet 13 (dF (m2F catD (dF (m2F catD (mVar 13) (dF (mLst (mCons (mIf (mTB (m2 eqD (mN (one lenD) (mCons (mVar 5) mNil)) (mVar 1))) (mVar 8) (mVar 12)) mNil))))) (dF (mRep (mCons (mIf (mTest (mCallD b_law_is 2 [false] (mCons (mVar 6) mNil))) (mVar 8) (mVar 12)) mNil) (VS.mC (.int 2))))))) (sT A n p q t u d (some (.dat K)) (some (.dat (two "told" ""))) (some (.dat (.list (toldL n p q)))) none (some (.dat (.list [wd b1, wd b1, wd b3, wd b4, wd b4]))) (some (.dat (two "labels" ""))) (some (.dat (.list [wd b1, wd b1]))) none) = .ok .nx (sT A n p q t u d (some (.dat K)) (some (.dat (two "told" ""))) (some (.dat (.list (toldL n p q)))) none (some (.dat (.list [wd b1, wd b1, wd b3, wd b4, wd b4]))) (some (.dat (two "labels" ""))) (some (.dat (.list [wd b1, wd b1, wd b3, wd b4, wd b4]))) none) := by
  have x := e_dF (e_rep (ds := [wd (isP d)]) (k := 2) (sd := (sT A n p q t u d (some (.dat K)) (some (.dat (two "told" ""))) (some (.dat (.list (toldL n p q)))) none (some (.dat (.list [wd b1, wd b1, wd b3, wd b4, wd b4]))) (some (.dat (two "labels" ""))) (some (.dat (.list [wd b1, wd b1]))) none)) (e_cons (e_wd (t_is rfl) rfl rfl) e_nil) rfl (by simp) e_c (by decide) (by decide))
  have y := e_catV (xs := [wd b1, wd b1]) (ys := [wd (decide (k = n))]) (sd := (sT A n p q t u d (some (.dat K)) (some (.dat (two "told" ""))) (some (.dat (.list (toldL n p q)))) none (some (.dat (.list [wd b1, wd b1, wd b3, wd b4, wd b4]))) (some (.dat (two "labels" ""))) (some (.dat (.list [wd b1, wd b1]))) none)) (e_var 13) (e_dF (e_lst (ds := [wd (decide (k = n))]) (e_cons (e_wd (t_least T.u rfl rfl) rfl rfl) e_nil))) (by simp)
  rw [← h4] at x
  rw [← h3] at y
  exact e_set (e_dF (e_catV (e_dF y) x (by simp)))
structure Odd (o : PyData) : Prop where
  no : sizeB o = false
  z : ∃ w, reprD o = some (.str w) ∧ reprAD o = some (.str w)
theorem odd_by {o : PyData} (h : sizeB o = false) (hs : showOk o = true) (hA : reprAD o = reprD o) : Odd o := ⟨h, ⟨_, if_pos hs, hA.trans (if_pos hs)⟩⟩
abbrev odds : List PyData := [.int 0, .int 6, .int (-1), .bool true, .none, .str (Str.ofString "2"), .tuple [.int 3], .int (10 ^ 39)]
theorem odds_ok : ∀ o ∈ odds, Odd o := fun o ho => by
  have sm : ∀ {x : PyData}, smB 1000 10 x = true → showOk x = true := fun h => ((sd_by h).mono (by decide) (by decide)).show
  simp only [odds, List.mem_cons, List.mem_nil_iff, or_false] at ho
  rcases ho with rfl | rfl | rfl | rfl | rfl | rfl | rfl | rfl
  · exact odd_by rfl (sm (by decide +kernel)) rfl
  · exact odd_by rfl (sm (by decide +kernel)) rfl
  · exact odd_by rfl (sm (by decide +kernel)) rfl
  · exact odd_by rfl (sm (by decide +kernel)) rfl
  · exact odd_by rfl (sm (by decide +kernel)) rfl
  · exact odd_by rfl (sm (by decide +kernel)) rfl
  · exact odd_by rfl (sm (by decide +kernel)) rfl
  · exact odd_by (by decide +kernel) (show_intB (by decide +kernel)) rfl
theorem odd_row (sd : Sd) : (dF (mLst (mCons (VS.mC (.int 0)) (mCons (VS.mC (.int 6)) (mCons (m1 negD (VS.mC (.int 1))) (mCons (VS.mC (.bool true)) (mCons (VS.mC .none) (mCons (VS.mC (.str (Str.ofString "2"))) (mCons (mTup (mCons (VS.mC (.int 3)) mNil)) (mCons (m2 powD (VS.mC (.int 10)) (VS.mC (.int 39))) mNil)))))))))) sd = .ok (.d (.list odds)) sd :=
  e_dF (e_lst (ds := odds) (e_cons e_c (e_cons e_c (e_cons (e_m1 e_c rfl) (e_cons e_c (e_cons e_c (e_cons e_c (e_cons (e_tup (ds := [.int 3]) (e_cons e_c e_nil)) (e_cons (e_d2 e_c e_c pow39) e_nil)))))))))
theorem s19 {o : PyData} (ho : Odd o) {K : PyData} {b1 b3 b4 : Bool} : (mIf (mTB (m2 neD (mCallD b_law_refused 4 [false, false, false] (mCons (VS.mC (.int 3)) (mCons (mVar 14) (mCons (VS.mC .none) mNil)))) (mTup (mCons (VS.mC (.str (Str.ofString "number"))) (mCons (mN (one reprAD) (mCons (mVar 14) mNil)) mNil))))) (mRet [true] (VS.mC (.bool false))) sNx) (sT A n p q t u d (some (.dat K)) (some (.dat (two "told" ""))) (some (.dat (.list (toldL n p q)))) none (some (.dat (.list [wd b1, wd b1, wd b3, wd b4, wd b4]))) (some (.dat (two "labels" ""))) (some (.dat (.list [wd b1, wd b1, wd b3, wd b4, wd b4]))) (some (.dat o))) = .ok .nx (sT A n p q t u d (some (.dat K)) (some (.dat (two "told" ""))) (some (.dat (.list (toldL n p q)))) none (some (.dat (.list [wd b1, wd b1, wd b3, wd b4, wd b4]))) (some (.dat (two "labels" ""))) (some (.dat (.list [wd b1, wd b1, wd b3, wd b4, wd b4]))) (some (.dat o))) := by
  obtain ⟨w, e1, e2⟩ := ho.z
  exact e_iff (e_tb (e_d2 (c_ref (w := 3) (e_var (d := o) 14) e_c (hear_unitx e1 ho.no)) (e_tup (ds := [.str (Str.ofString "number"), .str w]) (e_cons e_c (e_cons (e_n1 (e_var (d := o) 14) rfl e2) e_nil))) (ne_plain rfl (by simp [PyData.depth, PyData.depthAll])))) rfl
theorem wd_plain (b : Bool) : (wd b).plain = true ∧ (wd b).depth ≤ 1 := by cases b <;> exact ⟨rfl, by decide +kernel⟩
theorem s20 {o : PyData} {w : Str} (hK : reprAD (.list [pI p, pI q, d]) = some (.str w)) {b1 b3 b4 : Bool} : (mRet [true] (mAndV (m2 eqD (mVar 11) (mVar 13)) (m2 eqD (mN (one reprAD) (mCons (dF (mLst (mCons (mVar 2) (mCons (mVar 3) (mCons (mVar 6) mNil))))) mNil)) (mVar 7)))) (sT A n p q t u d (some (.dat (.str w))) (some (.dat (two "told" ""))) (some (.dat (.list (toldL n p q)))) none (some (.dat (.list [wd b1, wd b1, wd b3, wd b4, wd b4]))) (some (.dat (two "labels" ""))) (some (.dat (.list [wd b1, wd b1, wd b3, wd b4, wd b4]))) (some (.dat o))) = .ok (.rt (.dat (.bool true))) (sT A n p q t u d (some (.dat (.str w))) (some (.dat (two "told" ""))) (some (.dat (.list (toldL n p q)))) none (some (.dat (.list [wd b1, wd b1, wd b3, wd b4, wd b4]))) (some (.dat (two "labels" ""))) (some (.dat (.list [wd b1, wd b1, wd b3, wd b4, wd b4]))) (some (.dat o))) := by
  have pl : (PyData.list [wd b1, wd b1, wd b3, wd b4, wd b4]).plain = true := by simp [PyData.plain, PyData.plainAll, (wd_plain b1).1, (wd_plain b3).1, (wd_plain b4).1]
  have dp : (PyData.list [wd b1, wd b1, wd b3, wd b4, wd b4]).depth ≤ 60 := by
    have h1 := (wd_plain b1).2
    have h3 := (wd_plain b3).2
    have h4 := (wd_plain b4).2
    simp only [PyData.depth, PyData.depthAll]
    omega
  have e := e_and (p := true) (q := true) (e_d2 (e_var (d := .list [wd b1, wd b1, wd b3, wd b4, wd b4]) (sd := (sT A n p q t u d (some (.dat (.str w))) (some (.dat (two "told" ""))) (some (.dat (.list (toldL n p q)))) none (some (.dat (.list [wd b1, wd b1, wd b3, wd b4, wd b4]))) (some (.dat (two "labels" ""))) (some (.dat (.list [wd b1, wd b1, wd b3, wd b4, wd b4]))) (some (.dat o)))) 11) (e_var (d := .list [wd b1, wd b1, wd b3, wd b4, wd b4]) 13) (eq_plain pl dp)) fun _ => e_d2 (e_n1 (d := .list [pI p, pI q, d]) (e_dF (e_lst (ds := [pI p, pI q, d]) (e_cons (e_var 2) (e_cons (e_var 3) (e_cons (e_var 6) e_nil))))) rfl hK) (e_var (d := .str w) 7) (eq_plain rfl (by simp [PyData.depth]))
  exact e_ret e
end
end K43
namespace K43
open PySem VS WebS PermS NumS
section
variable [VS.TabL]
structure PermB (B : MS) : Prop where
  go : ∀ (n : Nat) (a m c : Int), n ≤ 5 → Pot a m c → c < 2 ^ 700 → Wp (B (pad 4 [.own (potL a m c), .dat (.int n)])) fun f s => ∃ p a' c', f = .rt (.dat (pI p)) ∧ s[0]? = some (some (.own (potL a' m c'))) ∧ Pot a' m c' ∧ c' ≤ c + n ∧ Pm n p
structure StrB (B : MS) : Prop where
  go : ∀ (n : Nat) (p : List Nat) (a m c : Int), 1 ≤ n → n ≤ 5 → Pm n p → Pot a m c → c < 2 ^ 700 → Wp (B (pad 5 [.own (potL a m c), .dat (pI p)])) fun f s => ∃ d a' c', f = .rt (.dat d) ∧ Ox d ∧ s[0]? = some (some (.own (potL a' m c'))) ∧ Pot a' m c' ∧ c' ≤ c + 2
theorem perm_B : PermB b_law_perm := ⟨fun n a m c => @perm_wp _ n a m c⟩
theorem str_B : StrB b_law_strange := ⟨fun n p a m c h1 h5 h => @strange_wp _ n h1 h5 p h a m c⟩
theorem wp_perm {B : MS} (hB : PermB B) {sd : Sd} {n : Nat} {a m c : Int} {mn : M Opd} {Q : Opd → Sd → Prop} (h : sd[0]? = some (some (.own (potL a m c)))) (hn : mn sd = .ok (.d (.int n)) sd) (h5 : n ≤ 5) (P : Pot a m c) (hc : c < 2 ^ 700)
    (q : ∀ p a' c', Pm n p → Pot a' m c' → c' ≤ c + 5 → Q (.d (pI p)) (sd.set 0 (some (.own (potL a' m c'))))) : Wp (mCallD B 4 [true, false] (mCons (mVar 0) (mCons mn mNil)) sd) Q :=
  wp_callO h hn h (wp_mono (hB.go n a m c h5 P hc) fun f s hs => by
    obtain ⟨p, a', c', rfl, g, P', hc', hp⟩ := hs
    exact ⟨pI p, potL a' m c', rfl, g, q p a' c' hp P' (by omega)⟩)
abbrev sN (a m c : Int) (n : Nat) (x2 x3 x4 x5 x6 : Option Sl) : Sd := [some (.own (potL a m c)), some (.dat (.int n)), x2, x3, x4, x5, x6, none, none, none, none, none, none, none, none]
theorem size_wp {a m c : Int} {n : Nat} {x2 x3 x4 x5 x6 : Option Sl} (P : Pot a m c) (hc : c < 2 ^ 700) : Wp ((m2 addD (VS.mC (.int 1)) (m2 modD (m2 addD (mVar 1) (mCallD b_law_take 5 [true, false] (mCons (mVar 0) (mCons (VS.mC (.int 4)) mNil)))) (VS.mC (.int 5)))) (sN a m c n x2 x3 x4 x5 x6)) fun o s => ∃ (k : Nat) (a' c' : Int), o = .d (.int k) ∧ 1 ≤ k ∧ k ≤ 5 ∧ s = sN a' m c' n x2 x3 x4 x5 x6 ∧ Pot a' m c' ∧ c' ≤ c + 1 := by
  refine wp_d2 (wp_of e_c ⟨_, rfl, wp_d2 (wp_d2 (wp_of (e_var (d := .int n) 1) ⟨_, rfl, wp_take (i := 0) (n := 4) rfl e_c rfl P (by omega) (by decide) fun r a1 c1 r0 r1 P1 hc1 => ⟨_, _, rfl, rfl, _, rfl, wp_of e_c ⟨_, _, rfl, modD_int (by decide), _, _, rfl, rfl, ?_⟩⟩⟩))⟩)
  have h0 := Int.emod_nonneg ((n : Int) + r) (b := 5) (by decide)
  have h1 := Int.emod_lt_of_pos ((n : Int) + r) (b := 5) (by decide)
  refine ⟨(1 + ((n : Int) + r) % 5).toNat, a1, c1, ?_, by omega, by omega, rfl, P1, hc1⟩
  rw [show (((1 + ((n : Int) + r) % 5).toNat : Nat) : Int) = 1 + ((n : Int) + r) % 5 from by omega]
theorem wp_odd {sd : Sd} {a m c : Int} {Q : Opd → Sd → Prop} (h : sd[0]? = some (some (.own (potL a m c)))) (P : Pot a m c) (hc : c < 2 ^ 700) (q : ∀ o a' c', Odd o → Pot a' m c' → c' ≤ c + 1 → Q (.d o) (sd.set 0 (some (.own (potL a' m c'))))) : Wp ((m2 ixD (dF (mLst (mCons (VS.mC (.int 0)) (mCons (VS.mC (.int 6)) (mCons (m1 negD (VS.mC (.int 1))) (mCons (VS.mC (.bool true)) (mCons (VS.mC .none) (mCons (VS.mC (.str (Str.ofString "2"))) (mCons (mTup (mCons (VS.mC (.int 3)) mNil)) (mCons (m2 powD (VS.mC (.int 10)) (VS.mC (.int 39))) mNil)))))))))) (mCallD b_law_take 5 [true, false] (mCons (mVar 0) (mCons (VS.mC (.int 8)) mNil)))) sd) Q := by
  refine wp_d2 (wp_of (odd_row sd) ⟨_, rfl, wp_take (i := 0) (n := 8) h e_c h P (by omega) (by decide) fun r a1 c1 r0 r1 P1 hc1 => ?_⟩)
  obtain ⟨x, ex, mx⟩ := ixL (r := r) (xs := odds) r0 (by simpa using r1)
  exact ⟨_, x, rfl, ex, q x a1 c1 (odds_ok x (List.mem_of_getElem? mx)) P1 hc1⟩
noncomputable def rest : MS := (mSeq (mSet 7 (mN (one reprAD) (mCons (dF (mLst (mCons (mVar 2) (mCons (mVar 3) (mCons (mVar 6) mNil))))) mNil))) (mSeq (mSet 8 (dF (mLst (mCons (mCallD b_then 2 [false, false] (mCons (mVar 2) (mCons (mVar 3) mNil))) (mCons (mCallD b_inverse 1 [false] (mCons (mVar 2) mNil)) (mCons (mCallD b_then 2 [false, false] (mCons (mVar 2) (mCons (mCallD b_inverse 1 [false] (mCons (mVar 2) mNil)) mNil))) (mCons (mCallD b_cycles 1 [false] (mCons (mVar 2) mNil)) (mCons (mCallD b_unit 1 [false] (mCons (mVar 1) mNil)) mNil)))))))) (mSeq (mSet 9 (dF (mLst (mCons (mCallD b_law_after 3 [false, false] (mCons (mVar 2) (mCons (mVar 3) mNil))) (mCons (mCallD b_law_back 2 [false] (mCons (mVar 2) mNil)) (mCons (mTR (mR1 (mVar 1))) (mCons (mCallD b_law_rounds 6 [false] (mCons (mVar 2) mNil)) (mCons (mTR (mR1 (mVar 1))) mNil)))))))) (mSeq (mIf (mOr (mTB (m2 neD (mN (one reprAD) (mCons (mVar 8) mNil)) (mN (one reprAD) (mCons (mVar 9) mNil)))) (mTB (m2 neD (mCallD b_then 2 [false, false] (mCons (mCallD b_then 2 [false, false] (mCons (mVar 2) (mCons (mVar 3) mNil))) (mCons (mVar 4) mNil))) (mCallD b_then 2 [false, false] (mCons (mVar 2) (mCons (mCallD b_then 2 [false, false] (mCons (mVar 3) (mCons (mVar 4) mNil))) mNil)))))) (mRet [true] (VS.mC (.bool false))) sNx) (mSeq (mIf (mOr (mTB (m2 neD (mCallD b_cycles 1 [false] (mCons (mCallD b_then 2 [false, false] (mCons (mCallD b_then 2 [false, false] (mCons (mVar 3) (mCons (mVar 2) mNil))) (mCons (mCallD b_inverse 1 [false] (mCons (mVar 3) mNil)) mNil))) mNil)) (m2 ixD (mVar 9) (VS.mC (.int 3))))) (mTB (m2 neD (mCallD b_cycles 1 [false] (mCons (mCallD b_inverse 1 [false] (mCons (mVar 2) mNil)) mNil)) (m2 ixD (mVar 9) (VS.mC (.int 3)))))) (mRet [true] (VS.mC (.bool false))) sNx) (mSeq (mIf (mTB (m2 neD (mN (one reprAD) (mCons (dF (mLc (mRow (dF (mLst (mCons (mVar 2) (mCons (mVar 5) (mCons (mVar 6) mNil)))))) (.nm 10) (VS.M.ret true) (mCallD b_is_perm 2 [false] (mCons (mVar 10) mNil)) [10])) mNil)) (mN (one reprAD) (mCons (dF (mLst (mCons (VS.mC (.bool true)) (mCons (VS.mC (.bool true)) (mCons (mCallD b_law_is 2 [false] (mCons (mVar 6) mNil)) mNil))))) mNil)))) (mRet [true] (VS.mC (.bool false))) sNx) (mSeq (mSet 11 (dF (mLst (mCons (mCallD b_law_refused 4 [false, false, false] (mCons (VS.mC (.int 0)) (mCons (mVar 2) (mCons (mVar 6) mNil)))) (mCons (mCallD b_law_refused 4 [false, false, false] (mCons (VS.mC (.int 0)) (mCons (mVar 6) (mCons (mVar 2) mNil)))) (mCons (mCallD b_law_refused 4 [false, false, false] (mCons (VS.mC (.int 0)) (mCons (mVar 2) (mCons (mVar 5) mNil)))) mNil)))))) (mSeq (mSet 11 (dF (m2F catD (mVar 11) (dF (mLst (mCons (mCallD b_law_refused 4 [false, false, false] (mCons (VS.mC (.int 1)) (mCons (mVar 6) (mCons (VS.mC .none) mNil)))) (mCons (mCallD b_law_refused 4 [false, false, false] (mCons (VS.mC (.int 2)) (mCons (mVar 6) (mCons (VS.mC .none) mNil)))) mNil))))))) (mSeq (mUnp (.tp [(.nm 12), (.nm 8)]) (mTup (mCons (mTup (mCons (VS.mC (.str (Str.ofString "labels"))) (mCons (VS.mC (.str (Str.ofString ""))) mNil))) (mCons (mTup (mCons (VS.mC (.str (Str.ofString "told"))) (mCons (VS.mC (.str (Str.ofString ""))) mNil))) mNil)))) (mSeq (mSet 13 (dF (mRep (mCons (mIf (mAnd (mTest (mCallD b_law_is 2 [false] (mCons (mVar 6) mNil))) (mTB (m2 eqD (mN (one lenD) (mCons (mVar 6) mNil)) (mVar 1)))) (mVar 8) (mVar 12)) mNil) (VS.mC (.int 2))))) (mSeq (mSet 13 (dF (m2F catD (dF (m2F catD (mVar 13) (dF (mLst (mCons (mIf (mTB (m2 eqD (mN (one lenD) (mCons (mVar 5) mNil)) (mVar 1))) (mVar 8) (mVar 12)) mNil))))) (dF (mRep (mCons (mIf (mTest (mCallD b_law_is 2 [false] (mCons (mVar 6) mNil))) (mVar 8) (mVar 12)) mNil) (VS.mC (.int 2))))))) (mSeq (mSet 14 (m2 ixD (dF (mLst (mCons (VS.mC (.int 0)) (mCons (VS.mC (.int 6)) (mCons (m1 negD (VS.mC (.int 1))) (mCons (VS.mC (.bool true)) (mCons (VS.mC .none) (mCons (VS.mC (.str (Str.ofString "2"))) (mCons (mTup (mCons (VS.mC (.int 3)) mNil)) (mCons (m2 powD (VS.mC (.int 10)) (VS.mC (.int 39))) mNil)))))))))) (mCallD b_law_take 5 [true, false] (mCons (mVar 0) (mCons (VS.mC (.int 8)) mNil))))) (mSeq (mIf (mTB (m2 neD (mCallD b_law_refused 4 [false, false, false] (mCons (VS.mC (.int 3)) (mCons (mVar 14) (mCons (VS.mC .none) mNil)))) (mTup (mCons (VS.mC (.str (Str.ofString "number"))) (mCons (mN (one reprAD) (mCons (mVar 14) mNil)) mNil))))) (mRet [true] (VS.mC (.bool false))) sNx) (mRet [true] (mAndV (m2 eqD (mVar 11) (mVar 13)) (m2 eqD (mN (one reprAD) (mCons (dF (mLst (mCons (mVar 2) (mCons (mVar 3) (mCons (mVar 6) mNil))))) mNil)) (mVar 7)))))))))))))))))
theorem right_eq : b_law_right = mSeq (mSet 1 (m2 addD (VS.mC (.int 1)) (mCallD b_law_take 5 [true, false] (mCons (mVar 0) (mCons (VS.mC (.int 5)) mNil))))) (mSeq (mPar 2 3 (mCons (mCallD b_law_perm 4 [true, false] (mCons (mVar 0) (mCons (mVar 1) mNil))) (mCons (mCallD b_law_perm 4 [true, false] (mCons (mVar 0) (mCons (mVar 1) mNil))) mNil))) (mSeq (mSet 4 (mCallD b_law_perm 4 [true, false] (mCons (mVar 0) (mCons (mVar 1) mNil)))) (mSeq (mSet 5 (mCallD b_law_perm 4 [true, false] (mCons (mVar 0) (mCons (m2 addD (VS.mC (.int 1)) (m2 modD (m2 addD (mVar 1) (mCallD b_law_take 5 [true, false] (mCons (mVar 0) (mCons (VS.mC (.int 4)) mNil)))) (VS.mC (.int 5)))) mNil)))) (mSeq (mSet 6 (mCallD b_law_strange 5 [true, false] (mCons (mVar 0) (mCons (mVar 2) mNil)))) rest)))) := rfl
theorem draws_wp {B B2 R : MS} {Q : Fl → Sd → Prop} (hB : PermB B) (hB2 : StrB B2) {a m c : Int} (P : Pot a m c) (hc : c < 2 ^ 600)
    (hR : ∀ (n k : Nat) (p q t u : List Nat) (d : PyData) (a' c' : Int), Tn n k p q t u d → Pot a' m c' → c' ≤ c + 50 → Wp (R (sT (some (.own (potL a' m c'))) n p q t u d none none none none none none none none)) Q) : Wp ((mSeq (mSet 1 (m2 addD (VS.mC (.int 1)) (mCallD b_law_take 5 [true, false] (mCons (mVar 0) (mCons (VS.mC (.int 5)) mNil))))) (mSeq (mPar 2 3 (mCons (mCallD B 4 [true, false] (mCons (mVar 0) (mCons (mVar 1) mNil))) (mCons (mCallD B 4 [true, false] (mCons (mVar 0) (mCons (mVar 1) mNil))) mNil))) (mSeq (mSet 4 (mCallD B 4 [true, false] (mCons (mVar 0) (mCons (mVar 1) mNil)))) (mSeq (mSet 5 (mCallD B 4 [true, false] (mCons (mVar 0) (mCons (m2 addD (VS.mC (.int 1)) (m2 modD (m2 addD (mVar 1) (mCallD b_law_take 5 [true, false] (mCons (mVar 0) (mCons (VS.mC (.int 4)) mNil)))) (VS.mC (.int 5)))) mNil)))) (mSeq (mSet 6 (mCallD B2 5 [true, false] (mCons (mVar 0) (mCons (mVar 2) mNil)))) R))))) (pad 15 [.own (potL a m c)])) Q := by
  have big : (2 : Int) ^ 600 + 1000 < 2 ^ 700 := by decide +kernel
  refine wp_sq (wp_set (wp_d2 (wp_of e_c ⟨_, rfl, wp_take (i := 0) (n := 5) rfl e_c rfl P (by omega) (by decide) fun r a1 c1 r0 r1 P1 hc1 => ?_⟩)))
  obtain ⟨j, rfl⟩ : ∃ j : Nat, r = (j : Int) := ⟨r.toNat, by omega⟩
  refine ⟨_, .int ((j + 1 : Nat) : Int), rfl, by rw [show ((j + 1 : Nat) : Int) = 1 + (j : Int) from by omega]; rfl, _, rfl, rfl, ?_⟩
  have n1 : 1 ≤ j + 1 := by omega
  have n5 : j + 1 ≤ 5 := by omega
  generalize j + 1 = n at n1 n5 ⊢
  show Wp (mSeq _ _ (sN a1 m c1 n none none none none none)) _
  refine wp_sq (wp_par (wp_perm hB rfl (e_var (d := .int n) 1) n5 P1 (by omega) fun p a2 c2 hp P2 hc2 => ⟨_, rfl, wp_perm hB rfl (e_var (d := .int n) 1) n5 P2 (by omega) fun q a3 c3 hq P3 hc3 => ⟨_, rfl, rfl, ?_⟩⟩))
  show Wp (mSeq _ _ (sN a3 m c3 n (some (.dat (pI p))) (some (.dat (pI q))) none none none)) _
  refine wp_sq (wp_set (wp_perm hB rfl (e_var (d := .int n) 1) n5 P3 (by omega) fun t a4 c4 ht P4 hc4 => ⟨_, rfl, rfl, ?_⟩))
  show Wp (mSeq _ _ (sN a4 m c4 n (some (.dat (pI p))) (some (.dat (pI q))) (some (.dat (pI t))) none none)) _
  refine wp_sq (wp_set (wp_callO' (x := .none) (d1 := .none) (s1 := []) (wp_mono (size_wp P4 (by omega)) fun o s hs => ?_) ⟨_, rfl⟩))
  obtain ⟨k, a5, c5, rfl, k1, k5, rfl, P5, hc5⟩ := hs
  refine ⟨_, _, rfl, rfl, wp_mono (hB.go k a5 m c5 k5 P5 (by omega)) fun f s hs => ?_⟩
  obtain ⟨u, a6, c6, rfl, g, P6, hc6, hu⟩ := hs
  refine ⟨_, _, rfl, g, _, rfl, rfl, ?_⟩
  show Wp (mSeq _ _ (sN a6 m c6 n (some (.dat (pI p))) (some (.dat (pI q))) (some (.dat (pI t))) (some (.dat (pI u))) none)) _
  refine wp_sq (wp_set (wp_callO rfl (e_var (d := pI p) 2) rfl (wp_mono (hB2.go n p a6 m c6 n1 n5 hp P6 (by omega)) fun f s hs => ?_)))
  obtain ⟨d, a7, c7, rfl, hd, g, P7, hc7⟩ := hs
  refine ⟨_, _, rfl, g, _, rfl, rfl, ?_⟩
  exact hR n k p q t u d a7 c7 ⟨n1, n5, k1, k5, hp, hq, ht, hu, hd⟩ P7 (by omega)
structure RestB (R : MS) : Prop where
  go : ∀ (n k : Nat) (p q t u : List Nat) (d : PyData) (a m c : Int) (T : Tn n k p q t u d) (P : Pot a m c) (hc : c < 2 ^ 700), Wp (R (sT (some (.own (potL a m c))) n p q t u d none none none none none none none none)) fun f s => f = .rt (.dat (.bool true)) ∧ ∃ a' c', s[0]? = some (some (.own (potL a' m c'))) ∧ Pot a' m c' ∧ c' ≤ c + 1
theorem rest_wp (n k : Nat) (p q t u : List Nat) (d : PyData) (a m c : Int) (T : Tn n k p q t u d) (P : Pot a m c) (hc : c < 2 ^ 700) : Wp (rest (sT (some (.own (potL a m c))) n p q t u d none none none none none none none none)) fun f s => f = .rt (.dat (.bool true)) ∧ ∃ a' c', s[0]? = some (some (.own (potL a' m c'))) ∧ Pot a' m c' ∧ c' ≤ c + 1 := by
  obtain ⟨w, hK⟩ := repr_list (ds := [pI p, pI q, d]) (by simp) (by simp) fun x hx => by
    simp only [List.mem_cons, List.mem_nil_iff, or_false] at hx
    rcases hx with rfl | rfl | rfl
    · exact ox_pI T.n5 T.p
    · exact ox_pI T.n5 T.q
    · exact T.d
  unfold rest
  refine wp_sq (wp_of (s7 T hK) ⟨rfl, wp_sq (wp_of (s8 T) ⟨rfl, wp_sq (wp_of (s9 T) ⟨rfl, wp_sq (wp_of (s10 T) ⟨rfl, wp_sq (wp_of (s11 T) ⟨rfl, wp_sq (wp_of (s12 T) ⟨rfl, ?_⟩)⟩)⟩)⟩)⟩)⟩)
  refine wp_sq (wp_of (s13 T (b4 := isP d) rfl rfl) ⟨rfl, wp_sq (wp_of (s14 T rfl) ⟨rfl, wp_sq (wp_of s15 ⟨rfl, wp_sq (wp_of (s16 T rfl) ⟨rfl, wp_sq (wp_of (s17 T rfl rfl) ⟨rfl, ?_⟩)⟩)⟩)⟩)⟩)
  refine wp_sq (wp_set (wp_odd rfl P hc fun o a8 c8 ho P8 hc8 => ⟨_, rfl, rfl, ?_⟩))
  refine wp_sq (wp_of (s19 ho) ⟨rfl, wp_of (s20 hK) ⟨rfl, a8, c8, rfl, P8, hc8⟩⟩)
theorem right_wp {a m c : Int} (P : Pot a m c) (hc : c < 2 ^ 600) : Wp (b_law_right (pad 15 [.own (potL a m c)])) fun f s => ∃ a' c', f = .rt (.dat (.bool true)) ∧ s[0]? = some (some (.own (potL a' m c'))) ∧ Pot a' m c' ∧ c' ≤ c + 100 := by
  have big : (2 : Int) ^ 600 + 1000 < 2 ^ 700 := by decide +kernel
  rw [right_eq]
  have hb := perm_B
  have hs := str_B
  have hr : RestB rest := ⟨rest_wp⟩
  generalize rest = R at hr ⊢
  generalize b_law_perm = B at hb ⊢
  generalize b_law_strange = B2 at hs ⊢
  exact draws_wp hb hs P hc fun n k p q t u d a' c' T P' hc' => wp_mono (hr.go n k p q t u d a' m c' T P' (by omega)) fun f s hs => by
    obtain ⟨rfl, a2, c2, g, P2, h2⟩ := hs
    exact ⟨a2, c2, rfl, g, P2, by omega⟩
noncomputable def tnB : MS := (mIf (mNot (mTest (mCallD b_law_right 15 [true] (mCons (mVar 2) mNil)))) (mRet [false] (VS.mC (.bool false))) sNx)
noncomputable def tnC : M Src := (mRg (mR1 (mN (VS.two maxD2) (mCons (VS.mC (.int 1)) (mCons (mN (VS.two minD2) (mCons (mN (one lenD) (mCons (mVar 0) mNil)) (mCons (VS.mC (.int 63)) mNil))) mNil)))))
noncomputable def tn6 : M Src := (mRg (mR1 (VS.mC (.int 6))))
theorem law_eq : b_law = mSeq (mFor tnC (.nm 1) (mSeq (mSetF 2 (mCallF b_law_pot 4 [false, false] (mCons (mVar 0) (mCons (mVar 1) mNil)))) (mFor tn6 (.nm 3) tnB))) (mSeq (mSet 4 (dF (mLst (mCons (mCallD b_unit 1 [false] (mCons (VS.mC (.int 3)) mNil)) (mCons (mCallD b_then 2 [false, false] (mCons (mTup (mCons (VS.mC (.int 1)) (mCons (VS.mC (.int 0)) (mCons (VS.mC (.int 2)) mNil)))) (mCons (mTup (mCons (VS.mC (.int 0)) (mCons (VS.mC (.int 2)) (mCons (VS.mC (.int 1)) mNil)))) mNil))) (mCons (mCallD b_inverse 1 [false] (mCons (mTup (mCons (VS.mC (.int 1)) (mCons (VS.mC (.int 2)) (mCons (VS.mC (.int 0)) mNil)))) mNil)) (mCons (mCallD b_cycles 1 [false] (mCons (mTup (mCons (VS.mC (.int 0)) (mCons (VS.mC (.int 1)) mNil))) mNil)) (mCons (mCallD b_cycles 1 [false] (mCons (mTup (mCons (VS.mC (.int 1)) (mCons (VS.mC (.int 2)) (mCons (VS.mC (.int 0)) mNil)))) mNil)) mNil)))))))) (mRet [false] (mAndV (m2 eqD (mVar 4) (dF (mLst (mCons (mTup (mCons (VS.mC (.int 0)) (mCons (VS.mC (.int 1)) (mCons (VS.mC (.int 2)) mNil)))) (mCons (mTup (mCons (VS.mC (.int 2)) (mCons (VS.mC (.int 0)) (mCons (VS.mC (.int 1)) mNil)))) (mCons (mTup (mCons (VS.mC (.int 2)) (mCons (VS.mC (.int 0)) (mCons (VS.mC (.int 1)) mNil)))) (mCons (mTup (mCons (VS.mC (.int 1)) (mCons (VS.mC (.int 1)) mNil))) (mCons (mTup (mCons (VS.mC (.int 3)) mNil)) mNil)))))))) (m2 eqD (VS.mC (.int 5)) (VS.mC (.int 5)))))) := rfl
abbrev sL (ns : List Int) (x1 x2 x3 x4 : Option Sl) : Sd := [some (.dat (.list (ns.map .int))), x1, x2, x3, x4]
theorem tn_one {ns : List Int} {x1 x3 x4 : Option Sl} {a m c : Int} (P : Pot a m c) (hc : c < 2 ^ 600) : ∃ a' c', tnB (sL ns x1 (some (.own (potL a m c))) x3 x4) = .ok .nx (sL ns x1 (some (.own (potL a' m c'))) x3 x4) ∧ Pot a' m c' ∧ c' ≤ c + 100 := by
  have w := wp_callO1 (b := b_law_right) (N := 15) (i := 2) (sd := sL ns x1 (some (.own (potL a m c))) x3 x4) (Q := fun o s => o = .d (.bool true) ∧ ∃ a' c', s = sL ns x1 (some (.own (potL a' m c'))) x3 x4 ∧ Pot a' m c' ∧ c' ≤ c + 100) rfl (wp_mono (right_wp P hc) fun f s hs => by
    obtain ⟨a', c', rfl, g, P', hc'⟩ := hs
    exact ⟨_, _, rfl, g, rfl, a', c', rfl, P', hc'⟩)
  obtain ⟨o, s, e, rfl, a', c', rfl, P', hc'⟩ := wp_ex w
  exact ⟨a', c', e_iff (e_nott (e_tst e)) rfl, P', hc'⟩
theorem tn6_eq (sd : Sd) : tn6 sd = .ok ⟨(List.range 6).map fun i : Nat => PyData.int i, []⟩ sd := e_rg1 e_c (by decide) (by decide)
theorem tn_cell {ns : List Int} {x1 x3 x4 : Option Sl} {a m : Int} (P : Pot a m 0) : Wp (mFor tn6 (.nm 3) tnB (sL ns x1 (some (.own (potL a m 0))) x3 x4)) fun f s => f = .nx ∧ ∃ x2 x3, s = sL ns x1 x2 x3 x4 := by
  have st := fun (a c : Int) (x3 : Option Sl) (P : Pot a m c) (hc : c < 2 ^ 600) => tn_one (ns := ns) (x1 := x1) (x3 := x3) (x4 := x4) P hc
  have es := tn6_eq (sL ns x1 (some (.own (potL a m 0))) x3 x4)
  generalize tnB = mB at st ⊢
  generalize tn6 = mS at es ⊢
  refine wp_forA (α := Nat) (fun i => PyData.int (i : Nat)) es (fun pre s => ∃ a c x3, s = sL ns x1 (some (.own (potL a m c))) x3 x4 ∧ Pot a m c ∧ c ≤ 100 * (pre.length : Int)) (fun pre k post s hx J => ?_) (fun s J => ?_) ⟨a, 0, x3, rfl, P, by simp⟩
  · obtain ⟨a, c, x3, rfl, P, hc⟩ := J
    have hl : pre.length < 6 := by
      have := congrArg List.length hx
      simp at this
      omega
    have : (600 : Int) < 2 ^ 600 := by decide +kernel
    obtain ⟨a', c', e, P', hc'⟩ := st a c (some (.dat (.int (k : Nat)))) P (by omega)
    refine ⟨[(3, .int (k : Nat))], rfl, wp_of e ⟨a', c', _, rfl, P', ?_⟩⟩
    rw [List.length_append, List.length_cons, List.length_nil]
    omega
  · obtain ⟨a, c, x3, rfl, _, _⟩ := J
    exact ⟨rfl, _, _, rfl⟩
theorem cells_eq (ns : List Int) (hl : ns.length ≤ 63) (x1 x2 x3 x4 : Option Sl) : ∃ hi : Nat, hi ≤ 63 ∧ tnC (sL ns x1 x2 x3 x4) = .ok ⟨(List.range hi).map fun i : Nat => PyData.int i, []⟩ (sL ns x1 x2 x3 x4) := by
  have v := e_cells (sd := sL ns x1 x2 x3 x4) (ns := ns) (lo := 1) (hi := 63) 0
  obtain ⟨hi, h2⟩ : ∃ hi : Nat, (hi : Int) = max 1 (min (ns.length : Int) 63) := ⟨(max 1 (min (ns.length : Int) 63)).toNat, by omega⟩
  rw [← h2] at v
  refine ⟨hi, by omega, ?_⟩
  rw [← rg_range]
  exact e_rg1 v (by omega) (by omega)
theorem loop_eq (ns : List Int) (hl : ns.length ≤ 63) : ∃ x1 x2 x3, mFor tnC (.nm 1) (mSeq (mSetF 2 (mCallF b_law_pot 4 [false, false] (mCons (mVar 0) (mCons (mVar 1) mNil)))) (mFor tn6 (.nm 3) tnB)) (sL ns none none none none) = .ok .nx (sL ns x1 x2 x3 none) := by
  obtain ⟨hi, h63, es⟩ := cells_eq ns hl none none none none
  have st := fun (x1 x3 x4 : Option Sl) (a m : Int) (P : Pot a m 0) => tn_cell (ns := ns) (x1 := x1) (x3 := x3) (x4 := x4) P
  generalize tnC = mS at es ⊢
  generalize mFor tn6 (.nm 3) tnB = mB at st ⊢
  suffices H : Wp (mFor mS (.nm 1) (mSeq (mSetF 2 (mCallF b_law_pot 4 [false, false] (mCons (mVar 0) (mCons (mVar 1) mNil)))) mB) (sL ns none none none none)) fun f s => f = .nx ∧ ∃ x1 x2 x3, s = sL ns x1 x2 x3 none by
    obtain ⟨f, s, e, rfl, x1, x2, x3, rfl⟩ := wp_ex H
    exact ⟨x1, x2, x3, e⟩
  refine wp_forA (α := Nat) (fun i => PyData.int (i : Nat)) es (fun pre s => ∃ x1 x2 x3, s = sL ns x1 x2 x3 none) (fun pre k post s hx J => ?_) (fun s J => ⟨rfl, J⟩) ⟨_, _, _, rfl⟩
  obtain ⟨x1, x2, x3, rfl⟩ := J
  have hk : k < hi := List.mem_range.mp (by rw [hx]; simp)
  refine ⟨[(1, .int (k : Nat))], rfl, ?_⟩
  show Wp (mSeq _ _ (sL ns (some (.dat (.int (k : Nat)))) x2 x3 none)) _
  refine wp_sq (wp_setF (wp_pot (ns := ns) (k := k) 0 1 (by omega) fun a m P => ⟨rfl, ?_⟩))
  refine wp_mono (st (some (.dat (.int (k : Nat)))) x3 none a m P) fun f s hs => ?_
  obtain ⟨rfl, x2, x3, rfl⟩ := hs
  exact ⟨_, _, _, rfl⟩
theorem cyc01 : cyc [0, 1] = [1, 1] := by decide +kernel
theorem cyc120 : cyc [1, 2, 0] = [3] := by decide +kernel
theorem p3 : Pm 3 [1, 0, 2] ∧ Pm 3 [0, 2, 1] ∧ Pm 3 [1, 2, 0] ∧ Pm 2 [0, 1] := by decide +kernel
abbrev five : List PyData := [pI [0, 1, 2], pI [2, 0, 1], pI [2, 0, 1], pI [1, 1], pI [3]]
theorem e_pI3 {sd : Sd} {i j k : Nat} : mTup (mCons (VS.mC (.int i)) (mCons (VS.mC (.int j)) (mCons (VS.mC (.int k)) mNil))) sd = .ok (.d (pI [i, j, k])) sd := e_tup (ds := [.int i, .int j, .int k]) (e_cons e_c (e_cons e_c (e_cons e_c e_nil)))
theorem e_pI2 {sd : Sd} {i j : Nat} : mTup (mCons (VS.mC (.int i)) (mCons (VS.mC (.int j)) mNil)) sd = .ok (.d (pI [i, j])) sd := e_tup (ds := [.int i, .int j]) (e_cons e_c (e_cons e_c e_nil))
theorem e_pI1 {sd : Sd} {i : Nat} : mTup (mCons (VS.mC (.int i)) mNil) sd = .ok (.d (pI [i])) sd := e_tup (ds := [.int i]) (e_cons e_c e_nil)
theorem five_eq (sd : Sd) : (mLst (mCons (mCallD b_unit 1 [false] (mCons (VS.mC (.int 3)) mNil)) (mCons (mCallD b_then 2 [false, false] (mCons (mTup (mCons (VS.mC (.int 1)) (mCons (VS.mC (.int 0)) (mCons (VS.mC (.int 2)) mNil)))) (mCons (mTup (mCons (VS.mC (.int 0)) (mCons (VS.mC (.int 2)) (mCons (VS.mC (.int 1)) mNil)))) mNil))) (mCons (mCallD b_inverse 1 [false] (mCons (mTup (mCons (VS.mC (.int 1)) (mCons (VS.mC (.int 2)) (mCons (VS.mC (.int 0)) mNil)))) mNil)) (mCons (mCallD b_cycles 1 [false] (mCons (mTup (mCons (VS.mC (.int 0)) (mCons (VS.mC (.int 1)) mNil))) mNil)) (mCons (mCallD b_cycles 1 [false] (mCons (mTup (mCons (VS.mC (.int 1)) (mCons (VS.mC (.int 2)) (mCons (VS.mC (.int 0)) mNil)))) mNil)) mNil)))))) sd = .ok (.list five) sd := by
  have f1 : (mCallD b_unit 1 [false] (mCons (VS.mC (.int 3)) mNil)) sd = .ok (.d (pI [0, 1, 2])) sd := e_callA [.int (3 : Nat)] (e_cons e_c e_nil) (unit_told (n := 3) (by decide) (by decide))
  have f2 := c_then (sd := sd) (n := 3) (by decide) (by decide) p3.1 p3.2.1 (e_pI3 (i := 1) (j := 0) (k := 2)) (e_pI3 (i := 0) (j := 2) (k := 1))
  have f3 := c_inv (sd := sd) (n := 3) (by decide) (by decide) p3.2.2.1 (e_pI3 (i := 1) (j := 2) (k := 0))
  have f4 := c_cyc (sd := sd) (n := 2) (by decide) (by decide) p3.2.2.2 (e_pI2 (i := 0) (j := 1))
  have f5 := c_cyc (sd := sd) (n := 3) (by decide) (by decide) p3.2.2.1 (e_pI3 (i := 1) (j := 2) (k := 0))
  rw [show aft [1, 0, 2] [0, 2, 1] = [2, 0, 1] from by decide +kernel] at f2
  rw [show bck [1, 2, 0] = [2, 0, 1] from by decide +kernel] at f3
  rw [cyc01] at f4
  rw [cyc120] at f5
  exact e_lst (ds := five) (e_cons f1 (e_cons f2 (e_cons f3 (e_cons f4 (e_cons f5 e_nil)))))
theorem due_eq (sd : Sd) : (mLst (mCons (mTup (mCons (VS.mC (.int 0)) (mCons (VS.mC (.int 1)) (mCons (VS.mC (.int 2)) mNil)))) (mCons (mTup (mCons (VS.mC (.int 2)) (mCons (VS.mC (.int 0)) (mCons (VS.mC (.int 1)) mNil)))) (mCons (mTup (mCons (VS.mC (.int 2)) (mCons (VS.mC (.int 0)) (mCons (VS.mC (.int 1)) mNil)))) (mCons (mTup (mCons (VS.mC (.int 1)) (mCons (VS.mC (.int 1)) mNil))) (mCons (mTup (mCons (VS.mC (.int 3)) mNil)) mNil)))))) sd = .ok (.list five) sd :=
  e_lst (ds := five) (e_cons (e_pI3 (i := 0) (j := 1) (k := 2)) (e_cons (e_pI3 (i := 2) (j := 0) (k := 1)) (e_cons (e_pI3 (i := 2) (j := 0) (k := 1)) (e_cons (e_pI2 (i := 1) (j := 1)) (e_cons (e_pI1 (i := 3)) e_nil)))))
theorem five_plain : (PyData.list five).plain = true ∧ (PyData.list five).depth ≤ 60 := by
  simp [PyData.plain, PyData.plainAll, PyData.depth, PyData.depthAll, pI, iN]
theorem plain : ∀ ns : List Int, ns.length ≤ 63 → (∀ z ∈ ns, PySem.Builtin.Int.intBits z ≤ 1048576) → ∃ sf, VS.retOf [false] (b_law (VS.pad 5 [.dat (.list (ns.map .int))])) = .ok (.dat (.bool true)) sf := fun ns hl _ => by
  obtain ⟨x1, x2, x3, el⟩ := loop_eq ns hl
  have e2 := e_set (i := 4) (e_dF (five_eq (sL ns x1 x2 x3 none)))
  have e3 : (mRet [false] (mAndV (m2 eqD (mVar 4) (dF (mLst (mCons (mTup (mCons (VS.mC (.int 0)) (mCons (VS.mC (.int 1)) (mCons (VS.mC (.int 2)) mNil)))) (mCons (mTup (mCons (VS.mC (.int 2)) (mCons (VS.mC (.int 0)) (mCons (VS.mC (.int 1)) mNil)))) (mCons (mTup (mCons (VS.mC (.int 2)) (mCons (VS.mC (.int 0)) (mCons (VS.mC (.int 1)) mNil)))) (mCons (mTup (mCons (VS.mC (.int 1)) (mCons (VS.mC (.int 1)) mNil))) (mCons (mTup (mCons (VS.mC (.int 3)) mNil)) mNil)))))))) (m2 eqD (VS.mC (.int 5)) (VS.mC (.int 5))))) (sL ns x1 x2 x3 (some (.dat (.list five)))) = .ok (.rt (.dat (.bool true))) (sL ns x1 x2 x3 (some (.dat (.list five)))) := e_ret (e_and (p := true) (q := true) (e_d2 (e_var (d := .list five) 4) (e_dF (due_eq _)) (eq_plain five_plain.1 five_plain.2)) fun _ => e_d2 e_c e_c (eqD_int _ _))
  have e4 : b_law (pad 5 [.dat (.list (ns.map .int))]) = .ok (.rt (.dat (.bool true))) (sL ns x1 x2 x3 (some (.dat (.list five)))) := by
    rw [law_eq]
    exact e_seq el (e_seq e2 e3)
  exact ⟨_, by rw [e4]; rfl⟩
end
end K43
open PySem PySem.W PyProof.Rows
set_option maxRecDepth 100000 in
set_option maxHeartbeats 0 in
theorem PySem.Challenge.cw_tiewheel_k43_permutations_holds : PySem.Challenge.rw_tiewheel_k43_permutations.Holds := by
  w_on; o_law; k_head; (case hw => w_witness2)
  k_fill
  letI : VS.TabL := ⟨[], none⟩
  refine VS.walk_ofG (l := PySem.Challenge.rw_tiewheel_k43_permutations) (n := 63) (k := 8) (N := 5) (x := "_law_script") (m := K43.b_law) rfl rfl (by decide) rfl ⟨rfl, by decide, by decide⟩ (fun w h Y => PySem.W.kIn_of Y) ?F ?hsp
  case hsp => exact K43.plain
  case F =>
    intro w mg fa h KX G hmg
    refine' K43.all_mk KX G hmg ?a1 ?l1 ?c1 ?k1 ?a2 ?l2 ?c2 ?k2 ?a3 ?l3 ?c3 ?k3 ?a4 ?l4 ?c4 ?k4 ?a5 ?l5 ?c5 ?k5 ?a6 ?l6 ?c6 ?k6 ?a7 ?l7 ?c7 ?k7 ?a8 ?l8 ?c8 ?k8 ?a9 ?l9 ?c9 ?k9 ?a10 ?l10 ?c10 ?k10 ?a11 ?l11 ?c11 ?k11 ?a12 ?l12 ?c12 ?k12 ?a13 ?l13 ?c13 ?k13 ?a14 ?l14 ?c14 ?k14 ?a15 ?l15 ?c15 ?k15 ?a16 ?l16 ?c16 ?k16 ?a17 ?l17 ?c17 ?k17 ?a18 ?l18 ?c18 ?k18 ?a19 ?l19 ?c19 ?k19 ?a20 ?l20 ?c20 ?k20 ?a21 ?l21 ?c21 ?k21 ?a22 ?l22 ?c22 ?k22 ?a23 ?l23 ?c23 ?k23 ?a24 ?l24 ?c24 ?k24 ?z_abs ?z_all ?z_bool ?z_enumerate ?z_int ?z_isinstance ?z_len ?z_list ?z_max ?z_min ?z_range ?z_repr ?z_sorted ?z_tuple ?y_MOST_SIZE ?m_NoDeeds ?m_NoEnds ?m_NoFlips ?m_NoHand ?m_NoLabels ?m_NoMating ?m_NoNumber ?m_NoPainting ?m_NoWeb ?m_WebError ?ka_NoLabels__NoDeeds_NoEnds_NoFlips_NoHand_NoMating_NoPainting_NoWeb ?ka_NoNumber__NoDeeds_NoEnds_NoFlips_NoHand_NoMating_NoPainting_NoWeb ?ki_NoLabels_NoLabels ?ki_NoLabels_NoNumber ?ki_NoLabels_WebError ?ki_NoNumber_NoLabels ?ki_NoNumber_NoNumber ?ki_NoNumber_WebError ?o_NoNumber ?q_NoLabels ?q_NoNumber ?r_NoLabels ?xf_NoNumber ?xm_NoLabels__NoNumber ?xm_NoLabels__WebError ?xm_NoNumber__NoNumber ?iC_NoNumber ?tI_NoNumber ?lI_NoNumber ?cI_NoNumber ?kI_NoNumber ?nI_NoNumber
    (case a1 => k_is); (case l1 => k_is); (case c1 => k_is); (case k1 => k_is); (case a2 => k_is); (case l2 => k_is); (case c2 => k_is); (case k2 => k_is); (case a3 => k_is); (case l3 => k_is); (case c3 => k_is); (case k3 => k_is); (case a4 => k_is); (case l4 => k_is); (case c4 => k_is); (case k4 => k_is); (case a5 => k_is); (case l5 => k_is); (case c5 => k_is); (case k5 => k_is); (case a6 => k_is); (case l6 => k_is); (case c6 => k_is); (case k6 => k_is); (case a7 => k_is); (case l7 => k_is); (case c7 => k_is); (case k7 => k_is); (case a8 => k_is); (case l8 => k_is); (case c8 => k_is); (case k8 => k_is); (case a9 => k_is); (case l9 => k_is); (case c9 => k_is); (case k9 => k_is); (case a10 => k_is); (case l10 => k_is); (case c10 => k_is); (case k10 => k_is); (case a11 => k_is); (case l11 => k_is); (case c11 => k_is); (case k11 => k_is); (case a12 => k_is); (case l12 => k_is); (case c12 => k_is); (case k12 => k_is); (case a13 => k_is); (case l13 => k_is); (case c13 => k_is); (case k13 => k_is); (case a14 => k_is); (case l14 => k_is); (case c14 => k_is); (case k14 => k_is); (case a15 => k_is); (case l15 => k_is); (case c15 => k_is); (case k15 => k_is); (case a16 => k_is); (case l16 => k_is); (case c16 => k_is); (case k16 => k_is); (case a17 => k_is); (case l17 => k_is); (case c17 => k_is); (case k17 => k_is); (case a18 => k_is); (case l18 => k_is); (case c18 => k_is); (case k18 => k_is); (case a19 => k_is); (case l19 => k_is); (case c19 => k_is); (case k19 => k_is); (case a20 => k_is); (case l20 => k_is); (case c20 => k_is); (case k20 => k_is); (case a21 => k_is); (case l21 => k_is); (case c21 => k_is); (case k21 => k_is); (case a22 => k_is); (case l22 => k_is); (case c22 => k_is); (case k22 => k_is); (case a23 => k_is); (case l23 => k_is); (case c23 => k_is); (case k23 => k_is); (case a24 => k_is); (case l24 => k_is); (case c24 => k_is); (case k24 => k_is); (case z_abs => k_is); (case z_all => k_is); (case z_bool => k_is); (case z_enumerate => k_is); (case z_int => k_is); (case z_isinstance => k_is); (case z_len => k_is); (case z_list => k_is); (case z_max => k_is); (case z_min => k_is); (case z_range => k_is); (case z_repr => k_is); (case z_sorted => k_is); (case z_tuple => k_is); (case y_MOST_SIZE => k_is); (case m_NoDeeds => k_is); (case m_NoEnds => k_is); (case m_NoFlips => k_is); (case m_NoHand => k_is); (case m_NoLabels => k_is); (case m_NoMating => k_is); (case m_NoNumber => k_is); (case m_NoPainting => k_is); (case m_NoWeb => k_is); (case m_WebError => k_is); (case ka_NoLabels__NoDeeds_NoEnds_NoFlips_NoHand_NoMating_NoPainting_NoWeb => exact rfl); (case ka_NoNumber__NoDeeds_NoEnds_NoFlips_NoHand_NoMating_NoPainting_NoWeb => exact rfl); (case ki_NoLabels_NoLabels => exact rfl); (case ki_NoLabels_NoNumber => exact rfl); (case ki_NoLabels_WebError => exact rfl); (case ki_NoNumber_NoLabels => exact rfl); (case ki_NoNumber_NoNumber => exact rfl); (case ki_NoNumber_WebError => exact rfl); (case o_NoNumber => exact rfl); (case q_NoLabels => exact rfl); (case q_NoNumber => exact rfl); (case r_NoLabels => refine' VS.raTB_mk ?_ ?_ ?_ ?_ <;> first | k_exc | k_is); (case xf_NoNumber => exact rfl); (case xm_NoLabels__NoNumber => exact rfl); (case xm_NoLabels__WebError => exact rfl); (case xm_NoNumber__NoNumber => exact rfl); (case iC_NoNumber => k_is); (case tI_NoNumber => k_is); (case lI_NoNumber => k_is); (case cI_NoNumber => k_is); (case kI_NoNumber => k_is); (case nI_NoNumber => k_is)
