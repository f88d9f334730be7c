import PyProof.Rows.All
import Wide.All
import OpenK.AllK
import Wide.FinOn
import HandS.Base
import HandS.Call
import HandS.List
import HandS.Comp
import HandS.Ends
import HandS.Dict
import HandS.Iter
import HandS.Text
import HandS.More
import HandS.Flow
import HandS.Strs
import HandS.TupAny
import HandS.Exc
import HandS.Words
import HandS.WordsExc
import HandS.Defaults
import HandS.HeadHook1
import HandS.HeadHook2
import HandS.Deep
import HandS.FStr
import HandS.IsInst
import HandS.WordsDict
import HandS.Wide
import KE.KUnpack
import HandS.ExcOwn
import HandS.Property
import KE.GoesEnum
import HandS.Codes
import KE.SortData
import HandS.MakeKwOnly
import KE.SortKeyHeap
import HandS.SortKw
import KE.DataMinMax
import HandS.Style
import KE.DataFind
import KE.KExcSuper
import HandS.ExcInit
import HandS.ExcField
import HandS.ExcIs
import HandS.TryOnly
import HandS.TryMany
import KE.KExcIs
import HandS.Zip
import HandS.Rev
import HandS.Conv
import HandS.HeadEnd
import PyProof.ReprRoads
import HandS.SortOrd
import PyProof.Rows.SortKeyStr
import HandS.DictComp
import PyProof.SliceList
import HandS.Star
import HandS.ReplaceLit
import KE.KStateDown
import Lean
import HandS.Head0
import HandS.Head1
import HandS.Head2
import PySem.Challenge.RW_waypapers_k34_vital_roads
set_option Elab.async false
set_option linter.all false
set_option maxRecDepth 100000
set_option maxHeartbeats 2000000
namespace L2
open PySem PySem.Spec
theorem SqT.sqT {K : PySem.W.Frag} {H : Hp} {a : Addr} {xs : List V} (h : SqT K H a xs) : SqT K H a xs := h
end L2
namespace DL
open PySem PySem.Spec L2 PyProof.Rows
def PlT (K : PySem.W.Frag) (H : Hp) (a : Addr) (xs : List V) : Prop := (∃ o, H a = some (.frz o (.tup xs)) ∧ o.cls = .type "tuple" ∧ o.dict = none) ∨
  ∃ (o : Obj) (its : Array Value) (n : Nat), K.lookup a = some o ∧ o.cls = .type "tuple" ∧ o.dict = none ∧ o.data = .seq its n ∧ its.size ≤ sizeLine ∧ Vals xs its.toList
theorem PlT.sqT {K : PySem.W.Frag} {H : Hp} {a : Addr} {xs : List V} (h : PlT K H a xs) : SqT K H a xs := by
  rcases h with ⟨o, e, _⟩ | ⟨o, its, n, h1, h2, _, h3, h4, h5⟩
  · exact .inl (.inr ⟨o, e⟩)
  · exact .inr ⟨o, its, n, h1, h2, h3, h4, h5⟩
theorem PlT.mono {K : PySem.W.Frag} {H H' : Hp} {a : Addr} {xs : List V} (k : ∀ b u, H b = some u → H' b = some u) (h : PlT K H a xs) : PlT K H' a xs := by
  rcases h with ⟨o, e, c⟩ | h
  · exact .inl ⟨o, k _ _ e, c⟩
  · exact .inr h
abbrev NewT (H : Hp) (xs : List V) (Q : VK) : Prop := ∀ p o, H p = none → o.cls = .type "tuple" → o.dict = none → Q (.ref p) (upd H p (.frz o (.tup xs)))
theorem plT_new {K : PySem.W.Frag} {H : Hp} {p : Addr} {o : Obj} {xs : List V} (c : o.cls = .type "tuple") (d : o.dict = none) : PlT K (upd H p (.frz o (.tup xs))) p xs := .inl ⟨o, upd_same, c, d⟩
section
variable {X : Cx} {e : Expr} {es : List Expr} {te : TE} {t : TA} {pos : Pos}
def tTupP (t : TA) : TE := fun σ H Q => t σ H fun xs H1 => xs.length ≤ sizeLine ∧ NewT H1 xs Q
theorem pe_tupP {x1} (h : PA X es t) : PE X (.Tuple es x1 pos) (tTupP t) := by
  refine ⟨fun pins s σ H Q I hq => ?_⟩
  refine wpAny_Tuple_spliced (thn (h.run pos pins s σ H _ I hq) fun us s1 ⟨xs, H1, I1, r, z, q⟩ => ⟨by rw [← r.length]; exact z, ?_⟩)
  have hf : H1 s1.heap.objs.size = none := I1.hok.fresh (Nat.le_refl _)
  exact ⟨.ref s1.heap.objs.size, upd H1 s1.heap.objs.size (.frz { cls := .type "tuple", data := .seq us.toArray } (.tup xs)), I1.laid (t' := s1.toks) (fun b u e => Heap.get?_push_of_some _ e) (Nat.le_refl _) ⟨Heap.get?_push_size _ rfl, z, us, r, ⟨_, Heap.get?_push_size _ rfl, rfl, _, rfl⟩⟩, rfl, q _ _ hf rfl rfl⟩
theorem call_tuple_ofP : CallR X (.type "tuple") (fun xs H Q => ∃ p ys, xs = [.ref p] ∧ ((SqL X.K H p ys ∧ NewT H ys Q) ∨ (SqT X.K H p ys ∧ Q (.ref p) H))) := by
  intro pins s σ H xs us Q I r h
  obtain ⟨p, ys, rfl, h⟩ := h
  obtain ⟨u, rfl, rx⟩ := vals1 r
  cases rx
  rcases h with ⟨hq, q⟩ | ⟨hq, q⟩
  · obtain ⟨its, r', pl, hz⟩ := I.list hq
    have hlen := r'.length
    refine call_tuple_list pl.isList (fun h' kp => ?_) (by simp only [List.size_toArray] <;> omega)
    have I1 : Inv X pins σ H { s with heap := h' } := I.kept (t' := s.toks) kp
    have I2 : Inv X pins σ (upd H h'.objs.size (.frz { cls := .type "tuple", data := .seq its.toArray } (.tup ys))) { s with heap := h'.push { cls := .type "tuple", data := .seq its.toArray } } :=
      I1.laid (t' := s.toks) (fun b o e => Heap.get?_push_of_some _ e) (Nat.le_refl _) (show ObjOk X.prog X.w _ _ _ (.frz _ (.tup ys)) from ⟨Heap.get?_push_size _ rfl, hz, its, r', IsTup.new _ _⟩)
    exact ⟨.ref h'.objs.size, _, I2, rfl, q _ _ (I1.hok.fresh (Nat.le_refl _)) rfl rfl⟩
  · obtain ⟨its, r', pl, hz⟩ := I.tuple hq
    exact call_tuple_same pl ⟨.ref p, H, I, rfl, q⟩
def rCatP (K : PySem.W.Frag) : R2 := fun x y H Q => ∃ a b xs ys, x = .ref a ∧ y = .ref b ∧ SqT K H a xs ∧ SqT K H b ys ∧ xs.length + ys.length ≤ sizeLine ∧
  (xs = [] → Q (.ref b) H) ∧ (xs ≠ [] → ys = [] → Q (.ref a) H) ∧ (xs ≠ [] → ys ≠ [] → NewT H (xs ++ ys) Q)
theorem op_catP : OpR X (binaryOp .Add) (rCatP X.K) := by
  intro pins s σ H x y v u Q I rx ry h
  obtain ⟨a, b, xs, ys, rfl, rfl, ha, hb, hz, q0, q1, q2⟩ := h
  cases rx
  cases ry
  obtain ⟨its, r1, p1, _⟩ := I.tuple ha
  obtain ⟨its2, r2, p2, _⟩ := I.tuple hb
  by_cases hx : xs = []
  · subst hx
    cases r1
    exact cat_tup0 p1 p2 ⟨.ref b, H, I, rfl, q0 rfl⟩
  · refine HT.cat_tup p1 p2 (fun z => hx (r1.nil_iff.mp z)) (fun z => ⟨.ref a, H, I, rfl, q1 hx (r2.nil_iff.mp z)⟩) (fun z => ?_) (by rw [← r1.length, ← r2.length]; exact hz)
    refine ⟨.ref s.heap.objs.size, _, I.laid (t' := s.toks) (o := .frz _ (.tup (xs ++ ys))) (fun b ob q => Heap.get?_push_of_some _ q) (Nat.le_refl _) ⟨Heap.get?_push_size _ rfl, by rw [List.length_append]; exact hz, _, r1.append r2, IsTup.new _ _⟩, rfl, q2 hx (fun w => z (r2.nil_iff.mpr w)) _ _ (I.hok.fresh (Nat.le_refl _)) rfl rfl⟩
def rSlP (K : PySem.W.Frag) : V → Option Int → Option Int → Hp → VK → Prop := fun x lo hi H Q => ∃ a xs, x = .ref a ∧ SqT K H a xs ∧
  (HT.sIx xs.length 0 lo = 0 ∧ HT.sIx xs.length xs.length hi = xs.length → Q (.ref a) H) ∧ (¬ (HT.sIx xs.length 0 lo = 0 ∧ HT.sIx xs.length xs.length hi = xs.length) → NewT H (cutV xs lo hi) Q)
theorem sl_tupP : SlR X (rSlP X.K) := by
  intro pins s σ H x v vl vu lo hi sl Q I rx hs pl pu h
  obtain ⟨a, xs, rfl, hx, q1, q2⟩ := h
  cases rx
  obtain ⟨its, r, ht, hz⟩ := I.tuple hx
  have hlen : its.toArray.size = xs.length := by rw [List.size_toArray]; exact r.length.symm
  by_cases hw : HT.sIx xs.length 0 lo = 0 ∧ HT.sIx xs.length xs.length hi = xs.length
  · refine ⟨"tuple", _, PyProof.Rows.slot_tuple_getitem.lookup, ht.typeIs, ?_⟩
    exact getItem_tuple_whole ht hs pl pu (by rw [hlen]; exact hw) ⟨.ref a, H, I, rfl, q1 hw⟩
  · refine ⟨"tuple", _, PyProof.Rows.slot_tuple_getitem.lookup, ht.typeIs, ?_⟩
    refine HT.getItem_tuple_cut ht hs pl pu (by rw [hlen]; exact hw) ?_ (by rw [hlen]; exact hz)
    rw [hlen]
    refine ⟨.ref s.heap.objs.size, _, I.laid (t' := s.toks) (o := .frz _ (.tup (cutV xs lo hi))) (fun b ob q => Heap.get?_push_of_some _ q) (Nat.le_refl _) ⟨Heap.get?_push_size _ rfl, Nat.le_trans (cutV_length xs lo hi) hz, _, (r.drop (HT.sIx xs.length 0 lo)).take (HT.sIx xs.length xs.length hi - HT.sIx xs.length 0 lo), IsTup.new _ _⟩, rfl, q2 hw _ _ (I.hok.fresh (Nat.le_refl _)) rfl rfl⟩
theorem plT_is {X : Cx} {pins : List (Addr × Obj)} {σ : L2.St} {H : Hp} {s : Shared} {p : Addr} {xs : List V} (I : Inv X pins σ H s) (h : PlT X.K H p xs) :
    s.TypeIs (.ref p) "tuple" ∧ ∀ a, (Value.ref p) = .ref a → ∃ ob, s.heap.get? a = some ob ∧ ob.dict = none := by
  rcases h with ⟨o, e, c, d⟩ | ⟨o, its, n, e, c, d, _⟩
  · obtain ⟨g, _⟩ := I.hok p _ e
    refine ⟨⟨o, g, c⟩, fun a z => ?_⟩
    cases z
    exact ⟨o, g, d⟩
  · have g := I.kIn p o e
    refine ⟨⟨o, g, c⟩, fun a z => ?_⟩
    cases z
    exact ⟨o, g, d⟩
def tBMP (K : PySem.W.Frag) (r : V → List V → Hp → VK → Prop) (to : TE) (t : TA) : TE := fun σ H Q => to σ H fun x H1 => (∃ p xs, x = .ref p ∧ PlT K H1 p xs) ∧ t σ H1 fun xs H2 => r x xs H2 Q
variable {o : Expr} {to : TE} {name : Str} {apos cpos : Pos} {id : String} {r : V → List V → Hp → VK → Prop}
theorem pe_bmP (pa : PlainAttrs "tuple") (slot : Slot "tuple" name id) (hty : typeOf (.builtin id) = pure (.type "method_descriptor")) (hm : MtR X id r) (ho : PE X o to) (ha : PA X (e :: es) t)
    (hbase : attributeBase o name X.env (eval o X.env) = eval o X.env := by rfl)
    (hfew : ((backTo cpos (starEach (e :: es) X.env)).all (fun x => !x.1) && (backToKw cpos (keywordEach [] X.env)).all (fun x => x.1.isSome)
      && decide ((e :: es).length + ([] : List Keyword).length + (if ([] : List Keyword).isEmpty then 0 else 1) < 30)) = true := by rfl)
    (hline : (apos.endLine == cpos.line) = true := by rfl) (hs : starEach (e :: es) X.env = (false, eval e X.env) :: starEach es X.env := by rfl) (hplain : (backTo cpos (starEach es X.env)).any (·.1) = false := by rfl) :
    PE X (.Call (.Attribute o name apos) (e :: es) [] cpos) (tBMP X.K r to t) := by
  refine ⟨fun pins s σ H Q I h => ?_⟩
  refine wpAny_Call_method_late hbase hfew hline rfl (thn (ho.run pins s σ H _ I h) fun v s1 ⟨x, H1, I1, r1, ty, q1⟩ => ?_)
  obtain ⟨p, xs, rfl, hp⟩ := ty
  cases r1
  obtain ⟨h1, h2⟩ := plT_is I1 hp
  refine ⟨"tuple", id, pa, slot, hty, h1, h2, ?_⟩
  have hA := ha.run cpos pins s1 σ H1 _ I1 q1
  rw [hs] at hA ⊢
  refine Calls.callWith_builtin (by show (false || (backTo cpos (starEach es X.env)).any (·.1)) = false; rw [hplain] <;> rfl) (Calls.evalArgs_plain ?_)
  exact thn hA fun us s2 ⟨vs, H2, I2, r2, q2⟩ => hm pins s2 σ H2 (.ref p) vs (.ref p) us Q I2 rfl r2 q2
end
end DL

set_option Elab.async false
set_option linter.all false
set_option maxRecDepth 100000
set_option maxHeartbeats 400000
namespace DL
open PySem PySem.Spec L2 PyProof.Rows
end DL

set_option Elab.async false
set_option linter.all false
set_option maxRecDepth 100000
set_option maxHeartbeats 4000000
namespace DL
open PySem PySem.Spec L2

inductive D where
  | non | bl (b : Bool) | int (i : Int) | str (x : Str)
  | tup (l : List D) | lst (l : List D)
  /-- a dict with int and text keys; one with tuples of these -/
  | dct (l : List (D × D)) | dcu (l : List (D × D))
  | ins (c : String) (l : List (String × D))
  /-- the script -/
  | scr (l : List Int)
  /-- a dict that an object owns (a field's value), an object with such fields -/
  | ow (l : List (D × D))
  | obt (c : String) (l : List (String × D))
  deriving Inhabited

structure Ex where
  cls : String
  args : List (String × D)
inductive Er where
  | stuck
  | exc (x : Ex)
abbrev M := Except Er
abbrev stuck {α : Type} : M α := .error .stuck
def need (b : Bool) : M Unit := if b then .ok () else stuck

def kD : Key → D
  | .inl i => .int i
  | .inr x => .str x

section
variable (K : PySem.W.Frag)
mutual
inductive Rp (F : Hp) : V → D → Prop
  | non : Rp F .non .non
  | bl (b : Bool) : Rp F (.bl b) (.bl b)
  | int (i : Int) : Rp F (.int i) (.int i)
  | str (x : Str) : PyData.strOk x = true → Rp F (.str x) (.str x)
  | tup {a : Addr} {xs : List V} {ds : List D} : PlT K F a xs → RpL F xs ds → Rp F (.ref a) (.tup ds)
  | lst {a : Addr} {xs : List V} {ds : List D} : F a = some (.lst xs) → RpL F xs ds → Rp F (.ref a) (.lst ds)
  | scr {a : Addr} {l : List Int} : SqL K F a (l.map V.int) → Rp F (.ref a) (.scr l)
  | dctK {a : Addr} {kvs : List (Key × V)} {l : List (D × D)} : Rd F a (.dK kvs) → kvs.map (fun q => kD q.1) = l.map (·.1) → RpL F (kvs.map (·.2)) (l.map (·.2)) → Rp F (.ref a) (.dct l)
  | dctT {a : Addr} {kvs : List (List Key × V)} {l : List (D × D)} : F a = some (.dT kvs) → kvs.map (fun q => D.tup (q.1.map kD)) = l.map (·.1) → RpL F (kvs.map (·.2)) (l.map (·.2)) → Rp F (.ref a) (.dcu l)
  | ins {a dx : Addr} {c : String} {fs : List (Str × V)} {l : List (String × D)} : F a = some (.ins (He.ga K (Str.ofString c)) dx fs) → fs.map (·.1) = l.map (fun q => Str.ofString q.1) → RpL F (fs.map (·.2)) (l.map (·.2)) → Rp F (.ref a) (.ins c l)
inductive RpL (F : Hp) : List V → List D → Prop
  | nil : RpL F [] []
  | cons {v : V} {vs : List V} {d : D} {ds : List D} : Rp F v d → RpL F vs ds → RpL F (v :: vs) (d :: ds)
end
end

section
variable {K : PySem.W.Frag} {F F' H H' : Hp}
theorem Same.seqT {H H' : Hp} {a : Addr} {xs : List V} (e : Same H H') (h : SqT K H a xs) : SqT K H' a xs := by
  rcases h with (h | ⟨o, h⟩) | h
  · exact .inl (.inl (e _ _ h))
  · exact .inl (.inr ⟨o, e _ _ h⟩)
  · exact .inr h
theorem rd_same {a : Addr} {u : HO} (e : Same F F') (h : Rd F a u) : Rd F' a u := by
  rcases h with h | ⟨o, h⟩
  · exact .inl (e _ _ h)
  · exact .inr ⟨o, e _ _ h⟩
mutual
theorem Rp.mono (e : Same F F') : ∀ {v : V} {d : D}, Rp K F v d → Rp K F' v d
  | _, _, .non => .non
  | _, _, .bl b => .bl b
  | _, _, .int i => .int i
  | _, _, .str x h => .str x h
  | _, _, .tup h hs => .tup (h.mono e) (RpL.mono e hs)
  | _, _, .lst h hs => .lst (e _ _ h) (RpL.mono e hs)
  | _, _, .scr h => .scr (e.seq h)
  | _, _, .dctK h h2 hs => .dctK (rd_same e h) h2 (RpL.mono e hs)
  | _, _, .dctT h h2 hs => .dctT (e _ _ h) h2 (RpL.mono e hs)
  | _, _, .ins h h2 hs => .ins (e _ _ h) h2 (RpL.mono e hs)
theorem RpL.mono (e : Same F F') : ∀ {v : List V} {d : List D}, RpL K F v d → RpL K F' v d
  | _, _, .nil => .nil
  | _, _, .cons h hs => .cons (Rp.mono e h) (RpL.mono e hs)
end
theorem RpL.length : ∀ {xs : List V} {ds : List D}, RpL K F xs ds → xs.length = ds.length
  | _, _, .nil => rfl
  | _, _, .cons _ h => congrArg Nat.succ h.length
theorem RpL.append : ∀ {xs ys : List V} {ds es : List D}, RpL K F xs ds → RpL K F ys es → RpL K F (xs ++ ys) (ds ++ es)
  | _, _, _, _, .nil, h => h
  | _, _, _, _, .cons h hs, h2 => .cons h (hs.append h2)
theorem RpL.one {v : V} {d : D} (h : Rp K F v d) : RpL K F [v] [d] := .cons h .nil
theorem RpL.get : ∀ {xs : List V} {ds : List D} {i : Nat} {d : D}, RpL K F xs ds → ds[i]? = some d → ∃ x, xs[i]? = some x ∧ Rp K F x d
  | _, _, _, _, .nil, e => by simp at e
  | _, _, 0, _, .cons h _, e => by
    simp at e
    subst e
    exact ⟨_, rfl, h⟩
  | _, _, i + 1, d, .cons _ hs, e => by
    obtain ⟨x, h1, h2⟩ := RpL.get (i := i) (d := d) hs (by simpa using e)
    exact ⟨x, by simpa using h1, h2⟩
theorem RpL.getV : ∀ {xs : List V} {ds : List D} {i : Nat} {x : V}, RpL K F xs ds → xs[i]? = some x → ∃ d, ds[i]? = some d ∧ Rp K F x d
  | _, _, _, _, .nil, e => by simp at e
  | _, _, 0, _, .cons h _, e => by
    simp at e
    subst e
    exact ⟨_, rfl, h⟩
  | _, _, i + 1, d, .cons _ hs, e => by
    obtain ⟨x, h1, h2⟩ := RpL.getV (i := i) (x := d) hs (by simpa using e)
    exact ⟨x, by simpa using h1, h2⟩
theorem RpL.take : ∀ {xs : List V} {ds : List D} (n : Nat), RpL K F xs ds → RpL K F (xs.take n) (ds.take n)
  | _, _, 0, _ => .nil
  | _, _, _ + 1, .nil => .nil
  | _, _, n + 1, .cons h hs => .cons h (hs.take n)
theorem RpL.drop : ∀ {xs : List V} {ds : List D} (n : Nat), RpL K F xs ds → RpL K F (xs.drop n) (ds.drop n)
  | _, _, 0, h => h
  | _, _, _ + 1, .nil => .nil
  | _, _, n + 1, .cons _ hs => RpL.drop n hs
theorem RpL.set {x : V} {d : D} (h : Rp K F x d) : ∀ {xs : List V} {ds : List D} (i : Nat), RpL K F xs ds → RpL K F (xs.set i x) (ds.set i d)
  | _, _, _, .nil => .nil
  | _, _, 0, .cons _ hs => .cons h hs
  | _, _, i + 1, .cons q hs => .cons q (RpL.set h i hs)
theorem RpL.reverse : ∀ {xs : List V} {ds : List D}, RpL K F xs ds → RpL K F xs.reverse ds.reverse
  | _, _, .nil => .nil
  | _, _, .cons h hs => by
    rw [List.reverse_cons, List.reverse_cons]
    exact (RpL.reverse hs).append (.one h)

structure Ext (F H F' H' : Hp) : Prop where
  sF : Same F F'
  sH : Same H H'
  sFH : Same F' H'
  old : ∀ a o, H a = some o → F' a = F a
theorem Ext.refl (h : Same F H) : Ext F H F H := ⟨Same.refl _, Same.refl _, h, fun _ _ _ => rfl⟩
theorem Ext.trans {F1 H1 F2 H2 : Hp} (a : Ext F H F1 H1) (b : Ext F1 H1 F2 H2) : Ext F H F2 H2 :=
  ⟨a.sF.trans b.sF, a.sH.trans b.sH, b.sFH, fun c o h => by rw [b.old c o (a.sH c o h), a.old c o h]⟩
theorem same_new {H : Hp} {p : Addr} {o : HO} (h : H p = none) : Same H (upd H p o) := fun b x e => by
  rw [upd_ne (ne_of_none e h)]
  exact e
theorem Ext.new {p : Addr} {o : HO} (s : Same F H) (h : H p = none) : Ext F H (upd F p o) (upd H p o) where
  sF := same_new (s.free h)
  sH := same_new h
  sFH := fun b x e => by
    by_cases hb : b = p
    · subst hb
      rw [upd_same] at e ⊢
      exact e
    · rw [upd_ne hb] at e ⊢
      exact s _ _ e
  old := fun a x e => upd_ne (ne_of_none e h)
theorem Ext.newH {p : Addr} {o : HO} (s : Same F H) (h : H p = none) : Ext F H F (upd H p o) where
  sF := Same.refl _
  sH := same_new h
  sFH := s.trans (same_new h)
  old := fun a x e => rfl

inductive Sl where
  | un
  | any
  | val (d : D)
  | own (l : List D)
  | ownd (l : List (D × D))
  | ownu (l : List (D × D))
  /-- an instance that is being made -/
  | obj (a : Addr) (c : String) (l : List (String × D))
  /-- lent: to be read, not to be kept -/
  | bor (d : D)
  /-- an object that has dicts of its own, lent -/
  | tre (a : Addr) (c : String) (l : List (String × D))
  /-- a caught exception: its object, its dict, its fields -/
  | exn (a : Addr) (d : Option Addr) (l : List (String × D))
def XAt (K : PySem.W.Frag) (F : Hp) (d : Option Addr) : List (String × D) → Prop
  | [] => d = none
  | [(f, e)] => ∃ a v, d = some a ∧ F a = some (.xd [(Str.ofString f, v)]) ∧ Rp K F v e
  | _ => False
theorem XAt.mono {d : Option Addr} (s : Same F F') : ∀ {l : List (String × D)}, XAt K F d l → XAt K F' d l
  | [], h => h
  | [(f, e)], h => by
    obtain ⟨a, v, h1, h2, h3⟩ := h
    exact ⟨a, v, h1, s _ _ h2, h3.mono s⟩
  | _ :: _ :: _, h => h.elim
def DctAt (K : PySem.W.Frag) (F : Hp) (o : Option HO) (l : List (D × D)) : Prop :=
  ∃ kvs : List (Key × V), o = some (.dK kvs) ∧ kvs.map (fun q => kD q.1) = l.map (·.1) ∧ RpL K F (kvs.map (·.2)) (l.map (·.2))
def DctR (K : PySem.W.Frag) (F H : Hp) (a : Addr) (l : List (D × D)) : Prop :=
  ∃ kvs : List (Key × V), Rd H a (.dK kvs) ∧ kvs.map (fun q => kD q.1) = l.map (·.1) ∧ RpL K F (kvs.map (·.2)) (l.map (·.2))
theorem DctAt.r {K : PySem.W.Frag} {F H : Hp} {a : Addr} {l : List (D × D)} (h : DctAt K F (H a) l) : DctR K F H a l := let ⟨kvs, h1, h2, h3⟩ := h; ⟨kvs, .inl h1, h2, h3⟩
inductive RpOL (K : PySem.W.Frag) (F B : Hp) : List V → List D → Prop
  | nil : RpOL K F B [] []
  | frz {v : V} {vs : List V} {d : D} {fv : List D} : Rp K F v d → RpOL K F B vs fv → RpOL K F B (v :: vs) (d :: fv)
  | dk {p : Addr} {vs : List V} {l : List (D × D)} {fv : List D} : DctR K F B p l → RpOL K F B vs fv → RpOL K F B (.ref p :: vs) (.ow l :: fv)
def DcuAt (K : PySem.W.Frag) (F : Hp) (o : Option HO) (l : List (D × D)) : Prop :=
  ∃ kvs : List (List Key × V), o = some (.dT kvs) ∧ kvs.map (fun q => D.tup (q.1.map kD)) = l.map (·.1) ∧ RpL K F (kvs.map (·.2)) (l.map (·.2))
inductive RpT (K : PySem.W.Frag) (F H : Hp) : V → D → Prop
  | of {v : V} {d : D} : Rp K F v d → RpT K F H v d
  | own {a : Addr} {xs : List V} {l : List D} : H a = some (.lst xs) → RpL K F xs l → RpT K F H (.ref a) (.lst l)
  | ownd {a : Addr} {l : List (D × D)} : DctR K F H a l → RpT K F H (.ref a) (.dct l)
  | ownu {a : Addr} {l : List (D × D)} : DcuAt K F (H a) l → RpT K F H (.ref a) (.dcu l)
  | obj {a dx : Addr} {c : String} {fs : List (Str × V)} {l : List (String × D)} : H a = some (.ins (He.ga K (Str.ofString c)) dx fs) → fs.map (·.1) = l.map (fun q => Str.ofString q.1) → RpL K F (fs.map (·.2)) (l.map (·.2)) → RpT K F H (.ref a) (.ins c l)
  | obt {a dx : Addr} {c : String} {fs : List (Str × V)} {l : List (String × D)} : H a = some (.ins (He.ga K (Str.ofString c)) dx fs) → fs.map (·.1) = l.map (fun q => Str.ofString q.1) → RpOL K F H (fs.map (·.2)) (l.map (·.2)) → RpT K F H (.ref a) (.obt c l)
inductive FvL (K : PySem.W.Frag) (F B : Hp) : List V → List D → List Addr → Prop
  | nil : FvL K F B [] [] []
  | frz {v : V} {vs : List V} {d : D} {fv : List D} {as : List Addr} : Rp K F v d → FvL K F B vs fv as → FvL K F B (v :: vs) (d :: fv) as
  | dk {p : Addr} {vs : List V} {l : List (D × D)} {fv : List D} {as : List Addr} : F p = none → DctAt K F (B p) l → FvL K F B vs fv as → FvL K F B (.ref p :: vs) (.ow l :: fv) (p :: as)
structure TreOk (K : PySem.W.Frag) (F B : Hp) (a : Addr) (c : String) (l : List (String × D)) (as : List Addr) : Prop where
  at_ : ∃ dx fs, B a = some (.ins (He.ga K (Str.ofString c)) dx fs) ∧ fs.map (·.1) = l.map (fun q => Str.ofString q.1) ∧ FvL K F B (fs.map (·.2)) (l.map (·.2)) as
  na : F a = none
  nd : as.Nodup
def SlOk (K : PySem.W.Frag) (B F H : Hp) (o : Option V) : Sl → Prop
  | .un => o = none
  | .any => True
  | .val d => ∃ v, o = some v ∧ Rp K F v d
  | .own l => ∃ a xs, o = some (.ref a) ∧ H a = some (.lst xs) ∧ F a = none ∧ B a = none ∧ RpL K F xs l
  | .ownd l => ∃ a, o = some (.ref a) ∧ DctAt K F (H a) l ∧ F a = none ∧ B a = none
  | .ownu l => ∃ a, o = some (.ref a) ∧ DcuAt K F (H a) l ∧ F a = none ∧ B a = none
  | .obj a c l => ∃ dx fs, o = some (.ref a) ∧ H a = some (.ins (He.ga K (Str.ofString c)) dx fs) ∧ F a = none ∧ B a = none ∧ fs.map (·.1) = l.map (fun q => Str.ofString q.1) ∧ RpL K F (fs.map (·.2)) (l.map (·.2))
  | .bor d => ∃ v, o = some v ∧ RpT K F B v d
  | .tre a c l => o = some (.ref a) ∧ Same B H ∧ ∃ as, TreOk K F B a c l as
  | .exn a d l => o = some (.ref a) ∧ XAt K F d l
def Sl.owns : Sl → Bool
  | .own _ => true
  | .ownd _ => true
  | .ownu _ => true
  | .obj _ _ _ => true
  | _ => false
theorem DctAt.mono {o : Option HO} {l : List (D × D)} (e : Same F F') (h : DctAt K F o l) : DctAt K F' o l :=
  let ⟨kvs, h1, h2, h3⟩ := h; ⟨kvs, h1, h2, h3.mono e⟩
theorem DctAt.some {o : Option HO} {l : List (D × D)} (h : DctAt K F o l) : ∃ u, o = some u := let ⟨_, h1, _, _⟩ := h; ⟨_, h1⟩
theorem DctR.monoF {a : Addr} {l : List (D × D)} (e : Same F F') (h : DctR K F H a l) : DctR K F' H a l := let ⟨kvs, h1, h2, h3⟩ := h; ⟨kvs, h1, h2, h3.mono e⟩
theorem DctR.monoH {a : Addr} {l : List (D × D)} (e : Same H H') (h : DctR K F H a l) : DctR K F H' a l := let ⟨kvs, h1, h2, h3⟩ := h; ⟨kvs, rd_same e h1, h2, h3⟩
theorem RpOL.monoF (e : Same F F') : ∀ {vs : List V} {ds : List D}, RpOL K F H vs ds → RpOL K F' H vs ds
  | _, _, .nil => .nil
  | _, _, .frz r q => .frz (r.mono e) (q.monoF e)
  | _, _, .dk r q => .dk (r.monoF e) (q.monoF e)
theorem RpOL.monoH (e : Same H H') : ∀ {vs : List V} {ds : List D}, RpOL K F H vs ds → RpOL K F H' vs ds
  | _, _, .nil => .nil
  | _, _, .frz r q => .frz r (q.monoH e)
  | _, _, .dk r q => .dk (r.monoH e) (q.monoH e)
theorem DcuAt.mono {o : Option HO} {l : List (D × D)} (e : Same F F') (h : DcuAt K F o l) : DcuAt K F' o l :=
  let ⟨kvs, h1, h2, h3⟩ := h; ⟨kvs, h1, h2, h3.mono e⟩
theorem DcuAt.some {o : Option HO} {l : List (D × D)} (h : DcuAt K F o l) : ∃ u, o = some u := let ⟨_, h1, _, _⟩ := h; ⟨_, h1⟩
theorem RpT.monoF {v : V} {d : D} (e : Same F F') (h : RpT K F H v d) : RpT K F' H v d := by
  cases h with
  | of h => exact .of (h.mono e)
  | own h r => exact .own h (r.mono e)
  | ownd r => exact .ownd (r.monoF e)
  | ownu r => exact .ownu (r.mono e)
  | obj h h2 r => exact .obj h h2 (r.mono e)
  | obt h h2 r => exact .obt h h2 (r.monoF e)
theorem RpT.monoH {v : V} {d : D} (e : Same H H') (h : RpT K F H v d) : RpT K F H' v d := by
  cases h with
  | of h => exact .of h
  | own h r => exact .own (e _ _ h) r
  | ownd r => exact .ownd (r.monoH e)
  | ownu r =>
    obtain ⟨u, hu⟩ := r.some
    refine .ownu ?_
    rw [e _ _ hu, ← hu]
    exact r
  | obj h h2 r => exact .obj (e _ _ h) h2 r
  | obt h h2 r => exact .obt (e _ _ h) h2 (r.monoH e)
theorem FvL.off : ∀ {vs : List V} {fv : List D} {as : List Addr}, FvL K F B vs fv as → ∀ p ∈ as, F p = none ∧ ∃ kvs, B p = some (.dK kvs)
  | _, _, _, .nil, p, h => nomatch h
  | _, _, _, .frz _ h, p, hp => h.off p hp
  | _, _, _, .dk h1 h2 h, p, hp => by
    rcases List.mem_cons.mp hp with rfl | hp
    · obtain ⟨kvs, e, _⟩ := h2
      exact ⟨h1, kvs, e⟩
    · exact h.off p hp
theorem FvL.mono (sF : Same F F') : ∀ {vs : List V} {fv : List D} {as : List Addr}, (∀ p ∈ as, F' p = none) → FvL K F B vs fv as → FvL K F' B vs fv as
  | _, _, _, _, .nil => .nil
  | _, _, _, h, .frz r q => .frz (r.mono sF) (FvL.mono sF h q)
  | _, _, _, h, .dk _ h2 q => .dk (h _ (List.mem_cons_self ..)) (h2.mono sF) (FvL.mono sF (fun p hp => h p (List.mem_cons_of_mem _ hp)) q)
theorem FvL.same {B' : Hp} : ∀ {vs : List V} {fv : List D} {as : List Addr}, (∀ p ∈ as, B' p = B p) → FvL K F B vs fv as → FvL K F B' vs fv as
  | _, _, _, _, .nil => .nil
  | _, _, _, h, .frz r q => .frz r (FvL.same h q)
  | _, _, _, h, .dk h1 h2 q => .dk h1 (by rw [h _ (List.mem_cons_self ..)]; exact h2) (FvL.same (fun p hp => h p (List.mem_cons_of_mem _ hp)) q)
theorem FvL.ol : ∀ {vs : List V} {fv : List D} {as : List Addr}, FvL K F B vs fv as → RpOL K F B vs fv
  | _, _, _, .nil => .nil
  | _, _, _, .frz r q => .frz r q.ol
  | _, _, _, .dk _ h q => .dk h.r q.ol
theorem TreOk.rd {a : Addr} {c : String} {l : List (String × D)} {as : List Addr} (t : TreOk K F B a c l as) : RpT K F B (.ref a) (.obt c l) := by
  obtain ⟨dx, fs, h1, h2, h3⟩ := t.at_
  exact .obt h1 h2 h3.ol
theorem TreOk.mono {a : Addr} {c : String} {l : List (String × D)} {as : List Addr} (sF : Same F F') (old : ∀ b o, B b = some o → F' b = F b) (t : TreOk K F B a c l as) : TreOk K F' B a c l as := by
  obtain ⟨dx, fs, h1, h2, h3⟩ := t.at_
  refine ⟨⟨dx, fs, h1, h2, FvL.mono sF (fun p hp => ?_) h3⟩, ?_, t.nd⟩
  · obtain ⟨n, kvs, e⟩ := h3.off p hp
    rw [old _ _ e]
    exact n
  · rw [old _ _ h1]
    exact t.na
theorem SlOk.ext {B : Hp} {o : Option V} {s : Sl} (x : Ext F H F' H') (h : SlOk K B F H o s) : SlOk K B F' H' o s := by
  cases s with
  | un => exact h
  | any => trivial
  | val d => obtain ⟨v, e, r⟩ := h; exact ⟨v, e, r.mono x.sF⟩
  | own l =>
    obtain ⟨a, xs, e, e2, n, b, r⟩ := h
    exact ⟨a, xs, e, x.sH _ _ e2, by rw [x.old _ _ e2]; exact n, b, r.mono x.sF⟩
  | ownd l =>
    obtain ⟨a, e, d, n, b⟩ := h
    obtain ⟨u, hu⟩ := d.some
    refine ⟨a, e, ?_, by rw [x.old _ _ hu]; exact n, b⟩
    rw [x.sH _ _ hu, ← hu]
    exact d.mono x.sF
  | ownu l =>
    obtain ⟨a, e, d, n, b⟩ := h
    obtain ⟨u, hu⟩ := d.some
    refine ⟨a, e, ?_, by rw [x.old _ _ hu]; exact n, b⟩
    rw [x.sH _ _ hu, ← hu]
    exact d.mono x.sF
  | obj a c l =>
    obtain ⟨dx, fs, e, h1, n, b, h2, r⟩ := h
    exact ⟨dx, fs, e, x.sH _ _ h1, by rw [x.old _ _ h1]; exact n, b, h2, r.mono x.sF⟩
  | bor d =>
    obtain ⟨v, e, r⟩ := h
    exact ⟨v, e, r.monoF x.sF⟩
  | tre a c l =>
    obtain ⟨h1, h2, as, t⟩ := h
    exact ⟨h1, h2.trans x.sH, as, t.mono x.sF fun b o e => x.old _ _ (h2 _ _ e)⟩
  | exn a d l => exact ⟨h.1, h.2.mono x.sF⟩
structure GOk (K : PySem.W.Frag) (B : Hp) (G : List Sl) (σ : St) (F H : Hp) : Prop where
  sB : Same B H
  len : σ.length = G.length
  ok : ∀ (i : Nat) (s : Sl), G[i]? = some s → ∃ o, σ[i]? = some o ∧ SlOk K B F H o s
  dis : ∀ (i j : Nat) (s t : Sl) (a : Addr), G[i]? = some s → G[j]? = some t → s.owns = true → t.owns = true → σ[i]? = some (some (.ref a)) → σ[j]? = some (some (.ref a)) → i = j
theorem GOk.ext {B : Hp} {G : List Sl} {σ : St} (x : Ext F H F' H') (g : GOk K B G σ F H) : GOk K B G σ F' H' :=
  ⟨g.sB.trans x.sH, g.len, fun i s h => let ⟨o, h1, h2⟩ := g.ok i s h; ⟨o, h1, h2.ext x⟩, g.dis⟩

def RpX (K : PySem.W.Frag) (F' H' : Hp) (c : Value) (d : Option Addr) (x : Ex) : Prop :=
  c = .ref (He.ga K (Str.ofString x.cls)) ∧ XAt K F' d x.args

def WpG {α β : Type} (K : PySem.W.Frag) (E : XK) (rel : Hp → Hp → β → α → Prop) (m : M α) (F H : Hp) (Q : β → Hp → Prop) : Prop :=
  match m with
  | .ok d => ∀ F' H' v, Ext F H F' H' → rel F' H' v d → Q v H'
  | .error .stuck => False
  | .error (.exc x) => ∀ F' H' c d, Ext F H F' H' → RpX K F' H' c d x → E c d H'
theorem WpG.ext {α β : Type} {E : XK} {rel : Hp → Hp → β → α → Prop} {m : M α} {Q : β → Hp → Prop} (x : Ext F H F' H') (h : WpG K E rel m F H Q) : WpG K E rel m F' H' Q := by
  cases m with
  | ok d => exact fun F2 H2 v y r => h F2 H2 v (x.trans y) r
  | error e =>
    cases e with
    | stuck => exact h
    | exc e => exact fun F2 H2 c d y r => h F2 H2 c d (x.trans y) r
theorem WpG.bind {α β γ δ : Type} {E : XK} {rel : Hp → Hp → β → α → Prop} {rel2 : Hp → Hp → δ → γ → Prop} {m : M α} {k : α → M γ} {Q : δ → Hp → Prop} {Q1 : β → Hp → Prop}
    (h : WpG K E rel2 (m >>= k) F H Q) (hk : ∀ x F' H' v, Ext F H F' H' → rel F' H' v x → WpG K E rel2 (k x) F' H' Q → Q1 v H') : WpG K E rel m F H Q1 := by
  cases m with
  | ok d => exact fun F2 H2 v y r => hk d F2 H2 v y r (WpG.ext y h)
  | error e =>
    cases e with
    | stuck => exact h
    | exc e => exact fun F2 H2 c d y r => h F2 H2 c d y r
theorem WpG.ok {α β : Type} {E : XK} {rel : Hp → Hp → β → α → Prop} {d : α} {Q : β → Hp → Prop} (h : WpG K E rel (.ok d) F H Q) {F' H' : Hp} {v : β} (x : Ext F H F' H') (r : rel F' H' v d) : Q v H' := h F' H' v x r
theorem WpG.need {α β : Type} {E : XK} {rel : Hp → Hp → β → α → Prop} {b : Bool} {k : Unit → M α} {Q : β → Hp → Prop} (h : WpG K E rel (need b >>= k) F H Q) : b = true ∧ WpG K E rel (k ()) F H Q := by
  cases b with
  | true => exact ⟨rfl, h⟩
  | false => exact h.elim

theorem RpT.ext {v : V} {d : D} (x : Ext F H F' H') (h : RpT K F H v d) : RpT K F' H' v d := (h.monoF x.sF).monoH x.sH
theorem RpT.lst {v : V} {l : List D} (s : Same F H) (h : RpT K F H v (.lst l)) : ∃ a xs, v = .ref a ∧ H a = some (.lst xs) ∧ RpL K F xs l := by
  cases h with
  | of h => cases h with
    | lst h hs => exact ⟨_, _, rfl, s _ _ h, hs⟩
  | own h r => exact ⟨_, _, rfl, h, r⟩
theorem RpT.scr {v : V} {l : List Int} (s : Same F H) (h : RpT K F H v (.scr l)) : ∃ a, v = .ref a ∧ SqL K H a (l.map V.int) := by
  cases h with
  | of h => cases h with
    | scr h => exact ⟨_, rfl, s.seq h⟩
theorem RpT.tup {v : V} {l : List D} (s : Same F H) (h : RpT K F H v (.tup l)) : ∃ a xs, v = .ref a ∧ SqT K H a xs ∧ RpL K F xs l := by
  cases h with
  | of h => cases h with
    | tup h hs => exact ⟨_, _, rfl, Same.seqT s h.sqT, hs⟩
theorem RpT.tupP {v : V} {l : List D} (s : Same F H) (h : RpT K F H v (.tup l)) : ∃ a xs, v = .ref a ∧ PlT K H a xs ∧ RpL K F xs l := by
  cases h with
  | of h => cases h with
    | tup h hs => exact ⟨_, _, rfl, h.mono s, hs⟩
theorem RpT.int {v : V} {i : Int} (h : RpT K F H v (.int i)) : v = .int i := by
  cases h with
  | of h => cases h; rfl
theorem RpT.str {v : V} {i : Str} (h : RpT K F H v (.str i)) : v = .str i ∧ PyData.strOk i = true := by
  cases h with
  | of h => cases h with
    | str _ h => exact ⟨rfl, h⟩
theorem RpT.bl {v : V} {i : Bool} (h : RpT K F H v (.bl i)) : v = .bl i := by
  cases h with
  | of h => cases h; rfl
theorem RpT.non {v : V} (h : RpT K F H v .non) : v = .non := by
  cases h with
  | of h => cases h; rfl
theorem DGet.kr {H : Hp} {a : Addr} {kvs : List (Key × V)} {k : Key} (e : Rd H a (.dK kvs)) : DGet H a (kV k) (valV kvs k) := .inl ⟨kvs, k, e, rfl, rfl⟩
theorem RpT.dct {v : V} {l : List (D × D)} (s : Same F H) (h : RpT K F H v (.dct l)) : ∃ a, v = .ref a ∧ DctR K F H a l := by
  cases h with
  | of h => cases h with
    | dctK h h2 hs => exact ⟨_, rfl, _, rd_same s h, h2, hs⟩
  | ownd r => exact ⟨_, rfl, r⟩
theorem RpT.dcu {v : V} {l : List (D × D)} (s : Same F H) (h : RpT K F H v (.dcu l)) : ∃ a, v = .ref a ∧ DcuAt K F (H a) l := by
  cases h with
  | of h => cases h with
    | dctT h h2 hs => exact ⟨_, rfl, _, s _ _ h, h2, hs⟩
  | ownu r => exact ⟨_, rfl, r⟩
theorem RpT.ins {v : V} {c : String} {l : List (String × D)} (s : Same F H) (h : RpT K F H v (.ins c l)) : ∃ a dx fs, v = .ref a ∧ H a = some (.ins (He.ga K (Str.ofString c)) dx fs) ∧ fs.map (·.1) = l.map (fun q => Str.ofString q.1) ∧ RpL K F (fs.map (·.2)) (l.map (·.2)) := by
  cases h with
  | of h => cases h with
    | ins h h2 hs => exact ⟨_, _, _, rfl, s _ _ h, h2, hs⟩
  | obj h h2 r => exact ⟨_, _, _, rfl, h, h2, r⟩
end

def DE (X : Cx) (E : St → XK) (G : List Sl) (e : Expr) (m : M D) : Prop :=
  ∃ t, PE X e t ∧ ∀ B σ F H Q, Same F H → GOk X.K B G σ F H → WpG X.K (E σ) (fun F' _ v d => Rp X.K F' v d) m F H Q → t σ H Q
def DR (X : Cx) (E : St → XK) (G : List Sl) (e : Expr) (m : M D) : Prop :=
  ∃ t, PE X e t ∧ ∀ B σ F H Q, Same F H → GOk X.K B G σ F H → WpG X.K (E σ) (fun F' H' v d => RpT X.K F' H' v d) m F H Q → t σ H Q
def DT (X : Cx) (E : St → XK) (G : List Sl) (e : Expr) (m : M Bool) : Prop :=
  ∃ t, PT X e t ∧ ∀ B σ F H Q, Same F H → GOk X.K B G σ F H → WpG X.K (E σ) (fun _ _ (v : Bool) d => v = d) m F H Q → t σ H Q
def DW (X : Cx) (E : St → XK) (G : List Sl) (e : Expr) (m : M Bool) : Prop :=
  ∃ t, PW X e t ∧ ∀ B σ F H Q, Same F H → GOk X.K B G σ F H → WpG X.K (E σ) (fun _ _ (v : Bool) d => v = d) m F H Q → t σ H Q
def DA (X : Cx) (E : St → XK) (G : List Sl) (es : List Expr) (m : M (List D)) : Prop :=
  ∃ t, PA X es t ∧ ∀ B σ F H Q, Same F H → GOk X.K B G σ F H → WpG X.K (E σ) (fun F' _ v d => RpL X.K F' v d) m F H Q → t σ H Q
inductive RpTL (K : PySem.W.Frag) (F H : Hp) : List V → List D → Prop
  | nil : RpTL K F H [] []
  | cons {v : V} {vs : List V} {d : D} {ds : List D} : RpT K F H v d → RpTL K F H vs ds → RpTL K F H (v :: vs) (d :: ds)
def DRA (X : Cx) (E : St → XK) (G : List Sl) (es : List Expr) (m : M (List D)) : Prop :=
  ∃ t, PA X es t ∧ ∀ B σ F H Q, Same F H → GOk X.K B G σ F H → WpG X.K (E σ) (fun F' H' v d => RpTL X.K F' H' v d) m F H Q → t σ H Q
inductive Oc where
  | nx (G : List Sl)
  | ct (G : List Sl)
  | bk (G : List Sl)
  | rt (d : D)
  /-- given back, with something more told of what lies then (of the entry's heap, what is frozen, the heap, the value) -/
  | rg (R : Hp → Hp → Hp → V → Prop)
def WpB {α : Type} (K : PySem.W.Frag) (E : XK) (B0 B : Hp) (post : α → Oc) (m : M α) (F : Hp) (D : Ends) : Prop :=
  match m with
  | .ok x => (match post x with
    | .nx G => ∀ σ F' H', Same F F' → Ext B0 B F' H' → GOk K B G σ F' H' → D.nx σ H'
    | .ct G => ∀ σ F' H', Same F F' → Ext B0 B F' H' → GOk K B G σ F' H' → D.ct σ H'
    | .bk G => ∀ σ F' H', Same F F' → Ext B0 B F' H' → GOk K B G σ F' H' → D.bk σ H'
    | .rt d => ∀ v F' H', Same F F' → Ext B0 B F' H' → Rp K F' v d → D.rt v H'
    | .rg R => ∀ v F' H', Same F F' → Ext B0 B F' H' → R B F' H' v → D.rt v H')
  | .error .stuck => False
  | .error (.exc x) => ∀ F' H' c d, Same F F' → Ext B0 B F' H' → RpX K F' H' c d x → E c d H'
def DB (X : Cx) (E : XK) (G : List Sl) (body : List Stmt) {α : Type} (m : M α) (post : α → Oc) : Prop :=
  ∃ t, PSs X body t ∧ ∀ B0 B σ F H D, Ext B0 B F H → GOk X.K B G σ F H → WpB X.K E B0 B post m F D → t D σ H
end DL

set_option Elab.async false
set_option linter.all false
set_option maxRecDepth 100000
set_option maxHeartbeats 4000000
namespace DL
open PySem PySem.Spec L2

def D.leaf : D → Bool
  | .non => true
  | .bl _ => true
  | .int _ => true
  | .str _ => true
  | _ => false
def D.shp : Nat → D → Bool
  | 0, d => d.leaf
  | n + 1, .tup l => l.all (D.shp n)
  | n + 1, .lst l => l.all (D.shp n)
  | _ + 1, d => d.leaf
mutual
def D.py : D → PyData
  | .non => .none
  | .bl b => .bool b
  | .int i => .int i
  | .str x => .str x
  | .tup l => .tuple (D.pyL l)
  | .lst l => .list (D.pyL l)
  | .dct _ => .none
  | .dcu _ => .none
  | .ins _ _ => .none
  | .scr _ => .none
  | .ow _ => .none
  | .obt _ _ => .none
def D.pyL : List D → List PyData
  | [] => []
  | d :: l => D.py d :: D.pyL l
end
mutual
def D.beq : D → D → Bool
  | .non, .non => true
  | .bl a, .bl b => a == b
  | .bl a, .int j => decide ((if a then 1 else 0) = j)
  | .int i, .bl b => decide (i = (if b then 1 else 0))
  | .int i, .int j => decide (i = j)
  | .str x, .str y => decide (x = y)
  | .tup l, .tup m => D.beqL l m
  | .lst l, .lst m => D.beqL l m
  | _, _ => false
def D.beqL : List D → List D → Bool
  | [], [] => true
  | x :: l, y :: m => D.beq x y && D.beqL l m
  | _, _ => false
end
theorem D.pyL_eq : ∀ l : List D, D.pyL l = l.map D.py
  | [] => by simp only [D.pyL, List.map_nil]
  | d :: l => by simp only [D.pyL, List.map_cons, D.pyL_eq l]
theorem D.leaf_cases {d : D} (h : d.leaf = true) : d = .non ∨ (∃ b, d = .bl b) ∨ (∃ i, d = .int i) ∨ ∃ x, d = .str x := by
  cases d with
  | non => exact .inl rfl
  | bl b => exact .inr (.inl ⟨b, rfl⟩)
  | int i => exact .inr (.inr (.inl ⟨i, rfl⟩))
  | str x => exact .inr (.inr (.inr ⟨x, rfl⟩))
  | _ => cases h
theorem D.shp_cases {n : Nat} {d : D} (h : d.shp n = true) : d.leaf = true ∨ ∃ m l, n = m + 1 ∧ (d = .tup l ∨ d = .lst l) ∧ l.all (D.shp m) = true := by
  cases n with
  | zero => exact .inl h
  | succ n =>
    cases d with
    | tup l => exact .inr ⟨n, l, rfl, .inl rfl, h⟩
    | lst l => exact .inr ⟨n, l, rfl, .inr rfl, h⟩
    | non => exact .inl h
    | bl b => exact .inl h
    | int i => exact .inl h
    | str x => exact .inl h
    | dct _ => exact .inl h
    | dcu _ => exact .inl h
    | ins _ _ => exact .inl h
    | scr _ => exact .inl h
    | ow _ => exact .inl h
    | obt _ _ => exact .inl h
theorem D.leaf_py {d : D} (h : d.leaf = true) : d.py.depth = 0 := by
  rcases D.leaf_cases h with rfl | ⟨b, rfl⟩ | ⟨i, rfl⟩ | ⟨x, rfl⟩ <;> simp [D.py, PyData.depth]
theorem D.shp_depth : ∀ {n : Nat} {d : D}, d.shp n = true → d.py.depth ≤ n
  | n, d, h => by
    induction n generalizing d with
    | zero => exact Nat.le_of_eq (D.leaf_py h)
    | succ n ih =>
      rcases D.shp_cases h with h | ⟨m, l, e, hd, hl⟩
      · rw [D.leaf_py h]
        exact Nat.zero_le _
      · injection e with e
        subst e
        have q : ∀ l : List D, l.all (D.shp n) = true → PyData.depthAll (l.map D.py) ≤ n := by
          intro l
          induction l with
          | nil => intro _; simp [PyData.depthAll]
          | cons a l ihl =>
            intro h
            rw [List.all_cons, Bool.and_eq_true] at h
            have h1 := ih _ h.1
            have h2 := ihl h.2
            simp only [List.map_cons, PyData.depthAll]
            omega
        have hq := q l hl
        rcases hd with rfl | rfl
        · simp only [D.py, D.pyL_eq, PyData.depth]
          omega
        · simp only [D.py, D.pyL_eq, PyData.depth]
          omega
theorem D.beq_eq : ∀ {n : Nat} {d e : D}, d.shp n = true → e.shp n = true → PyData.eqv d.py e.py = D.beq d e
  | n, d, e, hd, he => by
    induction n generalizing d e with
    | zero =>
      rcases D.leaf_cases hd with rfl | ⟨b, rfl⟩ | ⟨i, rfl⟩ | ⟨x, rfl⟩ <;> rcases D.leaf_cases he with rfl | ⟨c, rfl⟩ | ⟨j, rfl⟩ | ⟨y, rfl⟩ <;> simp [D.py, D.beq, PyData.eqv, Bool.beq_eq_decide_eq] <;> rfl
    | succ n ih =>
      have q : ∀ l m : List D, l.all (D.shp n) = true → m.all (D.shp n) = true → PyData.eqvAll (D.pyL l) (D.pyL m) = D.beqL l m := by
        intro l
        induction l with
        | nil => intro m _ _; cases m <;> simp [D.pyL, D.beqL, PyData.eqvAll]
        | cons a l ihl =>
          intro m h1 h2
          cases m with
          | nil => simp [D.pyL, D.beqL, PyData.eqvAll]
          | cons b m =>
            rw [List.all_cons, Bool.and_eq_true] at h1 h2
            simp only [D.pyL, D.beqL, PyData.eqvAll]
            rw [ih _ _ h1.1 h2.1, ihl m h1.2 h2.2]
      rcases D.shp_cases hd with h1 | ⟨m1, l1, e1, d1, s1⟩
      · rcases D.shp_cases he with h2 | ⟨m2, l2, e2, d2, s2⟩
        · rcases D.leaf_cases h1 with rfl | ⟨b, rfl⟩ | ⟨i, rfl⟩ | ⟨x, rfl⟩ <;> rcases D.leaf_cases h2 with rfl | ⟨c, rfl⟩ | ⟨j, rfl⟩ | ⟨y, rfl⟩ <;> simp [D.py, D.beq, PyData.eqv, Bool.beq_eq_decide_eq] <;> rfl
        · rcases D.leaf_cases h1 with rfl | ⟨b, rfl⟩ | ⟨i, rfl⟩ | ⟨x, rfl⟩ <;> rcases d2 with rfl | rfl <;> simp [D.py, D.beq, PyData.eqv]
      · injection e1 with e1
        subst e1
        rcases D.shp_cases he with h2 | ⟨m2, l2, e2, d2, s2⟩
        · rcases D.leaf_cases h2 with rfl | ⟨b, rfl⟩ | ⟨i, rfl⟩ | ⟨x, rfl⟩ <;> rcases d1 with rfl | rfl <;> simp [D.py, D.beq, PyData.eqv]
        · injection e2 with e2
          subst e2
          rcases d1 with rfl | rfl <;> rcases d2 with rfl | rfl
          · simp only [D.py, D.beq, PyData.eqv]
            exact q _ _ s1 s2
          · simp [D.py, D.beq, PyData.eqv]
          · simp [D.py, D.beq, PyData.eqv]
          · simp only [D.py, D.beq, PyData.eqv]
            exact q _ _ s1 s2

section
variable {K : PySem.W.Frag} {F H : Hp}
theorem Rp.dp_leaf {v : V} {d : D} (h : d.leaf = true) (r : Rp K F v d) : Dp K H v d.py ∧ d.py.canLay0 = true := by
  cases r with
  | non => exact ⟨by simp only [D.py]; exact .non, by simp [D.py, PyData.canLay0]⟩
  | bl b => exact ⟨by simp only [D.py]; exact .bl b, by simp [D.py, PyData.canLay0]⟩
  | int i => exact ⟨by simp only [D.py]; exact .int i, by simp [D.py, PyData.canLay0]⟩
  | str x hx => exact ⟨by simp only [D.py]; exact .str x, by simp [D.py, PyData.canLay0, hx]⟩
  | tup _ _ => cases h
  | lst _ _ => cases h
  | scr _ => cases h
  | dctK _ _ _ => cases h
  | dctT _ _ _ => cases h
  | ins _ _ _ => cases h
theorem Rp.dp (s : Same F H) : ∀ {n : Nat} {v : V} {d : D}, d.shp n = true → Rp K F v d → Dp K H v d.py ∧ d.py.canLay0 = true
  | n, v, d, h, r => by
    induction n generalizing v d with
    | zero => exact Rp.dp_leaf h r
    | succ n ih =>
      have q : ∀ (l : List D) (xs : List V), l.all (D.shp n) = true → RpL K F xs l → DpAll K H xs (D.pyL l) ∧ PyData.canLayAll0 (D.pyL l) = true := by
        intro l
        induction l with
        | nil =>
          intro xs _ r
          cases r
          exact ⟨by simp only [D.pyL]; exact .nil, by simp [D.pyL, PyData.canLayAll0]⟩
        | cons a l ihl =>
          intro xs h r
          rw [List.all_cons, Bool.and_eq_true] at h
          cases r with
          | cons r1 r2 =>
            obtain ⟨a1, a2⟩ := ih _ _ h.1 r1
            obtain ⟨b1, b2⟩ := ihl _ h.2 r2
            exact ⟨by simp only [D.pyL]; exact .cons a1 b1, by simp [D.pyL, PyData.canLayAll0, a2, b2]⟩
      rcases D.shp_cases h with h1 | ⟨m, l, e, hd, hl⟩
      · exact Rp.dp_leaf h1 r
      · injection e with e
        subst e
        rcases hd with rfl | rfl
        · cases r with
          | tup r1 r2 =>
            obtain ⟨a1, a2⟩ := q l _ hl r2
            exact ⟨by simp only [D.py]; exact .tup (Same.seqT s (r1).sqT) a1, by simp [D.py, PyData.canLay0, a2]⟩
        · cases r with
          | lst r1 r2 =>
            obtain ⟨a1, a2⟩ := q l _ hl r2
            exact ⟨by simp only [D.py]; exact .lst (SqL.of (s _ _ r1)) a1, by simp [D.py, PyData.canLay0, a2]⟩
theorem RpL.dpAll (s : Same F H) {n : Nat} : ∀ {l : List D} {xs : List V}, l.all (D.shp n) = true → RpL K F xs l → DpAll K H xs (D.pyL l) ∧ PyData.canLayAll0 (D.pyL l) = true
  | [], _, _, .nil => ⟨by simp only [D.pyL]; exact .nil, by simp [D.pyL, PyData.canLayAll0]⟩
  | a :: l, _, h, .cons r1 r2 => by
    rw [List.all_cons, Bool.and_eq_true] at h
    obtain ⟨a1, a2⟩ := Rp.dp s h.1 r1
    obtain ⟨b1, b2⟩ := RpL.dpAll s h.2 r2
    exact ⟨by simp only [D.pyL]; exact .cons a1 b1, by simp [D.pyL, PyData.canLayAll0, a2, b2]⟩
theorem RpT.dp (s : Same F H) {n : Nat} {v : V} {d : D} (h : d.shp n = true) (r : RpT K F H v d) : Dp K H v d.py ∧ d.py.canLay0 = true := by
  cases r with
  | of r => exact Rp.dp s h r
  | own e r =>
    cases n with
    | zero => cases h
    | succ n =>
      obtain ⟨a1, a2⟩ := RpL.dpAll s (n := n) h r
      exact ⟨by simp only [D.py]; exact .lst (SqL.of e) a1, by simp [D.py, PyData.canLay0, a2]⟩
  | ownd _ => cases n <;> cases h
  | ownu _ => cases n <;> cases h
  | obj _ _ _ => cases n <;> cases h
  | obt _ _ _ => cases n <;> cases h
theorem shaped_of {n : Nat} {d : D} (hn : n ≤ 64) (h : d.shp n = true) (c : d.py.canLay0 = true) : SeqAt.shaped d.py = true := by
  show (d.py.canLay0 && decide (d.py.depth ≤ 64)) = true
  rw [c, Bool.true_and]
  exact decide_eq_true (Nat.le_trans (D.shp_depth h) hn)
end

def D.eq (x y : D) : M Bool := do
  need (x.shp 20 && y.shp 20)
  .ok (D.beq x y)
def D.add : D → D → M D
  | .int i, .int j => .ok (.int (i + j))
  | .str x, .str y => do need (decide (x.length + y.length ≤ sizeLine)); .ok (.str (x ++ y))
  | .lst l, .lst m => do need (decide (l.length + m.length ≤ sizeLine)); .ok (.lst (l ++ m))
  | .tup l, .tup m => do need (decide (l.length + m.length ≤ sizeLine)); .ok (.tup (l ++ m))
  | _, _ => stuck
def D.sub : D → D → M D
  | .int i, .int j => .ok (.int (i - j))
  | _, _ => stuck
def D.mul : D → D → M D
  | .int i, .int j => do need (decide ((-(2 ^ 64) < i ∧ i < 2 ^ 64) ∨ (-(2 ^ 64) < j ∧ j < 2 ^ 64))); .ok (.int (i * j))
  | _, _ => stuck
def D.fdiv : D → D → M D
  | .int i, .int j => do need (decide (0 < j ∧ j < 1073741824)); .ok (.int (i / j))
  | _, _ => stuck
def D.mod : D → D → M D
  | .int i, .int j => do need (decide (0 < j)); .ok (.int (i % j))
  | _, _ => stuck
def D.pow : D → D → M D
  | .int i, .int j => do need (decide (0 ≤ j ∧ j ≤ 1000000 ∧ i.natAbs < 2 ^ 64)); .ok (.int (i ^ j.toNat))
  | _, _ => stuck
def D.neg : D → M D
  | .int i => .ok (.int (-i))
  | _ => stuck
def D.lt : D → D → M Bool
  | .int i, .int j => .ok (decide (i < j))
  | .str i, .str j => .ok (decide (i.cps.toList < j.cps.toList))
  | _, _ => stuck
def D.le : D → D → M Bool
  | .int i, .int j => .ok (decide (i ≤ j))
  | _, _ => stuck
def D.gt : D → D → M Bool
  | .int i, .int j => .ok (decide (j < i))
  | _, _ => stuck
def D.ge : D → D → M Bool
  | .int i, .int j => .ok (decide (j ≤ i))
  | _, _ => stuck
def D.ne (x y : D) : M Bool := do let b ← D.eq x y; .ok (!b)
def D.isKey : D → Bool
  | .int _ => true
  | .str _ => true
  | _ => false
def D.look (l : List (D × D)) (k : D) : Option D := (l.find? fun q => D.beq q.1 k).map (·.2)
def D.mem (x : D) : D → M Bool
  | .str z => (match x with
    | .str y => (match y.cps.toList with
      | [c] => .ok (decide (c ∈ z.cps.toList))
      | _ => .ok (!(Builtin.Str.occurrences z y 0 z.length 1).isEmpty))
    | _ => stuck)
  | .lst l => do need (x.shp 19 && l.all (D.shp 19)); .ok (l.any fun z => D.beq z x)
  | .tup l => do need (x.shp 19 && l.all (D.shp 19)); .ok (l.any fun z => D.beq z x)
  | .dct l => do need x.isKey; .ok (D.look l x).isSome
  | _ => stuck
def D.nmem (x y : D) : M Bool := do let b ← D.mem x y; .ok (!b)
def D.isNon : D → Bool
  | .non => true
  | _ => false
def D.tru : D → M Bool
  | .non => .ok false
  | .bl b => .ok b
  | .int i => .ok (i != 0)
  | .str y => do need (decide (y.length ≤ sizeLine)); .ok ((y.length : Int) != 0)
  | .lst l => .ok (!l.isEmpty)
  | .tup l => .ok (!l.isEmpty)
  | .dct l => .ok (!l.isEmpty)
  | _ => stuck
def D.ix : D → D → M D
  | .lst l, .int i => (match atI l i with | some d => .ok d | none => stuck)
  | .tup l, .int i => (match atI l i with | some d => .ok d | none => stuck)
  | .str z, .int i => do need (decide (z.length ≤ sizeLine)); (match atI z.cps.toList i with | some c => .ok (.str ⟨#[c]⟩) | none => stuck)
  | .dct l, k => do need k.isKey; (match D.look l k with | some d => .ok d | none => stuck)
  | _, _ => stuck
def cutL {α : Type} (xs : List α) (lo hi : Option Int) : List α := (xs.drop (HT.sIx xs.length 0 lo)).take (HT.sIx xs.length xs.length hi - HT.sIx xs.length 0 lo)
def D.sl : D → Option Int → Option Int → M D
  | .lst l, lo, hi => .ok (.lst (cutL l lo hi))
  | .tup l, lo, hi => .ok (.tup (cutL l lo hi))
  | .scr l, lo, hi => .ok (.lst ((cutL l lo hi).map D.int))
  | .str z, lo, hi => do need (decide (z.length ≤ sizeLine)); .ok (.str (cutS z lo hi))
  | _, _, _ => stuck
def D.len : D → M D
  | .str y => do need (decide (y.length ≤ sizeLine)); .ok (.int y.length)
  | .lst l => .ok (.int l.length)
  | .tup l => .ok (.int l.length)
  | .scr l => .ok (.int l.length)
  | .dct l => .ok (.int l.length)
  | _ => stuck
def D.abs : D → M D
  | .int i => .ok (.int (if i < 0 then -i else i))
  | _ => stuck
def D.toInt : D → M D
  | .int i => .ok (.int i)
  | .bl k => .ok (.int (if k then 1 else 0))
  | .str a => (match PySem.intText? a with | some n => do need (decide (a.length ≤ 640)); .ok (.int n) | none => stuck)
  | _ => stuck
def D.max2 : D → D → M D
  | .int i, .int j => .ok (.int (if j > i then j else i))
  | _, _ => stuck
def D.min2 : D → D → M D
  | .int i, .int j => .ok (.int (if j < i then j else i))
  | _, _ => stuck
def D.bools : List D → Option (List Bool)
  | [] => some []
  | .bl b :: l => (D.bools l).map (b :: ·)
  | _ :: _ => none
def D.all : D → M D
  | .lst l => (match D.bools l with | some bs => .ok (.bl (bs.all id)) | none => stuck)
  | _ => stuck
def D.any : D → M D
  | .lst l => (match D.bools l with | some bs => .ok (.bl (bs.any id)) | none => stuck)
  | _ => stuck
def D.toList : D → M D
  | .lst l => .ok (.lst l)
  | .tup l => .ok (.lst l)
  | _ => stuck
def D.toTup : D → M D
  | .lst l => .ok (.tup l)
  | .tup l => .ok (.tup l)
  | _ => stuck
def D.strs : List D → Option (List Str)
  | [] => some []
  | .str b :: l => (D.strs l).map (b :: ·)
  | _ :: _ => none
def D.join (x y : D) : M D :=
  match x, y with
  | .str a, .lst l => (match D.strs l with
    | some ys => do need (decide ((ys.map (·.length)).sum + ys.length * a.length ≤ 16777216)); .ok (.str (Txt.join a ys))
    | none => stuck)
  | .str a, .tup l => (match D.strs l with
    | some ys => do need (decide ((ys.map (·.length)).sum + ys.length * a.length ≤ 16777216)); .ok (.str (Txt.join a ys))
    | none => stuck)
  | _, _ => stuck
def D.split (x y : D) : M D :=
  match x, y with
  | .str a, .str b => do need (!(b.length == 0) && decide (a.length + 2 ≤ sizeLine)); .ok (.lst ((Txt.split a b).map D.str))
  | _, _ => stuck
def Sl.rd : Sl → M D
  | .val d => .ok d
  | .own l => .ok (.lst l)
  | .ownd l => .ok (.dct l)
  | .ownu l => .ok (.dcu l)
  | .obj _ c l => .ok (.ins c l)
  | .bor d => .ok d
  | .tre _ c l => .ok (.obt c l)
  | _ => stuck
def Sl.vl : Sl → M D
  | .val d => .ok d
  | _ => stuck
def bD (m : M Bool) : M D := m >>= fun b => .ok (.bl b)
end DL

set_option Elab.async false
set_option linter.all false
set_option maxRecDepth 100000
set_option maxHeartbeats 4000000
namespace DL
open PySem PySem.Spec L2

abbrev rE (K : PySem.W.Frag) : Hp → Hp → V → D → Prop := fun F' _ v d => Rp K F' v d
abbrev rT (K : PySem.W.Frag) : Hp → Hp → V → D → Prop := fun F' H' v d => RpT K F' H' v d
abbrev rB : Hp → Hp → Bool → Bool → Prop := fun _ _ v d => v = d
abbrev rTL (K : PySem.W.Frag) : Hp → Hp → List V → List D → Prop := fun F' H' v d => RpTL K F' H' v d

theorem strOk_app {x y : Str} (hx : PyData.strOk x = true) (hy : PyData.strOk y = true) : PyData.strOk (x ++ y) = true := by
  unfold PyData.strOk at *
  show (x.cps ++ y.cps).all _ = true
  rw [Array.all_append, hx, hy] <;> rfl
theorem strOk_mem {x : Str} : PyData.strOk x = true ↔ ∀ c ∈ x.cps.toList, c < 0x110000 := by
  unfold PyData.strOk
  rw [← Array.all_toList, List.all_eq_true]
  exact ⟨fun h c hc => of_decide_eq_true (h c hc), fun h c hc => decide_eq_true (h c hc)⟩
theorem strOk_cut {z : Str} (h : PyData.strOk z = true) (lo hi : Option Int) : PyData.strOk (cutS z lo hi) = true := by
  rw [strOk_mem] at h ⊢
  intro c hc
  refine h c ?_
  unfold cutS at hc
  simp only at hc
  exact List.mem_of_mem_drop (List.mem_of_mem_take hc)
theorem strOk_one {z : Str} {c : Nat} (h : PyData.strOk z = true) (hc : c ∈ z.cps.toList) : PyData.strOk ⟨#[c]⟩ = true := by
  rw [strOk_mem] at h ⊢
  intro d hd
  have e : d = c := by simpa using hd
  subst e
  exact h d hc

section
variable {X : Cx} {E : St → XK} {G : List Sl} {a b c e : Expr} {ma mb mc : M D} {pos : Pos} {F H : Hp}

theorem DR.of {m : M D} (h : DE X E G e m) : DR X E G e m := by
  obtain ⟨t, p, w⟩ := h
  exact ⟨t, p, fun B σ F H Q s g q => w B σ F H Q s g (match m, q with
    | .ok d, q => fun F' H' v x r => q F' H' v x (.of r)
    | .error .stuck, q => q.elim
    | .error (.exc x), q => q)⟩
theorem GOk.at {B : Hp} {σ : St} {i : Nat} {s : Sl} (g : GOk X.K B G σ F H) (h : G[i]? = some s) : ∃ o, σ[i]? = some o ∧ SlOk X.K B F H o s := g.ok i s h
theorem dr_var {i : Nat} {s : Sl} {x : Str} (h : G[i]? = some s) (p : PE X (.Name x pos) (tVar i)) : DR X E G (.Name x pos) s.rd := by
  refine ⟨_, p, fun B σ F H Q sm g q => ?_⟩
  obtain ⟨o, h1, h2⟩ := g.ok i s h
  cases s with
  | un => exact q.elim
  | any => exact q.elim
  | val d =>
    obtain ⟨v, rfl, r⟩ := h2
    exact ⟨v, h1, q F H v (Ext.refl sm) (.of r)⟩
  | own l =>
    obtain ⟨a, xs, rfl, e2, _, _, r⟩ := h2
    exact ⟨_, h1, q F H _ (Ext.refl sm) (.own e2 r)⟩
  | ownd l =>
    obtain ⟨a, rfl, r, _, _⟩ := h2
    exact ⟨_, h1, q F H _ (Ext.refl sm) (.ownd r.r)⟩
  | ownu l =>
    obtain ⟨a, rfl, r, _, _⟩ := h2
    exact ⟨_, h1, q F H _ (Ext.refl sm) (.ownu r)⟩
  | obj a c l =>
    obtain ⟨dx, fs, rfl, e1, _, _, e2, r⟩ := h2
    exact ⟨_, h1, q F H _ (Ext.refl sm) (.obj e1 e2 r)⟩
  | bor d =>
    obtain ⟨v, rfl, r⟩ := h2
    exact ⟨v, h1, q F H _ (Ext.refl sm) (r.monoH g.sB)⟩
  | tre a c l =>
    obtain ⟨rfl, _, as, t⟩ := h2
    exact ⟨_, h1, q F H _ (Ext.refl sm) (t.rd.monoH g.sB)⟩
  | exn a d l => exact q.elim
theorem de_var {i : Nat} {s : Sl} {x : Str} (h : G[i]? = some s) (p : PE X (.Name x pos) (tVar i)) : DE X E G (.Name x pos) s.vl := by
  refine ⟨_, p, fun B σ F H Q sm g q => ?_⟩
  obtain ⟨o, h1, h2⟩ := g.ok i s h
  cases s with
  | val d =>
    obtain ⟨v, rfl, r⟩ := h2
    exact ⟨v, h1, q F H v (Ext.refl sm) r⟩
  | _ => exact q.elim
theorem de_val {i : Nat} {d : D} {x : Str} (h : G[i]? = some (.val d)) (p : PE X (.Name x pos) (tVar i)) : DE X E G (.Name x pos) (.ok d) := de_var h p
theorem de_c {v : V} {d : D} (p : PE X e (tC v)) (h : ∀ F, Rp X.K F v d) : DE X E G e (.ok d) :=
  ⟨_, p, fun B σ F H Q s g q => q F H v (Ext.refl s) (h F)⟩
theorem de_int {i j pos} : DE X E G (.Constant (.int i) j pos) (.ok (.int i)) := de_c pe_int fun _ => .int i
theorem de_bl {i j pos} : DE X E G (.Constant (.bool i) j pos) (.ok (.bl i)) := de_c pe_bl fun _ => .bl i
theorem de_non {j pos} : DE X E G (.Constant .none j pos) (.ok .non) := de_c pe_non fun _ => .non
theorem de_str {x : Str} {j pos} (h : PyData.strOk x = true) : DE X E G (.Constant (.str x) j pos) (.ok (.str x)) := de_c pe_str fun _ => .str x h
theorem de_gint {x : Str} {i : Int} {t : Tok} (hg : Gl X x) (hm : X.mg x = some (.int i t)) (hd : (x == ("__debug__" : Str)) = false := by decide) : DE X E G (.Name x pos) (.ok (.int i)) := de_c (v := .int i) (pe_glob hg hm ⟨t, rfl⟩ hd) fun _ => .int i
theorem de_gstr {x z : Str} {t : Tok} (hg : Gl X x) (hm : X.mg x = some (.str z t)) (hz : PyData.strOk z = true) (hd : (x == ("__debug__" : Str)) = false := by decide) : DE X E G (.Name x pos) (.ok (.str z)) := de_c (v := .str z) (pe_glob hg hm ⟨t, rfl⟩ hd) fun _ => .str z hz

def Op2 (K : PySem.W.Frag) (f : D → D → M D) (r : R2) : Prop := ∀ (E : XK) (F H : Hp) (v u : V) (x y : D) (Q : VK), Same F H → RpT K F H v x → RpT K F H u y → WpG K E (rE K) (f x y) F H Q → r v u H Q
theorem two {ta tb : TE} {r : R2} {f : D → D → M D} (wa : ∀ B σ F H Q, Same F H → GOk X.K B G σ F H → WpG X.K (E σ) (rT X.K) ma F H Q → ta σ H Q) (wb : ∀ B σ F H Q, Same F H → GOk X.K B G σ F H → WpG X.K (E σ) (rT X.K) mb F H Q → tb σ H Q)
    (hf : Op2 X.K f r) : ∀ B σ F H Q, Same F H → GOk X.K B G σ F H → WpG X.K (E σ) (rE X.K) (ma >>= fun x => mb >>= fun y => f x y) F H Q → tOp r ta tb σ H Q := fun B σ F H Q s g q =>
  wa B σ F H _ s g (q.bind fun x F1 H1 v x1 r1 q1 => wb B σ F1 H1 _ x1.sFH (g.ext x1) (q1.bind fun y F2 H2 u x2 r2 q2 => hf (E σ) F2 H2 v u x y Q x2.sFH (r1.ext x2) r2 q2))
theorem de_op {op : Operator} {r : R2} {f : D → D → M D} (ho : OpR X (binaryOp op) r) (hf : Op2 X.K f r) (ha : DR X E G a ma) (hb : DR X E G b mb) : DE X E G (.BinOp a op b pos) (ma >>= fun x => mb >>= fun y => f x y) := by
  obtain ⟨ta, pa, wa⟩ := ha
  obtain ⟨tb, pb, wb⟩ := hb
  exact ⟨_, pe_op ho pa pb, two wa wb hf⟩

theorem new_lst {E₁ : XK} {xs : List V} {ds : List D} {Q : VK} (s : Same F H) (r : RpL X.K F xs ds) (q : WpG X.K E₁ (rE X.K) (.ok (.lst ds)) F H Q) : ∀ p, H p = none → Q (.ref p) (upd H p (.lst xs)) := fun p hp =>
  q _ _ _ (Ext.new s hp) (.lst upd_same (r.mono (Ext.new s hp).sF))
theorem new_tup {E₁ : XK} {xs : List V} {ds : List D} {Q : VK} (s : Same F H) (r : RpL X.K F xs ds) (q : WpG X.K E₁ (rE X.K) (.ok (.tup ds)) F H Q) : NewT H xs Q := fun p o hp c d =>
  q _ _ _ (Ext.new s hp) (.tup (plT_new c d) (r.mono (Ext.new s hp).sF))
theorem RpT.rp_tup {v : V} {l : List D} {K : PySem.W.Frag} (h : RpT K F H v (.tup l)) : Rp K F v (.tup l) := by
  cases h with
  | of h => exact h

def rAddAll (K : PySem.W.Frag) : R2 := fun x y H Q => rI0 (fun i j => .int (i + j)) x y H Q ∨ (∃ i j, x = .str i ∧ y = .str j ∧ i.length + j.length ≤ sizeLine ∧ Q (.str (i ++ j)) H) ∨ rCat x y H Q ∨ rCatP K x y H Q
theorem op_addAll : OpR X (binaryOp .Add) (rAddAll X.K) := op_add.or (op_add_str.or (op_cat.or op_catP))
theorem op2_add : Op2 X.K D.add (rAddAll X.K) := fun E F H v u x y Q s rx ry q => by
  cases x with
  | int i => cases y with
    | int j => exact .inl ⟨i, j, rx.int, ry.int, q F H _ (Ext.refl s) (.int _)⟩
    | _ => exact q.elim
  | str i => cases y with
    | str j =>
      obtain ⟨c, q⟩ := q.need
      exact .inr (.inl ⟨i, j, rx.str.1, ry.str.1, of_decide_eq_true c, q F H _ (Ext.refl s) (.str _ (strOk_app rx.str.2 ry.str.2))⟩)
    | _ => exact q.elim
  | lst l => cases y with
    | lst m =>
      obtain ⟨c, q⟩ := q.need
      obtain ⟨p, xs, rfl, e1, r1⟩ := rx.lst s
      obtain ⟨p2, ys, rfl, e2, r2⟩ := ry.lst s
      exact .inr (.inr (.inl ⟨p, p2, xs, ys, rfl, rfl, e1, e2, by rw [r1.length, r2.length]; exact of_decide_eq_true c, new_lst s (r1.append r2) q⟩))
    | _ => exact q.elim
  | tup l => cases y with
    | tup m =>
      obtain ⟨c, q⟩ := q.need
      obtain ⟨p, xs, rfl, e1, r1⟩ := rx.tup s
      obtain ⟨p2, ys, rfl, e2, r2⟩ := ry.tup s
      refine .inr (.inr (.inr ⟨p, p2, xs, ys, rfl, rfl, e1, e2, by rw [r1.length, r2.length]; exact of_decide_eq_true c, fun h0 => ?_, fun _ h0 => ?_, fun _ _ => new_tup s (r1.append r2) q⟩))
      · subst h0
        cases r1
        exact q F H _ (Ext.refl s) ry.rp_tup
      · subst h0
        cases r2
        rw [List.append_nil] at q
        exact q F H _ (Ext.refl s) rx.rp_tup
    | _ => exact q.elim
  | _ => cases y <;> exact q.elim
theorem de_add (ha : DR X E G a ma) (hb : DR X E G b mb) : DE X E G (.BinOp a .Add b pos) (ma >>= fun x => mb >>= fun y => D.add x y) := de_op op_addAll op2_add ha hb
theorem de_mul (ha : DR X E G a ma) (hb : DR X E G b mb) : DE X E G (.BinOp a .Mult b pos) (ma >>= fun x => mb >>= fun y => D.mul x y) := de_op op_mul (fun E F H v u x y Q s rx ry q => by
  cases x with
  | int i => cases y with
    | int j =>
      obtain ⟨c, q⟩ := q.need
      have c := of_decide_eq_true c
      exact ⟨i, j, rx.int, ry.int, c, q F H _ (Ext.refl s) (.int _)⟩
    | _ => exact q.elim
  | _ => cases y <;> exact q.elim) ha hb
theorem de_fdiv (ha : DR X E G a ma) (hb : DR X E G b mb) : DE X E G (.BinOp a .FloorDiv b pos) (ma >>= fun x => mb >>= fun y => D.fdiv x y) := de_op op_fdiv (fun E F H v u x y Q s rx ry q => by
  cases x with
  | int i => cases y with
    | int j =>
      obtain ⟨c, q⟩ := q.need
      have c := of_decide_eq_true c
      exact ⟨i, j, rx.int, ry.int, c, q F H _ (Ext.refl s) (.int _)⟩
    | _ => exact q.elim
  | _ => cases y <;> exact q.elim) ha hb
theorem de_mod (ha : DR X E G a ma) (hb : DR X E G b mb) : DE X E G (.BinOp a .Mod b pos) (ma >>= fun x => mb >>= fun y => D.mod x y) := de_op op_mod (fun E F H v u x y Q s rx ry q => by
  cases x with
  | int i => cases y with
    | int j =>
      obtain ⟨c, q⟩ := q.need
      have c := of_decide_eq_true c
      exact ⟨i, j, rx.int, ry.int, c, q F H _ (Ext.refl s) (.int _)⟩
    | _ => exact q.elim
  | _ => cases y <;> exact q.elim) ha hb
theorem de_pow (ha : DR X E G a ma) (hb : DR X E G b mb) : DE X E G (.BinOp a .Pow b pos) (ma >>= fun x => mb >>= fun y => D.pow x y) := de_op op_pow (fun E F H v u x y Q s rx ry q => by
  cases x with
  | int i => cases y with
    | int j =>
      obtain ⟨c, q⟩ := q.need
      have c := of_decide_eq_true c
      exact ⟨i, j, rx.int, ry.int, c, q F H _ (Ext.refl s) (.int _)⟩
    | _ => exact q.elim
  | _ => cases y <;> exact q.elim) ha hb
theorem de_neg (ha : DR X E G a ma) : DE X E G (.UnaryOp .USub a pos) (ma >>= fun x => D.neg x) := by
  obtain ⟨ta, pa, wa⟩ := ha
  refine ⟨_, pe_un un_neg pa, fun B σ F H Q s g q => wa B σ F H _ s g (q.bind fun x F1 H1 v x1 r1 q1 => ?_)⟩
  cases x with
  | int i => exact ⟨i, r1.int, q1 F1 H1 _ (Ext.refl x1.sFH) (.int _)⟩
  | _ => exact q1.elim

def rCmp (K : PySem.W.Frag) (f : D → D → M Bool) (r : R2) : Prop := Op2 K (fun x y => bD (f x y)) r
theorem cmp_lt : rCmp X.K D.lt (fun x y H Q => rI0 (fun i j => .bl (decide (i < j))) x y H Q ∨ (∃ i j, x = .str i ∧ y = .str j ∧ Q (.bl (decide (i.cps.toList < j.cps.toList))) H)) := fun E F H v u x y Q s rx ry q => by
  cases x with
  | int i => cases y with
    | int j => exact .inl ⟨i, j, rx.int, ry.int, q F H _ (Ext.refl s) (.bl _)⟩
    | _ => exact q.elim
  | str i => cases y with
    | str j => exact .inr ⟨i, j, rx.str.1, ry.str.1, q F H _ (Ext.refl s) (.bl _)⟩
    | _ => exact q.elim
  | _ => cases y <;> exact q.elim
theorem cmp_le : rCmp X.K D.le (rI0 fun i j => .bl (decide (i ≤ j))) := fun E F H v u x y Q s rx ry q => by
  cases x with
  | int i => cases y with
    | int j => exact ⟨i, j, rx.int, ry.int, q F H _ (Ext.refl s) (.bl _)⟩
    | _ => exact q.elim
  | _ => cases y <;> exact q.elim
theorem cmp_gt : rCmp X.K D.gt (rI0 fun i j => .bl (decide (j < i))) := fun E F H v u x y Q s rx ry q => by
  cases x with
  | int i => cases y with
    | int j => exact ⟨i, j, rx.int, ry.int, q F H _ (Ext.refl s) (.bl _)⟩
    | _ => exact q.elim
  | _ => cases y <;> exact q.elim
theorem cmp_ge : rCmp X.K D.ge (rI0 fun i j => .bl (decide (j ≤ i))) := fun E F H v u x y Q s rx ry q => by
  cases x with
  | int i => cases y with
    | int j => exact ⟨i, j, rx.int, ry.int, q F H _ (Ext.refl s) (.bl _)⟩
    | _ => exact q.elim
  | _ => cases y <;> exact q.elim
theorem and2 {p q : Bool} (h : (p && q) = true) : p = true ∧ q = true := Bool.and_eq_true_iff.mp h
theorem cmp_eq : rCmp X.K D.eq (rEqD X.K) := fun E F H v u x y Q s rx ry q => by
  have q' : WpG X.K E (rE X.K) (need (x.shp 20 && y.shp 20) >>= fun _ => .ok (.bl (D.beq x y))) F H Q := by
    have e : (bD (D.eq x y)) = (need (x.shp 20 && y.shp 20) >>= fun _ => .ok (.bl (D.beq x y))) := by
      unfold bD D.eq need
      cases (x.shp 20 && y.shp 20) <;> rfl
    rw [← e]
    exact q
  obtain ⟨c, q2⟩ := q'.need
  obtain ⟨c1, c2⟩ := and2 c
  obtain ⟨d1, l1⟩ := rx.dp s c1
  obtain ⟨d2, l2⟩ := ry.dp s c2
  refine ⟨_, _, d1, d2, shaped_of (by decide) c1 l1, shaped_of (by decide) c2 l2, ?_⟩
  rw [D.beq_eq c1 c2]
  exact q2 F H _ (Ext.refl s) (.bl _)
theorem cmp_ne : rCmp X.K D.ne (rNeD X.K) := fun E F H v u x y Q s rx ry q => by
  have q' : WpG X.K E (rE X.K) (need (x.shp 20 && y.shp 20) >>= fun _ => .ok (.bl (!D.beq x y))) F H Q := by
    have e : (bD (D.ne x y)) = (need (x.shp 20 && y.shp 20) >>= fun _ => .ok (.bl (!D.beq x y))) := by
      unfold bD D.ne D.eq need
      cases (x.shp 20 && y.shp 20) <;> rfl
    rw [← e]
    exact q
  obtain ⟨c, q2⟩ := q'.need
  obtain ⟨c1, c2⟩ := and2 c
  obtain ⟨d1, l1⟩ := rx.dp s c1
  obtain ⟨d2, l2⟩ := ry.dp s c2
  refine ⟨_, _, d1, d2, shaped_of (by decide) c1 l1, shaped_of (by decide) c2 l2, ?_⟩
  rw [D.beq_eq c1 c2]
  exact q2 F H _ (Ext.refl s) (.bl _)
theorem de_cmp {op : CmpOp} {r : R2} {f : D → D → M Bool} (ho : OpR X (compareOp op) r) (hf : rCmp X.K f r) (ha : DR X E G a ma) (hb : DR X E G b mb) (hm : behindInMarks op b = false) : DE X E G (.Compare a [op] [b] pos) (ma >>= fun x => mb >>= fun y => bD (f x y)) := by
  obtain ⟨ta, pa, wa⟩ := ha
  obtain ⟨tb, pb, wb⟩ := hb
  exact ⟨_, pe_cmpR ho pa pb hm, two wa wb hf⟩
theorem WpG.bool {E₁ : XK} {m : M Bool} {Q : Bool → Hp → Prop} {K : PySem.W.Frag} (q : WpG K E₁ rB m F H Q) : WpG K E₁ (rE K) (bD m) F H (fun x H' => ∃ k, x = .bl k ∧ Q k H') := by
  cases m with
  | ok c =>
    intro F' H' v x r
    cases r
    exact ⟨c, rfl, q F' H' c x rfl⟩
  | error e => cases e with
    | stuck => exact q
    | exc y => exact q
theorem DT.ofE {m : M Bool} {t : TE} {tt : TT} (pt : PT X e tt) (w : ∀ B σ F H Q, Same F H → GOk X.K B G σ F H → WpG X.K (E σ) (rE X.K) (bD m) F H Q → t σ H Q) (h : ∀ σ H Q, t σ H (fun x H' => ∃ k, x = .bl k ∧ Q k H') → tt σ H Q) : DT X E G e m :=
  ⟨tt, pt, fun B σ F H Q s g q => h σ H Q (w B σ F H _ s g q.bool)⟩
theorem two_b {f : D → D → M Bool} : (ma >>= fun x => mb >>= fun y => bD (f x y)) = bD (ma >>= fun x => mb >>= fun y => f x y) := by
  cases ma with
  | error e => rfl
  | ok x => cases mb <;> rfl
theorem dt_cmp {op : CmpOp} {r : R2} {f : D → D → M Bool} (ho : OpR X (compareOp op) r) (hf : rCmp X.K f r) (ha : DR X E G a ma) (hb : DR X E G b mb) (hm : behindInMarks op b = false) : DT X E G (.Compare a [op] [b] pos) (ma >>= fun x => mb >>= fun y => f x y) := by
  obtain ⟨ta, pa, wa⟩ := ha
  obtain ⟨tb, pb, wb⟩ := hb
  refine DT.ofE (t := tOp r ta tb) (pt_cmpR ho pa pb hm) ?_ (fun _ _ _ h => h)
  rw [← two_b]
  exact two wa wb hf
def rInDct : R2 := fun x y H Q => ∃ a o, y = .ref a ∧ DGet H a x o ∧ Q (.bl o.isSome) H
theorem op_inDct (hu : X.A.units + 1 < cLine) : OpR X (compareOp .In) rInDct := by
  intro pins s σ H x y v u Q I rx ry h
  obtain ⟨a, o, rfl, g, q⟩ := h
  obtain rfl : u = Value.ref a := ry
  exact d_in hu I g rx fun s3 I3 => ⟨.bl o.isSome, H, I3, rfl, q⟩
def rNinDct : R2 := fun x y H Q => ∃ a o, y = .ref a ∧ DGet H a x o ∧ Q (.bl (!o.isSome)) H
theorem op_ninDct (hu : X.A.units + 1 < cLine) : OpR X (compareOp .NotIn) rNinDct := by
  intro pins s σ H x y v u Q I rx ry h
  obtain ⟨a, o, rfl, g, q⟩ := h
  obtain rfl : u = Value.ref a := ry
  exact d_notIn hu I g rx fun s3 I3 => ⟨.bl (!o.isSome), H, I3, rfl, q⟩
def rInT (K : PySem.W.Frag) : R2 := fun x y H Q => ∃ d ds, Dp K H x d ∧ Dp K H y (.tuple ds) ∧ SeqAt.shaped d = true ∧ SeqAt.shaped (.tuple ds) = true ∧ Q (.bl (ds.any fun z => PyData.eqv z d)) H
def rNinT (K : PySem.W.Frag) : R2 := fun x y H Q => ∃ d ds, Dp K H x d ∧ Dp K H y (.tuple ds) ∧ SeqAt.shaped d = true ∧ SeqAt.shaped (.tuple ds) = true ∧ Q (.bl (!ds.any fun z => PyData.eqv z d)) H
theorem room_inT {A : Around} {ds : List PyData} {d : PyData} (sd : SeqAt.shaped d = true) (hu : A.units + 65 < cLine) : A.units + 1 + min (PyData.depthAll ds) d.depth < cLine := by
  have h1 := SeqAt.depth_of_shaped sd
  have h2 : min (PyData.depthAll ds) d.depth ≤ d.depth := Nat.min_le_right _ _
  omega
theorem op_inT (hu : X.A.units + 65 < cLine) : OpR X (compareOp .In) (rInT X.K) := by
  intro pins s σ H x y v u Q I rx ry h
  obtain ⟨d, ds, hd, he, sd, se, q⟩ := h
  obtain ⟨as, r1⟩ := Dp.reads I d x v hd rx
  obtain ⟨bs, r2⟩ := Dp.reads I (.tuple ds) y u he ry
  exact SeqAt.in_tuple_reads r2 r1 (SeqAt.canLay_of_shaped se) (SeqAt.canLay_of_shaped sd) (room_inT sd hu) ⟨.bl _, H, I, rfl, q⟩
theorem op_ninT (hu : X.A.units + 65 < cLine) : OpR X (compareOp .NotIn) (rNinT X.K) := by
  intro pins s σ H x y v u Q I rx ry h
  obtain ⟨d, ds, hd, he, sd, se, q⟩ := h
  obtain ⟨as, r1⟩ := Dp.reads I d x v hd rx
  obtain ⟨bs, r2⟩ := Dp.reads I (.tuple ds) y u he ry
  exact SeqAt.notIn_tuple_reads r2 r1 (SeqAt.canLay_of_shaped se) (SeqAt.canLay_of_shaped sd) (room_inT sd hu) ⟨.bl _, H, I, rfl, q⟩
theorem any_py {x : D} {n : Nat} (hx : x.shp n = true) : ∀ {l : List D}, l.all (D.shp n) = true → ((D.pyL l).any fun z => PyData.eqv z x.py) = l.any fun z => D.beq z x
  | [], _ => by simp [D.pyL]
  | d :: l, h => by
    rw [List.all_cons, Bool.and_eq_true] at h
    simp only [D.pyL, List.any_cons]
    rw [D.beq_eq h.1 hx, any_py hx h.2]
theorem keyV {v : V} {k : D} {K : PySem.W.Frag} (h : k.isKey = true) (r : RpT K F H v k) : ∃ q : Key, v = kV q ∧ k = kD q := by
  cases k with
  | int i => exact ⟨.inl i, r.int, rfl⟩
  | str x => exact ⟨.inr x, r.str.1, rfl⟩
  | _ => cases h
theorem beq_key (p q : Key) : D.beq (kD p) (kD q) = decide (p = q) := by
  cases p with
  | inl i => cases q with
    | inl j =>
      show D.beq (.int i) (.int j) = _
      simp [D.beq]
    | inr y =>
      show D.beq (.int i) (.str y) = _
      simp [D.beq]
  | inr x => cases q with
    | inl j =>
      show D.beq (.str x) (.int j) = _
      simp [D.beq]
    | inr y =>
      show D.beq (.str x) (.str y) = _
      simp [D.beq]
theorem look_val {K : PySem.W.Frag} (q : Key) : ∀ {kvs : List (Key × V)} {l : List (D × D)}, kvs.map (fun q => kD q.1) = l.map (·.1) → RpL K F (kvs.map (·.2)) (l.map (·.2)) →
    (valV kvs q = none ∧ D.look l (kD q) = none) ∨ ∃ v d, valV kvs q = some v ∧ D.look l (kD q) = some d ∧ Rp K F v d
  | [], [], _, _ => .inl ⟨rfl, rfl⟩
  | [], _ :: _, h, _ => by simp at h
  | _ :: _, [], h, _ => by simp at h
  | (k, v) :: kvs, (k2, d) :: l, h, r => by
    have h1 : kD k = k2 ∧ kvs.map (fun q => kD q.1) = l.map (·.1) := by simpa using h
    obtain ⟨rfl, h2⟩ := h1
    have r' : RpL K F (v :: kvs.map (·.2)) (d :: l.map (·.2)) := r
    cases r' with
    | cons r1 r2 =>
      by_cases e : k = q
      · subst e
        refine .inr ⟨v, d, ?_, ?_, r1⟩
        · simp [valV]
        · simp [D.look, List.find?_cons, beq_key]
      · have ih := look_val q h2 r2
        have e1 : valV ((k, v) :: kvs) q = valV kvs q := by simp [valV, List.find?_cons, e]
        have e2 : D.look ((kD k, d) :: l) (kD q) = D.look l (kD q) := by simp [D.look, List.find?_cons, beq_key, e]
        rw [e1, e2]
        exact ih
def rInAll (K : PySem.W.Frag) : R2 := fun x y H Q => (∃ (c : Nat) (z : Str), x = .str ⟨#[c]⟩ ∧ y = .str z ∧ Q (.bl (decide (c ∈ z.cps.toList))) H) ∨ (∃ i j, x = .str i ∧ y = .str j ∧ Q (.bl (!(Builtin.Str.occurrences j i 0 j.length 1).isEmpty)) H) ∨ rInD K x y H Q ∨ rInT K x y H Q ∨ rInDct x y H Q
theorem op_inAll (hu : X.A.units + 70 < cLine) : OpR X (compareOp .In) (rInAll X.K) := op_in_sign.or (op_in_str.or ((op_inD (by omega)).or ((op_inT (by omega)).or (op_inDct (by omega)))))
theorem cmp_in : rCmp X.K D.mem (rInAll X.K) := fun E F H v u x y Q s rx ry q => by
  cases y with
  | str z =>
    cases x with
    | str y =>
      obtain ⟨⟨cps⟩⟩ := y
      rcases cps with _ | ⟨c, _ | ⟨c2, r⟩⟩
      · exact .inr (.inl ⟨_, z, rx.str.1, ry.str.1, q F H _ (Ext.refl s) (.bl _)⟩)
      · exact .inl ⟨c, z, rx.str.1, ry.str.1, q F H _ (Ext.refl s) (.bl _)⟩
      · exact .inr (.inl ⟨_, z, rx.str.1, ry.str.1, q F H _ (Ext.refl s) (.bl _)⟩)
    | _ => exact q.elim
  | lst l =>
    have q' : WpG X.K E (rE X.K) (need (x.shp 19 && l.all (D.shp 19)) >>= fun _ => .ok (.bl (l.any fun z => D.beq z x))) F H Q := by
      have e : bD (D.mem x (.lst l)) = (need (x.shp 19 && l.all (D.shp 19)) >>= fun _ => .ok (.bl (l.any fun z => D.beq z x))) := by
        unfold bD D.mem need
        simp only
        cases (x.shp 19 && l.all (D.shp 19)) <;> rfl
      rw [← e]
      exact q
    obtain ⟨c, q2⟩ := q'.need
    obtain ⟨c1, c2⟩ := and2 c
    obtain ⟨d1, l1⟩ := rx.dp s c1
    have c3 : (D.lst l).shp 20 = true := c2
    obtain ⟨d2, l2⟩ := ry.dp s c3
    have sh := shaped_of (by decide) c3 l2
    simp only [D.py] at d2 sh
    refine .inr (.inr (.inl ⟨_, _, d1, d2, shaped_of (by decide) c1 l1, sh, ?_⟩))
    rw [any_py c1 c2]
    exact q2 F H _ (Ext.refl s) (.bl _)
  | tup l =>
    have q' : WpG X.K E (rE X.K) (need (x.shp 19 && l.all (D.shp 19)) >>= fun _ => .ok (.bl (l.any fun z => D.beq z x))) F H Q := by
      have e : bD (D.mem x (.tup l)) = (need (x.shp 19 && l.all (D.shp 19)) >>= fun _ => .ok (.bl (l.any fun z => D.beq z x))) := by
        unfold bD D.mem need
        simp only
        cases (x.shp 19 && l.all (D.shp 19)) <;> rfl
      rw [← e]
      exact q
    obtain ⟨c, q2⟩ := q'.need
    obtain ⟨c1, c2⟩ := and2 c
    obtain ⟨d1, l1⟩ := rx.dp s c1
    have c3 : (D.tup l).shp 20 = true := c2
    obtain ⟨d2, l2⟩ := ry.dp s c3
    have sh := shaped_of (by decide) c3 l2
    simp only [D.py] at d2 sh
    refine .inr (.inr (.inr (.inl ⟨_, _, d1, d2, shaped_of (by decide) c1 l1, sh, ?_⟩)))
    rw [any_py c1 c2]
    exact q2 F H _ (Ext.refl s) (.bl _)
  | dct l =>
    have q' : WpG X.K E (rE X.K) (need x.isKey >>= fun _ => .ok (.bl (D.look l x).isSome)) F H Q := by
      have e : bD (D.mem x (.dct l)) = (need x.isKey >>= fun _ => .ok (.bl (D.look l x).isSome)) := by
        unfold bD D.mem need
        simp only
        cases x.isKey <;> rfl
      rw [← e]
      exact q
    obtain ⟨c, q2⟩ := q'.need
    obtain ⟨k, rfl, rfl⟩ := keyV c rx
    obtain ⟨a, rfl, kvs, e1, e2, r2⟩ := ry.dct s
    refine .inr (.inr (.inr (.inr ⟨a, valV kvs k, rfl, DGet.kr e1, ?_⟩)))
    rcases look_val k e2 r2 with ⟨h1, h2⟩ | ⟨v, d, h1, h2, _⟩
    · rw [h2] at q2
      rw [h1]
      exact q2 F H _ (Ext.refl s) (.bl _)
    · rw [h2] at q2
      rw [h1]
      exact q2 F H _ (Ext.refl s) (.bl _)
  | _ => exact q.elim
end
end DL

set_option Elab.async false
set_option linter.all false
set_option maxRecDepth 100000
set_option maxHeartbeats 4000000
namespace DL
open PySem PySem.Spec L2
section
variable {X : Cx} {E : St → XK} {G : List Sl} {a b c e : Expr} {ma mb mc : M D} {ta tb : M Bool} {pos : Pos} {F H : Hp}
theorem rNinAll_op (hu : X.A.units + 70 < cLine) : OpR X (compareOp .NotIn) (fun x y H Q => (∃ (c : Nat) (z : Str), x = .str ⟨#[c]⟩ ∧ y = .str z ∧ Q (.bl (!decide (c ∈ z.cps.toList))) H) ∨ (∃ i j, x = .str i ∧ y = .str j ∧ Q (.bl (!(!(Builtin.Str.occurrences j i 0 j.length 1).isEmpty))) H) ∨ rNotInD X.K x y H Q ∨ rNinT X.K x y H Q ∨ rNinDct x y H Q) :=
  op_notIn_sign.or (op_notin_str.or ((op_notInD (by omega)).or ((op_ninT (by omega)).or (op_ninDct (by omega)))))
theorem cmp_nin : rCmp X.K D.nmem (fun x y H Q => (∃ (c : Nat) (z : Str), x = .str ⟨#[c]⟩ ∧ y = .str z ∧ Q (.bl (!decide (c ∈ z.cps.toList))) H) ∨ (∃ i j, x = .str i ∧ y = .str j ∧ Q (.bl (!(!(Builtin.Str.occurrences j i 0 j.length 1).isEmpty))) H) ∨ rNotInD X.K x y H Q ∨ rNinT X.K x y H Q ∨ rNinDct x y H Q) := fun E F H v u x y Q s rx ry q => by
  cases y with
  | str z =>
    cases x with
    | str y =>
      obtain ⟨⟨cps⟩⟩ := y
      rcases cps with _ | ⟨c, _ | ⟨c2, r⟩⟩
      · exact .inr (.inl ⟨_, z, rx.str.1, ry.str.1, q F H _ (Ext.refl s) (.bl _)⟩)
      · exact .inl ⟨c, z, rx.str.1, ry.str.1, q F H _ (Ext.refl s) (.bl _)⟩
      · exact .inr (.inl ⟨_, z, rx.str.1, ry.str.1, q F H _ (Ext.refl s) (.bl _)⟩)
    | _ => exact q.elim
  | lst l =>
    have q' : WpG X.K E (rE X.K) (need (x.shp 19 && l.all (D.shp 19)) >>= fun _ => .ok (.bl (!l.any fun z => D.beq z x))) F H Q := by
      have e : bD (D.nmem x (.lst l)) = (need (x.shp 19 && l.all (D.shp 19)) >>= fun _ => .ok (.bl (!l.any fun z => D.beq z x))) := by
        unfold bD D.nmem D.mem need
        simp only
        cases (x.shp 19 && l.all (D.shp 19)) <;> rfl
      rw [← e]
      exact q
    obtain ⟨c, q2⟩ := q'.need
    obtain ⟨c1, c2⟩ := and2 c
    obtain ⟨d1, l1⟩ := rx.dp s c1
    have c3 : (D.lst l).shp 20 = true := c2
    obtain ⟨d2, l2⟩ := ry.dp s c3
    have sh := shaped_of (by decide) c3 l2
    simp only [D.py] at d2 sh
    refine .inr (.inr (.inl ⟨_, _, d1, d2, shaped_of (by decide) c1 l1, sh, ?_⟩))
    rw [any_py c1 c2]
    exact q2 F H _ (Ext.refl s) (.bl _)
  | tup l =>
    have q' : WpG X.K E (rE X.K) (need (x.shp 19 && l.all (D.shp 19)) >>= fun _ => .ok (.bl (!l.any fun z => D.beq z x))) F H Q := by
      have e : bD (D.nmem x (.tup l)) = (need (x.shp 19 && l.all (D.shp 19)) >>= fun _ => .ok (.bl (!l.any fun z => D.beq z x))) := by
        unfold bD D.nmem D.mem need
        simp only
        cases (x.shp 19 && l.all (D.shp 19)) <;> rfl
      rw [← e]
      exact q
    obtain ⟨c, q2⟩ := q'.need
    obtain ⟨c1, c2⟩ := and2 c
    obtain ⟨d1, l1⟩ := rx.dp s c1
    have c3 : (D.tup l).shp 20 = true := c2
    obtain ⟨d2, l2⟩ := ry.dp s c3
    have sh := shaped_of (by decide) c3 l2
    simp only [D.py] at d2 sh
    refine .inr (.inr (.inr (.inl ⟨_, _, d1, d2, shaped_of (by decide) c1 l1, sh, ?_⟩)))
    rw [any_py c1 c2]
    exact q2 F H _ (Ext.refl s) (.bl _)
  | dct l =>
    have q' : WpG X.K E (rE X.K) (need x.isKey >>= fun _ => .ok (.bl (!(D.look l x).isSome))) F H Q := by
      have e : bD (D.nmem x (.dct l)) = (need x.isKey >>= fun _ => .ok (.bl (!(D.look l x).isSome))) := by
        unfold bD D.nmem D.mem need
        simp only
        cases x.isKey <;> rfl
      rw [← e]
      exact q
    obtain ⟨c, q2⟩ := q'.need
    obtain ⟨k, rfl, rfl⟩ := keyV c rx
    obtain ⟨a, rfl, kvs, e1, e2, r2⟩ := ry.dct s
    refine .inr (.inr (.inr (.inr ⟨a, valV kvs k, rfl, DGet.kr e1, ?_⟩)))
    rcases look_val k e2 r2 with ⟨h1, h2⟩ | ⟨v, d, h1, h2, _⟩
    · rw [h2] at q2
      rw [h1]
      exact q2 F H _ (Ext.refl s) (.bl _)
    · rw [h2] at q2
      rw [h1]
      exact q2 F H _ (Ext.refl s) (.bl _)
  | _ => exact q.elim
def D.isN (x y : D) : M Bool := match y with
  | .non => .ok x.isNon
  | _ => stuck
def D.notN (x y : D) : M Bool := match y with
  | .non => .ok (!x.isNon)
  | _ => stuck
theorem isNon_of {v : V} {d : D} {K : PySem.W.Frag} (r : RpT K F H v d) : decide (v = .non) = d.isNon := by
  cases r with
  | of r => cases r <;> rfl
  | own _ _ => rfl
  | ownd _ => rfl
  | ownu _ => rfl
  | obj _ _ _ => rfl
  | obt _ _ _ => rfl
theorem cmp_isN : rCmp X.K D.isN (fun x y H Q => y = .non ∧ Q (.bl (decide (x = .non))) H) := fun E F H v u x y Q s rx ry q => by
  cases y with
  | non => exact ⟨ry.non, by rw [isNon_of rx]; exact q F H _ (Ext.refl s) (.bl _)⟩
  | _ => exact q.elim
theorem cmp_notN : rCmp X.K D.notN (fun x y H Q => y = .non ∧ Q (.bl (!decide (x = .non))) H) := fun E F H v u x y Q s rx ry q => by
  cases y with
  | non => exact ⟨ry.non, by rw [isNon_of rx]; exact q F H _ (Ext.refl s) (.bl _)⟩
  | _ => exact q.elim

theorem de_chain {op op' : CmpOp} {r r' : R2} {f f' : D → D → M Bool} (ho : OpR X (compareOp op) r) (ho' : OpR X (compareOp op') r') (hf : rCmp X.K f r) (hf' : rCmp X.K f' r') (ha : DR X E G a ma) (hb : DR X E G b mb) (hc : DR X E G c mc)
    (hm : lastMarks [op, op'] [b, c] = false := by with_unfolding_all rfl) :
    DE X E G (.Compare a [op, op'] [b, c] pos) (ma >>= fun x => mb >>= fun y => f x y >>= fun k => if k = true then mc >>= fun z => bD (f' y z) else .ok (.bl false)) := by
  obtain ⟨t1, p1, w1⟩ := ha
  obtain ⟨t2, p2, w2⟩ := hb
  obtain ⟨t3, p3, w3⟩ := hc
  refine ⟨_, pe_chain ho ho' p1 p2 p3 hm, fun B σ F H Q s g q => w1 B σ F H _ s g (q.bind fun x F1 H1 v x1 r1 q1 => w2 B σ F1 H1 _ x1.sFH (g.ext x1) (q1.bind fun y F2 H2 u x2 r2 q2 => ?_))⟩
  refine hf (E σ) F2 H2 v u x y _ x2.sFH (r1.ext x2) r2 (WpG.bool (q2.bind fun k F3 H3 k' x3 e q3 => ?_))
  subst e
  cases k' with
  | true =>
    rw [if_pos rfl] at q3 ⊢
    exact w3 B σ F3 H3 _ x3.sFH ((g.ext x1).ext x2 |>.ext x3) (q3.bind fun z F4 H4 w x4 r4 q4 => hf' (E σ) F4 H4 u w y z Q x4.sFH ((r2.ext x3).ext x4) r4 q4)
  | false =>
    rw [if_neg Bool.false_ne_true] at q3 ⊢
    exact q3 F3 H3 _ (Ext.refl x3.sFH) (.bl _)
theorem dt_chain {op op' : CmpOp} {r r' : R2} {f f' : D → D → M Bool} (ho : OpR X (compareOp op) r) (ho' : OpR X (compareOp op') r') (hf : rCmp X.K f r) (hf' : rCmp X.K f' r') (ha : DR X E G a ma) (hb : DR X E G b mb) (hc : DR X E G c mc)
    (hm : lastMarks [op, op'] [b, c] = false := by with_unfolding_all rfl) :
    DT X E G (.Compare a [op, op'] [b, c] pos) (ma >>= fun x => mb >>= fun y => f x y >>= fun k => if k = true then mc >>= fun z => f' y z else .ok false) := by
  obtain ⟨t1, p1, w1⟩ := ha
  obtain ⟨t2, p2, w2⟩ := hb
  obtain ⟨t3, p3, w3⟩ := hc
  refine ⟨_, pt_chain ho ho' p1 p2 p3 hm, fun B σ F H Q s g q => w1 B σ F H _ s g (q.bind fun x F1 H1 v x1 r1 q1 => w2 B σ F1 H1 _ x1.sFH (g.ext x1) (q1.bind fun y F2 H2 u x2 r2 q2 => ?_))⟩
  refine hf (E σ) F2 H2 v u x y _ x2.sFH (r1.ext x2) r2 (WpG.bool (q2.bind fun k F3 H3 k' x3 e q3 => ?_))
  subst e
  cases k' with
  | true =>
    rw [if_pos rfl] at q3 ⊢
    exact w3 B σ F3 H3 _ x3.sFH ((g.ext x1).ext x2 |>.ext x3) (q3.bind fun z F4 H4 w x4 r4 q4 => hf' (E σ) F4 H4 u w y z _ x4.sFH ((r2.ext x3).ext x4) r4 (WpG.bool q4))
  | false =>
    rw [if_neg Bool.false_ne_true] at q3 ⊢
    exact ⟨false, rfl, q3 F3 H3 _ (Ext.refl x3.sFH) rfl⟩

def TruW (K : PySem.W.Frag) (v : V) (H : Hp) (k : Bool) : Prop := TruV K v H k ∨ ∃ p kvs, v = .ref p ∧ Rd H p (.dK kvs) ∧ k = !kvs.isEmpty
theorem tru_okW {X : Cx} : TruR X (fun x H Q => ∃ k, TruW X.K x H k ∧ Q k H) := by
  intro pins s σ H x v Q I rx h
  obtain ⟨k, e, q⟩ := h
  rcases e with e | ⟨p, kvs, rfl, e, rfl⟩
  · exact tru_ok pins s σ H x v Q I rx ⟨k, e, q⟩
  · cases rx
    exact d_truth I e fun s' I' => ⟨H, I', q⟩
theorem pt_truthW {X : Cx} {a : Expr} {ta : TE} (ha : PE X a ta) (he : ∀ whole, isTrue a X.env whole = (do let v ← whole; standAt a.pos; holding [v] (truthy v))) :
    PT X a (fun σ H Q => ta σ H fun x H' => ∃ k, TruW X.K x H' k ∧ Q k H') := by
  refine ⟨fun pins s σ H Q I h => ?_⟩
  exact PyProof.Rows.isTrue_plain (thn (ha.run pins s σ H _ I h) fun v s1 ⟨x, H1, I1, r1, q1⟩ => tru_okW pins s1 σ H1 x v Q I1 r1 q1) (he _)
theorem call_lenR : CallR X (.builtin "len") (fun xs H Q => ∃ a kvs, xs = [V.ref a] ∧ Rd H a (.dK kvs) ∧ Q (.int kvs.length) H) := by
  intro pins s σ H xs us Q I r h
  obtain ⟨a, kvs, rfl, ha, q⟩ := h
  obtain ⟨u, rfl, ru⟩ := vals1 r
  cases ru
  exact d_len I ha fun t s' I' => ⟨.int kvs.length, H, I', ⟨t, rfl⟩, q⟩
section
variable {X : Cx} {a b : Expr} {ta tb : TE} {rest : List Expr} {pos : Pos}
theorem pe_andW (ha : PE X a ta) (hb : PE X (.BoolOp .And (b :: rest) pos) tb) : PE X (.BoolOp .And (a :: b :: rest) pos) (fun σ H Q => ta σ H fun x H1 => ∃ k, TruW X.K x H1 k ∧ if k = true then tb σ H1 Q else Q x H1) := by
  refine ⟨fun pins s σ H Q I h => ?_⟩
  refine PyProof.Rows.BoolOp_and (thn (ha.run pins s σ H _ I h) fun v s1 ⟨x, H1, I1, r1, q1⟩ => ?_)
  obtain ⟨k, e, q1⟩ := q1
  refine thn (tru_okW pins s1 σ H1 x v (fun c H2 => c = k ∧ H2 = H1) I1 r1 ⟨k, e, rfl, rfl⟩) fun c s2 hc => ?_
  obtain ⟨H2, I2, e1, e2⟩ := hc
  rw [e2] at I2
  rw [← e1] at q1
  cases c with
  | true => exact hb.run pins s2 σ H1 Q I2 q1
  | false => exact ⟨x, H1, I2, r1, q1⟩
end
theorem tru_of {v : V} {d : D} {k : Bool} {K : PySem.W.Frag} (s : Same F H) (r : RpT K F H v d) (e : D.tru d = .ok k) : TruW K v H k := by
  cases d with
  | non => rw [r.non]; cases e; exact .inl rfl
  | bl b => rw [r.bl]; cases e; exact .inl rfl
  | int i => rw [r.int]; cases e; exact .inl rfl
  | str y =>
    rw [r.str.1]
    by_cases h : y.length ≤ sizeLine
    · have e2 : D.tru (.str y) = .ok ((y.length : Int) != 0) := by
        show (need (decide (y.length ≤ sizeLine)) >>= fun _ => .ok ((y.length : Int) != 0)) = _
        rw [decide_eq_true h]
        rfl
      rw [e2] at e
      cases e
      exact .inl ⟨h, rfl⟩
    · have e2 : D.tru (.str y) = stuck := by
        show (need (decide (y.length ≤ sizeLine)) >>= fun _ => .ok ((y.length : Int) != 0)) = _
        rw [decide_eq_false h]
        rfl
      rw [e2] at e
      cases e
  | lst l =>
    obtain ⟨p, xs, rfl, h, r⟩ := r.lst s
    cases e
    refine .inl (.inl ⟨xs, SqL.of h, ?_⟩)
    cases r <;> rfl
  | tup l =>
    obtain ⟨p, xs, rfl, h, r⟩ := r.tup s
    cases e
    refine .inl (.inr (.inl ⟨xs, h, ?_⟩))
    cases r <;> rfl
  | dct l =>
    obtain ⟨p, rfl, kvs, h, h2, r⟩ := r.dct s
    cases e
    refine .inr ⟨p, kvs, rfl, h, ?_⟩
    cases kvs with
    | nil => cases l with
      | nil => rfl
      | cons _ _ => simp at h2
    | cons _ _ => cases l with
      | nil => simp at h2
      | cons _ _ => rfl
  | _ => cases e
theorem tru_err {d : D} {x : Er} (h : D.tru d = .error x) : x = .stuck := by
  cases d with
  | str y =>
    have h : (need (decide (y.length ≤ sizeLine)) >>= fun _ => (.ok ((y.length : Int) != 0) : M Bool)) = .error x := h
    cases hd : decide (y.length ≤ sizeLine) with
    | true => rw [hd] at h; cases h
    | false => rw [hd] at h; cases h; rfl
  | non => cases h
  | bl _ => cases h
  | int _ => cases h
  | lst _ => cases h
  | tup _ => cases h
  | dct _ => cases h
  | _ => cases h; rfl
theorem WpG.tru {E₁ : XK} {α β : Type} {rel : Hp → Hp → β → α → Prop} {d : D} {v : V} {k : Bool → M α} {Q : β → Hp → Prop} {K : PySem.W.Frag} (q : WpG K E₁ rel (D.tru d >>= k) F H Q) (s : Same F H) (r : RpT K F H v d) : ∃ b, D.tru d = .ok b ∧ TruW K v H b ∧ WpG K E₁ rel (k b) F H Q := by
  cases e : D.tru d with
  | ok b =>
    rw [e] at q
    exact ⟨b, rfl, tru_of s r e, q⟩
  | error x =>
    rw [e] at q
    have := tru_err e
    subst this
    exact q.elim
theorem dt_val (ha : DR X E G a ma) (he : ∀ whole, isTrue a X.env whole = (do let v ← whole; standAt a.pos; holding [v] (truthy v)) := by intro _; rfl) : DT X E G a (ma >>= fun x => D.tru x) := by
  obtain ⟨t, p, w⟩ := ha
  refine ⟨_, pt_truthW p he, fun B σ F H Q s g q => w B σ F H _ s g (q.bind fun x F1 H1 v x1 r1 q1 => ?_)⟩
  have q2 : WpG X.K (E σ) rB (D.tru x >>= fun b => .ok b) F1 H1 Q := by
    cases e : D.tru x with
    | ok b => rw [e] at q1; exact q1
    | error z => rw [e] at q1; exact q1
  obtain ⟨k, e, tk, q3⟩ := q2.tru x1.sFH r1
  exact ⟨k, tk, q3 F1 H1 _ (Ext.refl x1.sFH) rfl⟩
theorem dt_not (ha : DT X E G a ta) : DT X E G (.UnaryOp .Not a pos) (ta >>= fun x => .ok (!x)) := by
  obtain ⟨t, p, w⟩ := ha
  exact ⟨_, pt_not p, fun B σ F H Q s g q => w B σ F H _ s g (q.bind fun x F1 H1 v x1 r1 q1 => by
    subst r1
    exact q1 F1 H1 _ (Ext.refl x1.sFH) rfl)⟩
theorem DW.dt (h : DW X E G e ta) : DT X E G e ta := let ⟨t, p, w⟩ := h; ⟨t, p.pt, w⟩
theorem dw_and1 (ha : DT X E G a ta) : DW X E G (.BoolOp .And [a] pos) ta := let ⟨t, p, w⟩ := ha; ⟨t, pw_and1 p, w⟩
theorem dw_or1 (ha : DT X E G a ta) : DW X E G (.BoolOp .Or [a] pos) ta := let ⟨t, p, w⟩ := ha; ⟨t, pw_or1 p, w⟩
theorem dw_and {rest : List Expr} (ha : DT X E G a ta) (hb : DW X E G (.BoolOp .And (b :: rest) pos) tb) : DW X E G (.BoolOp .And (a :: b :: rest) pos) (ta >>= fun x => if x = true then tb else .ok false) := by
  obtain ⟨t1, p1, w1⟩ := ha
  obtain ⟨t2, p2, w2⟩ := hb
  refine ⟨_, pw_and p1 p2, fun B σ F H Q s g q => w1 B σ F H _ s g (q.bind fun x F1 H1 v x1 r1 q1 => ?_)⟩
  subst r1
  cases v with
  | true => exact w2 B σ F1 H1 _ x1.sFH (g.ext x1) q1
  | false => exact q1 F1 H1 _ (Ext.refl x1.sFH) rfl
theorem dw_or {rest : List Expr} (ha : DT X E G a ta) (hb : DW X E G (.BoolOp .Or (b :: rest) pos) tb) : DW X E G (.BoolOp .Or (a :: b :: rest) pos) (ta >>= fun x => if x = true then .ok true else tb) := by
  obtain ⟨t1, p1, w1⟩ := ha
  obtain ⟨t2, p2, w2⟩ := hb
  refine ⟨_, pw_or p1 p2, fun B σ F H Q s g q => w1 B σ F H _ s g (q.bind fun x F1 H1 v x1 r1 q1 => ?_)⟩
  subst r1
  cases v with
  | true => exact q1 F1 H1 _ (Ext.refl x1.sFH) rfl
  | false => exact w2 B σ F1 H1 _ x1.sFH (g.ext x1) q1
theorem de_one {op : BoolOp} (ha : DE X E G a ma) : DE X E G (.BoolOp op [a] pos) ma := let ⟨t, p, w⟩ := ha; ⟨t, pe_one p, w⟩
theorem de_and {rest : List Expr} (ha : DE X E G a ma) (hb : DE X E G (.BoolOp .And (b :: rest) pos) mb) : DE X E G (.BoolOp .And (a :: b :: rest) pos) (ma >>= fun x => D.tru x >>= fun k => if k = true then mb else .ok x) := by
  obtain ⟨t1, p1, w1⟩ := ha
  obtain ⟨t2, p2, w2⟩ := hb
  refine ⟨_, pe_andW p1 p2, fun B σ F H Q s g q => w1 B σ F H _ s g (q.bind fun x F1 H1 v x1 r1 q1 => ?_)⟩
  obtain ⟨k, e, tk, q3⟩ := q1.tru x1.sFH (.of r1)
  refine ⟨k, tk, ?_⟩
  cases k with
  | true => exact w2 B σ F1 H1 _ x1.sFH (g.ext x1) q3
  | false => exact q3 F1 H1 _ (Ext.refl x1.sFH) r1
def rIxDct : R2 := fun x y H Q => ∃ a v, x = .ref a ∧ DGet H a y (some v) ∧ Q v H
theorem ix_dct (hu : X.A.units + 1 < cLine) : IxR X rIxDct := by
  intro value slice pins s σ H x y v u Q I rx ry h hs
  obtain ⟨a, z, rfl, g, q⟩ := h
  obtain rfl : v = Value.ref a := rx
  exact PyProof.Rows.tail_any (dict_typeIs I g) PySem.F.slot_dict_getitem.lookup (d_getItem hu I g ry fun w' s3 I3 rw' => ⟨z, H, I3, rw', q⟩) hs
theorem ix_all (hu : X.A.units + 70 < cLine) : IxR X (fun x y H Q => rIx X.K x y H Q ∨ rIxDct x y H Q) := ix_seq.or (ix_dct (by omega))
theorem ixN_atI {α : Type} {xs : List α} {i : Int} {x : α} (h : atI xs i = some x) : ∃ j, ixN xs.length i = some j ∧ xs[j]? = some x := by
  unfold atI at h
  cases e : ixN xs.length i with
  | none => rw [e] at h; cases h
  | some j => rw [e] at h; exact ⟨j, rfl, h⟩
theorem atI_rp {K : PySem.W.Frag} {xs : List V} {l : List D} {i : Int} {d : D} (r : RpL K F xs l) (h : atI l i = some d) : ∃ x, atI xs i = some x ∧ Rp K F x d := by
  obtain ⟨j, h1, h2⟩ := ixN_atI h
  obtain ⟨x, h3, h4⟩ := r.get h2
  refine ⟨x, ?_, h4⟩
  unfold atI
  rw [r.length, h1]
  exact h3
theorem op2_ix : Op2 X.K D.ix (fun x y H Q => rIx X.K x y H Q ∨ rIxDct x y H Q) := fun E F H v u x y Q s rx ry q => by
  cases x with
  | lst l => cases y with
    | int i =>
      obtain ⟨p, xs, rfl, h, r⟩ := rx.lst s
      have q : WpG X.K E (rE X.K) (match atI l i with | some d => .ok d | none => stuck) F H Q := q
      cases e : atI l i with
      | none => rw [e] at q; exact q.elim
      | some d =>
        rw [e] at q
        obtain ⟨z, h1, h2⟩ := atI_rp r e
        exact .inl (.inl ⟨p, xs, i, z, rfl, ry.int, SqL.of h, h1, q F H _ (Ext.refl s) h2⟩)
    | _ => exact q.elim
  | tup l => cases y with
    | int i =>
      obtain ⟨p, xs, rfl, h, r⟩ := rx.tup s
      have q : WpG X.K E (rE X.K) (match atI l i with | some d => .ok d | none => stuck) F H Q := q
      cases e : atI l i with
      | none => rw [e] at q; exact q.elim
      | some d =>
        rw [e] at q
        obtain ⟨z, h1, h2⟩ := atI_rp r e
        exact .inl (.inr (.inl ⟨p, xs, i, z, rfl, ry.int, h, h1, q F H _ (Ext.refl s) h2⟩))
    | _ => exact q.elim
  | str z => cases y with
    | int i =>
      have q : WpG X.K E (rE X.K) (need (decide (z.length ≤ sizeLine)) >>= fun _ => (match atI z.cps.toList i with | some c => .ok (.str ⟨#[c]⟩) | none => stuck)) F H Q := q
      obtain ⟨c, q⟩ := q.need
      have c := of_decide_eq_true c
      cases e : atI z.cps.toList i with
      | none => rw [e] at q; exact q.elim
      | some d =>
        rw [e] at q
        obtain ⟨j, _, h2⟩ := ixN_atI e
        exact .inl (.inr (.inr ⟨z, i, d, rx.str.1, ry.int, c, e, q F H _ (Ext.refl s) (.str _ (strOk_one rx.str.2 (List.mem_of_getElem? h2)))⟩))
    | _ => exact q.elim
  | dct l =>
    have q : WpG X.K E (rE X.K) (need y.isKey >>= fun _ => (match D.look l y with | some d => .ok d | none => stuck)) F H Q := q
    obtain ⟨c, q⟩ := q.need
    obtain ⟨k, rfl, rfl⟩ := keyV c ry
    obtain ⟨a, rfl, kvs, e1, e2, r2⟩ := rx.dct s
    rcases look_val k e2 r2 with ⟨h1, h2⟩ | ⟨v, d, h1, h2, h3⟩
    · rw [h2] at q
      exact q.elim
    · rw [h2] at q
      refine .inr ⟨a, v, rfl, ?_, q F H _ (Ext.refl s) h3⟩
      rw [← h1]
      exact DGet.kr e1
  | _ => cases y <;> exact q.elim
theorem de_ix (hu : X.A.units + 70 < cLine) (ha : DR X E G a ma) (hb : DR X E G b mb) (hs : PlainIx b := by intro _ _; rfl) : DE X E G (.Subscript a b pos) (ma >>= fun x => mb >>= fun y => D.ix x y) := by
  obtain ⟨t1, p1, w1⟩ := ha
  obtain ⟨t2, p2, w2⟩ := hb
  exact ⟨_, pe_ix (ix_all hu) p1 p2 hs, two w1 w2 op2_ix⟩

def DO (X : Cx) (E : St → XK) (G : List Sl) (e : Option Expr) (m : M (Option Int)) : Prop :=
  ∃ t, PO X e t ∧ ∀ B σ F H Q, Same F H → GOk X.K B G σ F H → WpG X.K (E σ) (fun _ _ (v : Option Int) d => v = d) m F H Q → t σ H Q
theorem do_none : DO X E G none (.ok none) := ⟨_, po_none, fun B σ F H Q s g q => q F H _ (Ext.refl s) rfl⟩
def D.bnd : D → M (Option Int)
  | .int i => .ok (some i)
  | _ => stuck
theorem do_some (ha : DR X E G a ma) : DO X E G (some a) (ma >>= fun x => D.bnd x) := by
  obtain ⟨t1, p1, w1⟩ := ha
  refine ⟨_, po_some p1, fun B σ F H Q s g q => w1 B σ F H _ s g (q.bind fun x F1 H1 v x1 r1 q1 => ?_)⟩
  cases x with
  | int i => exact ⟨i, r1.int, q1 F1 H1 _ (Ext.refl x1.sFH) rfl⟩
  | _ => exact q1.elim
theorem cutL_rp {K : PySem.W.Frag} {xs : List V} {l : List D} (r : RpL K F xs l) (lo hi : Option Int) : RpL K F (cutV xs lo hi) (cutL l lo hi) := by
  unfold cutV cutL
  rw [r.length]
  exact (r.drop _).take _
theorem ints_rp {K : PySem.W.Frag} : ∀ l : List Int, RpL K F (l.map V.int) (l.map D.int)
  | [] => .nil
  | i :: l => .cons (.int i) (ints_rp l)
theorem cutV_map (l : List Int) (lo hi : Option Int) : cutV (l.map V.int) lo hi = (cutL l lo hi).map V.int := by
  unfold cutV cutL
  rw [List.length_map, List.map_take, List.map_drop]
theorem de_sl {lo hi : Option Expr} {ml mh : M (Option Int)} {p2 : Pos} (ha : DR X E G a ma) (hl : DO X E G lo ml) (hh : DO X E G hi mh) : DE X E G (.Subscript a (.Slice lo hi none p2) pos) (ma >>= fun x => ml >>= fun l => mh >>= fun h => D.sl x l h) := by
  obtain ⟨t1, p1, w1⟩ := ha
  obtain ⟨t2, q2, w2⟩ := hl
  obtain ⟨t3, q3, w3⟩ := hh
  refine ⟨_, pe_slice (sl_list.or (sl_tupP.or sl_str)) p1 q2 q3, fun B σ F H Q s g q => w1 B σ F H _ s g (q.bind fun x F1 H1 v x1 r1 k1 => w2 B σ F1 H1 _ x1.sFH (g.ext x1) (k1.bind fun l F2 H2 l' x2 e2 k2 => w3 B σ F2 H2 _ x2.sFH ((g.ext x1).ext x2) (k2.bind fun h F3 H3 h' x3 e3 k3 => ?_)))⟩
  subst e2 e3
  have r3 := (r1.ext x2).ext x3
  have s3 := x3.sFH
  cases x with
  | lst m =>
    obtain ⟨p, xs, rfl, e, r⟩ := r3.lst s3
    exact .inl ⟨p, xs, rfl, SqL.of e, new_lst s3 (cutL_rp r _ _) k3⟩
  | scr m =>
    obtain ⟨p, rfl, e⟩ := r3.scr s3
    refine .inl ⟨p, _, rfl, e, ?_⟩
    rw [cutV_map]
    exact new_lst s3 (ints_rp _) k3
  | tup m =>
    obtain ⟨p, xs, rfl, e, r⟩ := r3.tup s3
    refine .inr (.inl ⟨p, xs, rfl, e, fun hw => ?_, fun _ => new_tup s3 (cutL_rp r _ _) k3⟩)
    rw [r.length] at hw
    have ec : cutL m l' h' = m := by
      unfold cutL
      rw [hw.1, hw.2, List.drop_zero, Nat.sub_zero, List.take_length]
    have k3 : WpG X.K (E σ) (rE X.K) (.ok (.tup (cutL m l' h'))) F3 H3 Q := k3
    rw [ec] at k3
    exact k3 F3 H3 _ (Ext.refl s3) r3.rp_tup
  | str z =>
    have k3 : WpG X.K (E σ) (rE X.K) (need (decide (z.length ≤ sizeLine)) >>= fun _ => .ok (.str (cutS z l' h'))) F3 H3 Q := k3
    obtain ⟨c, k3⟩ := k3.need
    have c := of_decide_eq_true c
    exact .inr (.inr ⟨z, r3.str.1, c, k3 F3 H3 _ (Ext.refl s3) (.str _ (strOk_cut r3.str.2 _ _))⟩)
  | _ => exact k3.elim

theorem da_nil : DA X E G [] (.ok []) := ⟨_, pa_nil, fun B σ F H Q s g q => q F H _ (Ext.refl s) .nil⟩
theorem da_cons {es : List Expr} {ms : M (List D)} (ha : DE X E G a ma) (hr : DA X E G es ms) (hs : starEach (a :: es) X.env = (false, eval a X.env) :: starEach es X.env := by rfl) : DA X E G (a :: es) (ma >>= fun x => ms >>= fun xs => .ok (x :: xs)) := by
  obtain ⟨t1, p1, w1⟩ := ha
  obtain ⟨t2, p2, w2⟩ := hr
  exact ⟨_, pa_cons p1 p2 hs, fun B σ F H Q s g q => w1 B σ F H _ s g (q.bind fun x F1 H1 v x1 r1 k1 => w2 B σ F1 H1 _ x1.sFH (g.ext x1) (k1.bind fun xs F2 H2 vs x2 r2 k2 => k2 F2 H2 _ (Ext.refl x2.sFH) (.cons (r1.mono x2.sF) r2)))⟩
theorem dra_nil : DRA X E G [] (.ok []) := ⟨_, pa_nil, fun B σ F H Q s g q => q F H _ (Ext.refl s) .nil⟩
theorem RpTL.ext {K : PySem.W.Frag} {F' H' : Hp} (x : Ext F H F' H') : ∀ {vs : List V} {ds : List D}, RpTL K F H vs ds → RpTL K F' H' vs ds
  | _, _, .nil => .nil
  | _, _, .cons r h => .cons (r.ext x) (RpTL.ext x h)
theorem dra_cons {es : List Expr} {ms : M (List D)} (ha : DR X E G a ma) (hr : DRA X E G es ms) (hs : starEach (a :: es) X.env = (false, eval a X.env) :: starEach es X.env := by rfl) : DRA X E G (a :: es) (ma >>= fun x => ms >>= fun xs => .ok (x :: xs)) := by
  obtain ⟨t1, p1, w1⟩ := ha
  obtain ⟨t2, p2, w2⟩ := hr
  exact ⟨_, pa_cons p1 p2 hs, fun B σ F H Q s g q => w1 B σ F H _ s g (q.bind fun x F1 H1 v x1 r1 k1 => w2 B σ F1 H1 _ x1.sFH (g.ext x1) (k1.bind fun xs F2 H2 vs x2 r2 k2 => k2 F2 H2 _ (Ext.refl x2.sFH) (.cons (r1.ext x2) r2)))⟩
def D.mkTup (l : List D) : M D := do need (decide (l.length ≤ sizeLine)); .ok (.tup l)
def D.mkLst (l : List D) : M D := do need (decide (l.length ≤ sizeLine)); .ok (.lst l)
theorem de_tup {es : List Expr} {ms : M (List D)} {x1} (h : DA X E G es ms) : DE X E G (.Tuple es x1 pos) (ms >>= fun l => D.mkTup l) := by
  obtain ⟨t, p, w⟩ := h
  refine ⟨_, pe_tupP p, fun B σ F H Q s g q => w B σ F H _ s g (q.bind fun l F1 H1 vs x1 r1 k1 => ?_)⟩
  have k1 : WpG X.K (E σ) (rE X.K) (need (decide (l.length ≤ sizeLine)) >>= fun _ => .ok (.tup l)) F1 H1 Q := k1
  obtain ⟨c, k1⟩ := k1.need
  have c := of_decide_eq_true c
  exact ⟨by rw [r1.length]; exact c, new_tup x1.sFH r1 k1⟩
theorem de_lst {es : List Expr} {ms : M (List D)} (h : DA X E G es ms) : DE X E G (.List es pos) (ms >>= fun l => D.mkLst l) := by
  obtain ⟨t, p, w⟩ := h
  refine ⟨_, pe_lst p, fun B σ F H Q s g q => w B σ F H _ s g (q.bind fun l F1 H1 vs x1 r1 k1 => ?_)⟩
  have k1 : WpG X.K (E σ) (rE X.K) (need (decide (l.length ≤ sizeLine)) >>= fun _ => .ok (.lst l)) F1 H1 Q := k1
  obtain ⟨c, k1⟩ := k1.need
  have c := of_decide_eq_true c
  exact ⟨by rw [r1.length]; exact c, new_lst x1.sFH r1 k1⟩

def OpN (K : PySem.W.Frag) (f : List D → M D) (r : List V → Hp → VK → Prop) : Prop := ∀ (E : XK) (F H : Hp) (vs : List V) (ds : List D) (Q : VK), Same F H → RpTL K F H vs ds → WpG K E (rE K) (f ds) F H Q → r vs H Q
theorem argsN {t : TA} {ms : M (List D)} {f : List D → M D} {r : List V → Hp → VK → Prop} (w : ∀ B σ F H Q, Same F H → GOk X.K B G σ F H → WpG X.K (E σ) (rTL X.K) ms F H Q → t σ H Q) (hf : OpN X.K f r) :
    ∀ B σ F H Q, Same F H → GOk X.K B G σ F H → WpG X.K (E σ) (rE X.K) (ms >>= fun l => f l) F H Q → tCB r t σ H Q := fun B σ F H Q s g q =>
  w B σ F H _ s g (q.bind fun l F1 H1 vs x1 r1 k1 => hf (E σ) F1 H1 vs l Q x1.sFH r1 k1)
theorem de_callB {id : String} {x : Str} {es : List Expr} {p : Pos} {ms : M (List D)} {f : List D → M D} {r : List V → Hp → VK → Prop} (hc : CallR X (.builtin id) r) (hf : OpN X.K f r) (hg : Gl X x) (hm : X.mg x = none) (hv : bootBuiltins x = some (.builtin id)) (ha : DRA X E G (a :: es) ms)
    (hn : x ≠ "__name__" := by decide) (hdb : (x == ("__debug__" : Str)) = false := by decide) (he : starEach (a :: es) X.env = (false, eval a X.env) :: starEach es X.env := by rfl) (hpl : (backTo pos (starEach es X.env)).any (·.1) = false := by rfl) : DE X E G (.Call (.Name x p) (a :: es) [] pos) (ms >>= fun l => f l) := by
  obtain ⟨t, pp, w⟩ := ha
  exact ⟨_, pe_callB hc hg hm hv pp hn hdb he hpl, argsN w hf⟩
theorem de_callTy {T : String} {x : Str} {es : List Expr} {p : Pos} {ms : M (List D)} {f : List D → M D} {r : List V → Hp → VK → Prop} (hc : CallR X (.type T) r) (hf : OpN X.K f r) (hg : Gl X x) (hm : X.mg x = none) (hv : bootBuiltins x = some (.type T)) (ha : DRA X E G (a :: es) ms)
    (hn : x ≠ "__name__" := by decide) (hdb : (x == ("__debug__" : Str)) = false := by decide) (he : starEach (a :: es) X.env = (false, eval a X.env) :: starEach es X.env := by rfl) (hpl : (backTo pos (starEach es X.env)).any (·.1) = false := by rfl) : DE X E G (.Call (.Name x p) (a :: es) [] pos) (ms >>= fun l => f l) := by
  obtain ⟨t, pp, w⟩ := ha
  exact ⟨_, pe_callTy hc hg hm hv pp hn hdb he hpl, argsN w hf⟩
def f1 (f : D → M D) : List D → M D
  | [x] => f x
  | _ => stuck
def f2 (f : D → D → M D) : List D → M D
  | [x, y] => f x y
  | _ => stuck
theorem opN1 {f : D → M D} {r : List V → Hp → VK → Prop} (h : ∀ (E : XK) F H v d Q, Same F H → RpT X.K F H v d → WpG X.K E (rE X.K) (f d) F H Q → r [v] H Q) : OpN X.K (f1 f) r := fun E F H vs ds Q s r q => by
  cases r with
  | nil => exact q.elim
  | cons r1 r2 => cases r2 with
    | nil => exact h E F H _ _ Q s r1 q
    | cons _ _ => exact q.elim
theorem opN2 {f : D → D → M D} {r : List V → Hp → VK → Prop} (h : ∀ (E : XK) F H v u d e Q, Same F H → RpT X.K F H v d → RpT X.K F H u e → WpG X.K E (rE X.K) (f d e) F H Q → r [v, u] H Q) : OpN X.K (f2 f) r := fun E F H vs ds Q s r q => by
  cases r with
  | nil => exact q.elim
  | cons r1 r2 => cases r2 with
    | nil => exact q.elim
    | cons r3 r4 => cases r4 with
      | nil => exact h E F H _ _ _ _ Q s r1 r3 q
      | cons _ _ => exact q.elim
theorem lenR : CallR X (.builtin "len") (fun xs H Q => (∃ x n, xs = [x] ∧ LenV X.K x H n ∧ Q (.int n) H) ∨ (∃ a kvs, xs = [V.ref a] ∧ Rd H a (.dK kvs) ∧ Q (.int kvs.length) H)) := call_len.or call_lenR
theorem len_op : OpN X.K (f1 D.len) (fun xs H Q => (∃ x n, xs = [x] ∧ LenV X.K x H n ∧ Q (.int n) H) ∨ (∃ a kvs, xs = [V.ref a] ∧ Rd H a (.dK kvs) ∧ Q (.int kvs.length) H)) := opN1 fun E F H v d Q s r q => by
  cases d with
  | str y =>
    have q : WpG X.K E (rE X.K) (need (decide (y.length ≤ sizeLine)) >>= fun _ => .ok (.int y.length)) F H Q := q
    obtain ⟨c, q⟩ := q.need
    have c := of_decide_eq_true c
    exact .inl ⟨v, y.length, rfl, by rw [r.str.1]; exact ⟨c, rfl⟩, q F H _ (Ext.refl s) (.int _)⟩
  | lst l =>
    obtain ⟨p, xs, rfl, e, r⟩ := r.lst s
    exact .inl ⟨_, xs.length, rfl, .inl ⟨xs, SqL.of e, rfl⟩, by rw [r.length]; exact q F H _ (Ext.refl s) (.int _)⟩
  | scr l =>
    obtain ⟨p, rfl, e⟩ := r.scr s
    exact .inl ⟨_, l.length, rfl, .inl ⟨_, e, by rw [List.length_map]⟩, q F H _ (Ext.refl s) (.int _)⟩
  | tup l =>
    obtain ⟨p, xs, rfl, e, r⟩ := r.tup s
    exact .inl ⟨_, xs.length, rfl, .inr ⟨xs, e, rfl⟩, by rw [r.length]; exact q F H _ (Ext.refl s) (.int _)⟩
  | dct l =>
    obtain ⟨p, rfl, kvs, e, e2, r⟩ := r.dct s
    refine .inr ⟨_, kvs, rfl, e, ?_⟩
    have el : kvs.length = l.length := by
      have := congrArg List.length e2
      simpa using this
    rw [el]
    exact q F H _ (Ext.refl s) (.int _)
  | _ => exact q.elim
theorem abs_op : OpN X.K (f1 D.abs) (fun xs H Q => ∃ i, xs = [.int i] ∧ Q (.int (if i < 0 then -i else i)) H) := opN1 fun E F H v d Q s r q => by
  cases d with
  | int i => exact ⟨i, by rw [r.int], q F H _ (Ext.refl s) (.int _)⟩
  | _ => exact q.elim
theorem max_op : OpN X.K (f2 D.max2) (fun xs H Q => ∃ i j, xs = [.int i, .int j] ∧ Q (.int (if j > i then j else i)) H) := opN2 fun E F H v u d e Q s r1 r2 q => by
  cases d with
  | int i => cases e with
    | int j => exact ⟨i, j, by rw [r1.int, r2.int], q F H _ (Ext.refl s) (.int _)⟩
    | _ => exact q.elim
  | _ => cases e <;> exact q.elim
theorem min_op : OpN X.K (f2 D.min2) (fun xs H Q => ∃ i j, xs = [.int i, .int j] ∧ Q (.int (if j < i then j else i)) H) := opN2 fun E F H v u d e Q s r1 r2 q => by
  cases d with
  | int i => cases e with
    | int j => exact ⟨i, j, by rw [r1.int, r2.int], q F H _ (Ext.refl s) (.int _)⟩
    | _ => exact q.elim
  | _ => cases e <;> exact q.elim
theorem int_R : CallR X (.type "int") (fun xs H Q => ((∃ i, xs = [.int i] ∧ Q (.int i) H) ∨ ∃ k, xs = [.bl k] ∧ Q (.int (if k then 1 else 0)) H) ∨ (∃ a n, xs = [.str a] ∧ PySem.intText? a = some n ∧ a.length ≤ 640 ∧ Q (.int n) H)) := call_int1.or call_int_str
theorem int_op : OpN X.K (f1 D.toInt) (fun xs H Q => ((∃ i, xs = [.int i] ∧ Q (.int i) H) ∨ ∃ k, xs = [.bl k] ∧ Q (.int (if k then 1 else 0)) H) ∨ (∃ a n, xs = [.str a] ∧ PySem.intText? a = some n ∧ a.length ≤ 640 ∧ Q (.int n) H)) := opN1 fun E F H v d Q s r q => by
  cases d with
  | int i => exact .inl (.inl ⟨i, by rw [r.int], q F H _ (Ext.refl s) (.int _)⟩)
  | bl i => exact .inl (.inr ⟨i, by rw [r.bl], q F H _ (Ext.refl s) (.int _)⟩)
  | str a =>
    have q : WpG X.K E (rE X.K) (match PySem.intText? a with | some n => (need (decide (a.length ≤ 640)) >>= fun _ => .ok (.int n)) | none => stuck) F H Q := q
    cases e : PySem.intText? a with
    | none => rw [e] at q; exact q.elim
    | some n =>
      rw [e] at q
      obtain ⟨c, q⟩ := WpG.need q
      have c := of_decide_eq_true c
      exact .inr ⟨a, n, by rw [r.str.1], e, c, q F H _ (Ext.refl s) (.int _)⟩
  | _ => exact q.elim
theorem bools_rp {K : PySem.W.Frag} : ∀ {l : List D} {xs : List V} {bs : List Bool}, D.bools l = some bs → RpL K F xs l → xs = bs.map V.bl
  | [], _, _, h, .nil => by
    cases h
    rfl
  | d :: l, _, bs, h, .cons r1 r2 => by
    cases d with
    | bl b =>
      have h : (D.bools l).map (b :: ·) = some bs := h
      cases e : D.bools l with
      | none => rw [e] at h; cases h
      | some cs =>
        rw [e] at h
        cases h
        cases r1
        rw [bools_rp e r2]
        rfl
    | _ => cases h
theorem all_op : OpN X.K (f1 D.all) (rAll X.K) := opN1 fun E F H v d Q s r q => by
  cases d with
  | lst l =>
    have q : WpG X.K E (rE X.K) (match D.bools l with | some bs => .ok (.bl (bs.all id)) | none => stuck) F H Q := q
    cases e : D.bools l with
    | none => rw [e] at q; exact q.elim
    | some bs =>
      rw [e] at q
      obtain ⟨p, xs, rfl, h, r⟩ := r.lst s
      have ex := bools_rp e r
      subst ex
      exact ⟨p, bs, rfl, SqL.of h, q F H _ (Ext.refl s) (.bl _)⟩
  | _ => exact q.elim
theorem any_op : OpN X.K (f1 D.any) (rAny X.K) := opN1 fun E F H v d Q s r q => by
  cases d with
  | lst l =>
    have q : WpG X.K E (rE X.K) (match D.bools l with | some bs => .ok (.bl (bs.any id)) | none => stuck) F H Q := q
    cases e : D.bools l with
    | none => rw [e] at q; exact q.elim
    | some bs =>
      rw [e] at q
      obtain ⟨p, xs, rfl, h, r⟩ := r.lst s
      have ex := bools_rp e r
      subst ex
      exact ⟨p, bs, rfl, SqL.of h, q F H _ (Ext.refl s) (.bl _)⟩
  | _ => exact q.elim
theorem list_op : OpN X.K (f1 D.toList) (fun xs H Q => ∃ p ys, xs = [.ref p] ∧ (SqL X.K H p ys ∨ SqT X.K H p ys) ∧ ∀ l, H l = none → Q (.ref l) (upd H l (.lst ys))) := opN1 fun E F H v d Q s r q => by
  cases d with
  | lst l =>
    obtain ⟨p, xs, rfl, h, r⟩ := r.lst s
    exact ⟨p, xs, rfl, .inl (SqL.of h), new_lst s r q⟩
  | tup l =>
    obtain ⟨p, xs, rfl, h, r⟩ := r.tup s
    exact ⟨p, xs, rfl, .inr h, new_lst s r q⟩
  | _ => exact q.elim
theorem tup_op : OpN X.K (f1 D.toTup) (fun xs H Q => ∃ p ys, xs = [.ref p] ∧ ((SqL X.K H p ys ∧ NewT H ys Q) ∨ (SqT X.K H p ys ∧ Q (.ref p) H))) := opN1 fun E F H v d Q s r q => by
  cases d with
  | lst l =>
    obtain ⟨p, xs, rfl, h, r⟩ := r.lst s
    exact ⟨p, xs, rfl, .inl ⟨SqL.of h, new_tup s r q⟩⟩
  | tup l =>
    obtain ⟨p, xs, ep, h, r'⟩ := r.tup s
    subst ep
    exact ⟨p, xs, rfl, .inr ⟨h, q F H _ (Ext.refl s) r.rp_tup⟩⟩
  | _ => exact q.elim
theorem strs_rp {K : PySem.W.Frag} : ∀ {l : List D} {xs : List V} {bs : List Str}, D.strs l = some bs → RpL K F xs l → xs = bs.map V.str ∧ ∀ y ∈ bs, PyData.strOk y = true
  | [], _, _, h, .nil => by
    cases h
    exact ⟨rfl, fun y hy => by cases hy⟩
  | d :: l, _, bs, h, .cons r1 r2 => by
    cases d with
    | str b =>
      have h : (D.strs l).map (b :: ·) = some bs := h
      cases e : D.strs l with
      | none => rw [e] at h; cases h
      | some cs =>
        rw [e] at h
        cases h
        cases r1 with
        | str _ hb =>
          obtain ⟨e1, e2⟩ := strs_rp e r2
          rw [e1]
          refine ⟨rfl, fun y hy => ?_⟩
          rcases List.mem_cons.mp hy with rfl | hy
          · exact hb
          · exact e2 y hy
    | _ => cases h
end
end DL

set_option Elab.async false
set_option linter.all false
set_option maxRecDepth 100000
set_option maxHeartbeats 4000000
namespace DL
open PySem PySem.Spec L2

theorem joinL_mem {S : List Nat} {c : Nat} : ∀ {l : List (List Nat)}, c ∈ TL.joinL S l → c ∈ S ∨ ∃ p ∈ l, c ∈ p
  | [], h => by cases h
  | [p], h => .inr ⟨p, List.mem_singleton.mpr rfl, h⟩
  | p :: q :: r, h => by
    have h : c ∈ p ++ (S ++ TL.joinL S (q :: r)) := h
    rcases List.mem_append.mp h with h | h
    · exact .inr ⟨p, List.mem_cons_self .., h⟩
    · rcases List.mem_append.mp h with h | h
      · exact .inl h
      · rcases joinL_mem h with h | ⟨z, hz, h⟩
        · exact .inl h
        · exact .inr ⟨z, List.mem_cons_of_mem _ hz, h⟩
theorem strOk_tl {x : Str} : PyData.strOk x = true ↔ ∀ c ∈ TL.tl x, c < 0x110000 := strOk_mem
theorem strOk_join {a : Str} {l : List Str} (ha : PyData.strOk a = true) (hl : ∀ y ∈ l, PyData.strOk y = true) : PyData.strOk (Txt.join a l) = true := by
  rw [strOk_tl]
  intro c hc
  rw [TL.join_eq, TL.tl_join] at hc
  rcases joinL_mem hc with h | ⟨p, hp, h⟩
  · exact strOk_tl.mp ha c h
  · obtain ⟨y, hy, rfl⟩ := List.mem_map.mp hp
    exact strOk_tl.mp (hl y hy) c h
section
variable {X : Cx} {E : St → XK} {G : List Sl} {a b c e : Expr} {ma mb mc : M D} {ta tb : M Bool} {pos : Pos} {F H : Hp}
def meth (c : D → Bool) (mo : M D) (ms : M (List D)) (f : D → List D → M D) : M D := do
  let x ← mo
  need (c x)
  let l ← ms
  f x l
theorem de_m {T : String} {id : String} {name : Str} {r : V → List V → Hp → VK → Prop} {f : D → List D → M D} {c : D → Bool} {apos : Pos} {es : List Expr} {ms : M (List D)} (pa : PlainAttrs T) (slot : Slot T name id) (hty : typeOf (.builtin id) = pure (.type "method_descriptor")) (hm : MtR X id r)
    (hc : ∀ (F H : Hp) (v : V) (d : D), c d = true → Same F H → RpT X.K F H v d → tyV X.K T v H)
    (hf : ∀ (E : XK) (F H : Hp) (v : V) (d : D) (vs : List V) (ds : List D) (Q : VK), Same F H → RpT X.K F H v d → RpTL X.K F H vs ds → WpG X.K E (rE X.K) (f d ds) F H Q → r v vs H Q) (ho : DR X E G b mb) (ha : DRA X E G (a :: es) ms)
    (hbase : attributeBase b name X.env (eval b X.env) = eval b X.env := by rfl)
    (hfew : ((backTo pos (starEach (a :: es) X.env)).all (fun x => !x.1) && (backToKw pos (keywordEach [] X.env)).all (fun x => x.1.isSome)
      && decide ((a :: es).length + ([] : List Keyword).length + (if ([] : List Keyword).isEmpty then 0 else 1) < 30)) = true := by rfl)
    (hline : (apos.endLine == pos.line) = true := by rfl) (hs : starEach (a :: es) X.env = (false, eval a X.env) :: starEach es X.env := by rfl) (hplain : (backTo pos (starEach es X.env)).any (·.1) = false := by rfl) :
    DE X E G (.Call (.Attribute b name apos) (a :: es) [] pos) (meth c mb ms f) := by
  obtain ⟨t1, p1, w1⟩ := ho
  obtain ⟨t2, p2, w2⟩ := ha
  refine ⟨_, pe_bm pa slot hty hm p1 p2 hbase hfew hline hs hplain, fun B σ F H Q s g q => w1 B σ F H _ s g (WpG.bind q fun x F1 H1 v x1 r1 k1 => ?_)⟩
  obtain ⟨cx, k1⟩ := WpG.need k1
  exact ⟨hc F1 H1 v x cx x1.sFH r1, w2 B σ F1 H1 _ x1.sFH (g.ext x1) (WpG.bind k1 fun l F2 H2 vs x2 r2 k2 => hf (E σ) F2 H2 v x vs l Q x2.sFH (r1.ext x2) r2 k2)⟩
def D.isStr : D → Bool
  | .str _ => true
  | _ => false
def m1 (f : D → D → M D) : D → List D → M D
  | x, [y] => f x y
  | _, _ => stuck
theorem ty_str {K : PySem.W.Frag} {v : V} {d : D} (h : d.isStr = true) (r : RpT K F H v d) : tyV K "str" v H := by
  cases d with
  | str z => rw [r.str.1]; rfl
  | _ => cases h
theorem m1_of {f : D → D → M D} {r : V → List V → Hp → VK → Prop} (h : ∀ (E : XK) F H v u d e Q, Same F H → RpT X.K F H v d → RpT X.K F H u e → WpG X.K E (rE X.K) (f d e) F H Q → r v [u] H Q) :
    ∀ (E : XK) (F H : Hp) (v : V) (d : D) (vs : List V) (ds : List D) (Q : VK), Same F H → RpT X.K F H v d → RpTL X.K F H vs ds → WpG X.K E (rE X.K) (m1 f d ds) F H Q → r v vs H Q := fun E F H v d vs ds Q s r1 r q => by
  cases r with
  | nil => exact q.elim
  | cons r2 r3 => cases r3 with
    | nil => exact h E F H v _ d _ Q s r1 r2 q
    | cons _ _ => exact q.elim
theorem de_join {apos : Pos} {ms : M (List D)} (ho : DR X E G b mb) (ha : DRA X E G [a] ms)
    (hbase : attributeBase b "join" X.env (eval b X.env) = eval b X.env := by rfl)
    (hfew : ((backTo pos (starEach [a] X.env)).all (fun x => !x.1) && (backToKw pos (keywordEach [] X.env)).all (fun x => x.1.isSome)
      && decide (([a] : List Expr).length + ([] : List Keyword).length + (if ([] : List Keyword).isEmpty then 0 else 1) < 30)) = true := by rfl)
    (hline : (apos.endLine == pos.line) = true := by rfl) (hs : starEach [a] X.env = (false, eval a X.env) :: starEach [] X.env := by rfl) (hplain : (backTo pos (starEach [] X.env)).any (·.1) = false := by rfl) :
    DE X E G (.Call (.Attribute b "join" apos) [a] [] pos) (meth D.isStr mb ms (m1 D.join)) :=
  de_m PySem.F.plainAttrs_str PySem.F.slot_str_join PySem.F.type_str_join mt_join (fun F H v d h _ r => ty_str h r) (m1_of fun E F H v u d e Q s r1 r2 q => by
    cases d with
    | str z =>
      cases e with
      | lst l =>
        have q : WpG X.K E (rE X.K) (match D.strs l with
          | some ys => (need (decide ((ys.map (·.length)).sum + ys.length * z.length ≤ 16777216)) >>= fun _ => .ok (.str (Txt.join z ys)))
          | none => stuck) F H Q := q
        cases e : D.strs l with
        | none => rw [e] at q; exact q.elim
        | some ys =>
          rw [e] at q
          obtain ⟨c, q⟩ := WpG.need q
          have c := of_decide_eq_true c
          obtain ⟨p, xs, rfl, h, r⟩ := r2.lst s
          obtain ⟨rfl, ok⟩ := strs_rp e r
          exact ⟨z, p, ys, r1.str.1, rfl, .inl (SqL.of h), c, q F H _ (Ext.refl s) (.str _ (strOk_join r1.str.2 ok))⟩
      | tup l =>
        have q : WpG X.K E (rE X.K) (match D.strs l with
          | some ys => (need (decide ((ys.map (·.length)).sum + ys.length * z.length ≤ 16777216)) >>= fun _ => .ok (.str (Txt.join z ys)))
          | none => stuck) F H Q := q
        cases e : D.strs l with
        | none => rw [e] at q; exact q.elim
        | some ys =>
          rw [e] at q
          obtain ⟨c, q⟩ := WpG.need q
          have c := of_decide_eq_true c
          obtain ⟨p, xs, rfl, h, r⟩ := r2.tup s
          obtain ⟨rfl, ok⟩ := strs_rp e r
          exact ⟨z, p, ys, r1.str.1, rfl, .inr h, c, q F H _ (Ext.refl s) (.str _ (strOk_join r1.str.2 ok))⟩
      | _ => exact q.elim
    | _ => cases e <;> exact q.elim) ho ha hbase hfew hline hs hplain
inductive DJ (X : Cx) (E : St → XK) (G : List Sl) : List Expr → List (M D) → Prop
  | nil : DJ X E G [] []
  | cons {e : Expr} {m : M D} {es : List Expr} {ms : List (M D)} : DE X E G e m → DJ X E G es ms → DJ X E G (e :: es) (m :: ms)
def Yld (K : PySem.W.Frag) (J : It) (P : Hp → Hp → Prop) (ds : List D) : Prop := ∀ F H, P F H → Same F H → (∀ (i : Nat) (d : D), ds[i]? = some d → J.go i H ∧ ∀ x H', J.yld i H x H' → ∃ F', Ext F H F' H' ∧ Rp K F' x d) ∧ J.stop ds.length H
def DI (X : Cx) (E : St → XK) (G : List Sl) (tg iter : Expr) (m : M (List D)) : Prop :=
  ∃ wi, PI X tg iter wi ∧ ∀ B σ F H R, Same F H → GOk X.K B G σ F H → WpG X.K (E σ) (fun F' _ J ds => Yld X.K J (fun F1 _ => Same F' F1) ds) m F H R → wi σ H R
def DIR (X : Cx) (E : St → XK) (G : List Sl) (tg iter : Expr) (m : M (List D)) : Prop :=
  ∃ wi, PI X tg iter wi ∧ ∀ B σ F H R, Same F H → GOk X.K B G σ F H → WpG X.K (E σ) (fun F' H' J ds => Yld X.K J (fun F1 H1 => Ext F' H' F1 H1) ds) m F H R → wi σ H R
theorem DIR.of {tg iter : Expr} {m : M (List D)} (h : DI X E G tg iter m) : DIR X E G tg iter m := by
  obtain ⟨t, p, w⟩ := h
  exact ⟨t, p, fun B σ F H Q s g q => w B σ F H Q s g (match m, q with
    | .ok d, q => fun F' H' J x r => q F' H' J x fun F1 H1 y s1 => r F1 H1 y.sF s1
    | .error .stuck, q => q.elim
    | .error (.exc x), q => q)⟩
def iSeq (K : PySem.W.Frag) (tl : TE) : TI := fun σ H R => tl σ H fun x H1 => (∃ a, x = .ref a ∧ (∃ xs, SqL K H1 a xs) ∧ R (Itl K a) H1) ∨ (∃ a, x = .ref a ∧ (∃ xs, SqT K H1 a xs) ∧ R (Itt K a) H1) ∨ ∃ y, x = .str y ∧ R (Its y) H1
theorem pi_seq {tg l : Expr} {tl : TE} (hl : PE X l tl) : PI X tg l (iSeq X.K tl) := by
  refine ⟨fun pins s σ H R I h => ?_⟩
  refine thn (hl.run pins s σ H _ I h) fun v s1 ⟨x, H1, I1, r1, q1⟩ => ?_
  have tv : ∀ (Q : VK), Q x H1 → tC x σ H1 Q := fun Q h => h
  rcases q1 with ⟨a, e, ⟨xs, hq⟩, q⟩ | ⟨a, e, ⟨xs, hq⟩, q⟩ | ⟨y, e, q⟩
  · subst e
    cases r1
    obtain ⟨its, rv, p, hz⟩ := I1.list hq
    refine wpAny_pyIter_list p.isList ?_
    refine ⟨s1.heap.objs.size, [s1.heap.objs.size], _, _, H1, rfl, I1.kept (t' := s1.toks) fun b o e => Heap.get?_push_of_some _ e, turn_list a _, ⟨_, Heap.get?_push_size _ rfl, rfl, rfl⟩, fun b hb => ?_, q⟩
    have e : b = s1.heap.objs.size := by simpa using hb
    subst e
    exact I1.fpOk (Nat.le_refl _) (I1.hok.fresh (Nat.le_refl _))
  · subst e
    cases r1
    obtain ⟨its, rv, p, hz⟩ := I1.tuple hq
    refine wpAny_pyIter_tuple (show s1.heap.IsTuple a its.toArray from p) ?_
    refine ⟨s1.heap.objs.size, [s1.heap.objs.size], _, _, H1, rfl, I1.kept (t' := s1.toks) fun b o e => Heap.get?_push_of_some _ e, turn_tuple a _, ⟨_, Heap.get?_push_size _ rfl, rfl, rfl⟩, fun b hb => ?_, q⟩
    have e : b = s1.heap.objs.size := by simpa using hb
    subst e
    exact I1.fpOk (Nat.le_refl _) (I1.hok.fresh (Nat.le_refl _))
  · subst e
    obtain ⟨t, rfl⟩ := r1
    cases ha : y.cps.all (· < 128)
    · exact wpAny_pyIter_wide ha (pi_one (tk := s1.toks) I1 _ (turn_str _ y t "str_iterator" (.inr rfl)) ⟨_, Heap.get?_push_size _ rfl, rfl, rfl⟩ q)
    · exact wpAny_pyIter_ascii ha (pi_one (tk := s1.toks) I1 _ (turn_str _ y t "str_ascii_iterator" (.inl rfl)) ⟨_, Heap.get?_push_size _ rfl, rfl, rfl⟩ q)
def D.items : D → M (List D)
  | .lst l => .ok l
  | .tup l => .ok l
  | .str y => .ok (y.cps.toList.map fun c => D.str ⟨#[c]⟩)
  | _ => stuck
theorem yld_list {K : PySem.W.Frag} {a : Addr} {xs : List V} {ds : List D} {F0 : Hp} {P : Hp → Hp → Prop} (r : RpL K F0 xs ds) (h : ∀ F H, P F H → Same F H → Same F0 F ∧ H a = some (.lst xs)) : Yld K (Itl K a) P ds := fun F H p s => by
  obtain ⟨h1, h2⟩ := h F H p s
  refine ⟨fun i d hd => ?_, ?_⟩
  · obtain ⟨x, hx, rx⟩ := r.get hd
    refine ⟨⟨xs, x, SqL.of h2, hx⟩, fun y H' hy => ?_⟩
    obtain ⟨rfl, hy⟩ := hy
    have e : x = y := Option.some.inj (hx.symm.trans (hy xs (SqL.of h2)))
    subst e
    exact ⟨F, Ext.refl s, rx.mono h1⟩
  · exact ⟨xs, SqL.of h2, by rw [r.length]; exact Nat.le_refl _⟩
theorem yld_tup {K : PySem.W.Frag} {a : Addr} {xs : List V} {ds : List D} {F0 : Hp} {P : Hp → Hp → Prop} (r : RpL K F0 xs ds) (h : ∀ F H, P F H → Same F H → Same F0 F ∧ SqT K H a xs) : Yld K (Itt K a) P ds := fun F H p s => by
  obtain ⟨h1, h2⟩ := h F H p s
  refine ⟨fun i d hd => ?_, ?_⟩
  · obtain ⟨x, hx, rx⟩ := r.get hd
    refine ⟨⟨xs, x, h2, hx⟩, fun y H' hy => ?_⟩
    obtain ⟨rfl, hy⟩ := hy
    have e : x = y := Option.some.inj (hx.symm.trans (hy xs h2))
    subst e
    exact ⟨F, Ext.refl s, rx.mono h1⟩
  · exact ⟨xs, h2, by rw [r.length]; exact Nat.le_refl _⟩
theorem yld_str {K : PySem.W.Frag} {y : Str} {P : Hp → Hp → Prop} (ok : PyData.strOk y = true) : Yld K (Its y) P (y.cps.toList.map fun c => D.str ⟨#[c]⟩) := fun F H p s => by
  refine ⟨fun i d hd => ?_, ?_⟩
  · rw [List.getElem?_map] at hd
    cases e : y.cps.toList[i]? with
    | none => rw [e] at hd; cases hd
    | some c =>
      rw [e] at hd
      cases hd
      have hi : i < y.cps.toList.length := (List.getElem?_eq_some_iff.mp e).1
      refine ⟨by show i < y.cps.size; simpa using hi, fun x H' hx => ?_⟩
      obtain ⟨rfl, c', hc, rfl⟩ := hx
      have e2 : y.cps.toList[i]? = some c' := by simpa using hc
      rw [e] at e2
      cases e2
      exact ⟨F, Ext.refl s, .str _ (strOk_one ok (List.mem_of_getElem? e))⟩
  · show y.cps.size ≤ _
    simp
theorem di_seq {tg : Expr} (ha : DE X E G a ma) : DI X E G tg a (ma >>= fun x => D.items x) := by
  obtain ⟨t, p, w⟩ := ha
  refine ⟨_, pi_seq p, fun B σ F H R s g q => w B σ F H _ s g (q.bind fun x F1 H1 v x1 r1 k1 => ?_)⟩
  cases x with
  | lst l => cases r1 with
    | lst h r => exact .inl ⟨_, rfl, ⟨_, SqL.of (x1.sFH _ _ h)⟩, k1 F1 H1 _ (Ext.refl x1.sFH) (yld_list r fun F2 H2 p s2 => ⟨p, s2 _ _ (p _ _ h)⟩)⟩
  | tup l => cases r1 with
    | tup h r => exact .inr (.inl ⟨_, rfl, ⟨_, Same.seqT x1.sFH (h).sqT⟩, k1 F1 H1 _ (Ext.refl x1.sFH) (yld_tup r fun F2 H2 p s2 => ⟨p, Same.seqT s2 (Same.seqT p (h).sqT)⟩)⟩)
  | str y => cases r1 with
    | str _ ok => exact .inr (.inr ⟨y, rfl, k1 F1 H1 _ (Ext.refl x1.sFH) (yld_str ok)⟩)
  | _ => exact k1.elim
end
end DL

set_option Elab.async false
set_option linter.all false
set_option maxRecDepth 100000
set_option maxHeartbeats 4000000
namespace DL
open PySem PySem.Spec L2
section
variable {X : Cx} {E : St → XK} {G : List Sl} {a b c e : Expr} {ma mb mc : M D} {ta tb : M Bool} {pos : Pos} {F H : Hp}

theorem dir_seq {tg : Expr} (ha : DR X E G a ma) : DIR X E G tg a (ma >>= fun x => D.items x) := by
  obtain ⟨t, p, w⟩ := ha
  refine ⟨_, pi_seq p, fun B σ F H R s g q => w B σ F H _ s g (q.bind fun x F1 H1 v x1 r1 k1 => ?_)⟩
  cases x with
  | lst l =>
    obtain ⟨a, xs, rfl, h, r⟩ := r1.lst x1.sFH
    exact .inl ⟨_, rfl, ⟨_, SqL.of h⟩, k1 F1 H1 _ (Ext.refl x1.sFH) (yld_list r fun F2 H2 p s2 => ⟨p.sF, p.sH _ _ h⟩)⟩
  | tup l =>
    obtain ⟨a, xs, rfl, h, r⟩ := r1.tup x1.sFH
    exact .inr (.inl ⟨_, rfl, ⟨_, h⟩, k1 F1 H1 _ (Ext.refl x1.sFH) (yld_tup r fun F2 H2 p s2 => ⟨p.sF, Same.seqT p.sH h.sqT⟩)⟩)
  | str y =>
    obtain ⟨rfl, ok⟩ := r1.str
    exact .inr (.inr ⟨y, rfl, k1 F1 H1 _ (Ext.refl x1.sFH) (yld_str ok)⟩)
  | _ => exact k1.elim

def rangeL (lo : Int) (n : Nat) : List D := (List.range n).map fun (k : Nat) => D.int (lo + (k : Int))
def smallI (i : Int) : Bool := decide (-(2 ^ 62) ≤ i ∧ i < 2 ^ 62)
def D.range1 : List D → M (List D)
  | [.int j] => do need (smallI j); .ok (rangeL 0 j.toNat)
  | _ => stuck
def D.range2 : List D → M (List D)
  | [.int i, .int j] => do need (smallI i && smallI j); .ok (rangeL i (j - i).toNat)
  | _ => stuck
theorem yld_range {K : PySem.W.Frag} {lo : Int} {n : Nat} {P : Hp → Hp → Prop} : Yld K (Itr lo n) P (rangeL lo n) := fun F H p s => by
  refine ⟨fun i d hd => ?_, ?_⟩
  · unfold rangeL at hd
    rw [List.getElem?_map] at hd
    cases e : (List.range n)[i]? with
    | none => rw [e] at hd; cases hd
    | some k =>
      rw [e] at hd
      cases hd
      obtain ⟨hi, hk⟩ := List.getElem?_eq_some_iff.mp e
      rw [List.length_range] at hi
      rw [List.getElem_range] at hk
      subst hk
      refine ⟨hi, fun x H' hx => ?_⟩
      obtain ⟨rfl, rfl⟩ := hx
      exact ⟨F, Ext.refl s, .int _⟩
  · show n ≤ _
    unfold rangeL
    rw [List.length_map, List.length_range]
    exact Nat.le_refl _
theorem di_range1 {tg : Expr} {p : Pos} {ms : M (List D)} (hg : Gl X "range") (hm : X.mg "range" = none) (ha : DRA X E G [a] ms) (hs : starEach [a] X.env = [(false, eval a X.env)] := by rfl) : DI X E G tg (.Call (.Name "range" p) [a] [] pos) (ms >>= fun l => D.range1 l) := by
  obtain ⟨t, pp, w⟩ := ha
  refine ⟨_, pi_range1 hg hm pp hs, fun B σ F H R s g q => w B σ F H _ s g (q.bind fun l F1 H1 vs x1 r1 k1 => ?_)⟩
  cases r1 with
  | nil => exact k1.elim
  | @cons v vs d ds r1 r2 => cases r2 with
    | cons _ _ => cases d <;> exact k1.elim
    | nil => cases d with
      | int j =>
        have k1 : WpG X.K (E σ) _ (need (smallI j) >>= fun _ => .ok (rangeL 0 j.toNat)) F1 H1 R := k1
        obtain ⟨c, k1⟩ := k1.need
        have c := of_decide_eq_true c
        exact ⟨j, by rw [r1.int], c.1, c.2, k1 F1 H1 _ (Ext.refl x1.sFH) yld_range⟩
      | _ => exact k1.elim
theorem GOk.set {K : PySem.W.Frag} {B : Hp} {σ : St} {i : Nat} {v : V} {d : D} (g : GOk K B G σ F H) (r : Rp K F v d) : GOk K B (G.set i (.val d)) (σ.set i (some v)) F H where
  sB := g.sB
  len := by rw [List.length_set, List.length_set]; exact g.len
  ok := fun j s h => by
    by_cases e : i = j
    · subst e
      have hi : i < G.length := by
        have := (List.getElem?_eq_some_iff.mp h).1
        rwa [List.length_set] at this
      rw [List.getElem?_set_self hi] at h
      cases h
      exact ⟨some v, by rw [List.getElem?_set_self (by rw [g.len]; exact hi)], v, rfl, r⟩
    · rw [List.getElem?_set_ne e] at h
      rw [List.getElem?_set_ne e]
      exact g.ok j s h
  dis := fun j k s t a h1 h2 o1 o2 e1 e2 => by
    have nj : i ≠ j := fun z => by
      subst z
      have hi : i < G.length := by
        have := (List.getElem?_eq_some_iff.mp h1).1
        rwa [List.length_set] at this
      rw [List.getElem?_set_self hi] at h1
      cases h1
      cases o1
    have nk : i ≠ k := fun z => by
      subst z
      have hi : i < G.length := by
        have := (List.getElem?_eq_some_iff.mp h2).1
        rwa [List.length_set] at this
      rw [List.getElem?_set_self hi] at h2
      cases h2
      cases o2
    rw [List.getElem?_set_ne nj] at h1 e1
    rw [List.getElem?_set_ne nk] at h2 e2
    exact g.dis j k s t a h1 h2 o1 o2 e1 e2
theorem GOk.any {K : PySem.W.Frag} {B : Hp} {σ : St} {i : Nat} (g : GOk K B G σ F H) : GOk K B (G.set i .any) σ F H where
  sB := g.sB
  len := by rw [List.length_set]; exact g.len
  ok := fun j s h => by
    by_cases e : i = j
    · subst e
      have hi : i < G.length := by
        have := (List.getElem?_eq_some_iff.mp h).1
        rwa [List.length_set] at this
      rw [List.getElem?_set_self hi] at h
      cases h
      exact ⟨σ[i]'(by rw [g.len]; exact hi), List.getElem?_eq_getElem _, trivial⟩
    · rw [List.getElem?_set_ne e] at h
      exact g.ok j s h
  dis := fun j k s t a h1 h2 o1 o2 e1 e2 => by
    have nj : i ≠ j := fun z => by
      subst z
      have hi : i < G.length := by
        have := (List.getElem?_eq_some_iff.mp h1).1
        rwa [List.length_set] at this
      rw [List.getElem?_set_self hi] at h1
      cases h1
      cases o1
    have nk : i ≠ k := fun z => by
      subst z
      have hi : i < G.length := by
        have := (List.getElem?_eq_some_iff.mp h2).1
        rwa [List.length_set] at this
      rw [List.getElem?_set_self hi] at h2
      cases h2
      cases o2
    rw [List.getElem?_set_ne nj] at h1
    rw [List.getElem?_set_ne nk] at h2
    exact g.dis j k s t a h1 h2 o1 o2 e1 e2
def gNames : List Nat → TGs
  | [] => gNil
  | i :: is => gCons (gName i) (gNames is)
def setAll (G : List Sl) : List Nat → List D → M (List Sl)
  | [], [] => .ok G
  | i :: is, d :: ds => setAll (G.set i (.val d)) is ds
  | _, _ => stuck
theorem setAll_len : ∀ {is : List Nat} {ds : List D} {G G' : List Sl}, setAll G is ds = .ok G' → ds.length = is.length
  | [], [], _, _, _ => rfl
  | [], _ :: _, _, _, h => by cases h
  | _ :: _, [], _, _, h => by cases h
  | i :: is, d :: ds, G, G', h => congrArg Nat.succ (setAll_len (is := is) (ds := ds) h)
theorem gNames_run {K : PySem.W.Frag} : ∀ {is : List Nat} {ds : List D} {xs : List V} {G G' : List Sl} {B : Hp} {σ : St} {Q : St → Hp → Prop}, Same F H → GOk K B G σ F H → RpL K F xs ds → setAll G is ds = .ok G' →
    (∀ σ', GOk K B G' σ' F H → (∀ k, k ∉ is → σ'[k]? = σ[k]?) → σ'.length = σ.length → Q σ' H) → gNames is xs σ H Q
  | [], [], _, _, _, _, _, _, s, g, .nil, e, k => by
    cases e
    exact ⟨rfl, k _ g (fun _ _ => rfl) rfl⟩
  | [], _ :: _, _, _, _, _, _, _, s, g, _, e, k => by cases e
  | _ :: _, [], _, _, _, _, _, _, s, g, _, e, k => by cases e
  | i :: is, d :: ds, _, G, G', B, σ, Q, s, g, .cons r1 r2, e, k => by
    refine ⟨_, _, rfl, gNames_run (is := is) s (g.set r1) r2 e fun σ' g' hk hl => k σ' g' (fun k hk' => ?_) (by rw [hl, List.length_set])⟩
    rw [hk k fun z => hk' (List.mem_cons_of_mem _ z)]
    exact List.getElem?_set_ne fun z => hk' (by simp [z])
def bindTup (G : List Sl) (is : List Nat) : D → M (List Sl)
  | .tup ds => setAll G is ds
  | _ => stuck
def wipeG (G : List Sl) : List Nat → List Sl
  | [] => G
  | v :: vs => (wipeG G vs).set v .any
theorem GOk.setAny {K : PySem.W.Frag} {B : Hp} {σ : St} {i : Nat} {o : Option V} (g : GOk K B G σ F H) : GOk K B (G.set i .any) (σ.set i o) F H where
  sB := g.sB
  len := by rw [List.length_set, List.length_set]; exact g.len
  ok := fun j s h => by
    by_cases e : i = j
    · subst e
      have hi : i < G.length := by
        have := (List.getElem?_eq_some_iff.mp h).1
        rwa [List.length_set] at this
      rw [List.getElem?_set_self hi] at h
      cases h
      exact ⟨o, by rw [List.getElem?_set_self (by rw [g.len]; exact hi)], trivial⟩
    · rw [List.getElem?_set_ne e] at h
      rw [List.getElem?_set_ne e]
      exact g.ok j s h
  dis := fun j k s t a h1 h2 o1 o2 e1 e2 => by
    have nj : i ≠ j := fun z => by
      subst z
      have hi : i < G.length := by
        have := (List.getElem?_eq_some_iff.mp h1).1
        rwa [List.length_set] at this
      rw [List.getElem?_set_self hi] at h1
      cases h1
      cases o1
    have nk : i ≠ k := fun z => by
      subst z
      have hi : i < G.length := by
        have := (List.getElem?_eq_some_iff.mp h2).1
        rwa [List.length_set] at this
      rw [List.getElem?_set_self hi] at h2
      cases h2
      cases o2
    rw [List.getElem?_set_ne nj] at h1 e1
    rw [List.getElem?_set_ne nk] at h2 e2
    exact g.dis j k s t a h1 h2 o1 o2 e1 e2
theorem GOk.wipe {K : PySem.W.Frag} {B : Hp} {σ : St} (g : GOk K B G σ F H) : ∀ vs : List Nat, GOk K B (wipeG G vs) (wipe σ vs) F H
  | [] => g
  | v :: vs => (GOk.wipe g vs).setAny
theorem wipe_same {σ σ' : St} : ∀ {vs : List Nat}, (∀ k, k ∉ vs → σ'[k]? = σ[k]?) → σ'.length = σ.length → wipe σ' vs = wipe σ vs := by
  intro vs h hl
  apply List.ext_getElem?
  intro k
  by_cases hk : k ∈ vs
  · have q : ∀ (ws : List Nat) (ρ : St), k ∈ ws → k < ρ.length → (wipe ρ ws)[k]? = some none := by
      intro ws
      induction ws with
      | nil => intro ρ h; cases h
      | cons w ws ih =>
        intro ρ h hlt
        show ((wipe ρ ws).set w none)[k]? = some none
        by_cases e : w = k
        · subst e
          rw [List.getElem?_set_self (by rw [wipe_length]; exact hlt)]
        · rw [List.getElem?_set_ne e]
          rcases List.mem_cons.mp h with z | z
          · exact absurd z.symm e
          · exact ih ρ z hlt
    by_cases hlt : k < σ.length
    · rw [q vs σ' hk (by rw [hl]; exact hlt), q vs σ hk hlt]
    · rw [List.getElem?_eq_none (by rw [wipe_length, hl]; omega), List.getElem?_eq_none (by rw [wipe_length]; omega)]
  · have q : ∀ (ws : List Nat) (ρ : St), k ∉ ws → (wipe ρ ws)[k]? = ρ[k]? := by
      intro ws
      induction ws with
      | nil => intro ρ _; rfl
      | cons w ws ih =>
        intro ρ h
        show ((wipe ρ ws).set w none)[k]? = _
        rw [List.getElem?_set_ne (fun z => h (by simp [z]))]
        exact ih ρ fun z => h (List.mem_cons_of_mem _ z)
    rw [q vs σ' hk, q vs σ hk]
    exact h k hk
def DN (X : Cx) (E : St → XK) (G : List Sl) (e : Expr) (m : M (List D)) : Prop :=
  ∃ t, PE X e t ∧ ∀ B σ F H Q, Same F H → GOk X.K B G σ F H → WpG X.K (E σ) (fun F' H' (v : V) (l : List D) => ∃ p xs, v = .ref p ∧ H p = none ∧ H' p = some (.lst xs) ∧ F' p = none ∧ RpL X.K F' xs l) m F H Q → t σ H Q
theorem Ext.freeze {F' H' : Hp} {p : Addr} {xs : List V} (x : Ext F H F' H') (n : H p = none) (h : H' p = some (.lst xs)) (nf : F' p = none) : Ext F H (upd F' p (.lst xs)) H' where
  sF := fun b o q => by
    rw [upd_ne (fun z => by
      subst z
      have := x.sF _ _ q
      rw [nf] at this
      cases this)]
    exact x.sF _ _ q
  sH := x.sH
  sFH := fun b o q => by
    by_cases e : b = p
    · subst e
      rw [upd_same] at q
      cases q
      exact h
    · rw [upd_ne e] at q
      exact x.sFH _ _ q
  old := fun a o q => by
    rw [upd_ne (ne_of_none q n)]
    exact x.old a o q
theorem DN.de {m : M (List D)} (h : DN X E G e m) : DE X E G e (m >>= fun l => .ok (.lst l)) := by
  obtain ⟨t, p, w⟩ := h
  refine ⟨t, p, fun B σ F H Q s g q => w B σ F H Q s g ?_⟩
  cases m with
  | ok l =>
    intro F' H' v x ⟨p, xs, ev, n, h, nf, r⟩
    subst ev
    exact q _ H' _ (x.freeze n h nf) (.lst upd_same (r.mono (same_new nf)))
  | error er => cases er with
    | stuck => exact q.elim
    | exc y => exact q
def comp (f : D → M (Option D)) : List D → M (List D)
  | [] => .ok []
  | d :: ds => match f d with
    | .ok (some y) => comp f ds >>= fun ys => .ok (y :: ys)
    | .ok none => comp f ds
    | .error _ => stuck
def compL (f : D → M (Option D)) (ds : List D) : M (List D) := do need (decide (ds.length ≤ sizeLine)); comp f ds
theorem comp_snoc {f : D → M (Option D)} : ∀ {ds : List D} {ys : List D}, comp f ds = .ok ys → ∀ {i : Nat} {d : D}, ds[i]? = some d → ∃ y zs ws, f d = .ok y ∧ comp f (ds.take i) = .ok zs ∧ comp f (ds.take (i + 1)) = .ok (zs ++ y.toList) ∧ ys = ws
  | [], _, _, _, _, h => by simp at h
  | d0 :: ds, ys, h, i, d, hd => by
    have h : (match f d0 with
      | .ok (some y) => comp f ds >>= fun ys => .ok (y :: ys)
      | .ok none => comp f ds
      | .error _ => stuck) = .ok ys := h
    cases e : f d0 with
    | error x => rw [e] at h; cases h
    | ok o =>
      rw [e] at h
      cases i with
      | zero =>
        have : d0 = d := by simpa using hd
        subst this
        refine ⟨o, [], ys, e, rfl, ?_, rfl⟩
        show comp f [d0] = _
        cases o with
        | none => simp [comp, e]
        | some y =>
          simp only [comp, e]
          rfl
      | succ i =>
        have hd' : ds[i]? = some d := by simpa using hd
        have key : ∃ ys', comp f ds = .ok ys' := by
          cases o with
          | none => exact ⟨ys, h⟩
          | some y =>
            cases e2 : comp f ds with
            | ok l => exact ⟨l, rfl⟩
            | error x =>
              have h : (comp f ds >>= fun ys => (.ok (y :: ys) : M (List D))) = .ok ys := h
              rw [e2] at h
              cases h
        obtain ⟨ys', e2⟩ := key
        obtain ⟨y, zs, ws, f1, f2, f3, _⟩ := comp_snoc e2 hd'
        refine ⟨y, o.toList ++ zs, ys, f1, ?_, ?_, rfl⟩
        · show comp f (d0 :: ds.take i) = _
          cases o with
          | none => simp [comp, e, f2]
          | some z =>
            simp only [comp, e, f2]
            rfl
        · show comp f (d0 :: ds.take (i + 1)) = _
          cases o with
          | none => simp [comp, e, f3]
          | some z =>
            simp only [comp, e, f3]
            show (.ok (z :: (zs ++ y.toList)) : M (List D)) = _
            simp
theorem comp_len {f : D → M (Option D)} : ∀ {ds ys : List D}, comp f ds = .ok ys → ys.length ≤ ds.length
  | [], ys, h => by
    cases h
    exact Nat.le_refl _
  | d :: ds, ys, h => by
    have h : (match f d with
      | .ok (some y) => comp f ds >>= fun ys => .ok (y :: ys)
      | .ok none => comp f ds
      | .error _ => stuck) = .ok ys := h
    cases e : f d with
    | error x => rw [e] at h; cases h
    | ok o =>
      rw [e] at h
      cases o with
      | none =>
        have := comp_len h
        simp only [List.length_cons]
        omega
      | some y =>
        cases e2 : comp f ds with
        | error x =>
          have h : (comp f ds >>= fun ys => (.ok (y :: ys) : M (List D))) = .ok ys := h
          rw [e2] at h
          cases h
        | ok l =>
          have h : (comp f ds >>= fun ys => (.ok (y :: ys) : M (List D))) = .ok ys := h
          rw [e2] at h
          cases h
          have := comp_len e2
          simp only [List.length_cons]
          omega
abbrev cE (E : XK) : St → XK := fun _ => E
abbrev EN0 : XK := fun _ _ _ => False
abbrev EN : St → XK := fun _ => EN0
theorem DE.canon {m : M D} (h : DE X E G e m) : PE X e (fun σ H Q => ∃ B F, Same F H ∧ GOk X.K B G σ F H ∧ WpG X.K (E σ) (rE X.K) m F H Q) := by
  obtain ⟨t, p, w⟩ := h
  exact ⟨fun pins s σ H Q I ⟨B, F, s1, g, q⟩ => p.run pins s σ H Q I (w B σ F H Q s1 g q)⟩
theorem DT.canon {m : M Bool} (h : DT X E G e m) : PT X e (fun σ H Q => ∃ B F, Same F H ∧ GOk X.K B G σ F H ∧ WpG X.K (E σ) rB m F H Q) := by
  obtain ⟨t, p, w⟩ := h
  exact ⟨fun pins s σ H Q I ⟨B, F, s1, g, q⟩ => p.run pins s σ H Q I (w B σ F H Q s1 g q)⟩
def tElt (K : PySem.W.Frag) (b : D → M (List Sl)) (me : D → M D) : TE := fun σ H Q => ∃ d G' B F, b d = .ok G' ∧ Same F H ∧ GOk K B G' σ F H ∧ WpG K EN0 (rE K) (me d) F H Q
def tTst (K : PySem.W.Frag) (b : D → M (List Sl)) (mt : D → M Bool) : TT := fun σ H Q => ∃ d G' B F, b d = .ok G' ∧ Same F H ∧ GOk K B G' σ F H ∧ WpG K EN0 rB (mt d) F H Q
def fElt (mt : D → M Bool) (me : D → M D) : D → M (Option D) := fun d => mt d >>= fun k => if k = true then me d >>= fun y => .ok (some y) else .ok none
theorem lc_run {E₁ : XK} {K : PySem.W.Frag} {J : It} {ds ys : List D} {vs : List Nat} {g : TG} {b : D → M (List Sl)} {mt : D → M Bool} {me : D → M D} {tt : TT} {te : TE} {B : Hp} {σ : St} {F0 H0 : Hp} {G : List Sl} {Q : VK}
    (hg : ∀ x v B σ F H (Q : St → Hp → Prop), Same F H → GOk K B (wipeG G vs) σ F H → Rp K F v x → (∃ G', b x = .ok G' ∧ ∀ σ', GOk K B G' σ' F H → (∀ k, k ∉ vs → σ'[k]? = σ[k]?) → σ'.length = σ.length → Q σ' H) → g v σ H Q)
    (hb : ∀ d y, fElt mt me d = .ok y → ∃ G', b d = .ok G')
    (ht : ∀ σ H Q, tTst K b mt σ H Q → tt σ H Q) (he : ∀ σ H Q, tElt K b me σ H Q → te σ H Q)
    (s0 : Same F0 H0) (g0 : GOk K B G σ F0 H0) (y0 : Yld K J (fun F1 H1 => Ext F0 H0 F1 H1) ds) (hl : ds.length ≤ sizeLine) (hc : comp (fElt mt me) ds = .ok ys)
    (q : WpG K E₁ (fun F' H' (v : V) (l : List D) => ∃ p xs, v = .ref p ∧ H0 p = none ∧ H' p = some (.lst xs) ∧ F' p = none ∧ RpL K F' xs l) (.ok ys) F0 H0 Q) :
    ∀ D, H0 D = none → ∃ W : Nat → Nat → Hp → Prop, (∃ m, W 0 m (upd H0 D (.lst []))) ∧ ∀ i m H, W i m H →
      (J.stop i H ∧ Q (.ref D) H) ∨ (J.go i H ∧ ∃ Nx : Hp → Prop, (∀ H', Nx H' → ∃ m', m' < m ∧ W (i + 1) m' H') ∧ ∀ x H', J.yld i H x H' → g x (wipe σ vs) H' fun σ2 H2 => wipe σ2 vs = wipe σ vs ∧ tt σ2 H2 fun b H3 =>
        if b = true then te σ2 H3 fun y H4 => ∃ acc, H4 D = some (.lst acc) ∧ acc.length < sizeLine ∧ Nx (upd H4 D (.lst (acc ++ [y]))) else Nx H3) := by
  intro D nD
  -- behind i turns
  let Pv : Nat → Hp → Prop := fun i H => ∃ F xs zs, Ext F0 H0 F H ∧ comp (fElt mt me) (ds.take i) = .ok zs ∧ H D = some (.lst xs) ∧ F D = none ∧ RpL K F xs zs
  have wr : ∀ {F H : Hp} {xs xs' : List V}, Ext F0 H0 F H → H D = some (.lst xs) → F D = none → Ext F0 H0 F (upd H D (.lst xs')) := fun {F H xs xs'} x hD fD =>
    ⟨x.sF, fun c o h => by
      rw [upd_ne (ne_of_none h nD)]
      exact x.sH c o h, fun c o h => by
      rw [upd_ne (fun z => by
        subst z
        rw [fD] at h
        cases h)]
      exact x.sFH c o h, x.old⟩
  refine ⟨fun i m H => m = ds.length - i ∧ i ≤ ds.length ∧ Pv i H, ⟨ds.length, by simp, Nat.zero_le _, F0, [], [], Ext.newH s0 nD, rfl, upd_same, s0.free nD, .nil⟩, ?_⟩
  rintro i m H ⟨rfl, hi, F, xs, zs, x, ez, hD, fD, r⟩
  obtain ⟨yi, ye⟩ := y0 F H x x.sFH
  by_cases hlt : i < ds.length
  · have hd : ds[i]? = some ds[i] := List.getElem?_eq_getElem hlt
    obtain ⟨go, yl⟩ := yi i _ hd
    obtain ⟨o, zs', _, f1, f2, f3, _⟩ := comp_snoc hc hd
    rw [ez] at f2
    cases f2
    have zl := comp_len ez
    rw [List.length_take] at zl
    refine .inr ⟨go, fun H' => Pv (i + 1) H', fun H' p => ⟨ds.length - (i + 1), by omega, rfl, hlt, p⟩, fun v H' hv => ?_⟩
    obtain ⟨F', x', rv⟩ := yl v H' hv
    have x1 := x.trans x'
    have g1 : GOk K B (wipeG G vs) (wipe σ vs) F' H' := (g0.ext x1).wipe vs
    obtain ⟨G', eG⟩ := hb _ _ f1
    refine hg _ v B (wipe σ vs) F' H' _ x1.sFH g1 rv ⟨G', eG, fun σ' g' hk hn => ⟨?_, ?_⟩⟩
    · have e1 := wipe_same (σ := wipe σ vs) (σ' := σ') (vs := vs) hk hn
      rw [e1]
      exact wipe_same (σ := σ) (σ' := wipe σ vs) (vs := vs) (fun k hk => by
        have q : ∀ ws : List Nat, k ∉ ws → (wipe σ ws)[k]? = σ[k]? := by
          intro ws
          induction ws with
          | nil => intro _; rfl
          | cons w ws ih =>
            intro h
            show ((wipe σ ws).set w none)[k]? = _
            rw [List.getElem?_set_ne (fun z => h (by simp [z]))]
            exact ih fun z => h (List.mem_cons_of_mem _ z)
        exact q vs hk) (wipe_length _ _)
    · refine ht σ' H' _ ⟨_, G', B, F', eG, x1.sFH, g', ?_⟩
      -- the test
      have f1' : (mt ds[i] >>= fun k => if k = true then me ds[i] >>= fun y => .ok (some y) else .ok none) = .ok o := f1
      cases em : mt ds[i] with
      | error z => rw [em] at f1'; cases f1'
      | ok k =>
        rw [em] at f1'
        have f1' : (if k = true then me ds[i] >>= fun y => .ok (some y) else .ok none) = Except.ok o := f1'
        intro F2 H2 k' x2 ek
        subst ek
        have x12 := x1.trans x2
        cases k' with
        | false =>
          rw [if_neg Bool.false_ne_true] at f1' ⊢
          cases f1'
          refine ⟨F2, xs, zs, x12, by rw [f3]; simp, x2.sH _ _ (x'.sH _ _ hD), ?_, (r.mono x'.sF).mono x2.sF⟩
          rw [x2.old _ _ (x'.sH _ _ hD), x'.old _ _ hD]
          exact fD
        | true =>
          rw [if_pos rfl] at f1' ⊢
          cases ey : me ds[i] with
          | error z => rw [ey] at f1'; cases f1'
          | ok y =>
            rw [ey] at f1'
            cases f1'
            refine he σ' H2 _ ⟨_, G', B, F2, eG, x2.sFH, g'.ext x2, ?_⟩
            rw [ey]
            intro F3 H3 v3 x3 r3
            have hD3 := x3.sH _ _ (x2.sH _ _ (x'.sH _ _ hD))
            have fD3 : F3 D = none := by
              rw [x3.old _ _ (x2.sH _ _ (x'.sH _ _ hD)), x2.old _ _ (x'.sH _ _ hD), x'.old _ _ hD]
              exact fD
            refine ⟨xs, hD3, by rw [r.length]; omega, F3, xs ++ [v3], zs ++ [y], wr (x12.trans x3) hD3 fD3, by rw [f3]; rfl, upd_same, fD3, (((r.mono x'.sF).mono x2.sF).mono x3.sF).append (.one r3)⟩
  · have e : i = ds.length := by omega
    subst e
    rw [List.take_length, hc] at ez
    cases ez
    exact .inl ⟨ye, q F H _ x ⟨D, xs, rfl, nD, hD, fD, r⟩⟩
def DNL (X : Cx) (E : St → XK) (G : List Sl) (e : Expr) (m : M (List D)) : Prop :=
  ∃ t, PE X e t ∧ (∀ {i : Nat} {y : Str} {py spos : Pos}, X.N[i]? = some y → X.env.scope.names.lookup y = some .local → swapsWith e (some (.Name y py)) spos.line X.env = pure true → PS X (.Assign [.Name y py] e spos) (tAsg t (gName i))) ∧
    ∀ B σ F H Q, Same F H → GOk X.K B G σ F H → WpG X.K (E σ) (fun F' H' (v : V) (l : List D) => ∃ p xs, v = .ref p ∧ H p = none ∧ H' p = some (.lst xs) ∧ F' p = none ∧ RpL X.K F' xs l) m F H Q → t σ H Q
theorem DNL.dn {m : M (List D)} (h : DNL X E G e m) : DN X E G e m := let ⟨t, p, _, w⟩ := h; ⟨t, p, w⟩
theorem dn_lc {tg iter : Expr} {ifs : List Expr} {scope : Scope} {own : List (Str × Nat)} {mi : M (List D)} {b : D → M (List Sl)} {mt : D → M Bool} {me : D → M D} (hc : X.calm = true) (hN : X.N.Nodup) (hi : DIR X E G tg iter mi) (ok : BlkOk X.N X.env.scope scope own)
    {g : TG} (hg : ∀ (s : Shared) (H : Hp) (C : Addr) (cl : List (Str × Addr)) (fp : List Addr), PG (X.blk s H scope (compEnvC scope cl C X.env) fp) tg g)
    (hg2 : ∀ x v B σ F H (Q : St → Hp → Prop), Same F H → GOk X.K B (wipeG G (own.map (·.2))) σ F H → Rp X.K F v x → (∃ G', b x = .ok G' ∧ ∀ σ', GOk X.K B G' σ' F H → (∀ k, k ∉ own.map (·.2) → σ'[k]? = σ[k]?) → σ'.length = σ.length → Q σ' H) → g v σ H Q)
    (ht : ∀ (s : Shared) (H : Hp) (C : Addr) (cl : List (Str × Addr)) (fp : List Addr), PTs (X.blk s H scope (compEnvC scope cl C X.env) fp) ifs (tTst X.K b mt))
    (he : ∀ (s : Shared) (H : Hp) (C : Addr) (cl : List (Str × Addr)) (fp : List Addr), PE (X.blk s H scope (compEnvC scope cl C X.env) fp) e (tElt X.K b me))
    (hb : ∀ d y, fElt mt me d = .ok y → ∃ G', b d = .ok G')
    (hs : ∀ x, foldedSetIterable iter X.env x = pure x := by intro _; rfl) : DNL X E G (.ListComp e [⟨tg, iter, ifs, 0⟩] scope pos) (mi >>= fun ds => compL (fElt mt me) ds) := by
  obtain ⟨wi, pi, wI⟩ := hi
  refine ⟨_, pe_lc hc hN pi ok hg ht he hs, fun h1 h2 h3 => ps_setLc hc hN h1 h2 h3 pi ok hg ht he hs, fun B σ F H Q s gk q => wI B σ F H _ s gk (WpG.bind q fun ds F1 H1 J x1 y1 k1 => ?_)⟩
  have k1 : WpG X.K (E σ) _ (need (decide (ds.length ≤ sizeLine)) >>= fun _ => comp (fElt mt me) ds) F1 H1 Q := k1
  obtain ⟨c, k1⟩ := WpG.need k1
  have c := of_decide_eq_true c
  cases ec : comp (fElt mt me) ds with
  | error z =>
    rw [ec] at k1
    cases z with
    | stuck => exact k1.elim
    | exc z =>
      exfalso
      have q : ∀ l : List D, ∀ z, comp (fElt mt me) l ≠ .error (.exc z) := by
        intro l
        induction l with
        | nil => intro z h; cases h
        | cons d l ih =>
          intro z h
          have h : (match fElt mt me d with
            | .ok (some y) => comp (fElt mt me) l >>= fun ys => .ok (y :: ys)
            | .ok none => comp (fElt mt me) l
            | .error _ => stuck) = .error (.exc z) := h
          cases e1 : fElt mt me d with
          | error w => rw [e1] at h; cases h
          | ok o =>
            rw [e1] at h
            cases o with
            | none => exact ih z h
            | some y =>
              cases e2 : comp (fElt mt me) l with
              | ok w =>
                have h : (comp (fElt mt me) l >>= fun ys => (.ok (y :: ys) : M (List D))) = .error (.exc z) := h
                rw [e2] at h
                cases h
              | error w =>
                have h : (comp (fElt mt me) l >>= fun ys => (.ok (y :: ys) : M (List D))) = .error (.exc z) := h
                rw [e2] at h
                have h : (.error w : M (List D)) = .error (.exc z) := h
                cases h
                exact ih z e2
      exact q _ _ ec
  | ok ys =>
    rw [ec] at k1
    refine lc_run (E₁ := E σ) hg2 hb (fun σ H Q h => h) (fun σ H Q h => h) x1.sFH (gk.ext x1) y1 c ec ?_
    intro F' H' v x ⟨p, xs, e1, n1, h1, f1, r1⟩
    refine k1 F' H' v x ⟨p, xs, e1, ?_, h1, f1, r1⟩
    exact Same.free x1.sH n1
end
end DL

set_option Elab.async false
set_option linter.all false
set_option maxRecDepth 100000
set_option maxHeartbeats 4000000
namespace DL
open PySem PySem.Spec L2

section
variable {K : PySem.W.Frag} {E : XK} {B0 B F H F' H' : Hp}
def OcP (K : PySem.W.Frag) (B0 B : Hp) (F : Hp) (D : Ends) : Oc → Prop
  | .nx G => ∀ σ F' H', Same F F' → Ext B0 B F' H' → GOk K B G σ F' H' → D.nx σ H'
  | .ct G => ∀ σ F' H', Same F F' → Ext B0 B F' H' → GOk K B G σ F' H' → D.ct σ H'
  | .bk G => ∀ σ F' H', Same F F' → Ext B0 B F' H' → GOk K B G σ F' H' → D.bk σ H'
  | .rt d => ∀ v F' H', Same F F' → Ext B0 B F' H' → Rp K F' v d → D.rt v H'
  | .rg R => ∀ v F' H', Same F F' → Ext B0 B F' H' → R B F' H' v → D.rt v H'
theorem OcP.mono {D : Ends} {o : Oc} (s : Same F F') (h : OcP K B0 B F D o) : OcP K B0 B F' D o := by
  cases o with
  | nx G => exact fun σ F2 H2 s2 => h σ F2 H2 (s.trans s2)
  | ct G => exact fun σ F2 H2 s2 => h σ F2 H2 (s.trans s2)
  | bk G => exact fun σ F2 H2 s2 => h σ F2 H2 (s.trans s2)
  | rt d => exact fun v F2 H2 s2 => h v F2 H2 (s.trans s2)
  | rg R => exact fun v F2 H2 s2 => h v F2 H2 (s.trans s2)
theorem WpB.ok {α : Type} {post : α → Oc} {x : α} {D : Ends} (h : WpB K E B0 B post (.ok x) F D) : OcP K B0 B F D (post x) := by
  have h : (match post x with
    | .nx G => ∀ σ F' H', Same F F' → Ext B0 B F' H' → GOk K B G σ F' H' → D.nx σ H'
    | .ct G => ∀ σ F' H', Same F F' → Ext B0 B F' H' → GOk K B G σ F' H' → D.ct σ H'
    | .bk G => ∀ σ F' H', Same F F' → Ext B0 B F' H' → GOk K B G σ F' H' → D.bk σ H'
    | .rt d => ∀ v F' H', Same F F' → Ext B0 B F' H' → Rp K F' v d → D.rt v H'
    | .rg R => ∀ v F' H', Same F F' → Ext B0 B F' H' → R B F' H' v → D.rt v H') := h
  cases e : post x with
  | nx G => rw [e] at h; exact h
  | ct G => rw [e] at h; exact h
  | bk G => rw [e] at h; exact h
  | rt d => rw [e] at h; exact h
  | rg R => rw [e] at h; exact h
theorem WpB.of_ok {α : Type} {post : α → Oc} {x : α} {D : Ends} (h : OcP K B0 B F D (post x)) : WpB K E B0 B post (.ok x) F D := by
  show (match post x with
    | .nx G => ∀ σ F' H', Same F F' → Ext B0 B F' H' → GOk K B G σ F' H' → D.nx σ H'
    | .ct G => ∀ σ F' H', Same F F' → Ext B0 B F' H' → GOk K B G σ F' H' → D.ct σ H'
    | .bk G => ∀ σ F' H', Same F F' → Ext B0 B F' H' → GOk K B G σ F' H' → D.bk σ H'
    | .rt d => ∀ v F' H', Same F F' → Ext B0 B F' H' → Rp K F' v d → D.rt v H'
    | .rg R => ∀ v F' H', Same F F' → Ext B0 B F' H' → R B F' H' v → D.rt v H')
  cases e : post x with
  | nx G => rw [e] at h; exact h
  | ct G => rw [e] at h; exact h
  | bk G => rw [e] at h; exact h
  | rt d => rw [e] at h; exact h
  | rg R => rw [e] at h; exact h
theorem WpB.err {α β : Type} {post : α → Oc} {p2 : β → Oc} {e : Er} {D : Ends} (h : WpB K E B0 B post (.error e) F D) : WpB K E B0 B p2 (.error e) F D := by
  cases e with
  | stuck => exact h
  | exc x => exact h
theorem WpB.mono {α : Type} {post : α → Oc} {m : M α} {D : Ends} (s : Same F F') (h : WpB K E B0 B post m F D) : WpB K E B0 B post m F' D := by
  cases m with
  | ok x => exact WpB.of_ok (h.ok.mono s)
  | error e => cases e with
    | stuck => exact h
    | exc x => exact fun F2 H2 c d s2 => h F2 H2 c d (s.trans s2)
theorem WpB.bind {α β : Type} {post : α → Oc} {p1 : β → Oc} {m : M β} {k : β → M α} {D D1 : Ends} (h : WpB K E B0 B post (m >>= k) F D) (hk : ∀ j, m = .ok j → WpB K E B0 B post (k j) F D → OcP K B0 B F D1 (p1 j)) : WpB K E B0 B p1 m F D1 := by
  cases m with
  | ok j => exact WpB.of_ok (hk j rfl h)
  | error e => cases e with
    | stuck => exact h
    | exc x => exact h
theorem WpB.expr {α β γ : Type} {post : α → Oc} {rel : Hp → Hp → γ → β → Prop} {m : M β} {k : β → M α} {D : Ends} {Q : γ → Hp → Prop} (x0 : Ext B0 B F H) (h : WpB K E B0 B post (m >>= k) F D)
    (hk : ∀ j F' H' v, Ext F H F' H' → Ext B0 B F' H' → rel F' H' v j → WpB K E B0 B post (k j) F' D → Q v H') : WpG K E rel m F H Q := by
  cases m with
  | ok j => exact fun F' H' v x r => hk j F' H' v x (x0.trans x) r (WpB.mono x.sF h)
  | error e => cases e with
    | stuck => exact h
    | exc y => exact fun F' H' c d x r => h F' H' c d x.sF (x0.trans x) r
end

section
variable {X : Cx} {E : XK} {G : List Sl} {a b c e : Expr} {ma mb mc : M D} {ta tb : M Bool} {pos : Pos} {st : Stmt} {rest body : List Stmt}
def DS (X : Cx) (E : XK) (G : List Sl) (st : Stmt) {α : Type} (m : M α) (post : α → Oc) : Prop :=
  ∃ t, PS X st t ∧ ∀ B0 B σ F H D, Ext B0 B F H → GOk X.K B G σ F H → WpB X.K E B0 B post m F D → t D σ H
theorem db_nil {α : Type} {x : α} {post : α → Oc} (h : post x = .nx G) : DB X E G [] (.ok x) post :=
  ⟨_, pss_nil, fun B0 B σ F H D x0 g q => by
    have q := q.ok
    rw [h] at q
    exact q σ F H (Same.refl _) x0 g⟩
theorem db_stuck {α : Type} {post : α → Oc} : DB X E G body (stuck : M α) post := ⟨_, pss_never, fun B0 B σ F H D x0 g q => q.elim⟩
theorem db_cast {α : Type} {m m' : M α} {post : α → Oc} (h : DB X E G body m post) (e : m = m') : DB X E G body m' post := e ▸ h
theorem db_cons {α β : Type} {m1 : M β} {p1 : β → Oc} {k : β → M α} {post : α → Oc} (h1 : DS X E G st m1 p1) (h2 : ∀ j G', p1 j = .nx G' → DB X E G' rest (k j) post)
    (h3 : ∀ j, (∀ G', p1 j ≠ .nx G') → ∃ a, k j = .ok a ∧ post a = p1 j) : DB X E G (st :: rest) (m1 >>= k) post := by
  obtain ⟨t1, ps, w1⟩ := h1
  have r2 : PSs X rest (fun D σ H => ∃ j G' B0 B F, p1 j = .nx G' ∧ Ext B0 B F H ∧ GOk X.K B G' σ F H ∧ WpB X.K E B0 B post (k j) F D) :=
    ⟨fun pins s σ H D I ⟨j, G', B0, B, F, e, x, g, q⟩ => by
      obtain ⟨t2, p2, w2⟩ := h2 j G' e
      exact p2.run pins s σ H D I (w2 B0 B σ F H D x g q)⟩
  refine ⟨_, pss_cons ps r2, fun B0 B σ F H D x0 g q => w1 B0 B σ F H _ x0 g (q.bind fun j _ qj => ?_)⟩
  cases e : p1 j with
  | nx G' => exact fun σ' F' H' s' x' g' => ⟨j, G', B0, B, F', e, x', g', qj.mono s'⟩
  | ct G' =>
    obtain ⟨a, e1, e2⟩ := h3 j fun G' z => by rw [e] at z; cases z
    rw [e1] at qj
    have qj := qj.ok
    rw [e2, e] at qj
    exact qj
  | bk G' =>
    obtain ⟨a, e1, e2⟩ := h3 j fun G' z => by rw [e] at z; cases z
    rw [e1] at qj
    have qj := qj.ok
    rw [e2, e] at qj
    exact qj
  | rt d =>
    obtain ⟨a, e1, e2⟩ := h3 j fun G' z => by rw [e] at z; cases z
    rw [e1] at qj
    have qj := qj.ok
    rw [e2, e] at qj
    exact qj
  | rg R =>
    obtain ⟨a, e1, e2⟩ := h3 j fun G' z => by rw [e] at z; cases z
    rw [e1] at qj
    have qj := qj.ok
    rw [e2, e] at qj
    exact qj
theorem db_then {α β : Type} {m1 : M β} {G1 : β → List Sl} {k : β → M α} {post : α → Oc} (h1 : DS X E G st m1 (fun j => .nx (G1 j))) (h2 : ∀ j, DB X E (G1 j) rest (k j) post) : DB X E G (st :: rest) (m1 >>= k) post :=
  db_cons h1 (fun j G' e => by
    injection e with e
    rw [← e]
    exact h2 j) (fun j h => absurd rfl (h _))
theorem db_last {α : Type} {m : M α} {post : α → Oc} (h : DS X E G st m post) : DB X E G [st] m post := by
  obtain ⟨t, p, w⟩ := h
  exact ⟨_, pss_one p, w⟩

theorem ds_set {x : Str} {i : Nat} {pos' : Pos} {m : M D} (h : DE X (cE E) G e m) (p : ∀ {te : TE}, PE X e te → PS X (.Assign [.Name x pos'] e pos) (tAsg te (gName i))) : DS X E G (.Assign [.Name x pos'] e pos) m (fun d => .nx (G.set i (.val d))) := by
  obtain ⟨t, pe, w⟩ := h
  refine ⟨_, p pe, fun B0 B σ F H D x0 g q => w B σ F H _ x0.sFH g ?_⟩
  cases m with
  | ok d => exact fun F' H' v x r => q.ok _ F' H' x.sF (x0.trans x) ((g.ext x).set r)
  | error er => cases er with
    | stuck => exact q.elim
    | exc y => exact fun F' H' c d x r => q F' H' c d x.sF (x0.trans x) r
theorem GOk.setOwn {K : PySem.W.Frag} {B F H : Hp} {σ : St} {i : Nat} {p : Addr} {xs : List V} {l : List D} (g : GOk K B G σ F H) (hp : H p = some (.lst xs)) (fp : F p = none) (bp : B p = none) (r : RpL K F xs l)
    (new : ∀ (j : Nat) (s : Sl), G[j]? = some s → s.owns = true → σ[j]? ≠ some (some (.ref p))) : GOk K B (G.set i (.own l)) (σ.set i (some (.ref p))) F H where
  sB := g.sB
  len := by rw [List.length_set, List.length_set]; exact g.len
  ok := fun j s h => by
    by_cases e : i = j
    · subst e
      have hi : i < G.length := by
        have := (List.getElem?_eq_some_iff.mp h).1
        rwa [List.length_set] at this
      rw [List.getElem?_set_self hi] at h
      cases h
      exact ⟨some (.ref p), by rw [List.getElem?_set_self (by rw [g.len]; exact hi)], p, xs, rfl, hp, fp, bp, r⟩
    · rw [List.getElem?_set_ne e] at h
      rw [List.getElem?_set_ne e]
      exact g.ok j s h
  dis := fun j k s t a h1 h2 o1 o2 e1 e2 => by
    by_cases nj : i = j
    · by_cases nk : i = k
      · rw [← nj, ← nk]
      · subst nj
        have hi : i < G.length := by
          have := (List.getElem?_eq_some_iff.mp h1).1
          rwa [List.length_set] at this
        rw [List.getElem?_set_self (by rw [g.len]; exact hi)] at e1
        cases e1
        rw [List.getElem?_set_ne nk] at h2 e2
        exact absurd e2 (new k t h2 o2)
    · by_cases nk : i = k
      · subst nk
        have hi : i < G.length := by
          have := (List.getElem?_eq_some_iff.mp h2).1
          rwa [List.length_set] at this
        rw [List.getElem?_set_self (by rw [g.len]; exact hi)] at e2
        cases e2
        rw [List.getElem?_set_ne nj] at h1 e1
        exact absurd e1 (new j s h1 o1)
      · rw [List.getElem?_set_ne nj] at h1 e1
        rw [List.getElem?_set_ne nk] at h2 e2
        exact g.dis j k s t a h1 h2 o1 o2 e1 e2
theorem GOk.owned {K : PySem.W.Frag} {B F H : Hp} {σ : St} {j : Nat} {s : Sl} {p : Addr} (g : GOk K B G σ F H) (h : G[j]? = some s) (o : s.owns = true) (e : σ[j]? = some (some (.ref p))) : ∃ u, H p = some u := by
  obtain ⟨v, h1, h2⟩ := g.ok j s h
  rw [e] at h1
  cases h1
  cases s with
  | own l =>
    obtain ⟨a, xs, e1, e2, _⟩ := h2
    cases e1
    exact ⟨_, e2⟩
  | ownd l =>
    obtain ⟨a, e1, e2, _⟩ := h2
    cases e1
    exact e2.some
  | ownu l =>
    obtain ⟨a, e1, e2, _⟩ := h2
    cases e1
    exact e2.some
  | obj a c l =>
    obtain ⟨dx, fs, e1, e2, _⟩ := h2
    cases e1
    exact ⟨_, e2⟩
  | _ => cases o
theorem ds_setN {x : Str} {i : Nat} {pos' : Pos} {m : M (List D)} (h : DN X (cE E) G e m) (p : ∀ {te : TE}, PE X e te → PS X (.Assign [.Name x pos'] e pos) (tAsg te (gName i))) : DS X E G (.Assign [.Name x pos'] e pos) m (fun l => .nx (G.set i (.own l))) := by
  obtain ⟨t, pe, w⟩ := h
  refine ⟨_, p pe, fun B0 B σ F H D x0 g q => w B σ F H _ x0.sFH g ?_⟩
  cases m with
  | ok l =>
    intro F' H' v x ⟨a, xs, ev, n, h1, f1, r1⟩
    subst ev
    have hB : B a = none := x0.sH.free n
    exact q.ok _ F' H' x.sF (x0.trans x) ((g.ext x).setOwn h1 f1 hB r1 fun j s hj oj ej => by
      obtain ⟨u, hu⟩ := g.owned hj oj ej
      rw [n] at hu
      cases hu)
  | error er => cases er with
    | stuck => exact q.elim
    | exc y => exact fun F' H' c d x r => q F' H' c d x.sF (x0.trans x) r
theorem dn_lst {es : List Expr} {ms : M (List D)} (h : DA X (cE E) G es ms) : DN X (cE E) G (.List es pos) (ms >>= fun l => need (decide (l.length ≤ sizeLine)) >>= fun _ => .ok l) := by
  obtain ⟨t, p, w⟩ := h
  refine ⟨_, pe_lst p, fun B σ F H Q s g q => w B σ F H _ s g (WpG.bind q fun l F1 H1 vs x1 r1 k1 => ?_)⟩
  obtain ⟨c, k1⟩ := WpG.need k1
  have c := of_decide_eq_true c
  refine ⟨by rw [r1.length]; exact c, fun p hp => k1 F1 _ _ (Ext.newH x1.sFH hp) ⟨p, vs, rfl, x1.sH.free hp, upd_same, x1.sFH.free hp, r1⟩⟩
def gSeq (K : PySem.W.Frag) (n : Nat) (t : TGs) : TG := fun v σ H Q => ∃ a xs, v = .ref a ∧ (SqT K H a xs ∨ SqL K H a xs) ∧ xs.length = n ∧ t xs σ H Q
theorem assign_Tuple_listI {env : Env} {prog : Program} {w : World} {A : Around} {E : Value → Shared → Prop} {s : Shared} {elts : List Expr} {x1} {pos : Pos} {t : Addr} {items : Array Value} {Q : Unit → Shared → Prop} (hh : A.handled = none) (ht : s.heap.IsList t items)
    (hn : (assignEach elts env).length = items.size) (hstar : (assignEach elts env).findIdx? (·.1) = none)
    (h : ∀ h', Heap.ExtBut s.heap.objs.size s.heap h' → wpAny (model prog w) A (assignInOrder ((assignEach elts env).map (·.2)) items.toList) Q E { s with heap := h' }) :
    wpAny (model prog w) A (assign (.Tuple elts x1 pos) env (.ref t)) Q E s := by
  rw [PyProof.Rows.assign_Tuple]
  refine wpAny_bind (wpAny_standAt ?_)
  unfold unpack
  rw [hn, hstar]
  exact wpAny_bind (wpAny_holding (PySem.W.kun_itemsOf hh ht h))
theorem pg_seq {X : Cx} {pos : Pos} {es : List Expr} {k : Nat} {t : TGs} {n : Nat} (hc : X.calm = true) (h : PGs X es t)
    (hn : (assignEach es X.env).length = n := by rfl) (hst : (assignEach es X.env).findIdx? (·.1) = none := by rfl) : PG X (.Tuple es k pos) (gSeq X.K n t) := by
  refine ⟨fun pins s σ H v u Q I r hw => ?_⟩
  obtain ⟨a, xs, e1, hq, hl, hw⟩ := hw
  subst e1
  cases r
  rcases hq with hq | hq
  · obtain ⟨its, rv, ht, hz⟩ := I.tuple hq
    refine PyProof.Rows.assign_Tuple_tuple (I.ok.hd hc) ht (by simp [hn, ← hl, rv.length]) hst fun h' hx => ?_
    have I1 : Inv X pins σ H { s with heap := h' } := I.kept (t' := s.toks) fun b o e => hx b o (Nat.ne_of_lt (Heap.lt_size e)) e
    exact h.run pins _ σ H xs _ Q I1 (by simpa using rv) hw
  · obtain ⟨its, rv, ht, hz⟩ := I.list hq
    refine assign_Tuple_listI (I.ok.hd hc) ht.isList (by simp [hn, ← hl, rv.length]) hst fun h' hx => ?_
    have I1 : Inv X pins σ H { s with heap := h' } := I.kept (t' := s.toks) fun b o e => hx b o (Nat.ne_of_lt (Heap.lt_size e)) e
    exact h.run pins _ σ H xs _ Q I1 (by simpa using rv) hw
def D.un (n : Nat) : D → M (List D)
  | .tup l => do need (decide (l.length = n)); .ok l
  | .lst l => do need (decide (l.length = n)); .ok l
  | _ => stuck
def setT (G : List Sl) : List Nat → List D → List Sl
  | i :: is, d :: ds => setT (G.set i (.val d)) is ds
  | _, _ => G
theorem setAll_setT : ∀ {is : List Nat} {ds : List D} {G : List Sl}, ds.length = is.length → setAll G is ds = .ok (setT G is ds)
  | [], [], _, _ => rfl
  | [], _ :: _, _, h => by cases h
  | _ :: _, [], _, h => by cases h
  | i :: is, d :: ds, G, h => setAll_setT (is := is) (ds := ds) (Nat.succ.inj h)
theorem ds_tup {tg : Expr} {is : List Nat} {n : Nat} {m : M D} (h : DE X (cE E) G e m) (hn : is.length = n) (p : ∀ {te : TE}, PE X e te → PS X (.Assign [tg] e pos) (tAsg te (gSeq X.K n (gNames is)))) : DS X E G (.Assign [tg] e pos) (m >>= fun d => D.un n d) (fun ds => .nx (setT G is ds)) := by
  obtain ⟨t, pe, w⟩ := h
  refine ⟨_, p pe, fun B0 B σ F H Dn x0 g q => w B σ F H _ x0.sFH g (WpB.expr (H := H) x0 q fun d F' H' v x x' r qd => ?_)⟩
  cases d with
  | tup l => cases r with
    | tup h hs =>
      cases hd : decide (l.length = n) with
      | false =>
        exfalso
        have e : D.un n (.tup l) = stuck := by
          show (need (decide (l.length = n)) >>= fun _ => .ok l) = _
          rw [hd]
          rfl
        rw [e] at qd
        exact qd
      | true =>
        have e : D.un n (.tup l) = .ok l := by
          show (need (decide (l.length = n)) >>= fun _ => .ok l) = _
          rw [hd]
          rfl
        rw [e] at qd
        have hl := of_decide_eq_true hd
        exact ⟨_, _, rfl, Or.inl (Same.seqT x'.sFH h.sqT), by rw [hs.length, hl], gNames_run x'.sFH (g.ext x) hs (setAll_setT (by rw [hl, hn])) fun σ' g' _ _ => qd.ok σ' F' H' (Same.refl _) x' g'⟩
  | lst l => cases r with
    | lst h hs =>
      cases hd : decide (l.length = n) with
      | false =>
        exfalso
        have e : D.un n (.lst l) = stuck := by
          show (need (decide (l.length = n)) >>= fun _ => .ok l) = _
          rw [hd]
          rfl
        rw [e] at qd
        exact qd
      | true =>
        have e : D.un n (.lst l) = .ok l := by
          show (need (decide (l.length = n)) >>= fun _ => .ok l) = _
          rw [hd]
          rfl
        rw [e] at qd
        have hl := of_decide_eq_true hd
        exact ⟨_, _, rfl, Or.inr (SqL.of (x'.sFH _ _ h)), by rw [hs.length, hl], gNames_run x'.sFH (g.ext x) hs (setAll_setT (by rw [hl, hn])) fun σ' g' _ _ => qd.ok σ' F' H' (Same.refl _) x' g'⟩
  | _ => exact qd.elim
theorem GOk.write {K : PySem.W.Frag} {B F H : Hp} {σ : St} {i : Nat} {a : Addr} {l l' : List D} {xs' : List V} (g : GOk K B G σ F H) (h : G[i]? = some (.own l)) (e : σ[i]? = some (some (.ref a))) (r : RpL K F xs' l') : GOk K B (G.set i (.own l')) σ F (upd H a (.lst xs')) where
  sB := fun c u hc => by
    obtain ⟨o, h1, a', xs, rfl, h2, h3, h4, _⟩ := g.ok i _ h
    rw [e] at h1
    cases h1
    rw [upd_ne (ne_of_none hc h4)]
    exact g.sB c u hc
  len := by rw [List.length_set]; exact g.len
  ok := fun j s hj => by
    obtain ⟨o, h1, a', xs, rfl, h2, h3, h4, _⟩ := g.ok i _ h
    rw [e] at h1
    cases h1
    by_cases ej : i = j
    · subst ej
      have hi := (List.getElem?_eq_some_iff.mp h).1
      rw [List.getElem?_set_self hi] at hj
      cases hj
      exact ⟨_, e, a, xs', rfl, upd_same, h3, h4, r⟩
    · rw [List.getElem?_set_ne ej] at hj
      obtain ⟨o, k1, k2⟩ := g.ok j s hj
      refine ⟨o, k1, ?_⟩
      cases s with
      | un => exact k2
      | any => trivial
      | val d => exact k2
      | own m =>
        obtain ⟨b, ys, rfl, q⟩ := k2
        have nb : b ≠ a := fun z => by
          subst z
          exact ej (g.dis i j _ _ b h hj rfl rfl e k1)
        exact ⟨b, ys, rfl, by rw [upd_ne nb]; exact q.1, q.2⟩
      | ownd m =>
        obtain ⟨b, rfl, q⟩ := k2
        have nb : b ≠ a := fun z => by
          subst z
          exact ej (g.dis i j _ _ b h hj rfl rfl e k1)
        exact ⟨b, rfl, by rw [upd_ne nb]; exact q.1, q.2⟩
      | ownu m =>
        obtain ⟨b, rfl, q⟩ := k2
        have nb : b ≠ a := fun z => by
          subst z
          exact ej (g.dis i j _ _ b h hj rfl rfl e k1)
        exact ⟨b, rfl, by rw [upd_ne nb]; exact q.1, q.2⟩
      | obj b c m =>
        obtain ⟨dx, fs, rfl, q⟩ := k2
        have nb : b ≠ a := fun z => by
          subst z
          exact ej (g.dis i j _ _ b h hj rfl rfl e k1)
        exact ⟨dx, fs, rfl, by rw [upd_ne nb]; exact q.1, q.2⟩
      | bor d => exact k2
      | tre b c l =>
        refine ⟨k2.1, ?_, k2.2.2⟩
        obtain ⟨o, z1, a', xs, rfl, z2, z3, z4, _⟩ := g.ok i _ h
        rw [e] at z1
        cases z1
        exact fun x u hx => by
          rw [upd_ne (ne_of_none hx z4)]
          exact g.sB _ _ hx
      | exn b c l => exact k2
  dis := fun j k s t b h1 h2 o1 o2 e1 e2 => by
    have own_at : ∀ (j : Nat) (s : Sl), (G.set i (.own l'))[j]? = some s → s.owns = true → ∃ s', G[j]? = some s' ∧ s'.owns = true := fun j s hj o => by
      by_cases ej : i = j
      · subst ej
        exact ⟨_, h, rfl⟩
      · rw [List.getElem?_set_ne ej] at hj
        exact ⟨s, hj, o⟩
    obtain ⟨s1, q1, p1⟩ := own_at j s h1 o1
    obtain ⟨s2, q2, p2⟩ := own_at k t h2 o2
    exact g.dis j k s1 s2 b q1 q2 p1 p2 e1 e2
theorem Ext.write {B0 B F H : Hp} {a : Addr} {o : HO} (x : Ext B0 B F H) (fa : F a = none) (ba : B a = none) : Ext B0 B F (upd H a o) :=
  ⟨x.sF, fun c u h => by
    rw [upd_ne (ne_of_none h ba)]
    exact x.sH c u h, fun c u h => by
    rw [upd_ne (ne_of_none h fa)]
    exact x.sFH c u h, x.old⟩
def Sl.push (s : Sl) (m : M D) : M Sl := match s with
  | .own l => m >>= fun d => need (decide (l.length < sizeLine)) >>= fun _ => .ok (.own (l ++ [d]))
  | _ => stuck
theorem ds_push {x : Str} {i : Nat} {s : Sl} {p1 p2 p3 : Pos} {m : M D} (hs : G[i]? = some s) (pv : PE X (.Name x p1) (tVar i)) (h : DE X (cE E) G e m)
    (hfew : ((backTo p3 (starEach [e] X.env)).all (fun x => !x.1) && (backToKw p3 (keywordEach [] X.env)).all (fun x => x.1.isSome)
      && decide (([e] : List Expr).length + ([] : List Keyword).length + (if ([] : List Keyword).isEmpty then 0 else 1) < 30)) = true := by rfl)
    (hbase : attributeBase (.Name x p1) "append" X.env (eval (.Name x p1) X.env) = eval (.Name x p1) X.env := by rfl)
    (hline : (p2.endLine == p3.line) = true := by rfl) (hst : starEach [e] X.env = (false, eval e X.env) :: starEach [] X.env := by rfl) (hplain : (backTo p3 (starEach [] X.env)).any (·.1) = false := by rfl) :
    DS X E G (.Expr (.Call (.Attribute (.Name x p1) "append" p2) [e] [] p3) pos) (s.push m) (fun s' => .nx (G.set i s')) := by
  obtain ⟨t, pe, w⟩ := h
  refine ⟨_, ps_expr (pe_bm PySem.F.plainAttrs_list PySem.F.slot_list_append PySem.F.type_list_append mt_append pv (pa_cons pe pa_nil hst) hbase hfew hline hst hplain), fun B0 B σ F H D x0 g q => ?_⟩
  cases s with
  | own l =>
    have q : WpB X.K E B0 B (fun s' => .nx (G.set i s')) (m >>= fun d => need (decide (l.length < sizeLine)) >>= fun _ => .ok (.own (l ++ [d]))) F D := q
    obtain ⟨o, h1, a, xs, rfl, h2, h3, h4, h5⟩ := g.ok i _ hs
    refine ⟨_, h1, .inl ⟨rfl, xs, SqL.of h2⟩, w B σ F H _ x0.sFH g (WpB.expr (H := H) x0 q fun d F' H' v x x' r qd => ?_)⟩
    cases hd : decide (l.length < sizeLine) with
    | false =>
      exfalso
      rw [hd] at qd
      exact qd
    | true =>
      rw [hd] at qd
      have hl := of_decide_eq_true hd
      have h2' := x.sH _ _ h2
      have h3' : F' a = none := by
        rw [x.old _ _ h2]
        exact h3
      have h5' := h5.mono x.sF
      refine ⟨a, xs, v, rfl, rfl, h2', by rw [h5'.length]; exact hl, ?_⟩
      have qd : WpB X.K E B0 B (fun s' => .nx (G.set i s')) (.ok (.own (l ++ [d]))) F' D := qd
      exact qd.ok σ F' _ (Same.refl _) (x'.write h3' h4) ((g.ext x).write hs h1 (h5'.append (.one r)))
  | _ => exact q.elim
def Sl.fz : Sl → Sl
  | .own l => .val (.lst l)
  | s => s
theorem db_fz {α : Type} {i : Nat} {s : Sl} {m : M α} {post : α → Oc} (hs : G[i]? = some s) (h : DB X E (G.set i s.fz) body m post) : DB X E G body m post := by
  obtain ⟨t, p, w⟩ := h
  refine ⟨t, p, fun B0 B σ F H D x0 g q => ?_⟩
  have same : ∀ s', s' = s → DB X E (G.set i s') body m post → G.set i s' = G := fun s' e _ => by
    subst e
    apply List.ext_getElem?
    intro k
    by_cases e : i = k
    · subst e
      rw [List.getElem?_set_self (List.getElem?_eq_some_iff.mp hs).1, hs]
    · rw [List.getElem?_set_ne e]
  cases s with
  | own l =>
    obtain ⟨o, h1, a, xs, rfl, h2, h3, h4, h5⟩ := g.ok i _ hs
    have hi := (List.getElem?_eq_some_iff.mp hs).1
    have xF : Same F (upd F a (.lst xs)) := same_new h3
    refine w B0 B σ (upd F a (.lst xs)) H D ⟨x0.sF.trans xF, x0.sH, fun c u hc => ?_, fun c u hc => ?_⟩ ⟨g.sB, by rw [List.length_set]; exact g.len, fun j s' hj => ?_, fun j k s1 s2 b g1 g2 o1 o2 e1 e2 => ?_⟩ (q.mono xF)
    · by_cases e : c = a
      · subst e
        rw [upd_same] at hc
        cases hc
        exact h2
      · rw [upd_ne e] at hc
        exact x0.sFH c u hc
    · rw [upd_ne (ne_of_none hc h4)]
      exact x0.old c u hc
    · by_cases e : i = j
      · subst e
        rw [List.getElem?_set_self hi] at hj
        cases hj
        exact ⟨_, h1, _, rfl, .lst upd_same (h5.mono xF)⟩
      · rw [List.getElem?_set_ne e] at hj
        obtain ⟨o, k1, k2⟩ := g.ok j s' hj
        refine ⟨o, k1, ?_⟩
        cases s' with
        | un => exact k2
        | any => trivial
        | val d =>
          obtain ⟨v, e1, r⟩ := k2
          exact ⟨v, e1, r.mono xF⟩
        | own m =>
          obtain ⟨b, ys, rfl, q1, q2, q3, q4⟩ := k2
          have nb : b ≠ a := fun z => by
            subst z
            exact e (g.dis i j _ _ b hs hj rfl rfl h1 k1)
          exact ⟨b, ys, rfl, q1, by rw [upd_ne nb]; exact q2, q3, q4.mono xF⟩
        | ownd m =>
          obtain ⟨b, rfl, q1, q2, q3⟩ := k2
          have nb : b ≠ a := fun z => by
            subst z
            exact e (g.dis i j _ _ b hs hj rfl rfl h1 k1)
          exact ⟨b, rfl, q1.mono xF, by rw [upd_ne nb]; exact q2, q3⟩
        | ownu m =>
          obtain ⟨b, rfl, q1, q2, q3⟩ := k2
          have nb : b ≠ a := fun z => by
            subst z
            exact e (g.dis i j _ _ b hs hj rfl rfl h1 k1)
          exact ⟨b, rfl, q1.mono xF, by rw [upd_ne nb]; exact q2, q3⟩
        | obj b c m =>
          obtain ⟨dx, fs, rfl, q1, q2, q3, q4, q5⟩ := k2
          have nb : b ≠ a := fun z => by
            subst z
            exact e (g.dis i j _ _ b hs hj rfl rfl h1 k1)
          exact ⟨dx, fs, rfl, q1, by rw [upd_ne nb]; exact q2, q3, q4, q5.mono xF⟩
        | bor d =>
          obtain ⟨v, e1, r⟩ := k2
          exact ⟨v, e1, r.monoF xF⟩
        | tre b c l =>
          obtain ⟨k3, k4, as, t⟩ := k2
          exact ⟨k3, k4, as, t.mono xF fun b o e => upd_ne (ne_of_none e h4)⟩
        | exn b c l => exact ⟨k2.1, k2.2.mono xF⟩
    · have nj : i ≠ j := fun z => by
        subst z
        rw [List.getElem?_set_self hi] at g1
        cases g1
        cases o1
      have nk : i ≠ k := fun z => by
        subst z
        rw [List.getElem?_set_self hi] at g2
        cases g2
        cases o2
      rw [List.getElem?_set_ne nj] at g1
      rw [List.getElem?_set_ne nk] at g2
      exact g.dis j k s1 s2 b g1 g2 o1 o2 e1 e2
  | un => exact w B0 B σ F H D x0 ((show GOk X.K B (G.set i .un) σ F H from (same .un rfl ⟨t, p, w⟩).symm ▸ g)) q
  | any => exact w B0 B σ F H D x0 ((show GOk X.K B (G.set i .any) σ F H from (same .any rfl ⟨t, p, w⟩).symm ▸ g)) q
  | val d => exact w B0 B σ F H D x0 ((show GOk X.K B (G.set i (.val d)) σ F H from (same (.val d) rfl ⟨t, p, w⟩).symm ▸ g)) q
  | ownd l => exact w B0 B σ F H D x0 ((show GOk X.K B (G.set i (.ownd l)) σ F H from (same (.ownd l) rfl ⟨t, p, w⟩).symm ▸ g)) q
  | obj a c l => exact w B0 B σ F H D x0 ((show GOk X.K B (G.set i (.obj a c l)) σ F H from (same (.obj a c l) rfl ⟨t, p, w⟩).symm ▸ g)) q
  | bor d => exact w B0 B σ F H D x0 ((show GOk X.K B (G.set i (.bor d)) σ F H from (same (.bor d) rfl ⟨t, p, w⟩).symm ▸ g)) q
  | tre b c l => exact w B0 B σ F H D x0 ((show GOk X.K B (G.set i (.tre b c l)) σ F H from (same (.tre b c l) rfl ⟨t, p, w⟩).symm ▸ g)) q
  | ownu l => exact w B0 B σ F H D x0 ((show GOk X.K B (G.set i (.ownu l)) σ F H from (same (.ownu l) rfl ⟨t, p, w⟩).symm ▸ g)) q
  | exn b c l => exact w B0 B σ F H D x0 ((show GOk X.K B (G.set i (.exn b c l)) σ F H from (same (.exn b c l) rfl ⟨t, p, w⟩).symm ▸ g)) q
theorem db_any {α : Type} (i : Nat) {m : M α} {post : α → Oc} (h : DB X E (G.set i .any) body m post) : DB X E G body m post := by
  obtain ⟨t, p, w⟩ := h
  exact ⟨t, p, fun B0 B σ F H D x0 g q => w B0 B σ F H D x0 g.any q⟩

theorem ds_expr {m : M D} (h : DE X (cE E) G e m) (p : ∀ {te : TE}, PE X e te → PS X (.Expr e pos) (tDrop te)) : DS X E G (.Expr e pos) m (fun _ => .nx G) := by
  obtain ⟨t, pe, w⟩ := h
  refine ⟨_, p pe, fun B0 B σ F H D x0 g q => w B σ F H _ x0.sFH g ?_⟩
  cases m with
  | ok d => exact fun F' H' v x r => q.ok _ F' H' x.sF (x0.trans x) (g.ext x)
  | error er => cases er with
    | stuck => exact q.elim
    | exc y => exact fun F' H' c d x r => q F' H' c d x.sF (x0.trans x) r
theorem ds_ret {m : M D} (h : DE X (cE E) G e m) : DS X E G (.Return (some e) pos) m .rt := by
  obtain ⟨t, pe, w⟩ := h
  refine ⟨_, ps_ret pe, fun B0 B σ F H D x0 g q => w B σ F H _ x0.sFH g ?_⟩
  cases m with
  | ok d => exact fun F' H' v x r => q.ok v F' H' x.sF (x0.trans x) r
  | error er => cases er with
    | stuck => exact q.elim
    | exc y => exact fun F' H' c d x r => q F' H' c d x.sF (x0.trans x) r
theorem ds_if {α : Type} {A B : List Stmt} {mc : M Bool} {mA mB : M α} {post : α → Oc} (hc : DT X (cE E) G c mc) (hA : DB X E G A mA post) (hB : DB X E G B mB post) : DS X E G (.If c A B pos) (mc >>= fun b => if b = true then mA else mB) post := by
  obtain ⟨tc, pc, wc⟩ := hc
  obtain ⟨t1, p1, w1⟩ := hA
  obtain ⟨t2, p2, w2⟩ := hB
  refine ⟨_, ps_if pc p1 p2, fun B0 B σ F H D x0 g q => wc B σ F H _ x0.sFH g (WpB.expr (H := H) x0 q fun b F' H' v x x' r qd => ?_)⟩
  subst r
  cases v with
  | true => exact w1 B0 B σ F' H' D x' (g.ext x) qd
  | false => exact w2 B0 B σ F' H' D x' (g.ext x) qd
theorem db_ift {α β : Type} {A : List Stmt} {mc : M Bool} {mA : M β} {pA : β → Oc} {mR : M α} {post : α → Oc} (inj : β → α) (hc : DT X (cE E) G c mc) (hA : DB X E G A mA pA) (hT : ∀ a G', pA a ≠ .nx G') (hp : ∀ a, post (inj a) = pA a) (hR : DB X E G rest mR post) :
    DB X E G (.If c A [] pos :: rest) (mc >>= fun b => if b = true then mA >>= fun a => .ok (inj a) else mR) post := by
  have h1 : DS X E G (.If c A [] pos) (mc >>= fun b => if b = true then mA >>= fun a => .ok (some a) else .ok none) (fun (o : Option β) => match o with | some a => pA a | none => .nx G) := by
    refine ds_if hc ?_ (db_nil rfl)
    obtain ⟨t, p, w⟩ := hA
    refine ⟨t, p, fun B0 B σ F H D x0 g q => w B0 B σ F H D x0 g (q.bind fun j _ qj => ?_)⟩
    exact qj.ok
  have h2 := db_cons (rest := rest) (k := fun (o : Option β) => match o with | some a => .ok (inj a) | none => mR) (post := post) h1 (fun j G' e => by
    cases j with
    | some a => exact absurd e (hT a G')
    | none =>
      cases e
      exact hR) (fun j h => by
    cases j with
    | some a => exact ⟨inj a, rfl, hp a⟩
    | none => exact absurd rfl (h G))
  refine db_cast h2 ?_
  cases mc with
  | error e => rfl
  | ok b => cases b with
    | true => cases mA <;> rfl
    | false => rfl
theorem db_ifr {A : List Stmt} {mc : M Bool} {mA mR : M D} (hc : DT X (cE E) G c mc) (hA : DB X E G A mA .rt) (hR : DB X E G rest mR .rt) : DB X E G (.If c A [] pos :: rest) (mc >>= fun b => if b = true then mA else mR) .rt :=
  db_cast (db_ift id hc hA (fun a G' h => nomatch h) (fun _ => rfl) hR) (by
    cases mc with
    | error e => rfl
    | ok b => cases b with
      | true => cases mA <;> rfl
      | false => rfl)
theorem db_map {α β : Type} {m : M β} {p : β → Oc} {post : α → Oc} (f : β → α) (h : DB X E G body m p) (hp : ∀ a, post (f a) = p a) : DB X E G body (m >>= fun a => .ok (f a)) post := by
  obtain ⟨t, ps, w⟩ := h
  refine ⟨t, ps, fun B0 B σ F H D x0 g q => w B0 B σ F H D x0 g (q.bind fun j _ qj => ?_)⟩
  have qj := qj.ok
  rw [hp j] at qj
  exact qj

inductive Rx (S T : Type) where
  | go (s : S)
  | ct (s : T)
  | bk (s : T)
  | rt (d : D)
def Rx.oc {S T : Type} (Γ : S → List Sl) (Δ : T → List Sl) : Rx S T → Oc
  | .go s => .nx (Γ s)
  | .ct s => .ct (Δ s)
  | .bk s => .bk (Δ s)
  | .rt d => .rt d
abbrev Rs (S : Type) := Rx S S
abbrev Rs.oc {S : Type} (Γ : S → List Sl) : Rs S → Oc := Rx.oc Γ Γ
def loopR {S : Type} (f : S → D → M (Rs S)) : List D → S → M (S ⊕ D)
  | [], s => .ok (.inl s)
  | x :: xs, s => f s x >>= fun r => match r with
    | .go s => loopR f xs s
    | .ct s => loopR f xs s
    | .bk s => .ok (.inl s)
    | .rt d => .ok (.inr d)
def loopF {S : Type} (f : S → D → M S) : List D → S → M S
  | [], s => .ok s
  | x :: xs, s => f s x >>= fun s => loopF f xs s
def sumOc {S : Type} (Γ : S → List Sl) : S ⊕ D → Oc
  | .inl s => .nx (Γ s)
  | .inr d => .rt d
theorem ds_forR {S : Type} {tg iter : Expr} {mi : M (List D)} {vs : List Nat} {Γ : S → List Sl} {bnd : S → D → M (List Sl)} {f : S → D → M (Rs S)} (s0 : S) (hG : G = Γ s0) (hp : PassesOwn (model X.prog X.w) X.A X.env X.xe) (hc : X.calm = true)
    (hi : DI X (cE E) G tg iter mi) {g : TG} (pg : PG X tg g)
    (hg : ∀ s x v B σ F H (Q : St → Hp → Prop), Same F H → GOk X.K B (Γ s) σ F H → Rp X.K F v x → (∃ G', bnd s x = .ok G' ∧ ∀ σ', GOk X.K B G' σ' F H → (∀ k, k ∉ vs → σ'[k]? = σ[k]?) → σ'.length = σ.length → Q σ' H) → g v σ H Q)
    (hbnd : ∀ s x r, f s x = .ok r → ∃ G', bnd s x = .ok G') (hbndx : ∀ s x r, f s x = .error (.exc r) → ∃ G', bnd s x = .ok G')
    (hb : ∀ s x G', bnd s x = .ok G' → DB X E G' body (f s x) (Rs.oc Γ))
    (hs : ∀ x, foldedSetIterable iter X.env x = pure x := by intro _; rfl) : DS X E G (.For tg iter body [] pos) (mi >>= fun ds => loopR f ds s0) (sumOc Γ) := by
  subst hG
  obtain ⟨wi, pi, wI⟩ := hi
  have pb : PSs X body (fun D σ H => ∃ s x G' B0 B F, bnd s x = .ok G' ∧ Ext B0 B F H ∧ GOk X.K B G' σ F H ∧ WpB X.K E B0 B (Rs.oc Γ) (f s x) F D) :=
    ⟨fun pins s σ H D I ⟨s', x, G', B0, B, F, e, x0, gk, q⟩ => by
      obtain ⟨t, p, w⟩ := hb s' x G' e
      exact p.run pins s σ H D I (w B0 B σ F H D x0 gk q)⟩
  refine ⟨_, ps_for hp hc pi pg pb hs, fun B0 B σ F H D x0 gk q => wI B σ F H _ x0.sFH gk (WpB.expr (H := H) x0 q fun ds F1 H1 J x1 x1' y1 q1 => ?_)⟩
  refine ⟨fun i m σ H => m = ds.length - i ∧ i ≤ ds.length ∧ ∃ F s, Same F1 F ∧ Ext B0 B F H ∧ GOk X.K B (Γ s) σ F H ∧ WpB X.K E B0 B (sumOc Γ) (loopR f (ds.drop i) s) F D, ⟨ds.length, by simp, Nat.zero_le _, F1, s0, Same.refl _, x1', gk.ext x1, q1⟩, ?_⟩
  rintro i m σ H ⟨rfl, hi, F, s, sF, x, g', q'⟩
  obtain ⟨yi, ye⟩ := y1 F H sF x.sFH
  by_cases hlt : i < ds.length
  · have hd : ds[i]? = some ds[i] := List.getElem?_eq_getElem hlt
    obtain ⟨go, yl⟩ := yi i _ hd
    rw [List.drop_eq_getElem_cons hlt] at q'
    refine .inr ⟨go, fun σ' H' => ∃ F' s', Same F1 F' ∧ Ext B0 B F' H' ∧ GOk X.K B (Γ s') σ' F' H' ∧ WpB X.K E B0 B (sumOc Γ) (loopR f (ds.drop (i + 1)) s') F' D, fun σ' H' ⟨F', s', a1, a2, a3, a4⟩ => ⟨ds.length - (i + 1), by omega, rfl, hlt, F', s', a1, a2, a3, a4⟩, fun v H' hv => ?_⟩
    obtain ⟨F', x', rv⟩ := yl v H' hv
    have q2 : WpB X.K E B0 B (sumOc Γ) (f s ds[i] >>= fun r => match r with
      | .go s => loopR f (ds.drop (i + 1)) s
      | .ct s => loopR f (ds.drop (i + 1)) s
      | .bk s => .ok (.inl s)
      | .rt d => .ok (.inr d)) F D := q'
    have q3 := q2.mono x'.sF
    have eb : ∃ G', bnd s ds[i] = .ok G' := by
      cases ef : f s ds[i] with
      | ok r => exact hbnd _ _ _ ef
      | error er => cases er with
        | stuck =>
          rw [ef] at q3
          exact q3.elim
        | exc y => exact hbndx _ _ _ ef
    obtain ⟨G', eG⟩ := eb
    refine hg s ds[i] v B σ F' H' _ (x.trans x').sFH (g'.ext x') rv ⟨G', eG, fun σ' gG _ _ => ⟨s, ds[i], G', B0, B, F', eG, x.trans x', gG, q3.bind fun r _ qr => ?_⟩⟩
    have sF' := sF.trans x'.sF
    cases r with
    | go s' => exact fun σ2 F2 H2 s2 x2 g2 => ⟨F2, s', sF'.trans s2, x2, g2, qr.mono s2⟩
    | ct s' => exact fun σ2 F2 H2 s2 x2 g2 => ⟨F2, s', sF'.trans s2, x2, g2, qr.mono s2⟩
    | bk s' => exact qr.ok
    | rt d => exact qr.ok
  · have e : i = ds.length := by omega
    subst e
    rw [List.drop_length] at q'
    exact .inl ⟨ye, q'.ok σ F H (Same.refl _) x g'⟩
theorem loopF_R {S : Type} (f : S → D → M S) : ∀ (ds : List D) (s : S), loopR (fun s x => f s x >>= fun s => .ok (.go s)) ds s = (loopF f ds s >>= fun s => .ok (.inl s))
  | [], s => rfl
  | x :: xs, s => by
    show ((f s x >>= fun s => .ok (Rx.go s)) >>= _) = ((f s x >>= fun s => loopF f xs s) >>= _)
    cases e : f s x with
    | error z => rfl
    | ok s' => exact loopF_R f xs s'
theorem ds_forF {S : Type} {tg iter : Expr} {mi : M (List D)} {vs : List Nat} {Γ : S → List Sl} {bnd : S → D → M (List Sl)} {f : S → D → M S} (s0 : S) (hG : G = Γ s0) (hp : PassesOwn (model X.prog X.w) X.A X.env X.xe) (hc : X.calm = true)
    (hi : DI X (cE E) G tg iter mi) {g : TG} (pg : PG X tg g)
    (hg : ∀ s x v B σ F H (Q : St → Hp → Prop), Same F H → GOk X.K B (Γ s) σ F H → Rp X.K F v x → (∃ G', bnd s x = .ok G' ∧ ∀ σ', GOk X.K B G' σ' F H → (∀ k, k ∉ vs → σ'[k]? = σ[k]?) → σ'.length = σ.length → Q σ' H) → g v σ H Q)
    (hbnd : ∀ s x r, f s x = .ok r → ∃ G', bnd s x = .ok G') (hbndx : ∀ s x r, f s x = .error (.exc r) → ∃ G', bnd s x = .ok G')
    (hb : ∀ s x G', bnd s x = .ok G' → DB X E G' body (f s x) (fun s => .nx (Γ s)))
    (hs : ∀ x, foldedSetIterable iter X.env x = pure x := by intro _; rfl) : DS X E G (.For tg iter body [] pos) (mi >>= fun ds => loopF f ds s0) (fun s => .nx (Γ s)) := by
  have h := ds_forR (f := fun s x => f s x >>= fun s => .ok (.go s)) (pos := pos) s0 hG hp hc hi pg hg (fun s x r e => by
    cases ef : f s x with
    | ok s' => exact hbnd _ _ _ ef
    | error z => rw [ef] at e; cases e) (fun s x r e => by
    cases ef : f s x with
    | ok s' => rw [ef] at e; cases e
    | error z =>
      rw [ef] at e
      cases e
      exact hbndx _ _ _ ef) (fun s x G' e => db_map Rx.go (hb s x G' e) fun _ => rfl) hs
  obtain ⟨t, p, w⟩ := h
  refine ⟨t, p, fun B0 B σ F H D x0 gk q => w B0 B σ F H D x0 gk ?_⟩
  cases mi with
  | error z => exact WpB.err (post := fun s => Oc.nx (Γ s)) q
  | ok ds =>
    show WpB X.K E B0 B (sumOc Γ) (loopR _ ds s0) F D
    rw [loopF_R]
    have q : WpB X.K E B0 B (fun s => .nx (Γ s)) (loopF f ds s0) F D := q
    cases e : loopF f ds s0 with
    | error z => rw [e] at q; exact WpB.err (post := fun s => Oc.nx (Γ s)) q
    | ok s' => rw [e] at q; exact q
def whileR {S : Type} (c : S → M Bool) (f : S → M (Rs S)) : Nat → S → M (S ⊕ D)
  | 0, _ => stuck
  | n + 1, s => c s >>= fun b => if b = true then f s >>= fun r => match r with
      | .go s => whileR c f n s
      | .ct s => whileR c f n s
      | .bk s => .ok (.inl s)
      | .rt d => .ok (.inr d)
    else .ok (.inl s)
theorem ds_whileR {S : Type} {Γ : S → List Sl} {mc : S → M Bool} {f : S → M (Rs S)} (n : Nat) (s0 : S) (hG : G = Γ s0) (hp : PassesOwn (model X.prog X.w) X.A X.env X.xe) (hc : ∀ s, DT X (cE E) (Γ s) c (mc s)) (hb : ∀ s, DB X E (Γ s) body (f s) (Rs.oc Γ)) :
    DS X E G (.While c body [] pos) (whileR mc f n s0) (sumOc Γ) := by
  subst hG
  have pc : PT X c (fun σ H Q => ∃ s B F, Same F H ∧ GOk X.K B (Γ s) σ F H ∧ WpG X.K E rB (mc s) F H Q) :=
    ⟨fun pins s σ H Q I ⟨s', B, F, s1, g, q⟩ => by
      obtain ⟨t, p, w⟩ := hc s'
      exact p.run pins s σ H Q I (w B σ F H Q s1 g q)⟩
  have pb : PSs X body (fun D σ H => ∃ s B0 B F, Ext B0 B F H ∧ GOk X.K B (Γ s) σ F H ∧ WpB X.K E B0 B (Rs.oc Γ) (f s) F D) :=
    ⟨fun pins s σ H D I ⟨s', B0, B, F, x0, gk, q⟩ => by
      obtain ⟨t, p, w⟩ := hb s'
      exact p.run pins s σ H D I (w B0 B σ F H D x0 gk q)⟩
  refine ⟨_, ps_while hp pc pb, fun B0 B σ F H D x0 gk q => ?_⟩
  refine ⟨fun m σ H => ∃ F s, Ext B0 B F H ∧ GOk X.K B (Γ s) σ F H ∧ WpB X.K E B0 B (sumOc Γ) (whileR mc f m s) F D, ⟨n, F, s0, x0, gk, q⟩, ?_⟩
  rintro m σ H ⟨F, s, x, g, q⟩
  cases m with
  | zero => exact q.elim
  | succ m =>
    have q : WpB X.K E B0 B (sumOc Γ) (mc s >>= fun b => if b = true then f s >>= fun r => match r with
      | .go s => whileR mc f m s
      | .ct s => whileR mc f m s
      | .bk s => .ok (.inl s)
      | .rt d => .ok (.inr d)
      else .ok (.inl s)) F D := q
    refine ⟨s, B, F, x.sFH, g, WpB.expr (H := H) x q fun b F' H' v x1 x1' r q1 => ?_⟩
    subst r
    cases v with
    | true =>
      rw [if_pos rfl] at q1 ⊢
      refine ⟨fun σ' H' => ∃ F' s', Ext B0 B F' H' ∧ GOk X.K B (Γ s') σ' F' H' ∧ WpB X.K E B0 B (sumOc Γ) (whileR mc f m s') F' D, fun σ' H' h => ⟨m, Nat.lt_succ_self _, h⟩, s, B0, B, F', x1', g.ext x1, q1.bind fun r _ qr => ?_⟩
      cases r with
      | go s' => exact fun σ2 F2 H2 s2 x2 g2 => ⟨F2, s', x2, g2, qr.mono s2⟩
      | ct s' => exact fun σ2 F2 H2 s2 x2 g2 => ⟨F2, s', x2, g2, qr.mono s2⟩
      | bk s' => exact qr.ok
      | rt d => exact qr.ok
    | false =>
      rw [if_neg Bool.false_ne_true] at q1 ⊢
      exact q1.ok σ F' H' (Same.refl _) x1' (g.ext x1)
def whileF {S : Type} (c : S → M Bool) (f : S → M S) : Nat → S → M S
  | 0, _ => stuck
  | n + 1, s => c s >>= fun b => if b = true then f s >>= fun s => whileF c f n s else .ok s
theorem whileF_R {S : Type} (c : S → M Bool) (f : S → M S) : ∀ (n : Nat) (s : S), whileR c (fun s => f s >>= fun s => .ok (.go s)) n s = (whileF c f n s >>= fun s => .ok (.inl s))
  | 0, s => rfl
  | n + 1, s => by
    simp only [whileR, whileF]
    cases e : c s with
    | error z => rfl
    | ok b => cases b with
      | false => rfl
      | true =>
        cases e2 : f s with
        | error z => rfl
        | ok s' => exact whileF_R c f n s'
theorem ds_whileF {S : Type} {Γ : S → List Sl} {mc : S → M Bool} {f : S → M S} (n : Nat) (s0 : S) (hG : G = Γ s0) (hp : PassesOwn (model X.prog X.w) X.A X.env X.xe) (hc : ∀ s, DT X (cE E) (Γ s) c (mc s)) (hb : ∀ s, DB X E (Γ s) body (f s) (fun s => .nx (Γ s))) :
    DS X E G (.While c body [] pos) (whileF mc f n s0) (fun s => .nx (Γ s)) := by
  have h := ds_whileR (f := fun s => f s >>= fun s => .ok (.go s)) (pos := pos) n s0 hG hp hc (fun s => db_map Rx.go (hb s) fun _ => rfl)
  obtain ⟨t, p, w⟩ := h
  refine ⟨t, p, fun B0 B σ F H D x0 gk q => w B0 B σ F H D x0 gk ?_⟩
  rw [whileF_R]
  cases e : whileF mc f n s0 with
  | error z => rw [e] at q; exact WpB.err (post := fun s => Oc.nx (Γ s)) q
  | ok s' => rw [e] at q; exact q
end
end DL

set_option Elab.async false
set_option linter.all false
set_option maxRecDepth 100000
set_option maxHeartbeats 4000000
namespace DL
open PySem PySem.Spec L2

structure CtxOk (X : Cx) (E : St → XK) : Prop where
  calm : X.calm = true
  pass : ∀ σ, PassesAt (L2.CX X.prog X.w) X σ (E σ)
  own : PassesOwn (model X.prog X.w) X.A X.env X.xe
theorem CtxOk.blk {X : Cx} {E : St → XK} (cx : CtxOk X E) {s : Shared} {H : Hp} {scope : Scope} {cenv : Env} {fp : List Addr} : CtxOk (X.blk s H scope cenv fp) EN :=
  ⟨cx.calm, fun σ pins H s e s' => passL pins σ H s e s', PassesOwn.never⟩
section
variable {P : Program} {w : World} {K : PySem.W.Frag} {mg : Str → Option Value} {base : Heap} {N : List Str} {qual : Str} {scope : Scope} {f : Addr} {cd : Value} {A : Around} {outer : List Env} {s : Shared} {H : Hp} {E : XK}
theorem ctx_def : CtxOk (cxOf (L2.CX P w) P w K mg base N qual scope f cd A outer s H E) (cE E) :=
  ⟨rfl, fun σ pins H1 s1 e s' => passes_call (takes_of rfl rfl rfl rfl) (fun _ _ _ _ h => h) pins σ H1 s1 e s', passes_of rfl⟩
end
section
variable {X : Cx} {CX : CXT} {k : Nat} {f C : Addr} {fd : FuncData} {ps : List Str} {sp : Sp} {dvs : List V} {ds : List Value} {E : St → XK} {x m : Str} {p pos apos : Pos} {e o : Expr} {es : List Expr} {ta : TE} {t : TA} {pins : List (Addr × Obj)} {σ : St} {H : Hp} {s : Shared} {Q : VK} {us : List Value} {vs : List V}
theorem run_at {E1 : XK} (F : FnOk X.prog X.w X.K X.mg X.base CX k f fd ps sp) (hr : Room k X.A) (hb : Binds X.K fd ps ds) (hd : Vals dvs ds) (pass : PassesAt CX X σ E1) (I : Inv X pins σ H s) (r : Vals vs us) (want : sp (vs ++ dvs) H Q E1) :
    wpAny (model X.prog X.w) X.A (call (.ref f) us) (EP X pins σ Q) X.xe s := by
  have both := r.append hd
  have long : (us ++ ds).length = ps.length := both.length.symm.trans (F.len _ _ _ _ want)
  refine wpAny_call (codeAny_mono (F.run _ _ _ _ _ _ _ _ E1 hr I.env0 (hb s us I.kIn long) both want) ?_)
  intro res s2 got
  match res, got with
  | .error e, got => exact pass pins H s e s2 I got
  | .ok (.ret u), got => exact I.after got
def tMethS (C : Addr) (m : Str) (sp : Sp) (dvs : List V) (E : St → XK) (ta : TE) (t : TA) : TE := fun σ H Q => ta σ H fun x H1 => ∃ a dx fs, x = .ref a ∧ H1 a = some (.ins C dx fs) ∧ fs.lookup m = none ∧ t σ H1 fun vs H2 => sp (x :: (vs ++ dvs)) H2 Q (E σ)
def tCallD (sp : Sp) (dvs : List V) (E : St → XK) (t : TA) : TE := fun σ H Q => t σ H fun vs H1 => sp (vs ++ dvs) H1 Q (E σ)
theorem pe_callD (F : FnOk X.prog X.w X.K X.mg X.base CX k f fd ps sp) (hr : Room k X.A) (hg : Gl X x) (hm : X.mg x = some (.ref f)) (hk : PySem.W.keepIn X.K (.ref f) = true) (hb : Binds X.K fd ps ds) (hd : Vals dvs ds) (pass : ∀ σ, PassesAt CX X σ (E σ))
    (ha : PA X (e :: es) t) (hdb : (x == ("__debug__" : Str)) = false := by decide) (he : starEach (e :: es) X.env = (false, eval e X.env) :: starEach es X.env := by rfl) (hpl : (backTo pos (starEach es X.env)).any (·.1) = false := by rfl) :
    PE X (.Call (.Name x p) (e :: es) [] pos) (tCallD sp dvs E t) := by
  constructor
  intro pins s σ H Q I h
  refine wpAny_Call_Name_kw (ld_glob I hg hm (PySem.W.callWith_K (h₀ := X.base) I.ok.mod.kin hk (thn (ha.run pos pins s σ H _ I h) ?_) he hpl) hdb)
  rintro us s1 ⟨vs, H1, I1, r, q⟩
  exact ⟨I1.kIn, run_at F hr hb hd (pass σ) I1 r q⟩
theorem pe_methS {pl : Sem Bool} (he : PE X o ta) (c : Cls X.K C) (hm : Meth X.K C m f) (F : FnOk X.prog X.w X.K X.mg X.base CX k f fd ps sp) (hr : Room k X.A) (hb : Binds X.K fd ps ds) (hd : Vals dvs ds) (pass : ∀ σ, PassesAt CX X σ (E σ)) (ha : PA X (e :: es) t)
    (hst : starEach (e :: es) X.env = (false, eval e X.env) :: starEach es X.env) (hpl : (backTo pos (starEach es X.env)).any (·.1) = false)
    (ht : eval (.Call (.Attribute o m apos) (e :: es) [] pos) X.env = (do
      let ov ← eval o X.env
      standAt apos.atName
      let (f, first) ← holding [ov] (getMethod ov m pl)
      callWith pos f first (backTo pos (starEach (e :: es) X.env)) (backToKw pos (keywordEach [] X.env)))) :
    PE X (.Call (.Attribute o m apos) (e :: es) [] pos) (tMethS C m sp dvs E ta t) := by
  constructor
  intro pins s σ H Q I h
  refine PySem.W.methodCall_KW (pl := pl) (thn (he.run pins s σ H _ I h) ?_) ht
  rintro u s1 ⟨x, H1, I1, rx, a, dx, fs, rfl, ea, l, q⟩
  cases rx
  refine getmeth_ok I1 ea c hm l (PySem.W.callWith_K (first := [.ref a]) (h₀ := X.base) I.ok.mod.kin hm.kp (thn (ha.run pos pins s1 σ H1 _ I1 q) ?_) hst hpl)
  rintro us s2 ⟨vs, H2, I2, r, q2⟩
  exact ⟨I2.kIn, run_at (us := .ref a :: us) (vs := .ref a :: vs) F hr hb hd (pass σ) I2 (.cons rfl r) q2⟩
end

inductive RpA (K : PySem.W.Frag) (F H : Hp) : List Bool → List V → List D → Prop
  | nil : RpA K F H [] [] []
  | frz {bs : List Bool} {v : V} {vs : List V} {d : D} {ds : List D} : Rp K F v d → RpA K F H bs vs ds → RpA K F H (false :: bs) (v :: vs) (d :: ds)
  | bor {bs : List Bool} {v : V} {vs : List V} {d : D} {ds : List D} : RpT K F H v d → RpA K F H bs vs ds → RpA K F H (true :: bs) (v :: vs) (d :: ds)
theorem RpA.len {K : PySem.W.Frag} {F H : Hp} : ∀ {bs : List Bool} {vs : List V} {ds : List D}, RpA K F H bs vs ds → vs.length = bs.length ∧ ds.length = bs.length
  | _, _, _, .nil => ⟨rfl, rfl⟩
  | _, _, _, .frz _ h => ⟨congrArg Nat.succ h.len.1, congrArg Nat.succ h.len.2⟩
  | _, _, _, .bor _ h => ⟨congrArg Nat.succ h.len.1, congrArg Nat.succ h.len.2⟩
theorem RpA.ext {K : PySem.W.Frag} {F H F' H' : Hp} (x : Ext F H F' H') : ∀ {bs : List Bool} {vs : List V} {ds : List D}, RpA K F H bs vs ds → RpA K F' H' bs vs ds
  | _, _, _, .nil => .nil
  | _, _, _, .frz r h => .frz (r.mono x.sF) (h.ext x)
  | _, _, _, .bor r h => .bor (r.ext x) (h.ext x)
def argSl : List Bool → List D → List Sl
  | false :: bs, d :: ds => .val d :: argSl bs ds
  | true :: bs, d :: ds => .bor d :: argSl bs ds
  | _, _ => []
def spD (K : PySem.W.Frag) (bs : List Bool) (m : List D → M D) : Sp := fun vs H Q E => ∃ F ds, Same F H ∧ RpA K F H bs vs ds ∧ WpG K E (rE K) (m ds) F H Q
theorem args_ok {K : PySem.W.Frag} {F H : Hp} : ∀ {bs : List Bool} {vs : List V} {ds : List D}, RpA K F H bs vs ds → (argSl bs ds).length = vs.length ∧ (∀ (i : Nat) (s : Sl), (argSl bs ds)[i]? = some s → ∃ o, (vs.map some)[i]? = some o ∧ SlOk K H F H o s) ∧ ∀ (i : Nat) (s : Sl), (argSl bs ds)[i]? = some s → s.owns = false
  | _, _, _, .nil => ⟨rfl, fun i s h => (by cases h), fun i s h => (by cases h)⟩
  | _, _, _, .frz (v := v) (d := d) r h => by
    obtain ⟨h1, h2, h3⟩ := args_ok h
    refine ⟨congrArg Nat.succ h1, fun i s hs => ?_, fun i s hs => ?_⟩
    · cases i with
      | zero =>
        cases hs
        exact ⟨some v, rfl, v, rfl, r⟩
      | succ i => exact h2 i s hs
    · cases i with
      | zero =>
        cases hs
        rfl
      | succ i => exact h3 i s hs
  | _, _, _, .bor (v := v) (d := d) r h => by
    obtain ⟨h1, h2, h3⟩ := args_ok h
    refine ⟨congrArg Nat.succ h1, fun i s hs => ?_, fun i s hs => ?_⟩
    · cases i with
      | zero =>
        cases hs
        exact ⟨some v, rfl, v, rfl, r⟩
      | succ i => exact h2 i s hs
    · cases i with
      | zero =>
        cases hs
        rfl
      | succ i => exact h3 i s hs
theorem gok_start {K : PySem.W.Frag} {F H : Hp} {N : List Str} {bs : List Bool} {vs : List V} {ds : List D} (r : RpA K F H bs vs ds) : GOk K H (argSl bs ds ++ List.replicate (N.length - bs.length) .un) (L2.start N vs) F H := by
  obtain ⟨h1, h2, h3⟩ := args_ok r
  have hl := r.len.1
  unfold L2.start
  refine ⟨Same.refl _, ?_, fun i s hs => ?_, fun i j s t a hs ht o1 _ _ _ => ?_⟩
  · rw [List.length_append, List.length_append, List.length_map, List.length_replicate, List.length_replicate, h1, hl]
  · by_cases hi : i < (argSl bs ds).length
    · rw [List.getElem?_append_left hi] at hs
      obtain ⟨o, k1, k2⟩ := h2 i s hs
      exact ⟨o, by rw [List.getElem?_append_left (by rw [List.length_map, ← h1]; exact hi)]; exact k1, k2⟩
    · have hi : (argSl bs ds).length ≤ i := by omega
      rw [List.getElem?_append_right hi] at hs
      rw [List.getElem?_append_right (by rw [List.length_map, ← h1]; exact hi), List.length_map, ← h1]
      have e9 : (argSl bs ds).length = bs.length := by rw [h1, hl]
      rw [e9] at hs ⊢
      obtain ⟨hlt, e⟩ := List.getElem?_eq_some_iff.mp hs
      rw [List.getElem_replicate] at e
      subst e
      rw [List.length_replicate] at hlt
      exact ⟨none, by rw [List.getElem?_replicate, if_pos hlt], rfl⟩
  · exfalso
    by_cases hi : i < (argSl bs ds).length
    · rw [List.getElem?_append_left hi] at hs
      rw [h3 i s hs] at o1
      cases o1
    · rw [List.getElem?_append_right (by omega)] at hs
      obtain ⟨hlt, e⟩ := List.getElem?_eq_some_iff.mp hs
      rw [List.getElem_replicate] at e
      subst e
      cases o1
section
variable {P : Program} {w : World} {K : PySem.W.Frag} {mg : Str → Option Value} {base : Heap} {x qual : Str} {params : Arguments} {body : List Stmt} {scope : Scope} {dvs : List V} {kws : List (Str × V)} {f : Addr} {fd : FuncData}
theorem fn_def {N ps : List Str} {k : Nat} {bs : List Bool} {m : List D → M D} (F : FunD K x qual params body scope dvs kws f fd) (S : FnScope N ps scope) (hbs : bs.length = ps.length)
    (hb : ∀ (cdv : Value) (A : Around) (outer : List Env) (s : Shared) (H : Hp) (E : XK), Room k (A.deeper (PyProof.Rows.envOfC qual scope s.heap.objs.size f cdv)) → ∀ ds : List D, ds.length = bs.length →
      DB (cxOf (L2.CX P w) P w K mg base N qual scope f cdv A outer s H E) E (argSl bs ds ++ List.replicate (N.length - bs.length) .un) body (m ds) Oc.rt) : FnOk P w K mg base (L2.CX P w) (k + 1) f fd ps (spD K bs m) := by
  refine F.ok S (fun vs H Q E h => ?_) (fun cdv A outer s H vs Q E hr h => ?_)
  · obtain ⟨F, ds, _, r, _⟩ := h
    rw [r.len.1, hbs]
  · obtain ⟨F, ds, sF, r, q⟩ := h
    obtain ⟨t, p, wt⟩ := hb cdv A outer s H E hr ds r.len.2
    refine ⟨t, p, wt F H (L2.start N vs) F H _ (Ext.refl sF) (gok_start r) ?_⟩
    cases e : m ds with
    | ok d =>
      rw [e] at q
      exact WpB.of_ok (fun v F' H' _ x' r' => q F' H' v x' r')
    | error er =>
      rw [e] at q
      cases er with
      | stuck => exact q.elim
      | exc y => exact fun F' H' c d _ x' r' => q F' H' c d x' r'
def ocN (n : Nat) : Option D → Oc
  | some d => .rt d
  | none => .nx (List.replicate n .any)
def orNon (m : M (Option D)) : M D := m >>= fun o => .ok (o.getD .non)
theorem fn_defN {N ps : List Str} {k : Nat} {bs : List Bool} {m : List D → M (Option D)} (F : FunD K x qual params body scope dvs kws f fd) (S : FnScope N ps scope) (hbs : bs.length = ps.length)
    (hb : ∀ (cdv : Value) (A : Around) (outer : List Env) (s : Shared) (H : Hp) (E : XK), Room k (A.deeper (PyProof.Rows.envOfC qual scope s.heap.objs.size f cdv)) → ∀ ds : List D, ds.length = bs.length →
      DB (cxOf (L2.CX P w) P w K mg base N qual scope f cdv A outer s H E) E (argSl bs ds ++ List.replicate (N.length - bs.length) .un) body (m ds) (ocN N.length)) : FnOk P w K mg base (L2.CX P w) (k + 1) f fd ps (spD K bs fun ds => orNon (m ds)) := by
  refine F.ok S (fun vs H Q E h => ?_) (fun cdv A outer s H vs Q E hr h => ?_)
  · obtain ⟨F, ds, _, r, _⟩ := h
    rw [r.len.1, hbs]
  · obtain ⟨F, ds, sF, r, q⟩ := h
    obtain ⟨t, p, wt⟩ := hb cdv A outer s H E hr ds r.len.2
    refine ⟨t, p, wt F H (L2.start N vs) F H _ (Ext.refl sF) (gok_start r) ?_⟩
    have q : WpG K E (rE K) (m ds >>= fun o => .ok (o.getD .non)) F H Q := q
    cases e : m ds with
    | ok d =>
      rw [e] at q
      cases d with
      | some d => exact WpB.of_ok (show OcP K F H F _ (.rt d) from fun v F' H' _ x' r' => q F' H' v x' r')
      | none => exact WpB.of_ok (show OcP K F H F _ (.nx _) from fun σ' F' H' _ x' _ => q F' H' .non x' .non)
    | error er =>
      rw [e] at q
      cases er with
      | stuck => exact q.elim
      | exc y => exact fun F' H' c d _ x' r' => q F' H' c d x' r'
end
theorem gok_all {K : PySem.W.Frag} {B F H : Hp} {G : List Sl} {σ : St} (g : GOk K B G σ F H) : GOk K B (List.replicate G.length .any) σ F H := by
  refine ⟨g.sB, by rw [List.length_replicate]; exact g.len, fun i s hs => ?_, fun i j s t a hs _ o1 _ _ _ => ?_⟩
  · obtain ⟨hlt, e⟩ := List.getElem?_eq_some_iff.mp hs
    rw [List.getElem_replicate] at e
    subst e
    rw [List.length_replicate] at hlt
    exact ⟨_, List.getElem?_eq_getElem (by rw [g.len]; exact hlt), trivial⟩
  · obtain ⟨hlt, e⟩ := List.getElem?_eq_some_iff.mp hs
    rw [List.getElem_replicate] at e
    subst e
    cases o1
theorem db_end {X : Cx} {E : XK} {G : List Sl} {n : Nat} (h : G.length = n) : DB X E G [] (.ok none) (ocN n) :=
  ⟨_, pss_nil, fun B0 B σ F H D x0 g q => by
    subst h
    exact q.ok σ F H (Same.refl _) x0 (gok_all g)⟩

section
variable {X : Cx} {E : St → XK} {G : List Sl} {a b c e : Expr} {ma mb mc : M D} {ta tb : M Bool} {pos : Pos} {F H : Hp}
def DAM (X : Cx) (E : St → XK) (G : List Sl) (bs : List Bool) (es : List Expr) (m : M (List D)) : Prop :=
  ∃ t, PA X es t ∧ ∀ B σ F H Q, Same F H → GOk X.K B G σ F H → WpG X.K (E σ) (fun F' H' v d => RpA X.K F' H' bs v d) m F H Q → t σ H Q
theorem dam_nil : DAM X E G [] [] (.ok []) := ⟨_, pa_nil, fun B σ F H Q s g q => q F H _ (Ext.refl s) .nil⟩
theorem dam_frz {es : List Expr} {bs : List Bool} {ms : M (List D)} (ha : DE X E G a ma) (hr : DAM X E G bs es ms) (hs : starEach (a :: es) X.env = (false, eval a X.env) :: starEach es X.env := by rfl) : DAM X E G (false :: bs) (a :: es) (ma >>= fun x => ms >>= fun xs => .ok (x :: xs)) := by
  obtain ⟨t1, p1, w1⟩ := ha
  obtain ⟨t2, p2, w2⟩ := hr
  exact ⟨_, pa_cons p1 p2 hs, fun B σ F H Q s g q => w1 B σ F H _ s g (WpG.bind q fun x F1 H1 v x1 r1 k1 => w2 B σ F1 H1 _ x1.sFH (g.ext x1) (WpG.bind k1 fun xs F2 H2 vs x2 r2 k2 => k2 F2 H2 _ (Ext.refl x2.sFH) (.frz (r1.mono x2.sF) r2)))⟩
theorem dam_bor {es : List Expr} {bs : List Bool} {ms : M (List D)} (ha : DR X E G a ma) (hr : DAM X E G bs es ms) (hs : starEach (a :: es) X.env = (false, eval a X.env) :: starEach es X.env := by rfl) : DAM X E G (true :: bs) (a :: es) (ma >>= fun x => ms >>= fun xs => .ok (x :: xs)) := by
  obtain ⟨t1, p1, w1⟩ := ha
  obtain ⟨t2, p2, w2⟩ := hr
  exact ⟨_, pa_cons p1 p2 hs, fun B σ F H Q s g q => w1 B σ F H _ s g (WpG.bind q fun x F1 H1 v x1 r1 k1 => w2 B σ F1 H1 _ x1.sFH (g.ext x1) (WpG.bind k1 fun xs F2 H2 vs x2 r2 k2 => k2 F2 H2 _ (Ext.refl x2.sFH) (.bor (r1.ext x2) r2)))⟩
theorem de_call {k : Nat} {f : Addr} {fd : FuncData} {ps : List Str} {bs : List Bool} {m : List D → M D} {x : Str} {p : Pos} {es : List Expr} {ms : M (List D)} (cx : CtxOk X E) (F : FnOk X.prog X.w X.K X.mg X.base (L2.CX X.prog X.w) k f fd ps (spD X.K bs m)) (hr : Room k X.A) (hg : Gl X x) (hm : X.mg x = some (.ref f)) (hk : PySem.W.keepIn X.K (.ref f) = true) (hb : Binds X.K fd ps [])
    (ha : DAM X E G bs (a :: es) ms) (hdb : (x == ("__debug__" : Str)) = false := by decide) (he : starEach (a :: es) X.env = (false, eval a X.env) :: starEach es X.env := by rfl) (hpl : (backTo pos (starEach es X.env)).any (·.1) = false := by rfl) :
    DE X E G (.Call (.Name x p) (a :: es) [] pos) (ms >>= fun l => m l) := by
  obtain ⟨t, pa, w⟩ := ha
  refine ⟨_, pe_callD F hr hg hm hk hb .nil cx.pass pa hdb he hpl, fun B σ F H Q s g q => w B σ F H _ s g (WpG.bind q fun l F1 H1 vs x1 r1 k1 => ?_)⟩
  show spD X.K bs m (vs ++ []) H1 Q (E σ)
  rw [List.append_nil]
  exact ⟨F1, l, x1.sFH, r1, k1⟩

theorem ofString_inj {s t : String} (h : Str.ofString s = Str.ofString t) : s = t := by
  rw [Str.ofString_eq_toList, Str.ofString_eq_toList] at h
  have h1 : s.toList.map Char.toNat = t.toList.map Char.toNat := by
    have := congrArg (fun z : Str => z.cps.toList) h
    simpa using this
  have inj : ∀ l m : List Char, l.map Char.toNat = m.map Char.toNat → l = m := by
    intro l
    induction l with
    | nil => intro m h; cases m with
      | nil => rfl
      | cons _ _ => simp at h
    | cons c l ih => intro m h; cases m with
      | nil => simp at h
      | cons d m =>
        simp only [List.map_cons, List.cons.injEq] at h
        rw [ih m h.2]
        have : c = d := Char.ext (UInt32.toNat_inj.mp h.1)
        rw [this]
  have := inj _ _ h1
  have e := congrArg String.ofList this
  simpa using e
theorem field_look {K : PySem.W.Frag} {f : String} : ∀ {fs : List (Str × V)} {l : List (String × D)}, fs.map (·.1) = l.map (fun q => Str.ofString q.1) → RpL K F (fs.map (·.2)) (l.map (·.2)) →
    (l.lookup f = none ∧ fs.lookup (Str.ofString f) = none) ∨ ∃ d v, l.lookup f = some d ∧ fs.lookup (Str.ofString f) = some v ∧ Rp K F v d
  | [], [], _, _ => .inl ⟨rfl, rfl⟩
  | [], _ :: _, h, _ => by simp at h
  | _ :: _, [], h, _ => by simp at h
  | (g, v) :: fs, (g2, d) :: l, h, r => by
    have h1 : g = Str.ofString g2 ∧ fs.map (·.1) = l.map (fun q => Str.ofString q.1) := by simpa using h
    obtain ⟨rfl, h2⟩ := h1
    have r' : RpL K F (v :: fs.map (·.2)) (d :: l.map (·.2)) := r
    cases r' with
    | cons r1 r2 =>
      by_cases e : f = g2
      · subst e
        exact .inr ⟨d, v, by simp [List.lookup], by simp [List.lookup], r1⟩
      · have e1 : (f == g2) = false := beq_eq_false_iff_ne.mpr e
        have e2 : (Str.ofString f == Str.ofString g2) = false := beq_eq_false_iff_ne.mpr fun z => e (ofString_inj z)
        have a1 : List.lookup f ((g2, d) :: l) = l.lookup f := by simp [List.lookup, e1]
        have a2 : List.lookup (Str.ofString f) ((Str.ofString g2, v) :: fs) = fs.lookup (Str.ofString f) := by simp [List.lookup, e2]
        rw [a1, a2]
        exact field_look h2 r2
def D.attrC (cs : List String) (f : String) : D → M D
  | .ins c l => need (cs.contains c) >>= fun _ => match l.lookup f with | some d => .ok d | none => stuck
  | _ => stuck
theorem de_attr {cs : List String} {f : String} (hc : ∀ c ∈ cs, Cls X.K (He.ga X.K (Str.ofString c)) ∧ NoAttr X.K (He.ga X.K (Str.ofString c)) (Str.ofString f)) (ha : DR X E G a ma) (hb : attributeBase a (Str.ofString f) X.env (eval a X.env) = eval a X.env := by rfl) :
    DE X E G (.Attribute a (Str.ofString f) pos) (ma >>= fun x => D.attrC cs f x) := by
  obtain ⟨t, p, w⟩ := ha
  refine ⟨_, pe_fld p hb, fun B σ F H Q s g q => w B σ F H _ s g (WpG.bind q fun x F1 H1 v x1 r1 k1 => ?_)⟩
  cases x with
  | ins c l =>
    have k1 : WpG X.K (E σ) (rE X.K) (need (cs.contains c) >>= fun _ => match l.lookup f with | some d => .ok d | none => stuck) F1 H1 Q := k1
    obtain ⟨cc, k1⟩ := WpG.need k1
    obtain ⟨h1, h2⟩ := hc c (by simpa using cc)
    obtain ⟨p, dx, fs, rfl, e1, e2, r⟩ := r1.ins x1.sFH
    rcases field_look e2 r with ⟨n1, n2⟩ | ⟨d, v, l1, l2, r2⟩
    · rw [n1] at k1
      exact k1.elim
    · rw [l1] at k1
      exact ⟨p, _, dx, fs, v, rfl, e1, h1, h2, l2, k1 F1 H1 _ (Ext.refl x1.sFH) r2⟩
  | _ => exact k1.elim

def spI (K : PySem.W.Frag) (c : String) (bs : List Bool) (m : List D → M (List (String × D))) : Sp := fun vs H Q E => ∃ x dx vs' F B ds, vs = .ref x :: vs' ∧ H = upd (upd B dx (.own x)) x (.ins (He.ga K (Str.ofString c)) dx []) ∧ B x = none ∧ B dx = none ∧ dx ≠ x ∧ Same F B ∧ RpA K F B bs vs' ds ∧
  WpG K E (fun F' H' (v : V) (l : List (String × D)) => v = .non ∧ F' x = none ∧ ∃ dx' fs, H' x = some (.ins (He.ga K (Str.ofString c)) dx' fs) ∧ fs.map (·.1) = l.map (fun q => Str.ofString q.1) ∧ RpL K F' (fs.map (·.2)) (l.map (·.2))) (m ds) F B Q
theorem Ext.freezeO {F' H' : Hp} {p : Addr} {o : HO} (x : Ext F H F' H') (n : H p = none) (h : H' p = some o) (nf : F' p = none) : Ext F H (upd F' p o) H' where
  sF := fun b o q => by
    rw [upd_ne (fun z => by
      subst z
      have := x.sF _ _ q
      rw [nf] at this
      cases this)]
    exact x.sF _ _ q
  sH := x.sH
  sFH := fun b o q => by
    by_cases e : b = p
    · subst e
      rw [upd_same] at q
      cases q
      exact h
    · rw [upd_ne e] at q
      exact x.sFH _ _ q
  old := fun a o q => by
    rw [upd_ne (ne_of_none q n)]
    exact x.old a o q
theorem make_run {E₁ : XK} {c : String} {bs : List Bool} {m : List D → M (List (String × D))} {vs : List V} {ds : List D} {Q : VK} (s : Same F H) (r : RpA X.K F H bs vs ds) (q : WpG X.K E₁ (rE X.K) (m ds >>= fun l => .ok (.ins c l)) F H Q) :
    ∀ x dx, H x = none → H dx = none → dx ≠ x → spI X.K c bs m (.ref x :: (vs ++ [])) (upd (upd H dx (.own x)) x (.ins (He.ga X.K (Str.ofString c)) dx [])) (fun v H2 => v = .non ∧ Q (.ref x) H2) E₁ := fun x dx hx hdx ne => by
  rw [List.append_nil]
  refine ⟨x, dx, vs, F, H, ds, rfl, rfl, hx, hdx, ne, s, r, ?_⟩
  cases em : m ds with
  | ok l =>
    rw [em] at q
    intro F' H' v xx ⟨e1, e2, dx', fs, e3, e4, e5⟩
    exact ⟨e1, q _ H' _ (xx.freezeO hx e3 e2) (.ins upd_same e4 (e5.mono (same_new e2)))⟩
  | error er =>
    rw [em] at q
    cases er with
    | stuck => exact q.elim
    | exc y => exact q
end
section
variable {X : Cx} {E : XK} {G : List Sl} {a b c e : Expr} {ma mb mc : M D} {ta tb : M Bool} {pos : Pos} {F H : Hp}
theorem GOk.cons {K : PySem.W.Frag} {B F H : Hp} {G : List Sl} {σ : St} {s : Sl} {o : Option V} (g : GOk K B G σ F H) (h : SlOk K B F H o s) (hd : ∀ (j : Nat) (t : Sl) (a : Addr), G[j]? = some t → t.owns = true → s.owns = true → o = some (.ref a) → σ[j]? ≠ some (some (.ref a))) : GOk K B (s :: G) (o :: σ) F H := by
  refine ⟨g.sB, congrArg Nat.succ g.len, fun i t ht => ?_, fun i j s1 s2 a h1 h2 o1 o2 e1 e2 => ?_⟩
  · cases i with
    | zero =>
      cases ht
      exact ⟨o, rfl, h⟩
    | succ i => exact g.ok i t ht
  · cases i with
    | zero =>
      cases h1
      cases j with
      | zero => rfl
      | succ j =>
        have e1 : o = some (.ref a) := by simpa using e1
        have h2' : G[j]? = some s2 := h2
        exact absurd e2 (hd j s2 a h2' o2 o1 e1)
    | succ i => cases j with
      | zero =>
        cases h2
        have e2 : o = some (.ref a) := by simpa using e2
        have h1' : G[i]? = some s1 := h1
        exact absurd e1 (hd i s1 a h1' o1 o2 e2)
      | succ j => exact congrArg Nat.succ (g.dis i j s1 s2 a h1 h2 o1 o2 e1 e2)
theorem GOk.monoH {K : PySem.W.Frag} {B F H H' : Hp} {G : List Sl} {σ : St} (g : GOk K B G σ F H) (h : Same H H') : GOk K B G σ F H' := by
  refine ⟨g.sB.trans h, g.len, fun i s hs => ?_, g.dis⟩
  obtain ⟨o, h1, h2⟩ := g.ok i s hs
  refine ⟨o, h1, ?_⟩
  cases s with
  | un => exact h2
  | any => trivial
  | val d => exact h2
  | bor d => exact h2
  | tre b c l => exact ⟨h2.1, h2.2.1.trans h, h2.2.2⟩
  | exn b c l => exact h2
  | own l =>
    obtain ⟨a, xs, e, e2, r⟩ := h2
    exact ⟨a, xs, e, h _ _ e2, r⟩
  | ownd l =>
    obtain ⟨a, e, e2, r⟩ := h2
    obtain ⟨u, hu⟩ := e2.some
    refine ⟨a, e, ?_, r⟩
    rw [h _ _ hu, ← hu]
    exact e2
  | ownu l =>
    obtain ⟨a, e, e2, r⟩ := h2
    obtain ⟨u, hu⟩ := e2.some
    refine ⟨a, e, ?_, r⟩
    rw [h _ _ hu, ← hu]
    exact e2
  | obj a c l =>
    obtain ⟨dx, fs, e, e2, r⟩ := h2
    exact ⟨dx, fs, e, h _ _ e2, r⟩
def ocI (a : Addr) (c : String) (n : Nat) (l : List (String × D)) : Oc := .nx (.obj a c l :: List.replicate n .any)
theorem fn_init {P : Program} {w : World} {K : PySem.W.Frag} {mg : Str → Option Value} {base : Heap} {x qual : Str} {params : Arguments} {body : List Stmt} {scope : Scope} {dvs : List V} {kws : List (Str × V)} {f : Addr} {fd : FuncData}
    {N ps : List Str} {k : Nat} {c : String} {bs : List Bool} {m : List D → M (List (String × D))} (F : FunD K x qual params body scope dvs kws f fd) (S : FnScope N ps scope) (hbs : bs.length + 1 = ps.length) (hN : bs.length + 1 ≤ N.length)
    (hb : ∀ (cdv : Value) (A : Around) (outer : List Env) (s : Shared) (H : Hp) (E : XK), Room k (A.deeper (PyProof.Rows.envOfC qual scope s.heap.objs.size f cdv)) → ∀ (a : Addr) (ds : List D), ds.length = bs.length →
      DB (cxOf (L2.CX P w) P w K mg base N qual scope f cdv A outer s H E) E (.obj a c [] :: (argSl bs ds ++ List.replicate (N.length - (bs.length + 1)) .un)) body (m ds) (ocI a c (N.length - 1))) : FnOk P w K mg base (L2.CX P w) (k + 1) f fd ps (spI K c bs m) := by
  refine F.ok S (fun vs H Q E h => ?_) (fun cdv A outer s H vs Q E hr h => ?_)
  · obtain ⟨x, dx, vs', F, B, ds, rfl, _, _, _, _, _, r, _⟩ := h
    rw [List.length_cons, r.len.1, hbs]
  · obtain ⟨x, dx, vs', F, B, ds, rfl, rfl, hx, hdx, ne, sF, r, q⟩ := h
    obtain ⟨t, p, wt⟩ := hb cdv A outer s _ E hr x ds r.len.2
    have hx2 : (upd B dx (.own x)) x = none := by rw [upd_ne (Ne.symm ne)]; exact hx
    have sH : Same B (upd (upd B dx (.own x)) x (.ins (He.ga K (Str.ofString c)) dx [])) := (same_new hdx).trans (same_new hx2)
    have g0 : GOk K B (argSl bs ds ++ List.replicate (N.length - (bs.length + 1)) .un) (L2.start (N.tail) vs') F B := by
      have e : N.length - (bs.length + 1) = N.tail.length - bs.length := by rw [List.length_tail]; omega
      rw [e]
      exact gok_start r
    have x0 : Ext F B F (upd (upd B dx (.own x)) x (.ins (He.ga K (Str.ofString c)) dx [])) := ⟨Same.refl _, sH, sF.trans sH, fun _ _ _ => rfl⟩
    have g1 : GOk K B (.obj x c [] :: (argSl bs ds ++ List.replicate (N.length - (bs.length + 1)) .un)) (some (.ref x) :: L2.start (N.tail) vs') F (upd (upd B dx (.own x)) x (.ins (He.ga K (Str.ofString c)) dx [])) := by
      refine (g0.monoH sH).cons ⟨dx, [], rfl, upd_same, sF.free hx, hx, rfl, .nil⟩ fun j t a h1 h2 _ e1 e2 => ?_
      cases e1
      obtain ⟨u, hu⟩ := g0.owned h1 h2 e2
      rw [hx] at hu
      cases hu
    have es : L2.start N (.ref x :: vs') = some (.ref x) :: L2.start (N.tail) vs' := by
      unfold L2.start
      rw [List.length_cons, List.length_tail, List.map_cons]
      show _ :: (_ ++ _) = _ :: (_ ++ _)
      congr 3
      omega
    refine ⟨t, p, ?_⟩
    rw [es]
    refine wt F B _ F _ _ x0 g1 ?_
    cases em : m ds with
    | ok l =>
      rw [em] at q
      refine WpB.of_ok (fun σ' F' H' _ x' g' => ?_)
      obtain ⟨o, h1, dx', fs, rfl, h2, h3, h4, h5, h6⟩ := g'.ok 0 _ rfl
      exact q F' H' .non x' ⟨rfl, h3, dx', fs, h2, h5, h6⟩
    | error er =>
      rw [em] at q
      cases er with
      | stuck => exact q.elim
      | exc y => exact fun F' H' c d _ x' r' => q F' H' c d x' r'
end
end DL

set_option Elab.async false
set_option linter.all false
set_option maxRecDepth 100000
set_option maxHeartbeats 4000000
namespace DL
open PySem PySem.Spec L2

theorem meets_enum1 {v : Value} {o : Obj} {H : Heap → Prop} (B : Begins v o H) :
    Meets (Builtin.«enumerate.__new__» ⟨[.type "enumerate", v], []⟩) (fun _ R s => H s.heap ∧
      R (.ok (.ret (.ref (s.heap.push o).objs.size))) { s with heap := (s.heap.push o).push { cls := .type "enumerate", data := .fields #[.none, .bool false, .ref s.heap.objs.size, rawInt 0, .none, .none] } }) :=
  .of_wp fun prog w A R s h => by
    obtain ⟨hp, g, d, tk, os⟩ := s; obtain ⟨h1, h⟩ := h
    have hsub := sub_enumerate
    have q1 : ∀ {A' : Around} {E : Value → Shared → Prop} {Q : Value → Shared → Prop}, Q (.ref hp.objs.size) ⟨hp.push o, g, d, tk, os⟩ → wpAny (model prog w) A' (pyIter v) Q E ⟨hp, g, d, tk, os⟩ :=
      fun q => B.iter prog w _ _ ⟨hp, g, d, tk, os⟩ _ h1 q
    wp_walk using q1
    refine wpAny_stack_any fun st => wpAny_pure ?_
    split
    · rename_i c _ _ _ _ _
      cases (c == Value.type "enumerate")
      · wp_walk using q1
        exact ⟨_, rfl, h⟩
      · wp_walk using q1
        exact ⟨_, rfl, h⟩
    · wp_walk using q1
      exact ⟨_, rfl, h⟩
theorem enum1_begins {prog : Program} {w : World} {A : Around} {E : Value → Shared → Prop} {s : Shared} {v : Value} {o : Obj} {H : Heap → Prop} {Q : Value → Shared → Prop} (B : Begins v o H) (h1 : H s.heap)
    (h : ∀ h', IsEnum h' (s.heap.objs.size + 1) s.heap.objs.size 0 .none → h'.get? s.heap.objs.size = some o → h'.objs.size = s.heap.objs.size + 2 →
      (∀ b o, s.heap.get? b = some o → h'.get? b = some o) → Q (.ref (s.heap.objs.size + 1)) { s with heap := h' }) :
    wpAny (model prog w) A (call (.type "enumerate") [v]) Q E s := by
  refine callType_new PySem.F.called_enumerate (by decide) (PySem.F.typeCall_enumerate_1 _) (PySem.F.newCall_enumerate_1 _) (fun obj => PySem.F.args_object_init_2 obj _) PySem.F.entry_enumerate_new
    (meets_enum1 B) ⟨h1, ?_⟩
  have hz : (s.heap.push o).objs.size = s.heap.objs.size + 1 := Heap.size_push ..
  show _ ∧ _
  rw [hz]
  have he : IsEnum ((s.heap.push o).push { cls := .type "enumerate", data := .fields #[.none, .bool false, .ref s.heap.objs.size, rawInt 0, .none, .none] }) (s.heap.objs.size + 1) s.heap.objs.size 0 .none := by
    have := Heap.get?_push_size (s.heap.push o) (o := { cls := .type "enumerate", data := .fields #[.none, .bool false, .ref s.heap.objs.size, rawInt 0, .none, .none] }) rfl
    rw [hz] at this; exact this
  refine ⟨⟨_, he, rfl⟩, h _ he (Heap.get?_push_of_some _ (Heap.get?_push_size _ B.free)) (by rw [Heap.size_push, hz]) fun b o x => Heap.get?_push_of_some _ (Heap.get?_push_of_some _ x)⟩
def Sq (K : PySem.W.Frag) (tp : Bool) (H : Hp) (a : Addr) (xs : List V) : Prop := match tp with
  | true => SqT K H a xs
  | false => SqL K H a xs
def IsSq (tp : Bool) (h : Heap) (a : Addr) (its : Array Value) : Prop := match tp with
  | true => h.IsTuple a its
  | false => h.IsList a its
def IsSqIter (tp : Bool) (h : Heap) (it a : Addr) (i : Nat) : Prop := match tp with
  | true => h.IsTupleIter it a i
  | false => h.IsListIter it a i
def iterObj (tp : Bool) (a : Addr) : Obj := match tp with
  | true => { cls := .type "tuple_iterator", data := .fields #[.ref a, .int 0 0] }
  | false => { cls := .type "list_iterator", data := .fields #[.ref a, .int 0 0] }
section
variable {K : PySem.W.Frag} {tp : Bool} {a e it : Addr}
theorem sq_get {X : Cx} {pins : List (Addr × Obj)} {σ : St} {H : Hp} {s : Shared} {xs : List V} (I : Inv X pins σ H s) (h : Sq X.K tp H a xs) : ∃ its : List Value, Vals xs its ∧ IsSq tp s.heap a its.toArray ∧ xs.length ≤ sizeLine := by
  cases tp with
  | true =>
    obtain ⟨its, r, p, z⟩ := I.tuple h
    exact ⟨its, r, p, z⟩
  | false =>
    obtain ⟨its, r, p, z⟩ := I.list h
    exact ⟨its, r, p.isList, z⟩
theorem sq_inj {X : Cx} {pins : List (Addr × Obj)} {σ : St} {H : Hp} {s : Shared} {xs ys : List V} (I : Inv X pins σ H s) (h : Sq X.K tp H a xs) (h' : Sq X.K tp H a ys) : xs = ys := by
  cases tp with
  | true => exact I.tuple_inj h h'
  | false => exact I.list_inj h h'
theorem sq_begins (tp : Bool) (a : Addr) (its : Array Value) : Begins (.ref a) (iterObj tp a) fun h => IsSq tp h a its := by
  cases tp with
  | true => exact begins_tuple a its
  | false => exact begins_list a its
theorem sq_iter0 {h : Heap} (e : h.get? it = some (iterObj tp a)) : IsSqIter tp h it a 0 := by
  cases tp with
  | true => exact ⟨_, e, rfl, rfl⟩
  | false => exact ⟨_, e, rfl, rfl⟩
theorem sq_obj {h : Heap} {i : Nat} (st : IsSqIter tp h it a i) : ∃ o, h.get? it = some o ∧ ∀ v, o.data ≠ .cell v := by
  cases tp with
  | true =>
    obtain ⟨o, e, c, d⟩ := st
    exact ⟨o, e, fun v z => by rw [d] at z; cases z⟩
  | false =>
    obtain ⟨o, e, c, d⟩ := st
    exact ⟨o, e, fun v z => by rw [d] at z; cases z⟩
theorem sq_at {h h' : Heap} {i : Nat} (st : IsSqIter tp h it a i) (k : ∀ o, h.get? it = some o → h'.get? it = some o) : IsSqIter tp h' it a i := by
  cases tp with
  | true => exact Heap.IsTupleIter.at st k
  | false => exact Heap.IsListIter.at st k
theorem sq_ne {h : Heap} {i : Nat} {its : Array Value} (st : IsSqIter tp h it a i) (p : IsSq tp h a its) : a ≠ it := fun z => by
  subst z
  cases tp with
  | true =>
    obtain ⟨o, e, c, d⟩ := st
    obtain ⟨o2, e2, c2, _⟩ := p
    rw [e] at e2
    cases e2
    rw [c] at c2
    exact absurd (Value.type.inj c2) (by decide)
  | false =>
    obtain ⟨o, e, c, d⟩ := st
    obtain ⟨o2, e2, c2, _⟩ := p
    rw [e] at e2
    cases e2
    rw [c] at c2
    exact absurd (Value.type.inj c2) (by decide)
theorem sq_draws {prog : Program} {w : World} {A : Around} (hh : A.handled = none) (tp : Bool) (it l : Addr) (hne : l ≠ it) (items : Array Value) : Draws prog w A it [it, l] items.size (fun i v => items[i]? = some v) (fun i h => IsSqIter tp h it l i ∧ IsSq tp h l items) := by
  cases tp with
  | true => exact Draws.tuple hh it l hne items
  | false => exact Draws.list hh it l hne items
theorem sq_notEnum {h : Heap} {its : Array Value} {it : Addr} {c : Int} {old : Value} (p : IsSq tp h a its) (he : IsEnum h e it c old) : e ≠ a := fun z => by
  subst z
  cases tp with
  | true =>
    obtain ⟨o2, e2, c2, _⟩ := p
    rw [he] at e2
    cases e2
    exact absurd (Value.type.inj c2) (by decide)
  | false =>
    obtain ⟨o2, e2, c2, _⟩ := p
    rw [he] at e2
    cases e2
    exact absurd (Value.type.inj c2) (by decide)
end
def Iek (K : PySem.W.Frag) (tp : Bool) (a : Addr) (k : Int) : It :=
  ⟨fun i H => ∃ (xs : List V) (x : V), Sq K tp H a xs ∧ xs[i]? = some x, fun i H v H' => ∃ T x o, v = .ref T ∧ H T = none ∧ (o.cls = .type "tuple" ∧ o.dict = none) ∧ H' = upd H T (.frz o (.tup [.int (k + (i : Nat)), x])) ∧ ∀ xs, Sq K tp H a xs → xs[i]? = some x, fun i H => ∃ xs : List V, Sq K tp H a xs ∧ xs.length = i⟩
theorem turn_ek {P : Program} {w : World} {K : PySem.W.Frag} {elts : List Expr} {kk : Nat} {tpos : Pos} (tp : Bool) (k : Int) (a e it : Addr) :
    Turn P w K (.Tuple elts kk tpos) (Iek K tp a k) [e, it] e (fun i h => (∃ old, IsEnum h e it (k + (i : Nat)) old) ∧ IsSqIter tp h it a i ∧ e ≠ it) where
  mem := by simp
  obj := fun i h st b hb => by
    obtain ⟨⟨old, he⟩, hi, _⟩ := st
    have e' : b = e ∨ b = it := by simpa using hb
    rcases e' with z | z
    · rw [z]; exact ⟨_, he, fun v q => nomatch q⟩
    · rw [z]; exact sq_obj hi
  keep := fun i h h' st k => let ⟨⟨old, he⟩, hi, hne⟩ := st; ⟨⟨old, k e (by simp) _ he⟩, sq_at hi fun o q => k it (by simp) o q, hne⟩
  item := by
    intro X hP hw hK hc i pins s σ H E I hf st hg
    subst hP hw hK
    obtain ⟨⟨old, he⟩, hit, hne⟩ := st
    obtain ⟨xs, x, hq, hx⟩ := hg
    obtain ⟨its, rv, p, hz⟩ := sq_get I hq
    obtain ⟨u, hu, ru⟩ := rv.get hx
    have hel : e < s.heap.objs.size := Heap.lt_size he
    have hil : it < s.heap.objs.size := by obtain ⟨_, q, _⟩ := sq_obj hit; exact Heap.lt_size q
    have hin : X.A.in1.handled = none := I.ok.hd hc
    have hia : i < its.toArray.size := by
      have := (List.getElem?_eq_some_iff.mp hu).1
      simpa using this
    have hea : e ≠ a := sq_notEnum p he
    refine wpAny_pyNext_enum_itemC (sq_draws hin tp it a (sq_ne hit p) its.toArray) he ⟨hit, p⟩ hia hne (by simp [hne, hea]) fun y h' tk hy ho hst' hT hsz hk => ?_
    have eyu : y = u := by
      have hy : its.toArray[i]? = some y := hy
      have hu' : its.toArray[i]? = some u := by simpa using hu
      exact Option.some.inj (hy.symm.trans hu')
    subst eyu
    refine ⟨_, rfl, wpAny_letOwnedTupleGo_enum (s := { s with heap := h', toks := tk + 1 }) ho fun h'' he' sb => ?_⟩
    have hT2 : h''.get? s.heap.objs.size = some { cls := .type "tuple", data := .seq #[.int (k + (i : Nat)) tk, y] } := (sb.2 _ (Nat.ne_of_gt hel)).trans hT
    have new : ObjOk X.prog X.w (upd H s.heap.objs.size (.frz { cls := .type "tuple", data := .seq #[.int (k + (i : Nat)) tk, y] } (.tup [.int (k + (i : Nat)), x]))) h'' s.heap.objs.size (.frz { cls := .type "tuple", data := .seq #[.int (k + (i : Nat)) tk, y] } (.tup [.int (k + (i : Nat)), x])) :=
      ⟨hT2, by show 2 ≤ sizeLine; decide, [.int (k + (i : Nat)) tk, y], .cons ⟨_, rfl⟩ (.cons ru .nil), ⟨_, hT2, rfl, _, rfl⟩⟩
    have I1 : Inv X pins σ (upd H s.heap.objs.size (.frz { cls := .type "tuple", data := .seq #[.int (k + (i : Nat)) tk, y] } (.tup [.int (k + (i : Nat)), x]))) { s with heap := h'', toks := tk + 1 } :=
      I.turnedNew (ch := [e, it]) (fun b ob hb q => (sb.2 b (fun z => hb (by simp [z]))).trans (hk b ob (fun z => hb (by simp [z])) (fun z => hb (by simp [z])) q)) hf (Nat.le_refl _) new
    refine ⟨.ref s.heap.objs.size, _, I1, rfl, ⟨_, x, _, rfl, I.hok.fresh (Nat.le_refl _), ⟨rfl, rfl⟩, rfl, fun ys hy => by rw [sq_inj I hy hq]; exact hx⟩, ⟨⟨y, ?_⟩, sq_at hst'.1 fun o q => (sb.2 it (Ne.symm hne)).trans q, hne⟩, fun b hb => ?_⟩
    · have e1 : k + ((i + 1 : Nat) : Int) = k + (i : Nat) + 1 := by omega
      rw [e1]; exact he'
    · have hb' : b < s.heap.objs.size := by
        have e' : b = e ∨ b = it := by simpa using hb
        rcases e' with z | z
        · rw [z]; exact hel
        · rw [z]; exact hil
      rw [upd_ne (Nat.ne_of_lt hb')]
      exact (hf b hb).1
  done := by
    intro X hP hw hK hc i pins s σ H E I hf st hg
    subst hP hw hK
    obtain ⟨⟨old, he⟩, hit, hne⟩ := st
    obtain ⟨xs, hq, hx⟩ := hg
    obtain ⟨its, rv, p, hz⟩ := sq_get I hq
    obtain ⟨f0, f1, f2, f3, f4, f5⟩ := hf it (by simp)
    have hl := rv.length
    have hin : X.A.in1.handled = none := I.ok.hd hc
    have D := sq_draws (prog := X.prog) (w := X.w) hin tp it a (sq_ne hit p) its.toArray
    have ei : i = its.toArray.size := by simp; omega
    exact wpAny_pyNext_enum_endD D he (by rw [← ei]; exact ⟨hit, p⟩) fun h' eb => ⟨rfl, I.turned (t' := s.toks) (fun b o hb q => eb b o hb q) f0 f1 f3 f4 f5⟩
  self := fun A i s Q E st h => let ⟨⟨_, he⟩, _⟩ := st; wpAny_pyIter_enum he h
def iEk (K : PySem.W.Frag) (ta : TA) : TI := fun σ H R => ta σ H fun vs H1 => ∃ a xs tp, vs = [.ref a] ∧ Sq K tp H1 a xs ∧ R (Iek K tp a 0) H1
theorem boot_enum : bootBuiltins ("enumerate" : Str) = some (.type "enumerate") := by decide +kernel
theorem enum_fin {X : Cx} {pins : List (Addr × Obj)} {σ : St} {s1 : Shared} {H1 : Hp} {R : It → Hp → Prop} {tp : Bool} {a : Addr} {k : Int} {h' : Heap} {E : Value → Shared → Prop} {elts : List Expr} {kk : Nat} {tpos : Pos} (I1 : Inv X pins σ H1 s1) (he : IsEnum h' (s1.heap.objs.size + 1) s1.heap.objs.size k .none)
    (hit : h'.get? s1.heap.objs.size = some (iterObj tp a)) (hk : ∀ b o, s1.heap.get? b = some o → h'.get? b = some o) (q : R (Iek X.K tp a k) H1) : wpAny (model X.prog X.w) X.A (pyIter (.ref (s1.heap.objs.size + 1))) (PIE X pins σ (.Tuple elts kk tpos) R) E { s1 with heap := h' } := by
  refine wpAny_pyIter_enum he ?_
  have I2 : Inv X pins σ H1 { s1 with heap := h' } := I1.kept (t' := s1.toks) hk
  refine ⟨s1.heap.objs.size + 1, [s1.heap.objs.size + 1, s1.heap.objs.size], _, _, H1, rfl, I2, turn_ek tp k a (s1.heap.objs.size + 1) s1.heap.objs.size, ⟨⟨.none, ?_⟩, sq_iter0 hit, Nat.succ_ne_self _⟩, fun b hb => ?_, q⟩
  · have e1 : k + ((0 : Nat) : Int) = k := by omega
    rw [e1]
    exact he
  · have e' : b = s1.heap.objs.size + 1 ∨ b = s1.heap.objs.size := by simpa using hb
    have hle : s1.heap.objs.size ≤ b := by
      rcases e' with z | z
      · rw [z]; exact Nat.le_add_right _ _
      · rw [z]; exact Nat.le_refl _
    exact I1.fpOk hle (I1.hok.fresh hle)
theorem pi_ek {X : Cx} {e : Expr} {ta : TA} {p pos tpos : Pos} {elts : List Expr} {kk : Nat} (hg : Gl X "enumerate") (hm : X.mg "enumerate" = none) (ha : PA X [e] ta) (hs : starEach [e] X.env = [(false, eval e X.env)] := by rfl) :
    PI X (.Tuple elts kk tpos) (.Call (.Name "enumerate" p) [e] [] pos) (iEk X.K ta) := by
  refine ⟨fun pins s σ H R I h => ?_⟩
  refine PyProof.Rows.Call_ (ld_blt I hg hm boot_enum (PyProof.Rows.callWith_type1 (thn (ha.run pos pins s σ H _ I h) fun us s1 ⟨vs, H1, I1, r1, q1⟩ => ?_) hs rfl))
  obtain ⟨a, xs, tp, ex, hq, q⟩ := q1
  subst ex
  cases r1 with
  | cons r rr =>
    cases rr
    cases r
    obtain ⟨its, rv, p', hz⟩ := sq_get I1 hq
    exact enum1_begins (sq_begins tp a its.toArray) p' fun h' he hit hsz hk => enum_fin I1 he hit hk q
def enumL (k : Int) : List D → List D
  | [] => []
  | d :: ds => .tup [.int k, d] :: enumL (k + 1) ds
theorem enumL_len : ∀ (k : Int) (l : List D), (enumL k l).length = l.length
  | _, [] => rfl
  | k, _ :: l => congrArg Nat.succ (enumL_len (k + 1) l)
theorem enumL_get : ∀ (k : Int) (l : List D) (i : Nat), (enumL k l)[i]? = (l[i]?).map fun d => .tup [.int (k + (i : Nat)), d]
  | _, [], i => by simp [enumL]
  | k, d :: l, 0 => by simp [enumL]
  | k, d :: l, i + 1 => by
    simp only [enumL, List.getElem?_cons_succ]
    rw [enumL_get (k + 1) l i]
    have e : k + 1 + (i : Nat) = k + ((i + 1 : Nat) : Int) := by omega
    rw [e]
theorem yld_ek {K : PySem.W.Frag} {a : Addr} {tp : Bool} {k : Int} {xs : List V} {ds : List D} {F0 : Hp} {P : Hp → Hp → Prop} (r : RpL K F0 xs ds) (h : ∀ F H, P F H → Same F H → Same F0 F ∧ Sq K tp H a xs) : Yld K (Iek K tp a k) P (enumL k ds) := fun F H p s => by
  obtain ⟨h1, h2⟩ := h F H p s
  refine ⟨fun i d hd => ?_, ?_⟩
  · rw [enumL_get] at hd
    cases e : ds[i]? with
    | none => rw [e] at hd; cases hd
    | some d0 =>
      rw [e] at hd
      cases hd
      obtain ⟨x, hx, rx⟩ := r.get e
      refine ⟨⟨xs, x, h2, hx⟩, fun y H' hy => ?_⟩
      obtain ⟨T, z, o, rfl, nT, ⟨oc, od⟩, rfl, hz⟩ := hy
      have ez : x = z := Option.some.inj (hx.symm.trans (hz xs h2))
      subst ez
      have xx := Ext.new (o := .frz o (.tup [.int (k + (i : Nat)), x])) s nT
      exact ⟨_, xx, .tup (plT_new oc od) (.cons (.int _) (.one ((rx.mono h1).mono xx.sF)))⟩
  · exact ⟨xs, h2, by rw [enumL_len]; exact r.length⟩
section
variable {X : Cx} {E : St → XK} {G : List Sl} {a b c e : Expr} {ma mb mc : M D} {ta tb : M Bool} {pos : Pos} {F H : Hp}
def D.enum1 : List D → M (List D)
  | [.lst l] => .ok (enumL 0 l)
  | [.tup l] => .ok (enumL 0 l)
  | _ => stuck
theorem di_enum1 {p tpos : Pos} {elts : List Expr} {kk : Nat} {ms : M (List D)} (hg : Gl X "enumerate") (hm : X.mg "enumerate" = none) (ha : DA X E G [a] ms) (hs : starEach [a] X.env = [(false, eval a X.env)] := by rfl) : DI X E G (.Tuple elts kk tpos) (.Call (.Name "enumerate" p) [a] [] pos) (ms >>= fun l => D.enum1 l) := by
  obtain ⟨t, pp, w⟩ := ha
  refine ⟨_, pi_ek hg hm pp hs, fun B σ F H R s g q => w B σ F H _ s g (WpG.bind q fun l F1 H1 vs x1 r1 k1 => ?_)⟩
  cases r1 with
  | nil => exact k1.elim
  | @cons v vs d ds r1 r2 => cases r2 with
    | cons _ _ => cases d <;> exact k1.elim
    | nil => cases d with
      | lst l => cases r1 with
        | lst h r => exact ⟨_, _, false, rfl, SqL.of (x1.sFH _ _ h), k1 F1 H1 _ (Ext.refl x1.sFH) (yld_ek (tp := false) r fun F2 H2 p s2 => ⟨p, SqL.of (s2 _ _ (p _ _ h))⟩)⟩
      | tup l => cases r1 with
        | tup h r => exact ⟨_, _, true, rfl, Same.seqT x1.sFH (h).sqT, k1 F1 H1 _ (Ext.refl x1.sFH) (yld_ek (tp := true) r fun F2 H2 p s2 => ⟨p, Same.seqT s2 (Same.seqT p (h).sqT)⟩)⟩
      | _ => exact k1.elim
end
end DL

set_option Elab.async false
set_option linter.all false
set_option maxRecDepth 100000
set_option maxHeartbeats 4000000
namespace DL
open PySem PySem.Spec L2
section
variable {X : Cx} {E : St → XK} {G : List Sl} {a b c e : Expr} {ma mb mc : M D} {ta tb : M Bool} {pos : Pos} {F H : Hp} {st : Stmt} {rest body : List Stmt}

theorem GOk.writeS {K : PySem.W.Frag} {B F H : Hp} {σ : St} {i : Nat} {a : Addr} {s s' : Sl} {o : HO} (g : GOk K B G σ F H) (h : G[i]? = some s) (hs : s.owns = true) (e : σ[i]? = some (some (.ref a))) (fa : F a = none) (ba : B a = none) (new : SlOk K B F (upd H a o) (some (.ref a)) s') :
    GOk K B (G.set i s') σ F (upd H a o) where
  sB := fun c u hc => by
    rw [upd_ne (ne_of_none hc ba)]
    exact g.sB c u hc
  len := by rw [List.length_set]; exact g.len
  ok := fun j t hj => by
    by_cases ej : i = j
    · subst ej
      have hi := (List.getElem?_eq_some_iff.mp h).1
      rw [List.getElem?_set_self hi] at hj
      cases hj
      exact ⟨_, e, new⟩
    · rw [List.getElem?_set_ne ej] at hj
      obtain ⟨v, k1, k2⟩ := g.ok j t hj
      refine ⟨v, k1, ?_⟩
      cases t with
      | un => exact k2
      | any => trivial
      | val d => exact k2
      | bor d => exact k2
      | tre b c l => exact ⟨k2.1, fun x u hx => by
          rw [upd_ne (ne_of_none hx ba)]
          exact g.sB _ _ hx, k2.2.2⟩
      | exn b c l => exact k2
      | own m =>
        obtain ⟨b, ys, rfl, q⟩ := k2
        have nb : b ≠ a := fun z => by
          subst z
          exact ej (g.dis i j _ _ b h hj hs rfl e k1)
        exact ⟨b, ys, rfl, by rw [upd_ne nb]; exact q.1, q.2⟩
      | ownd m =>
        obtain ⟨b, rfl, q⟩ := k2
        have nb : b ≠ a := fun z => by
          subst z
          exact ej (g.dis i j _ _ b h hj hs rfl e k1)
        exact ⟨b, rfl, by rw [upd_ne nb]; exact q.1, q.2⟩
      | ownu m =>
        obtain ⟨b, rfl, q⟩ := k2
        have nb : b ≠ a := fun z => by
          subst z
          exact ej (g.dis i j _ _ b h hj hs rfl e k1)
        exact ⟨b, rfl, by rw [upd_ne nb]; exact q.1, q.2⟩
      | obj b c m =>
        obtain ⟨dx, fs, rfl, q⟩ := k2
        have nb : b ≠ a := fun z => by
          subst z
          exact ej (g.dis i j _ _ b h hj hs rfl e k1)
        exact ⟨dx, fs, rfl, by rw [upd_ne nb]; exact q.1, q.2⟩
  dis := fun j k t u b h1 h2 o1 o2 e1 e2 => by
    have own_at : ∀ (j : Nat) (t : Sl), (G.set i s')[j]? = some t → t.owns = true → ∃ t', G[j]? = some t' ∧ t'.owns = true := fun j t hj o => by
      by_cases ej : i = j
      · subst ej
        exact ⟨_, h, hs⟩
      · rw [List.getElem?_set_ne ej] at hj
        exact ⟨t, hj, o⟩
    obtain ⟨s1, q1, p1⟩ := own_at j t h1 o1
    obtain ⟨s2, q2, p2⟩ := own_at k u h2 o2
    exact g.dis j k s1 s2 b q1 q2 p1 p2 e1 e2
def putD (f : String) (d : D) : List (String × D) → List (String × D)
  | [] => [(f, d)]
  | (g, x) :: r => if g = f then (g, d) :: r else (g, x) :: putD f d r
theorem putF_rp {K : PySem.W.Frag} {f : String} {v : V} {d : D} (r : Rp K F v d) : ∀ {fs : List (Str × V)} {l : List (String × D)}, fs.map (·.1) = l.map (fun q => Str.ofString q.1) → RpL K F (fs.map (·.2)) (l.map (·.2)) →
    (putF (Str.ofString f) v fs).map (·.1) = (putD f d l).map (fun q => Str.ofString q.1) ∧ RpL K F ((putF (Str.ofString f) v fs).map (·.2)) ((putD f d l).map (·.2))
  | [], [], _, _ => ⟨rfl, .one r⟩
  | [], _ :: _, h, _ => by simp at h
  | _ :: _, [], h, _ => by simp at h
  | (g, x) :: fs, (g2, y) :: l, h, q => by
    have h1 : g = Str.ofString g2 ∧ fs.map (·.1) = l.map (fun q => Str.ofString q.1) := by simpa using h
    obtain ⟨rfl, h2⟩ := h1
    have q' : RpL K F (x :: fs.map (·.2)) (y :: l.map (·.2)) := q
    cases q' with
    | cons q1 q2 =>
      by_cases e : g2 = f
      · subst e
        have e1 : putF (Str.ofString g2) v ((Str.ofString g2, x) :: fs) = (Str.ofString g2, v) :: fs := if_pos rfl
        have e2 : putD g2 d ((g2, y) :: l) = (g2, d) :: l := if_pos rfl
        rw [e1, e2]
        exact ⟨by simp [h2], .cons r q2⟩
      · have e1 : putF (Str.ofString f) v ((Str.ofString g2, x) :: fs) = (Str.ofString g2, x) :: putF (Str.ofString f) v fs := if_neg fun z => e (ofString_inj z)
        have e2 : putD f d ((g2, y) :: l) = (g2, y) :: putD f d l := if_neg e
        rw [e1, e2]
        obtain ⟨i1, i2⟩ := putF_rp r h2 q2
        exact ⟨by simp [i1], .cons q1 i2⟩
def Sl.put (s : Sl) (f : String) (d : D) : M Sl := match s with
  | .obj a c l => need (decide (l.length < 1000)) >>= fun _ => .ok (.obj a c (putD f d l))
  | _ => stuck
theorem ds_field {E₁ : XK} {x : Str} {i : Nat} {a0 : Addr} {c f : String} {l : List (String × D)} {p1 p2 : Pos} {m : M D} (hs : G[i]? = some (.obj a0 c l)) (pv : PE X (.Name x p1) (tVar i)) (hc : Cls X.K (He.ga X.K (Str.ofString c)) ∧ NoAttr X.K (He.ga X.K (Str.ofString c)) (Str.ofString f)) (h : DE X (cE E₁) G e m)
    (hsw : swapsWith e (some (.Attribute (.Name x p1) (Str.ofString f) p2)) pos.line X.env = pure false) : DS X E₁ G (.Assign [.Attribute (.Name x p1) (Str.ofString f) p2] e pos) (m >>= fun d => (Sl.obj a0 c l).put f d) (fun s' => .nx (G.set i s')) := by
  obtain ⟨t, pe, w⟩ := h
  refine ⟨_, ps_fld pv pe hsw, fun B0 B σ F H D x0 g q => w B σ F H _ x0.sFH g (WpB.expr (H := H) x0 q fun d F' H' v x x' r qd => ?_)⟩
  obtain ⟨o, h1, dx, fs, rfl, h2, h3, h4, h5, h6⟩ := (g.ext x).ok i _ hs
  have qd : WpB X.K E₁ B0 B (fun s' => .nx (G.set i s')) (need (decide (l.length < 1000)) >>= fun _ => .ok (.obj a0 c (putD f d l))) F' D := qd
  cases hd : decide (l.length < 1000) with
  | false =>
    exfalso
    rw [hd] at qd
    exact qd
  | true =>
    rw [hd] at qd
    have hl := of_decide_eq_true hd
    have ef : fs.length = l.length := by
      have := congrArg List.length h5
      simpa using this
    refine ⟨_, h1, a0, _, dx, fs, rfl, h2, hc.1, hc.2, by rw [ef]; exact hl, ?_⟩
    have qd : WpB X.K E₁ B0 B (fun s' => .nx (G.set i s')) (.ok (.obj a0 c (putD f d l))) F' D := qd
    obtain ⟨r1, r2⟩ := putF_rp (f := f) r h5 h6
    exact qd.ok σ F' _ (Same.refl _) (x'.write h3 h4) ((g.ext x).writeS hs rfl h1 h3 h4 ⟨dx, _, rfl, upd_same, h3, h4, r1, r2⟩)

theorem need_ok {α β : Type} {b : Bool} {x : α} {k : α → M β} : ((need b >>= fun _ => (.ok x : M α)) >>= k) = (need b >>= fun _ => k x) := by cases b <;> rfl
def D.recv (c m : String) : D → M D
  | .ins c' l => do need (decide (c' = c) && (l.lookup m).isNone); .ok (.ins c' l)
  | _ => stuck
theorem de_meth {k : Nat} {f : Addr} {fd : FuncData} {ps : List Str} {bs : List Bool} {m : List D → M D} {c mn : String} {apos : Pos} {es : List Expr} {ms : M (List D)} {pl : Sem Bool} (cx : CtxOk X E) (hC : Cls X.K (He.ga X.K (Str.ofString c))) (hM : Meth X.K (He.ga X.K (Str.ofString c)) (Str.ofString mn) f)
    (F : FnOk X.prog X.w X.K X.mg X.base (L2.CX X.prog X.w) k f fd ps (spD X.K (true :: bs) m)) (hr : Room k X.A) (hb : Binds X.K fd ps []) (ho : DR X E G b mb) (ha : DAM X E G bs (a :: es) ms)
    (hst : starEach (a :: es) X.env = (false, eval a X.env) :: starEach es X.env := by rfl) (hpl : (backTo pos (starEach es X.env)).any (·.1) = false := by rfl)
    (ht : eval (.Call (.Attribute b (Str.ofString mn) apos) (a :: es) [] pos) X.env = (do
      let ov ← eval b X.env
      standAt apos.atName
      let (f, first) ← holding [ov] (getMethod ov (Str.ofString mn) pl)
      callWith pos f first (backTo pos (starEach (a :: es) X.env)) (backToKw pos (keywordEach [] X.env))) := by rfl) :
    DE X E G (.Call (.Attribute b (Str.ofString mn) apos) (a :: es) [] pos) (mb >>= fun x => D.recv c mn x >>= fun x => ms >>= fun l => m (x :: l)) := by
  obtain ⟨t1, p1, w1⟩ := ho
  obtain ⟨t2, p2, w2⟩ := ha
  refine ⟨_, pe_methS p1 hC hM F hr hb .nil cx.pass p2 hst hpl ht, fun B σ F H Q s g q => w1 B σ F H _ s g (WpG.bind q fun x F1 H1 v x1 r1 k1 => ?_)⟩
  cases x with
  | ins c' l =>
    have k1 : WpG X.K (E σ) (rE X.K) (need (decide (c' = c) && (l.lookup mn).isNone) >>= fun _ => ms >>= fun l' => m (.ins c' l :: l')) F1 H1 Q := by
      have e : (D.recv c mn (.ins c' l) >>= fun x => ms >>= fun l => m (x :: l)) = (need (decide (c' = c) && (l.lookup mn).isNone) >>= fun _ => ms >>= fun l' => m (.ins c' l :: l')) := need_ok
      rw [← e]
      exact k1
    obtain ⟨h, k2⟩ := WpG.need k1
    clear k1
    obtain ⟨h1, h2⟩ := and2 h
    have h1 := of_decide_eq_true h1
    subst h1
    obtain ⟨p, dx, fs, rfl, e1, e2, r⟩ := r1.ins x1.sFH
    refine ⟨p, dx, fs, rfl, e1, ?_, w2 B σ F1 H1 _ x1.sFH (g.ext x1) (WpG.bind k2 fun l' F2 H2 vs x2 r2 k3 => ?_)⟩
    · rcases field_look (f := mn) e2 r with ⟨n1, n2⟩ | ⟨d, v, l1, l2, r2⟩
      · exact n2
      · rw [l1] at h2
        cases h2
    · show spD X.K (true :: bs) m (.ref p :: (vs ++ [])) H2 Q (E σ)
      rw [List.append_nil]
      exact ⟨F2, _, x2.sFH, .bor (r1.ext x2) r2, k3⟩
  | _ => exact k1.elim
def D.isIns (c : String) : D → M D
  | .ins c' l => do need (decide (c' = c)); .ok (.ins c' l)
  | _ => stuck
theorem de_prop {k : Nat} {p g : Addr} {fd : FuncData} {ps : List Str} {m : List D → M D} {c f : String} (hC : Cls X.K (He.ga X.K (Str.ofString c))) (hP : PropOf X.K (He.ga X.K (Str.ofString c)) (Str.ofString f) p g)
    (F : FnOk X.prog X.w X.K X.mg X.base (L2.CX X.prog X.w) k g fd ps (spD X.K [true] m)) (hr : Room (k + 1) X.A) (hb : Binds X.K fd ps []) (ho : DR X E G b mb) (hE : ∀ l, ∀ x, m l ≠ .error (.exc x))
    (hab : attributeBase b (Str.ofString f) X.env (eval b X.env) = eval b X.env := by rfl) : DE X E G (.Attribute b (Str.ofString f) pos) (mb >>= fun x => D.isIns c x >>= fun x => m [x]) := by
  obtain ⟨t1, p1, w1⟩ := ho
  refine ⟨_, pe_prop p1 hC hP F hr hb .nil (passL (X := X.nox)) hab, fun B σ F H Q s g q => w1 B σ F H _ s g (WpG.bind q fun x F1 H1 v x1 r1 k1 => ?_)⟩
  cases x with
  | ins c' l =>
    have k1 : WpG X.K (E σ) (rE X.K) (need (decide (c' = c)) >>= fun _ => m [.ins c' l]) F1 H1 Q := by
      have e : (D.isIns c (.ins c' l) >>= fun x => m [x]) = (need (decide (c' = c)) >>= fun _ => m [.ins c' l]) := need_ok
      rw [← e]
      exact k1
    obtain ⟨h1, k2⟩ := WpG.need k1
    clear k1
    have h1 := of_decide_eq_true h1
    subst h1
    obtain ⟨p, dx, fs, rfl, e1, e2, r⟩ := r1.ins x1.sFH
    have k1 : WpG X.K (E σ) (rE X.K) (m [.ins c' l]) F1 H1 Q := k2
    refine ⟨p, dx, fs, rfl, e1, F1, _, x1.sFH, .bor r1 .nil, ?_⟩
    cases em : m [.ins c' l] with
    | ok d =>
      rw [em] at k1
      exact fun F' H' v x r => k1 F' H' v x r
    | error er => cases er with
      | stuck =>
        rw [em] at k1
        exact k1.elim
      | exc y => exact absurd em (hE _ _)
  | _ => exact k1.elim

theorem pts_no {b : D → M (List Sl)} : PTs X [] (tTst X.K b fun _ => .ok true) := ⟨fun pins s σ H Q I ⟨d, G', B, F, _, sm, _, q⟩ => pts_nil.run pins s σ H Q I (q F H _ (Ext.refl sm) rfl)⟩
theorem pts_if {b : D → M (List Sl)} {mt : D → M Bool} (h : ∀ d G', b d = .ok G' → DT X EN G' c (mt d)) : PTs X [c] (tTst X.K b mt) :=
  ⟨fun pins s σ H Q I ⟨d, G', B, F, e, sm, g, q⟩ => (pts_one (h d G' e).canon).run pins s σ H Q I ⟨B, F, sm, g, q⟩⟩
theorem elt_of {b : D → M (List Sl)} {me : D → M D} (h : ∀ d G', b d = .ok G' → DE X EN G' e (me d)) : PE X e (tElt X.K b me) :=
  ⟨fun pins s σ H Q I ⟨d, G', B, F, e, sm, g, q⟩ => (h d G' e).canon.run pins s σ H Q I ⟨B, F, sm, g, q⟩⟩
theorem dn_lc1 {tg iter : Expr} {scope : Scope} {own : List (Str × Nat)} {i : Nat} {mi : M (List D)} {me : D → M D} (hc : X.calm = true) (hN : X.N.Nodup) (hi : DIR X E G tg iter mi) (ok : BlkOk X.N X.env.scope scope own) (ho : own.map (·.2) = [i])
    (hg : ∀ (s : Shared) (H : Hp) (C : Addr) (cl : List (Str × Addr)) (fp : List Addr), PG (X.blk s H scope (compEnvC scope cl C X.env) fp) tg (gName i))
    (he : ∀ (s : Shared) (H : Hp) (C : Addr) (cl : List (Str × Addr)) (fp : List Addr) (d : D), DE (X.blk s H scope (compEnvC scope cl C X.env) fp) EN ((G.set i .any).set i (.val d)) e (me d))
    (hs : ∀ x, foldedSetIterable iter X.env x = pure x := by intro _; rfl) : DNL X E G (.ListComp e [⟨tg, iter, [], 0⟩] scope pos) (mi >>= fun ds => compL (fElt (fun _ => .ok true) me) ds) := by
  refine dn_lc (b := fun d => .ok ((G.set i .any).set i (.val d))) hc hN hi ok hg (fun x v B σ F H Q s g r k => ?_) (fun s H C cl fp => pts_no) (fun s H C cl fp => elt_of fun d G' e => ?_) (fun d y _ => ⟨_, rfl⟩) hs
  · obtain ⟨G', e, k⟩ := k
    cases e
    rw [ho] at g k
    exact k _ (g.set r) (fun j hj => List.getElem?_set_ne fun z => hj (by simp [z])) (by rw [List.length_set])
  · cases e
    exact he s H C cl fp d
theorem dn_lc2 {tg iter : Expr} {scope : Scope} {own : List (Str × Nat)} {i : Nat} {mi : M (List D)} {mt : D → M Bool} {me : D → M D} (hc : X.calm = true) (hN : X.N.Nodup) (hi : DIR X E G tg iter mi) (ok : BlkOk X.N X.env.scope scope own) (ho : own.map (·.2) = [i])
    (hg : ∀ (s : Shared) (H : Hp) (C : Addr) (cl : List (Str × Addr)) (fp : List Addr), PG (X.blk s H scope (compEnvC scope cl C X.env) fp) tg (gName i))
    (ht : ∀ (s : Shared) (H : Hp) (C : Addr) (cl : List (Str × Addr)) (fp : List Addr) (d : D), DT (X.blk s H scope (compEnvC scope cl C X.env) fp) EN ((G.set i .any).set i (.val d)) c (mt d))
    (he : ∀ (s : Shared) (H : Hp) (C : Addr) (cl : List (Str × Addr)) (fp : List Addr) (d : D), DE (X.blk s H scope (compEnvC scope cl C X.env) fp) EN ((G.set i .any).set i (.val d)) e (me d))
    (hs : ∀ x, foldedSetIterable iter X.env x = pure x := by intro _; rfl) : DNL X E G (.ListComp e [⟨tg, iter, [c], 0⟩] scope pos) (mi >>= fun ds => compL (fElt mt me) ds) := by
  refine dn_lc (b := fun d => .ok ((G.set i .any).set i (.val d))) hc hN hi ok hg (fun x v B σ F H Q s g r k => ?_) (fun s H C cl fp => pts_if fun d G' e => ?_) (fun s H C cl fp => elt_of fun d G' e => ?_) (fun d y _ => ⟨_, rfl⟩) hs
  · obtain ⟨G', e, k⟩ := k
    cases e
    rw [ho] at g k
    exact k _ (g.set r) (fun j hj => List.getElem?_set_ne fun z => hj (by simp [z])) (by rw [List.length_set])
  · cases e
    exact ht s H C cl fp d
  · cases e
    exact he s H C cl fp d
theorem ds_for1 {E₁ : XK} {S : Type} {tg iter : Expr} {mi : M (List D)} {i : Nat} {Γ : S → List Sl} {f : S → D → M S} (s0 : S) (hG : G = Γ s0) (cx : CtxOk X (cE E₁)) (hi : DI X (cE E₁) G tg iter mi) (pg : PG X tg (gName i))
    (hb : ∀ s d, DB X E₁ ((Γ s).set i (.val d)) body (f s d) (fun s => .nx (Γ s))) (hs : ∀ x, foldedSetIterable iter X.env x = pure x := by intro _; rfl) : DS X E₁ G (.For tg iter body [] pos) (mi >>= fun ds => loopF f ds s0) (fun s => .nx (Γ s)) :=
  ds_forF (vs := [i]) (bnd := fun s d => .ok ((Γ s).set i (.val d))) s0 hG cx.own cx.calm hi pg (fun s x v B σ F H Q sm g r ⟨G', e, k⟩ => by
    cases e
    exact k _ (g.set r) (fun j hj => List.getElem?_set_ne fun z => hj (by simp [z])) (by rw [List.length_set])) (fun _ _ _ _ => ⟨_, rfl⟩) (fun _ _ _ _ => ⟨_, rfl⟩) (fun s d G' e => by
    cases e
    exact hb s d) hs
theorem ds_for1R {E₁ : XK} {S : Type} {tg iter : Expr} {mi : M (List D)} {i : Nat} {Γ : S → List Sl} {f : S → D → M (Rs S)} (s0 : S) (hG : G = Γ s0) (cx : CtxOk X (cE E₁)) (hi : DI X (cE E₁) G tg iter mi) (pg : PG X tg (gName i))
    (hb : ∀ s d, DB X E₁ ((Γ s).set i (.val d)) body (f s d) (Rs.oc Γ)) (hs : ∀ x, foldedSetIterable iter X.env x = pure x := by intro _; rfl) : DS X E₁ G (.For tg iter body [] pos) (mi >>= fun ds => loopR f ds s0) (sumOc Γ) :=
  ds_forR (vs := [i]) (bnd := fun s d => .ok ((Γ s).set i (.val d))) s0 hG cx.own cx.calm hi pg (fun s x v B σ F H Q sm g r ⟨G', e, k⟩ => by
    cases e
    exact k _ (g.set r) (fun j hj => List.getElem?_set_ne fun z => hj (by simp [z])) (by rw [List.length_set])) (fun _ _ _ _ => ⟨_, rfl⟩) (fun _ _ _ _ => ⟨_, rfl⟩) (fun s d G' e => by
    cases e
    exact hb s d) hs
def on2 {α : Type} (f : D → D → M α) : D → M α
  | .tup [a, b] => f a b
  | _ => stuck
theorem on2_not {α : Type} {f : D → D → M α} {d : D} (h : on2 f d ≠ stuck) : ∃ a b, d = .tup [a, b] := by
  unfold on2 at h
  split at h
  · exact ⟨_, _, rfl⟩
  · exact absurd rfl h
theorem ds_for2R {E₁ : XK} {S : Type} {tg iter : Expr} {mi : M (List D)} {i j : Nat} {Γ : S → List Sl} {f : S → D → D → M (Rs S)} (s0 : S) (hG : G = Γ s0) (cx : CtxOk X (cE E₁)) (hi : DI X (cE E₁) G tg iter mi) (pg : PG X tg (gTup X.K 2 (gNames [i, j])))
    (hb : ∀ s d1 d2, DB X E₁ (((Γ s).set i (.val d1)).set j (.val d2)) body (f s d1 d2) (Rs.oc Γ)) (hs : ∀ x, foldedSetIterable iter X.env x = pure x := by intro _; rfl) : DS X E₁ G (.For tg iter body [] pos) (mi >>= fun ds => loopR (fun s => on2 (f s)) ds s0) (sumOc Γ) :=
  ds_forR (vs := [i, j]) (bnd := fun s d => bindTup (Γ s) [i, j] d) s0 hG cx.own cx.calm hi pg (fun s x v B σ F H Q sm g r ⟨G', e, k⟩ => by
    cases x with
    | tup ds => cases r with
      | tup h hs => exact ⟨_, _, rfl, Same.seqT sm (h).sqT, by rw [hs.length, setAll_len e]; rfl, gNames_run sm g hs e k⟩
    | _ => cases e) (fun s d r e => by
    obtain ⟨a, b, rfl⟩ := on2_not (f := f s) (d := d) (by rw [e]; exact fun z => nomatch z)
    exact ⟨_, rfl⟩) (fun s d r e => by
    obtain ⟨a, b, rfl⟩ := on2_not (f := f s) (d := d) (by rw [e]; exact fun z => nomatch z)
    exact ⟨_, rfl⟩) (fun s d G' e => by
    cases d with
    | tup ds => match ds, e with
      | [], e => cases e
      | [_], e => cases e
      | [a, b], e =>
        cases e
        exact hb s a b
      | _ :: _ :: _ :: _, e => cases e
    | _ => cases e) hs
end
end DL

set_option Elab.async false
set_option linter.all false
set_option maxRecDepth 100000
set_option maxHeartbeats 4000000
namespace DL
open PySem PySem.Spec L2

theorem _root_.L2.Room.u70 {k : Nat} {A : Around} (r : Room k A) : A.units + 70 < cLine := by have := r.un; omega
theorem _root_.L2.Room.u64 {k : Nat} {A : Around} (r : Room k A) : A.units + 64 < cLine := by have := r.un; omega
@[simp] abbrev B2 {α β γ : Type} (f : α → β → M γ) (a : M α) (b : M β) : M γ := a >>= fun x => b >>= fun y => f x y
@[simp] abbrev B1 {α γ : Type} (f : α → M γ) (a : M α) : M γ := a >>= fun x => f x
@[simp] abbrev A0 : M (List D) := .ok []
@[simp] abbrev A1 (a : M D) (r : M (List D)) : M (List D) := a >>= fun x => r >>= fun xs => .ok (x :: xs)
@[simp] abbrev mIf {α : Type} (c : M Bool) (a b : M α) : M α := c >>= fun x => if x = true then a else b
@[simp] abbrev mAnd (a b : M Bool) : M Bool := a >>= fun x => if x = true then b else .ok false
@[simp] abbrev mOr (a b : M Bool) : M Bool := a >>= fun x => if x = true then .ok true else b
@[simp] abbrev mNot (a : M Bool) : M Bool := a >>= fun x => .ok (!x)
@[simp] abbrev vAnd (a b : M D) : M D := a >>= fun x => D.tru x >>= fun k => if k = true then b else .ok x
@[simp] abbrev vOr (a b : M D) : M D := a >>= fun x => D.tru x >>= fun k => if k = true then .ok x else b
@[simp] abbrev vNot (a : M D) : M D := a >>= fun x => D.tru x >>= fun k => .ok (.bl (!k))
@[simp] abbrev C2 (f : D → D → M Bool) (a b : M D) : M D := a >>= fun x => b >>= fun y => bD (f x y)
@[simp] abbrev C3 (f g : D → D → M Bool) (a b c : M D) : M D := a >>= fun x => b >>= fun y => f x y >>= fun k => if k = true then c >>= fun z => bD (g y z) else .ok (.bl false)
@[simp] abbrev T3 (f g : D → D → M Bool) (a b c : M D) : M Bool := a >>= fun x => b >>= fun y => f x y >>= fun k => if k = true then c >>= fun z => g y z else .ok false
@[simp] abbrev S3 (a : M D) (l h : M (Option Int)) : M D := a >>= fun x => l >>= fun l => h >>= fun h => D.sl x l h
@[simp] abbrev L1 (m : M (List D)) : M D := m >>= fun l => .ok (.lst l)
@[simp] abbrev oN : M (Option Int) := .ok none
@[simp] abbrev mPush (l : List D) (m : M D) : M (List D) := m >>= fun d => need (decide (l.length < sizeLine)) >>= fun _ => .ok (l ++ [d])
@[simp] abbrev mkIns (c : String) (m : List D → M (List (String × D))) (a : M (List D)) : M D := a >>= fun l => m l >>= fun l => .ok (.ins c l)
@[simp] abbrev noT : D → M Bool := fun _ => .ok true
@[simp] abbrev nLst (m : M (List D)) : M (List D) := m >>= fun l => need (decide (l.length ≤ sizeLine)) >>= fun _ => .ok l
abbrev nList (m : M (List D)) : M (List D) := m >>= fun l => match l with | [.lst l] => .ok l | [.tup l] => .ok l | _ => stuck
@[simp] def a1 {α : Type} (f : D → M α) : List D → M α
  | [a] => f a
  | _ => stuck
@[simp] def a2 {α : Type} (f : D → D → M α) : List D → M α
  | [a, b] => f a b
  | _ => stuck
@[simp] def a3 {α : Type} (f : D → D → D → M α) : List D → M α
  | [a, b, c] => f a b c
  | _ => stuck
@[simp] def a4 {α : Type} (f : D → D → D → D → M α) : List D → M α
  | [a, b, c, d] => f a b c d
  | _ => stuck
@[simp] def a5 {α : Type} (f : D → D → D → D → D → M α) : List D → M α
  | [a, b, c, d, e] => f a b c d e
  | _ => stuck
@[simp] def a6 {α : Type} (f : D → D → D → D → D → D → M α) : List D → M α
  | [a, b, c, d, e, g] => f a b c d e g
  | _ => stuck
section
variable {X : Cx} {E : XK} {G : List Sl} {a b c e : Expr} {ma mb mc : M D} {ta tb : M Bool} {pos : Pos} {F H : Hp} {st : Stmt} {rest body : List Stmt}
theorem dr_val {E₁ : St → XK} {i : Nat} {d : D} {x : Str} (h : G[i]? = some (.val d)) (p : PE X (.Name x pos) (tVar i)) : DR X E₁ G (.Name x pos) (.ok d) := dr_var h p
theorem dr_own {E₁ : St → XK} {i : Nat} {l : List D} {x : Str} (h : G[i]? = some (.own l)) (p : PE X (.Name x pos) (tVar i)) : DR X E₁ G (.Name x pos) (.ok (.lst l)) := dr_var h p
theorem dr_bor {E₁ : St → XK} {i : Nat} {d : D} {x : Str} (h : G[i]? = some (.bor d)) (p : PE X (.Name x pos) (tVar i)) : DR X E₁ G (.Name x pos) (.ok d) := dr_var h p
theorem dr_obj {E₁ : St → XK} {i : Nat} {l : List (String × D)} {x : Str} {a : Addr} {c : String} (h : G[i]? = some (.obj a c l)) (p : PE X (.Name x pos) (tVar i)) : DR X E₁ G (.Name x pos) (.ok (.ins c l)) := dr_var h p
theorem de_gintE {E₁ : St → XK} {x : Str} {i : Int} (hg : Gl X x) (hm : ∃ t, X.mg x = some (.int i t)) (hd : (x == ("__debug__" : Str)) = false := by decide) : DE X E₁ G (.Name x pos) (.ok (.int i)) := let ⟨_, h⟩ := hm; de_gint hg h hd
theorem de_gstrE {E₁ : St → XK} {x z : Str} (hg : Gl X x) (hm : ∃ t, X.mg x = some (.str z t)) (hz : PyData.strOk z = true := by decide) (hd : (x == ("__debug__" : Str)) = false := by decide) : DE X E₁ G (.Name x pos) (.ok (.str z)) := let ⟨_, h⟩ := hm; de_gstr hg h hz hd
theorem DNL.de {E₁ : St → XK} {m : M (List D)} (h : DNL X E₁ G e m) : DE X E₁ G e (m >>= fun l => .ok (.lst l)) := h.dn.de

theorem db_step {α β : Type} {m1 : M β} {G1 : β → List Sl} (G2 : β → List Sl) {k : β → M α} {post : α → Oc} (h1 : DS X E G st m1 (fun j => .nx (G1 j))) (e : ∀ j, G1 j = G2 j) (h2 : ∀ j, DB X E (G2 j) rest (k j) post) : DB X E G (st :: rest) (m1 >>= k) post :=
  db_then h1 fun j => by
    rw [e j]
    exact h2 j
theorem db_G {α : Type} (G2 : List Sl) {m : M α} {post : α → Oc} (e : G = G2) (h : DB X E G2 body m post) : DB X E G body m post := by
  rw [e]
  exact h
theorem db_fzO {α : Type} (i : Nat) {l : List D} {m : M α} {post : α → Oc} (hs : G[i]? = some (.own l)) (h : DB X E (G.set i (.val (.lst l))) body m post) : DB X E G body m post := db_fz hs h
theorem ds_pushO {x : Str} {i : Nat} {l : List D} {p1 p2 p3 : Pos} {m : M D} (hs : G[i]? = some (.own l)) (pv : PE X (.Name x p1) (tVar i)) (h : DE X (cE E) G e m)
    (hfew : ((backTo p3 (starEach [e] X.env)).all (fun x => !x.1) && (backToKw p3 (keywordEach [] X.env)).all (fun x => x.1.isSome)
      && decide (([e] : List Expr).length + ([] : List Keyword).length + (if ([] : List Keyword).isEmpty then 0 else 1) < 30)) = true := by rfl)
    (hbase : attributeBase (.Name x p1) "append" X.env (eval (.Name x p1) X.env) = eval (.Name x p1) X.env := by rfl)
    (hline : (p2.endLine == p3.line) = true := by rfl) (hst : starEach [e] X.env = (false, eval e X.env) :: starEach [] X.env := by rfl) (hplain : (backTo p3 (starEach [] X.env)).any (·.1) = false := by rfl) :
    DS X E G (.Expr (.Call (.Attribute (.Name x p1) "append" p2) [e] [] p3) pos) (m >>= fun d => need (decide (l.length < sizeLine)) >>= fun _ => .ok (l ++ [d])) (fun l' => .nx (G.set i (.own l'))) := by
  obtain ⟨t, ps, w⟩ := ds_push hs pv h hfew hbase hline hst hplain
  refine ⟨t, ps, fun B0 B σ F H D x0 g q => w B0 B σ F H D x0 g ?_⟩
  show WpB X.K E B0 B (fun s' => .nx (G.set i s')) (m >>= fun d => need (decide (l.length < sizeLine)) >>= fun _ => .ok (.own (l ++ [d]))) F D
  cases m with
  | error er => cases er with
    | stuck => exact q.elim
    | exc y => exact q
  | ok d =>
    have q : WpB X.K E B0 B (fun l' => .nx (G.set i (.own l'))) (need (decide (l.length < sizeLine)) >>= fun _ => .ok (l ++ [d])) F D := q
    show WpB X.K E B0 B (fun s' => .nx (G.set i s')) (need (decide (l.length < sizeLine)) >>= fun _ => .ok (.own (l ++ [d]))) F D
    cases hd : decide (l.length < sizeLine) with
    | false =>
      exfalso
      rw [hd] at q
      exact q
    | true =>
      rw [hd] at q
      exact q
theorem ds_setLc {i : Nat} {y : Str} {py : Pos} {m : M (List D)} (h : DNL X (cE E) G e m) (hy : X.N[i]? = some y) (hl : X.env.scope.names.lookup y = some .local) (hs : swapsWith e (some (.Name y py)) pos.line X.env = pure true) :
    DS X E G (.Assign [.Name y py] e pos) (m >>= fun l => .ok (.lst l)) (fun d => .nx (G.set i (.val d))) := by
  obtain ⟨t, _, ps, w⟩ := h
  refine ⟨_, ps hy hl hs, fun B0 B σ F H D x0 g q => w B σ F H _ x0.sFH g ?_⟩
  cases m with
  | ok l =>
    intro F' H' v x ⟨p, xs, ev, n, h, nf, r⟩
    subst ev
    exact q.ok _ _ H' (x.freeze n h nf).sF (x0.trans (x.freeze n h nf)) ((g.ext (x.freeze n h nf)).set (.lst upd_same (r.mono (same_new nf))))
  | error er => cases er with
    | stuck => exact q.elim
    | exc y => exact fun F' H' c d x r => q F' H' c d x.sF (x0.trans x) r
theorem ds_setLcN {i : Nat} {y : Str} {py : Pos} {m : M (List D)} (h : DNL X (cE E) G e m) (hy : X.N[i]? = some y) (hl : X.env.scope.names.lookup y = some .local) (hs : swapsWith e (some (.Name y py)) pos.line X.env = pure true) :
    DS X E G (.Assign [.Name y py] e pos) m (fun l => .nx (G.set i (.own l))) := by
  obtain ⟨t, _, ps, w⟩ := h
  refine ⟨_, ps hy hl hs, fun B0 B σ F H D x0 g q => w B σ F H _ x0.sFH g ?_⟩
  cases m with
  | ok l =>
    intro F' H' v x ⟨a, xs, ev, n, h1, f1, r1⟩
    subst ev
    have hB : B a = none := x0.sH.free n
    exact q.ok _ F' H' x.sF (x0.trans x) ((g.ext x).setOwn h1 f1 hB r1 fun j s hj oj ej => by
      obtain ⟨u, hu⟩ := g.owned hj oj ej
      rw [n] at hu
      cases hu)
  | error er => cases er with
    | stuck => exact q.elim
    | exc y => exact fun F' H' c d x r => q F' H' c d x.sF (x0.trans x) r

@[simp] def un2 {α : Type} (k : D → D → M α) : D → M α
  | .tup [a, b] => k a b
  | .lst [a, b] => k a b
  | _ => stuck
@[simp] def un3 {α : Type} (k : D → D → D → M α) : D → M α
  | .tup [a, b, c] => k a b c
  | .lst [a, b, c] => k a b c
  | _ => stuck
@[simp] def un4 {α : Type} (k : D → D → D → D → M α) : D → M α
  | .tup [a, b, c, d] => k a b c d
  | .lst [a, b, c, d] => k a b c d
  | _ => stuck
@[simp] def un5 {α : Type} (k : D → D → D → D → D → M α) : D → M α
  | .tup [a, b, c, d, e] => k a b c d e
  | .lst [a, b, c, d, e] => k a b c d e
  | _ => stuck
@[simp] def un6 {α : Type} (k : D → D → D → D → D → D → M α) : D → M α
  | .tup [a, b, c, d, e, f] => k a b c d e f
  | .lst [a, b, c, d, e, f] => k a b c d e f
  | _ => stuck
theorem un3_kk {α : Type} {k : D → D → D → M α} : ∀ ds : List D, ds.length = 3 → un3 k (.tup ds) = un3 k (.lst ds)
  | [], h => absurd h (by simp)
  | [_], h => absurd h (by simp)
  | [_, _], h => absurd h (by simp)
  | [_, _, _], _ => rfl
  | _ :: _ :: _ :: _ :: _, h => absurd h (by simp only [List.length_cons]; omega)
theorem un4_kk {α : Type} {k : D → D → D → D → M α} : ∀ ds : List D, ds.length = 4 → un4 k (.tup ds) = un4 k (.lst ds)
  | [], h => absurd h (by simp)
  | [_], h => absurd h (by simp)
  | [_, _], h => absurd h (by simp)
  | [_, _, _], h => absurd h (by simp)
  | [_, _, _, _], _ => rfl
  | _ :: _ :: _ :: _ :: _ :: _, h => absurd h (by simp only [List.length_cons]; omega)
theorem un6_kk {α : Type} {k : D → D → D → D → D → D → M α} : ∀ ds : List D, ds.length = 6 → un6 k (.tup ds) = un6 k (.lst ds)
  | [], h => absurd h (by simp)
  | [_], h => absurd h (by simp)
  | [_, _], h => absurd h (by simp)
  | [_, _, _], h => absurd h (by simp)
  | [_, _, _, _], h => absurd h (by simp)
  | [_, _, _, _, _], h => absurd h (by simp)
  | [_, _, _, _, _, _], _ => rfl
  | _ :: _ :: _ :: _ :: _ :: _ :: _ :: _, h => absurd h (by simp only [List.length_cons]; omega)
theorem db_tup {α : Type} {tg : Expr} {is : List Nat} {n : Nat} {m : M D} {k : D → M α} {post : α → Oc} (h : DE X (cE E) G e m) (hn : is.length = n) (p : PG X tg (gSeq X.K n (gNames is)))
    (hs : swapsWithSole [tg] e pos.line X.env = pure false) (hw : swappedStores [tg] e X.env = pure none) (h1 : (assignEach [tg] X.env).map (·.2) = [assign tg X.env])
    (hk : ∀ d, (∃ ds, (d = .tup ds ∨ d = .lst ds) ∧ ds.length = n ∧ DB X E (setT G is ds) rest (k d) post) ∨ k d = stuck) (hkk : ∀ ds, ds.length = n → k (.tup ds) = k (.lst ds)) : DB X E G (.Assign [tg] e pos :: rest) (m >>= k) post := by
  have q := ds_tup (pos := pos) (tg := tg) (is := is) (n := n) h hn (fun {te} pe => ps_asg pe p hs hw h1)
  have stk : ∀ l : List D, ¬ l.length = n → k (.tup l) = stuck ∧ k (.lst l) = stuck := fun l hl => by
    refine ⟨?_, ?_⟩
    · rcases hk (.tup l) with ⟨ds, e1, e2, _⟩ | e1
      · rcases e1 with e1 | e1
        · cases e1
          exact absurd e2 hl
        · cases e1
      · exact e1
    · rcases hk (.lst l) with ⟨ds, e1, e2, _⟩ | e1
      · rcases e1 with e1 | e1
        · cases e1
        · cases e1
          exact absurd e2 hl
      · exact e1
  have eq : (m >>= k) = ((m >>= fun d => D.un n d) >>= fun ds => if ds.length = n then k (.tup ds) else stuck) := by
    cases m with
    | error er => rfl
    | ok d =>
      show k d = (D.un n d >>= fun ds => if ds.length = n then k (.tup ds) else stuck)
      cases d with
      | tup l =>
        show k (.tup l) = ((need (decide (l.length = n)) >>= fun _ => .ok l) >>= fun ds => if ds.length = n then k (.tup ds) else stuck)
        by_cases hl : l.length = n
        · rw [decide_eq_true hl]
          show _ = (if l.length = n then k (.tup l) else stuck)
          rw [if_pos hl]
        · rw [decide_eq_false hl]
          exact (stk l hl).1
      | lst l =>
        show k (.lst l) = ((need (decide (l.length = n)) >>= fun _ => .ok l) >>= fun ds => if ds.length = n then k (.tup ds) else stuck)
        by_cases hl : l.length = n
        · rw [decide_eq_true hl]
          show _ = (if l.length = n then k (.tup l) else stuck)
          rw [if_pos hl, hkk l hl]
        · rw [decide_eq_false hl]
          exact (stk l hl).2
      | _ =>
        refine Or.elim (hk _) (fun z => ?_) (fun z => z)
        obtain ⟨ds, e1, _⟩ := z
        rcases e1 with e1 | e1 <;> cases e1
  rw [eq]
  refine db_then q fun ds => ?_
  by_cases hl : ds.length = n
  · rw [if_pos hl]
    rcases hk (.tup ds) with ⟨ds', e1, e2, h⟩ | e1
    · rcases e1 with e1 | e1
      · cases e1
        exact h
      · cases e1
    · rw [e1]
      exact db_stuck
  · rw [if_neg hl]
    exact db_stuck
theorem db_un3' {α : Type} {tg : Expr} (is : List Nat) {m : M D} {k : D → D → D → M α} {post : α → Oc} (G2 : D → D → D → List Sl) (h : DE X (cE E) G e m) (hn : is.length = 3) (p : PG X tg (gSeq X.K 3 (gNames is)))
    (hs : swapsWithSole [tg] e pos.line X.env = pure false) (hw : swappedStores [tg] e X.env = pure none) (h1 : (assignEach [tg] X.env).map (·.2) = [assign tg X.env])
    (e2 : ∀ a b c, setT G is [a, b, c] = G2 a b c) (hk : ∀ a b c, DB X E (G2 a b c) rest (k a b c) post) : DB X E G (.Assign [tg] e pos :: rest) (m >>= un3 k) post :=
  db_tup h hn p hs hw h1 (hkk := un3_kk) fun d => by
    unfold un3
    split
    · rename_i a b c
      exact .inl ⟨[a, b, c], .inl rfl, rfl, by rw [e2]; exact hk a b c⟩
    · rename_i a b c
      exact .inl ⟨[a, b, c], .inr rfl, rfl, by rw [e2]; exact hk a b c⟩
    · exact .inr rfl
theorem db_un4' {α : Type} {tg : Expr} (is : List Nat) {m : M D} {k : D → D → D → D → M α} {post : α → Oc} (G2 : D → D → D → D → List Sl) (h : DE X (cE E) G e m) (hn : is.length = 4) (p : PG X tg (gSeq X.K 4 (gNames is)))
    (hs : swapsWithSole [tg] e pos.line X.env = pure false) (hw : swappedStores [tg] e X.env = pure none) (h1 : (assignEach [tg] X.env).map (·.2) = [assign tg X.env])
    (e2 : ∀ a b c d, setT G is [a, b, c, d] = G2 a b c d) (hk : ∀ a b c d, DB X E (G2 a b c d) rest (k a b c d) post) : DB X E G (.Assign [tg] e pos :: rest) (m >>= un4 k) post :=
  db_tup h hn p hs hw h1 (hkk := un4_kk) fun d => by
    unfold un4
    split
    · rename_i a b c d
      exact .inl ⟨[a, b, c, d], .inl rfl, rfl, by rw [e2]; exact hk a b c d⟩
    · rename_i a b c d
      exact .inl ⟨[a, b, c, d], .inr rfl, rfl, by rw [e2]; exact hk a b c d⟩
    · exact .inr rfl
theorem db_un6' {α : Type} {tg : Expr} (is : List Nat) {m : M D} {k : D → D → D → D → D → D → M α} {post : α → Oc} (G2 : D → D → D → D → D → D → List Sl) (h : DE X (cE E) G e m) (hn : is.length = 6) (p : PG X tg (gSeq X.K 6 (gNames is)))
    (hs : swapsWithSole [tg] e pos.line X.env = pure false) (hw : swappedStores [tg] e X.env = pure none) (h1 : (assignEach [tg] X.env).map (·.2) = [assign tg X.env])
    (e2 : ∀ a b c d e f, setT G is [a, b, c, d, e, f] = G2 a b c d e f) (hk : ∀ a b c d e f, DB X E (G2 a b c d e f) rest (k a b c d e f) post) : DB X E G (.Assign [tg] e pos :: rest) (m >>= un6 k) post :=
  db_tup h hn p hs hw h1 (hkk := un6_kk) fun d => by
    unfold un6
    split
    · rename_i a b c d e f
      exact .inl ⟨[a, b, c, d, e, f], .inl rfl, rfl, by rw [e2]; exact hk a b c d e f⟩
    · rename_i a b c d e f
      exact .inl ⟨[a, b, c, d, e, f], .inr rfl, rfl, by rw [e2]; exact hk a b c d e f⟩
    · exact .inr rfl

@[simp] def Rx.thn {S S' T : Type} (r : Rx S' T) (k : S' → M (Rx S T)) : M (Rx S T) := match r with
  | .go s => k s
  | .ct t => .ok (.ct t)
  | .bk t => .ok (.bk t)
  | .rt d => .ok (.rt d)
@[simp] def Rx.fin {S' : Type} (r : Rx S' Empty) (k : S' → M D) : M D := match r with
  | .go s => k s
  | .rt d => .ok d
@[simp] def Rx.up {S T : Type} (r : Rx Empty T) : Rx S T := match r with
  | .ct t => .ct t
  | .bk t => .bk t
  | .rt d => .rt d
@[simp] def sThn {S S' T : Type} (r : S' ⊕ D) (k : S' → M (Rx S T)) : M (Rx S T) := match r with
  | .inl s => k s
  | .inr d => .ok (.rt d)
@[simp] def sFin {S' : Type} (r : S' ⊕ D) (k : S' → M D) : M D := match r with
  | .inl s => k s
  | .inr d => .ok d
theorem db_sumF {S' : Type} {Γ' : S' → List Sl} {m1 : M (S' ⊕ D)} {k : S' → M D} (h1 : DS X E G st m1 (sumOc Γ')) (h2 : ∀ s, DB X E (Γ' s) rest (k s) .rt) :
    DB X E G (st :: rest) (m1 >>= fun r => sFin r k) .rt := by
  refine db_cons h1 (fun j G' e => ?_) (fun j hj => ?_)
  · cases j with
    | inl s =>
      injection e with e
      rw [← e]
      exact h2 s
    | inr d => cases e
  · cases j with
    | inl s => exact absurd rfl (hj _)
    | inr d => exact ⟨_, rfl, rfl⟩
theorem db_ifRt {S T : Type} {Γ : S → List Sl} {Δ : T → List Sl} {A : List Stmt} {mA : M D} {mc : M Bool} {mR : M (Rx S T)} (hc : DT X (cE E) G c mc) (hA : DB X E G A mA .rt) (hR : DB X E G rest mR (Rx.oc Γ Δ)) :
    DB X E G (.If c A [] pos :: rest) (mc >>= fun b => if b = true then mA >>= fun d => .ok (.rt d) else mR) (Rx.oc Γ Δ) :=
  db_ift (Rx.rt (S := S) (T := T)) hc hA (fun a G' e => by cases e) (fun a => rfl) hR
theorem db_ifRs {α : Type} {A : List Stmt} {mA : M Empty} {mc : M Bool} {mR : M α} {post : α → Oc} (hc : DT X (cE E) G c mc) (hA : DB X E G A mA (fun e => nomatch e)) (hR : DB X E G rest mR post) :
    DB X E G (.If c A [] pos :: rest) (mc >>= fun b => if b = true then mA >>= fun d => nomatch d else mR) post :=
  db_cast (db_ift (fun e : Empty => nomatch e) hc hA (fun a => nomatch a) (fun a => nomatch a) hR) (by
    congr 1
    funext b
    split
    · congr 1
      funext d
      cases d
    · rfl)
theorem db_ifSt {α : Type} {A : List Stmt} {mc : M Bool} {mR : M α} {post : α → Oc} (hc : DT X (cE E) G c mc) (hR : DB X E G rest mR post) :
    DB X E G (.If c A [] pos :: rest) (mc >>= fun b => if b = true then stuck else mR) post := db_cast (db_ifRs hc (mA := stuck) db_stuck hR) rfl
end
end DL

set_option Elab.async false
set_option linter.all false
set_option maxRecDepth 100000
set_option maxHeartbeats 4000000
namespace DL
open PySem PySem.Spec L2

theorem boot_len_ : bootBuiltins ("len" : Str) = some (.builtin "len") := by decide +kernel
theorem boot_abs_ : bootBuiltins ("abs" : Str) = some (.builtin "abs") := by decide +kernel
theorem boot_max_ : bootBuiltins ("max" : Str) = some (.builtin "max") := by decide +kernel
theorem boot_min_ : bootBuiltins ("min" : Str) = some (.builtin "min") := by decide +kernel
theorem boot_all_ : bootBuiltins ("all" : Str) = some (.builtin "all") := by decide +kernel
theorem boot_any_ : bootBuiltins ("any" : Str) = some (.builtin "any") := by decide +kernel
theorem boot_sorted_ : bootBuiltins ("sorted" : Str) = some (.builtin "sorted") := by decide +kernel
theorem boot_repr_ : bootBuiltins ("repr" : Str) = some (.builtin "repr") := by decide +kernel
theorem boot_int_ : bootBuiltins ("int" : Str) = some (.type "int") := by decide +kernel
theorem boot_list_ : bootBuiltins ("list" : Str) = some (.type "list") := by decide +kernel
theorem boot_tuple_ : bootBuiltins ("tuple" : Str) = some (.type "tuple") := by decide +kernel
theorem a1_ {α : Type} (f : D → M α) (a : D) : a1 f [a] = f a := rfl
theorem a2_ {α : Type} (f : D → D → M α) (a b : D) : a2 f [a, b] = f a b := rfl
theorem a3_ {α : Type} (f : D → D → D → M α) (a b c : D) : a3 f [a, b, c] = f a b c := rfl
theorem a4_ {α : Type} (f : D → D → D → D → M α) (a b c d : D) : a4 f [a, b, c, d] = f a b c d := rfl
theorem a5_ {α : Type} (f : D → D → D → D → D → M α) (a b c d e : D) : a5 f [a, b, c, d, e] = f a b c d e := rfl
theorem a6_ {α : Type} (f : D → D → D → D → D → D → M α) (a b c d e g : D) : a6 f [a, b, c, d, e, g] = f a b c d e g := rfl
def AllC (K : PySem.W.Frag) (f : String) : List String → Prop
  | [] => True
  | c :: cs => Cls K (He.ga K (Str.ofString c)) ∧ NoAttr K (He.ga K (Str.ofString c)) (Str.ofString f) ∧ AllC K f cs
theorem AllC.all {K : PySem.W.Frag} {f : String} : ∀ {cs : List String}, AllC K f cs → ∀ c ∈ cs, Cls K (He.ga K (Str.ofString c)) ∧ NoAttr K (He.ga K (Str.ofString c)) (Str.ofString f)
  | [], _, c, h => by cases h
  | d :: cs, ⟨h1, h2, h3⟩, c, h => by
    rcases List.mem_cons.mp h with rfl | h
    · exact ⟨h1, h2⟩
    · exact h3.all c h
section
variable {X : Cx} {E : XK} {G : List Sl} {a b c e : Expr} {ma mb mc : M D} {ta tb : M Bool} {pos : Pos} {F H : Hp} {st : Stmt} {rest body : List Stmt}
theorem pe_cls_ {x : Str} {C : Addr} (hg : Gl X x) (hm : X.mg x = some (.ref C)) (hd : (x == ("__debug__" : Str)) = false := by decide) : PE X (.Name x pos) (tC (.ref C)) := pe_glob hg hm rfl hd
theorem dt_G {E₁ : St → XK} (G2 : List Sl) {m : M Bool} (h0 : G = G2) (h : DT X E₁ G2 e m) : DT X E₁ G e m := by
  rw [h0]
  exact h
@[simp] abbrev mField (f : String) (l : List (String × D)) (m : M D) : M (List (String × D)) := m >>= fun d => need (decide (l.length < 1000)) >>= fun _ => .ok (putD f d l)
theorem ds_fieldO {x : Str} {i : Nat} {a0 : Addr} {c f : String} {l : List (String × D)} {p1 p2 : Pos} {m : M D} (hs : G[i]? = some (.obj a0 c l)) (pv : PE X (.Name x p1) (tVar i)) (hc : Cls X.K (He.ga X.K (Str.ofString c)) ∧ NoAttr X.K (He.ga X.K (Str.ofString c)) (Str.ofString f)) (h : DE X (cE E) G e m)
    (hsw : swapsWith e (some (.Attribute (.Name x p1) (Str.ofString f) p2)) pos.line X.env = pure false) : DS X E G (.Assign [.Attribute (.Name x p1) (Str.ofString f) p2] e pos) (mField f l m) (fun l' => .nx (G.set i (.obj a0 c l'))) := by
  obtain ⟨t, ps, w⟩ := ds_field hs pv hc h hsw
  refine ⟨t, ps, fun B0 B σ F H D x0 g q => w B0 B σ F H D x0 g ?_⟩
  show WpB X.K E B0 B (fun s' => .nx (G.set i s')) (m >>= fun d => need (decide (l.length < 1000)) >>= fun _ => .ok (.obj a0 c (putD f d l))) F D
  cases m with
  | error er => cases er with
    | stuck => exact q.elim
    | exc y => exact q
  | ok d =>
    have q : WpB X.K E B0 B (fun l' => .nx (G.set i (.obj a0 c l'))) (need (decide (l.length < 1000)) >>= fun _ => .ok (putD f d l)) F D := q
    show WpB X.K E B0 B (fun s' => .nx (G.set i s')) (need (decide (l.length < 1000)) >>= fun _ => .ok (.obj a0 c (putD f d l))) F D
    cases hd : decide (l.length < 1000) with
    | false =>
      exfalso
      rw [hd] at q
      exact q
    | true =>
      rw [hd] at q
      exact q
end
@[simp] abbrev mMeth (c mn : String) (m : List D → M D) (a : M D) (ms : M (List D)) : M D := a >>= fun x => D.recv c mn x >>= fun x => ms >>= fun l => m (x :: l)
@[simp] abbrev mMeth0 (c mn : String) (m : List D → M D) (a : M D) : M D := a >>= fun x => D.recv c mn x >>= fun x => m [x]
def CXA (P : Program) : CXT := fun outer H s E u s' => ∃ w, L2.CX P w outer H s E u s'
theorem CXA.no {P : Program} {H : Hp} {s : Shared} {e : Value} {s' : Shared} (h : CXA P [] H s (fun _ _ _ => False) e s') : False := by
  obtain ⟨w, a, B, H', cls, d, h⟩ := h
  exact h.2.2.2.2.2.2.2
def insB (K : PySem.W.Frag) (C : Addr) : Bool := decide (PySem.W.findIn K (.ref C) "__class__" = some (some (.builtin "object.__class__"))) && (decide (PySem.W.specialIn K (.builtin "object.__class__") "__get__" = some (some (.builtin "getset_descriptor.__get__"))) &&
  (decide (PySem.W.takesIn K (.builtin "object.__class__") = some true) && (decide (PySem.W.mroIn K C (.type "object") = some true) && decide (PySem.W.kitOne K (.ref C) (.ref C) = some true))))
end DL

set_option Elab.async false
set_option linter.all false
set_option maxRecDepth 100000
set_option maxHeartbeats 4000000
namespace PySem.W
open PySem PySem.Calls PyProof.Rows
section
variable {prog : Program} {w : World} {A : Around} {s : Shared} {E : Value → Shared → Prop} {β : Type} {R : Value → β → Prop} {enc : β → PyData} {vs : List Value} {bs : List β}
theorem collect_tupT {l : Addr} {vs : List Value} {Q : List Value → Shared → Prop} (hl : IsTup s.heap l vs.toArray)
    (h : Q vs { s with heap := (s.heap.push (seqObj "list" #[] 0)).update s.heap.objs.size (Obj.mapSeq (· ++ vs.toArray)) }) (hsz : vs.length ≤ sizeLine := by size_fits) :
    wpAny (model prog w) A (collect (.ref l)) Q E s := by
  obtain ⟨o, ho, hc, n, hd⟩ := id hl
  unfold collect
  refine wpAny_bind (wpAny_runValue (codeAny_builtin entry_proto_collect' ?_))
  show wpAny _ _ (do again (.builtin "list.__iadd__" ⟨[← newList [], .ref l], []⟩)) _ _ s
  refine wpAny_bind (wpAny_newList (wpAny_pure ⟨Code.quiet_builtin _ (by decide +kernel), codeAny_builtin entry_list_iadd' ?_⟩))
  show wpAny _ _ (Builtin.List.listExtendWith (.ref s.heap.objs.size) (.ref l) (.ref s.heap.objs.size)) _ _ { s with heap := s.heap.push (seqObj "list" #[] 0) }
  unfold Builtin.List.listExtendWith
  have ho' : (s.heap.push (seqObj "list" #[] 0)).get? l = some o := Heap.get?_push_of_some _ ho
  refine wpAny_bind (wpAny_typeOf (T := "tuple") ⟨o, ho', hc⟩ ?_)
  have ht : (Value.type "tuple" == Value.type "tuple") = true := by rfl
  rw [if_pos (by rw [ht]; simp)]
  refine wpAny_bind (listItems_at ho' hd ?_)
  refine wpAny_bind (listItems_at (xs := #[]) (n := 0) (Heap.get?_push_size _ rfl) rfl ?_)
  rw [if_neg (by simp)]
  refine wpAny_bind (listUpdate_at (xs := #[]) (n := 0) (Heap.get?_push_size _ rfl) rfl ?_ (Nat.zero_le _) (by show (#[] ++ vs.toArray).size ≤ sizeLine + 1; simp only [Array.size_append, List.size_toArray, List.length_nil]; omega))
  refine wpAny_pure ?_
  show wpAny (model prog w) A (do
      let o ← load s.heap.objs.size
      match o.data with
      | .seq xs _ => pure xs.toList
      | _ => unsupported "internal:collect") Q E { s with heap := (s.heap.push (seqObj "list" #[] 0)).update s.heap.objs.size (Obj.mapSeq (· ++ vs.toArray)) }
  refine wpAny_bind (wpAny_load (get?_update_seq (Heap.get?_push_size _ rfl) _) ?_)
  show wpAny _ _ (pure ((#[] : Array Value) ++ vs.toArray).toList) Q E _
  rw [show ((#[] : Array Value) ++ vs.toArray).toList = vs by simp]
  exact wpAny_pure h
theorem sorted_dataT {l : Addr} {Q : Value → Shared → Prop} (hl : IsTup s.heap l vs.toArray) (e : EachIs R vs bs) (er : EachIs (fun v b => ∃ as, Reads s.heap v (enc b) as) vs bs) (hal : AllAlike (bs.map enc)) (hk : Sortable (bs.map enc)) (hL : bs.length ≤ sizeLine)
    (hu : ∀ b, b ∈ bs → A.units + 2 + (enc b).depth < cLine) (h : ∀ out, out.length = bs.length → EachIs R out (bs.mergeSort (dataLe false enc)) → Q (.ref (s.heap.objs.size + 1)) { s with heap := sortedAll s.heap vs (List.toArray out) }) :
    wpAny (model prog w) A (call (.builtin "sorted") [.ref l]) Q E s := by
  have er' : EachIs (fun v b => ∃ as, Reads (sortingHeap (copyHeap s.heap vs) (s.heap.objs.size + 1) vs) v (enc b) as) vs bs := er.mono fun _ _ ⟨as, r⟩ => ⟨as, PyProof.Rows.Reads.keeps (fun _ _ => sorting_copy_old) r⟩
  have hL' : vs.length ≤ sizeLine := by rw [e.length]; exact hL
  refine call_function_entry_kw kind_sorted plain_sorted entry_sorted (args_sorted1 _) ?_
  unfold Builtin.«sorted»
  refine wpAny_bind (m := checkCount "sorted" 1 1 _) (wpAny_pure ?_)
  refine wpAny_bind (collect_tupT hl ?_ hL')
  refine wpAny_bind (wpAny_newList ?_ hL')
  have hsz : ((s.heap.push (seqObj "list" #[] 0)).update s.heap.objs.size (Obj.mapSeq (· ++ vs.toArray))).objs.size = s.heap.objs.size + 1 := by
    rw [Heap.size_update, size_push']
  show wpAny _ _ _ _ _ { s with heap := copyHeap s.heap vs }
  rw [hsz]
  refine wpAny_bind (wpAny_holding (wpAny_call_entry_kw slot_list_sort ⟨_, copyHeap_at s.heap vs, rfl⟩ entry_list_sort ?body (args_list_sort _)))
  case body =>
    show wpAny (model prog w) A.in1.in1 (Builtin.«list.sort» ⟨[.ref (s.heap.objs.size + 1)], []⟩) _ _ _
    refine wpAny_mono (list_sort_vals (P := fun f s' => f = .done (.ret .none) ∧ Q (.ref (s.heap.objs.size + 1)) s') (s := { s with heap := copyHeap s.heap vs }) (copyHeap_at s.heap vs) (SortsAt.data (s := { s with heap := sortingHeap (copyHeap s.heap vs) (s.heap.objs.size + 1) vs }) (each_map (R := fun v d => ∃ as, Reads (sortingHeap (copyHeap s.heap vs) (s.heap.objs.size + 1) vs) v d as) enc er') hal hk (bound_map hu)) hL' ⟨rfl, h _ (by rw [sortVals_length false rfl]; exact e.length) (sortVals_data false e er' hal)⟩) (fun f s' hf => ?_) fun _ _ e => e
    obtain ⟨rfl, hq⟩ := hf
    exact ⟨_, rfl, wpAny_pure ⟨_, rfl, hq⟩⟩
end
end PySem.W
namespace DL
open PySem PySem.Spec L2
def rSortD (K : PySem.W.Frag) : List V → Hp → VK → Prop := fun vs H Q => ∃ (a : Addr) (bs : List (V × PyData)), vs = [V.ref a] ∧ (SqL K H a (bs.map (·.1)) ∨ SqT K H a (bs.map (·.1))) ∧ (∀ b ∈ bs, Dp K H b.1 b.2 ∧ b.2.depth ≤ 60) ∧ PySem.W.AllAlike (bs.map (·.2)) ∧ PySem.W.Sortable (bs.map (·.2)) ∧
  ∀ p, H p = none → Q (.ref p) (upd H p (.lst ((bs.mergeSort (PySem.W.dataLe false (·.2))).map (·.1))))
theorem each_of {X : Cx} {pins : List (Addr × Obj)} {σ : St} {H : Hp} {s : Shared} (I : Inv X pins σ H s) : ∀ {bs : List (V × PyData)} {its : List Value}, Vals (bs.map (·.1)) its → (∀ b ∈ bs, Dp X.K H b.1 b.2 ∧ b.2.depth ≤ 60) →
    PySem.W.EachIs (fun v (b : V × PyData) => RelV b.1 v) its bs ∧ PySem.W.EachIs (fun v (b : V × PyData) => ∃ as, PySem.Reads s.heap v b.2 as) its bs
  | [], _, r, _ => by
    cases r
    exact ⟨.nil, .nil⟩
  | b :: bs, _, r, h => by
    cases r with
    | cons r1 r2 =>
      obtain ⟨e1, e2⟩ := each_of I (bs := bs) r2 fun x hx => h x (List.mem_cons_of_mem _ hx)
      exact ⟨.cons r1 e1, .cons (Dp.reads I _ _ _ (h b (List.mem_cons_self ..)).1 r1) e2⟩
theorem vals_each : ∀ {bs : List (V × PyData)} {out : List Value}, PySem.W.EachIs (fun v (b : V × PyData) => RelV b.1 v) out bs → Vals (bs.map (·.1)) out
  | _, _, .nil => .nil
  | _, _, .cons r e => .cons r (vals_each e)
theorem cr_sortD {X : Cx} (hu : X.A.units + 70 < cLine) : CallR X (.builtin "sorted") (rSortD X.K) := by
  intro pins s σ H vs us Q I r h
  obtain ⟨a, bs, rfl, hs, hd, hal, hk, q⟩ := h
  have fin : ∀ (its : List Value), Vals (bs.map (·.1)) its → (bs.map (·.1)).length ≤ sizeLine → ∀ out : List Value, out.length = bs.length → PySem.W.EachIs (fun v (b : V × PyData) => RelV b.1 v) out (bs.mergeSort (PySem.W.dataLe false (·.2))) → EP X pins σ Q (.ref (s.heap.objs.size + 1)) { s with heap := PyProof.Rows.sortedAll s.heap its (List.toArray out) } := fun its rv hz out ho eo => by
    rw [List.length_map] at hz
    obtain ⟨ep, he'⟩ := PyProof.Rows.sortedAll_at s.heap its out.toArray
    have hlen : ((bs.mergeSort (PySem.W.dataLe false (·.2))).map (·.1)).length ≤ sizeLine := by
      rw [List.length_map, List.length_mergeSort]
      exact hz
    exact ⟨.ref _, upd H (s.heap.objs.size + 1) (.lst ((bs.mergeSort (PySem.W.dataLe false (·.2))).map (·.1))), I.laid (t' := s.toks) (fun _ _ => PyProof.Rows.sortedAll_old) (Nat.le_succ _) ⟨hlen, out, ep, vals_each eo, he'⟩, rfl, q _ (I.hok.fresh (Nat.le_succ _))⟩
  rcases hs with hs | hs
  · obtain ⟨its, rv, hl, hz⟩ := I.list hs
    rw [Vals.ref1 r]
    obtain ⟨e1, e2⟩ := each_of I rv hd
    refine PySem.W.sorted_data (enc := fun b : V × PyData => b.2) hl.isList e1 e2 hal hk (by rw [List.length_map] at hz; exact hz) (fun b hb => by have := (hd b hb).2; omega) (fin its rv hz)
  · obtain ⟨its, rv, hl, hz⟩ := I.tuple hs
    rw [Vals.ref1 r]
    obtain ⟨e1, e2⟩ := each_of I rv hd
    refine PySem.W.sorted_dataT (enc := fun b : V × PyData => b.2) hl e1 e2 hal hk (by rw [List.length_map] at hz; exact hz) (fun b hb => by have := (hd b hb).2; omega) (fin its rv hz)
def D.alk (l : List D) : Bool := l.all fun a => l.all fun b => PySem.W.alike a.py b.py
def D.tupN : D → Bool
  | .tup (_ :: _) => true
  | _ => false
def D.noTup : D → Bool
  | .tup _ => false
  | .non => false
  | _ => true
def D.leD (a b : D) : Bool := !PySem.W.dataLt b.py a.py
def D.srt (l : List D) : List D := l.mergeSort D.leD
def D.sortOk (l : List D) : Bool := l.all (D.shp 20) && (D.alk l && (l.all D.tupN || l.all fun d => d.noTup && d.leaf))
def D.sorted : D → M D
  | .lst l => need (D.sortOk l) >>= fun _ => .ok (.lst (D.srt l))
  | .tup l => need (D.sortOk l) >>= fun _ => .ok (.lst (D.srt l))
  | _ => stuck
theorem alk_ok {l : List D} (h : D.alk l = true) : PySem.W.AllAlike (l.map D.py) := by
  intro d hd d' hd'
  obtain ⟨a, ha, rfl⟩ := List.mem_map.mp hd
  obtain ⟨b, hb, rfl⟩ := List.mem_map.mp hd'
  exact List.all_eq_true.mp (List.all_eq_true.mp h a ha) b hb
theorem sortable_ok {l : List D} (h : (l.all D.tupN || l.all fun d => d.noTup && d.leaf) = true) : PySem.W.Sortable (l.map D.py) := by
  rcases Bool.or_eq_true_iff.mp h with h | h
  · refine .inl fun d hd => ?_
    obtain ⟨a, ha, rfl⟩ := List.mem_map.mp hd
    have := List.all_eq_true.mp h a ha
    cases a with
    | tup l => cases l with
      | nil => cases this
      | cons x r => exact ⟨x.py, D.pyL r, by simp only [D.py, D.pyL]⟩
    | _ => cases this
  · refine .inr fun d hd => ?_
    obtain ⟨a, ha, rfl⟩ := List.mem_map.mp hd
    obtain ⟨h1, h2⟩ := and2 (List.all_eq_true.mp h a ha)
    rcases D.leaf_cases h2 with rfl | ⟨b, rfl⟩ | ⟨i, rfl⟩ | ⟨x, rfl⟩
    · cases h1
    · exact ⟨by simp [D.py], fun xs => by simp [D.py]⟩
    · exact ⟨by simp [D.py], fun xs => by simp [D.py]⟩
    · exact ⟨by simp [D.py], fun xs => by simp [D.py]⟩
section
variable {K : PySem.W.Frag} {F H : Hp}
theorem rpl_zip : ∀ {xs : List V} {l : List D}, RpL K F xs l → (xs.zip l).map (·.1) = xs ∧ (xs.zip l).map (·.2) = l ∧ ∀ c ∈ xs.zip l, Rp K F c.1 c.2
  | _, _, .nil => ⟨rfl, rfl, fun c h => by cases h⟩
  | _, _, .cons (vs := vs) (ds := ds) r h => by
    obtain ⟨h1, h2, h3⟩ := rpl_zip h
    refine ⟨by rw [List.zip_cons_cons, List.map_cons, h1], by rw [List.zip_cons_cons, List.map_cons, h2], fun c hc => ?_⟩
    rw [List.zip_cons_cons] at hc
    rcases List.mem_cons.mp hc with rfl | hc
    · exact r
    · exact h3 c hc
theorem rpl_of : ∀ {cs : List (V × D)}, (∀ c ∈ cs, Rp K F c.1 c.2) → RpL K F (cs.map (·.1)) (cs.map (·.2))
  | [], _ => .nil
  | c :: cs, h => .cons (h c (List.mem_cons_self ..)) (rpl_of fun x hx => h x (List.mem_cons_of_mem _ hx))
theorem sort_rp {xs : List V} {l : List D} (r : RpL K F xs l) : RpL K F (((xs.zip (l.map D.py)).mergeSort (PySem.W.dataLe false (·.2))).map (·.1)) (D.srt l) := by
  obtain ⟨h1, h2, h3⟩ := rpl_zip r
  have eb : xs.zip (l.map D.py) = (xs.zip l).map fun c => (c.1, c.2.py) := by
    rw [List.zip_map_right]
    rfl
  have e1 : (((xs.zip (l.map D.py)).mergeSort (PySem.W.dataLe false (·.2))).map (·.1)) = ((xs.zip l).mergeSort fun a b => D.leD a.2 b.2).map (·.1) := by
    rw [eb, ← List.map_mergeSort (r := fun a b : V × D => D.leD a.2 b.2), List.map_map]
    · rfl
    · intro a _ b _
      rw [PySem.W.dataLe_eq]
      rfl
  have e2 : D.srt l = ((xs.zip l).mergeSort fun a b => D.leD a.2 b.2).map (·.2) := by
    unfold D.srt
    rw [List.map_mergeSort (s := D.leD), h2]
    intro a _ b _
    rfl
  rw [e1, e2]
  exact rpl_of fun c hc => h3 c (List.mem_mergeSort.mp hc)
end
theorem sorted_op {X : Cx} : OpN X.K (f1 D.sorted) (rSortD X.K) := opN1 fun E F H v d Q s r q => by
  cases d with
  | lst l =>
    have q : WpG X.K E (rE X.K) (need (D.sortOk l) >>= fun _ => .ok (.lst (D.srt l))) F H Q := q
    obtain ⟨c, q⟩ := q.need
    obtain ⟨c1, c2⟩ := and2 c
    obtain ⟨c2, c3⟩ := and2 c2
    obtain ⟨p, xs, rfl, h, r⟩ := r.lst s
    have hl : xs.length = (l.map D.py).length := by rw [List.length_map, r.length]
    have e1 : (xs.zip (l.map D.py)).map (·.1) = xs := List.map_fst_zip (Nat.le_of_eq hl)
    have e2 : (xs.zip (l.map D.py)).map (·.2) = l.map D.py := List.map_snd_zip (Nat.le_of_eq hl.symm)
    refine ⟨p, xs.zip (l.map D.py), rfl, by rw [e1]; exact .inl (SqL.of h), fun b hb => ?_, by rw [e2]; exact alk_ok c2, by rw [e2]; exact sortable_ok c3, new_lst s (sort_rp r) q⟩
    obtain ⟨h1, h2, h3⟩ := rpl_zip r
    rw [List.zip_map_right] at hb
    obtain ⟨z, hz, rfl⟩ := List.mem_map.mp hb
    have hz2 : z.2 ∈ l := by
      rw [← h2]
      exact List.mem_map.mpr ⟨z, hz, rfl⟩
    have sh := List.all_eq_true.mp c1 _ hz2
    exact ⟨(Rp.dp s sh (h3 z hz)).1, Nat.le_trans (D.shp_depth sh) (by omega)⟩
  | tup l =>
    have q : WpG X.K E (rE X.K) (need (D.sortOk l) >>= fun _ => .ok (.lst (D.srt l))) F H Q := q
    obtain ⟨c, q⟩ := q.need
    obtain ⟨c1, c2⟩ := and2 c
    obtain ⟨c2, c3⟩ := and2 c2
    obtain ⟨p, xs, rfl, h, r⟩ := r.tup s
    have hl : xs.length = (l.map D.py).length := by rw [List.length_map, r.length]
    have e1 : (xs.zip (l.map D.py)).map (·.1) = xs := List.map_fst_zip (Nat.le_of_eq hl)
    have e2 : (xs.zip (l.map D.py)).map (·.2) = l.map D.py := List.map_snd_zip (Nat.le_of_eq hl.symm)
    refine ⟨p, xs.zip (l.map D.py), rfl, by rw [e1]; exact .inr h, fun b hb => ?_, by rw [e2]; exact alk_ok c2, by rw [e2]; exact sortable_ok c3, new_lst s (sort_rp r) q⟩
    obtain ⟨h1, h2, h3⟩ := rpl_zip r
    rw [List.zip_map_right] at hb
    obtain ⟨z, hz, rfl⟩ := List.mem_map.mp hb
    have hz2 : z.2 ∈ l := by
      rw [← h2]
      exact List.mem_map.mpr ⟨z, hz, rfl⟩
    have sh := List.all_eq_true.mp c1 _ hz2
    exact ⟨(Rp.dp s sh (h3 z hz)).1, Nat.le_trans (D.shp_depth sh) (by omega)⟩
  | _ => exact q.elim
end DL

set_option Elab.async false
set_option linter.all false
set_option maxRecDepth 100000
set_option maxHeartbeats 4000000
namespace DL
open PySem PySem.Spec L2
section
variable {X : Cx} {E : St → XK} {G : List Sl} {a b c d e : Expr} {ma mb mc md : M D} {pos : Pos} {ta tb tc td : TE}
def tTest3 (r r' r'' : R2) (ta tb tc td : TE) : TT := fun σ H Q => ta σ H fun x H1 => tb σ H1 fun y H2 => r x y H2 fun z H3 => ∃ k, z = .bl k ∧ if k = true then tc σ H3 (fun w H4 => r' y w H4 fun z2 H5 => ∃ k2, z2 = .bl k2 ∧ if k2 = true then td σ H5 (fun v H6 => r'' w v H6 fun z3 H7 => ∃ k3, z3 = .bl k3 ∧ Q k3 H7) else Q false H5) else Q false H3
theorem pt_chain3 {op op' op'' : CmpOp} {r r' r'' : R2} (ho : OpR X (compareOp op) r) (ho' : OpR X (compareOp op') r') (ho'' : OpR X (compareOp op'') r'') (ha : PE X a ta) (hb : PE X b tb) (hc : PE X c tc) (hd : PE X d td)
    (hm : lastMarks [op, op', op''] [b, c, d] = false := by with_unfolding_all rfl) : PT X (.Compare a [op, op', op''] [b, c, d] pos) (tTest3 r r' r'' ta tb tc td) := by
  constructor
  intro pins s σ H Q I h
  refine PyProof.Rows.isTrue_chain (thn (ha.run pins s σ H _ I h) ?_) hm
  rintro v s1 ⟨x, H1, I1, r1, q1⟩
  refine PyProof.Rows.test_link (thn (hb.run pins s1 σ H1 _ I1 q1) ?_)
  rintro u s2 ⟨y, H2, I2, r2, q2⟩
  refine thn (ho pins s2 σ H2 x y v u _ I2 r1 r2 q2) ?_
  rintro t s3 ⟨z, H3, I3, r3, k, rfl, q3⟩
  cases r3
  refine wpAny_truthy_bool ?_
  cases k with
  | false => exact PyProof.Rows.ite_ff ⟨H3, I3, q3⟩
  | true =>
    refine PyProof.Rows.ite_tt (PyProof.Rows.test_link (thn (hc.run pins s3 σ H3 _ I3 q3) ?_))
    rintro w s4 ⟨y2, H4, I4, r4, q4⟩
    refine thn (ho' pins s4 σ H4 y y2 u w _ I4 r2 r4 q4) ?_
    rintro t2 s5 ⟨z2, H5, I5, r5, k2, rfl, q5⟩
    cases r5
    refine wpAny_truthy_bool ?_
    cases k2 with
    | false => exact PyProof.Rows.ite_ff ⟨H5, I5, q5⟩
    | true =>
      refine PyProof.Rows.ite_tt (PyProof.Rows.test_last (thn (hd.run pins s5 σ H5 _ I5 q5) ?_))
      rintro w2 s6 ⟨y3, H6, I6, r6, q6⟩
      refine thn (ho'' pins s6 σ H6 y2 y3 w w2 _ I6 r4 r6 q6) ?_
      rintro t3 s7 ⟨z3, H7, I7, r7, k3, rfl, q7⟩
      cases r7
      exact wpAny_truthy_bool ⟨H7, I7, q7⟩
@[simp] abbrev T4 (f g h : D → D → M Bool) (a b c d : M D) : M Bool := a >>= fun x => b >>= fun y => f x y >>= fun k => if k = true then c >>= fun z => g y z >>= fun k => if k = true then d >>= fun w => h z w else .ok false else .ok false
theorem dt_chain3 {op op' op'' : CmpOp} {r r' r'' : R2} {f f' f'' : D → D → M Bool} (ho : OpR X (compareOp op) r) (ho' : OpR X (compareOp op') r') (ho'' : OpR X (compareOp op'') r'') (hf : rCmp X.K f r) (hf' : rCmp X.K f' r') (hf'' : rCmp X.K f'' r'') (ha : DR X E G a ma) (hb : DR X E G b mb) (hc : DR X E G c mc) (hd : DR X E G d md)
    (hm : lastMarks [op, op', op''] [b, c, d] = false := by with_unfolding_all rfl) : DT X E G (.Compare a [op, op', op''] [b, c, d] pos) (T4 f f' f'' ma mb mc md) := by
  obtain ⟨t1, p1, w1⟩ := ha
  obtain ⟨t2, p2, w2⟩ := hb
  obtain ⟨t3, p3, w3⟩ := hc
  obtain ⟨t4, p4, w4⟩ := hd
  refine ⟨_, pt_chain3 ho ho' ho'' p1 p2 p3 p4 hm, fun B σ F H Q s g q => w1 B σ F H _ s g (q.bind fun x F1 H1 v x1 r1 q1 => w2 B σ F1 H1 _ x1.sFH (g.ext x1) (q1.bind fun y F2 H2 u x2 r2 q2 => ?_))⟩
  refine hf (E σ) F2 H2 v u x y _ x2.sFH (r1.ext x2) r2 (WpG.bool (q2.bind fun k F3 H3 k' x3 e q3 => ?_))
  subst e
  cases k' with
  | false =>
    rw [if_neg Bool.false_ne_true] at q3 ⊢
    exact q3 F3 H3 _ (Ext.refl x3.sFH) rfl
  | true =>
    rw [if_pos rfl] at q3 ⊢
    refine w3 B σ F3 H3 _ x3.sFH ((g.ext x1).ext x2 |>.ext x3) (q3.bind fun z F4 H4 w x4 r4 q4 => ?_)
    refine hf' (E σ) F4 H4 u w y z _ x4.sFH ((r2.ext x3).ext x4) r4 (WpG.bool (q4.bind fun k F5 H5 k' x5 e q5 => ?_))
    subst e
    cases k' with
    | false =>
      rw [if_neg Bool.false_ne_true] at q5 ⊢
      exact q5 F5 H5 _ (Ext.refl x5.sFH) rfl
    | true =>
      rw [if_pos rfl] at q5 ⊢
      refine w4 B σ F5 H5 _ x5.sFH ((((g.ext x1).ext x2).ext x3).ext x4 |>.ext x5) (q5.bind fun t F6 H6 w2 x6 r6 q6 => ?_)
      exact hf'' (E σ) F6 H6 w w2 z t _ x6.sFH ((r4.ext x5).ext x6) r6 (WpG.bool q6)
end
end DL

set_option Elab.async false
set_option linter.all false
set_option maxRecDepth 100000
set_option maxHeartbeats 4000000
namespace DL
open PySem PySem.Spec L2
def gAd (K : PySem.W.Frag) (p : Str × Option Str) : Addr := match PySem.W.recIn K (He.fAd K p) "property" with
  | some (.ref g :: _) => g
  | _ => 0
def codeAt (K : PySem.W.Frag) (a : Addr) : He.FnW :=
  (K.lookup a).bind fun o => match o.data with
    | .func f => some (f.name, f.qualname, f.params, f.body, f.scope, f.globals, f.closure, f.builtins)
    | _ => none
def restAt (K : PySem.W.Frag) (a : Addr) (q : Str) : Bool := PySem.W.keepIn K (.ref a) && match K.lookup a with
  | some o => (match o.data with
    | .func f => PySem.W.codeIn K f.code q && (He.dflB K f.defaults [] && He.kwdB K f.kwdefaults [])
    | _ => false)
  | none => false
theorem funAt {K : PySem.W.Frag} {a : Addr} {d : He.DefD} (e : codeAt K a = d.val) (c : restAt K a d.qual = true) : ∃ fd, FunD K d.name d.qual d.params d.body d.scope [] [] a fd := by
  obtain ⟨kp, c⟩ := and2 c
  unfold codeAt at e
  cases lk : K.lookup a with
  | none =>
    rw [lk] at c
    cases c
  | some o =>
    rw [lk] at c e
    obtain ⟨oc, od, dt, osl⟩ := o
    cases dt with
    | func f =>
      obtain ⟨n1, n2, n3, n4, n5, n6, n7, dV, kV, doc, pm, an, cdv, ct, n15⟩ := f
      have same : (some (n1, n2, n3, n4, n5, n6, n7, n15) : He.FnW) = some (d.name, d.qual, d.params, .stmts d.body, d.scope, mainGlobals, [], builtinsNs) := e
      injection same with same
      simp only [Prod.mk.injEq] at same
      obtain ⟨rfl, rfl, rfl, rfl, rfl, rfl, rfl, rfl⟩ := same
      obtain ⟨u1, u2⟩ := and2 c
      obtain ⟨u2, u3⟩ := and2 u2
      exact ⟨_, ⟨oc, od, dV, kV, doc, pm, an, cdv, ct, osl, rfl, lk, u1, He.dflB_ok u2, He.kwdB_ok u3⟩, kp⟩
    | _ => cases c
def propB (K : PySem.W.Frag) (c f : Str) : Bool := decide (PySem.W.findIn K (.ref (He.ga K c)) f = some (some (.ref (He.fAd K (c, some f))))) && (decide (PySem.W.specialIn K (.ref (He.fAd K (c, some f))) "__get__" = some (some (.builtin "property.__get__"))) &&
  (decide (PySem.W.takesIn K (.ref (He.fAd K (c, some f))) = some true) && match PySem.W.recIn K (He.fAd K (c, some f)) "property" with
    | some (.ref _ :: _) => true
    | _ => false))
theorem propB_ok {K : PySem.W.Frag} {c f : Str} (h : propB K c f = true) : PropOf K (He.ga K c) f (He.fAd K (c, some f)) (gAd K (c, some f)) := by
  unfold propB at h
  obtain ⟨h1, h⟩ := and2 h
  obtain ⟨h2, h⟩ := and2 h
  obtain ⟨h3, h4⟩ := and2 h
  refine ⟨of_decide_eq_true h1, of_decide_eq_true h2, of_decide_eq_true h3, ?_⟩
  unfold gAd
  split at h4
  · rename_i g r e
    exact ⟨r, by rw [e]⟩
  · cases h4
abbrev AlG : Type := He.AlD × Bool × List He.FnW
def seen (fa : List He.Fa) (fn gt : List He.DefD) (ex : PySem.W.Frag → Bool) (K : PySem.W.Frag) : AlG := (He.obsD fa fn K, ex K && gt.all (fun d => restAt K (gAd K d.at_) d.qual), gt.map fun d => codeAt K (gAd K d.at_))
def due (fn gt : List He.DefD) : AlG := (He.valD fn, true, gt.map He.DefD.val)
def SaysG (fa : List He.Fa) (fn gt : List He.DefD) (ex : PySem.W.Frag → Bool) (K : PySem.W.Frag) : Prop := seen fa fn gt ex K = due fn gt
def hookG (n : Nat) (fa : List He.Fa) (fn gt : List He.DefD) (ex : PySem.W.Frag → Bool) : PySem.W.Hook where
  α := AlG
  obs := fun s => seen fa fn gt ex (He.frG s.heap.get? (He.asD s.heap.get? n))
  val := fun _ => due fn gt
  says := fun _ h => ∃ K : PySem.W.Frag, K.In h ∧ SaysG fa fn gt ex K
  of := fun _ _ e => ⟨_, He.frG_in, e⟩
  keeps := fun _ _ _ ⟨K, hK, c⟩ k => ⟨K, PySem.W.Frag.In.keeps hK k, c⟩
theorem obsG_eq {n : Nat} {fa : List He.Fa} {fn gt : List He.DefD} {ex : PySem.W.Frag → Bool} {g : Addr → Option Obj} {s : Shared} (h : ∀ a, g a = s.heap.get? a) : seen fa fn gt ex (He.frG g (He.asD g n)) = (hookG n fa fn gt ex).obs s := by
  have e : g = s.heap.get? := funext h
  rw [e] <;> rfl
section
variable {fa : List He.Fa} {fn gt : List He.DefD} {ex : PySem.W.Frag → Bool} {K : PySem.W.Frag}
theorem SaysG.d (c : SaysG fa fn gt ex K) : He.SaysD fa fn K := congrArg (fun z : AlG => z.1) c
theorem SaysG.more (c : SaysG fa fn gt ex K) : ex K = true := (and2 (congrArg (fun z : AlG => z.2.1) c)).1
theorem SaysG.get (c : SaysG fa fn gt ex K) (i : Nat) {d : He.DefD} (h : gt[i]? = some d) : ∃ fd, FunD K d.name d.qual d.params d.body d.scope [] [] (gAd K d.at_) fd := by
  have r := List.all_eq_true.mp (and2 (congrArg (fun z : AlG => z.2.1) c)).2 d (List.mem_of_getElem? h)
  have e : (gt.map fun d => codeAt K (gAd K d.at_)) = gt.map He.DefD.val := congrArg (fun z : AlG => z.2.2) c
  have e2 : (gt.map fun d => codeAt K (gAd K d.at_))[i]? = (gt.map He.DefD.val)[i]? := by rw [e]
  rw [List.getElem?_map, List.getElem?_map, h] at e2
  exact funAt (Option.some.inj e2) r
end
def noX {α : Type} : M α → M α
  | .ok a => .ok a
  | .error _ => stuck
@[simp] theorem noX_ok {α : Type} (a : α) : noX (.ok a : M α) = .ok a := rfl
theorem noX_no {α : Type} {m : M α} (x : Ex) : noX m ≠ .error (.exc x) := by
  cases m <;> exact fun z => nomatch z
theorem noX_wp {α β : Type} {K : PySem.W.Frag} {E : XK} {rel : Hp → Hp → β → α → Prop} {m : M α} {F H : Hp} {Q : β → Hp → Prop} (h : WpG K E rel (noX m) F H Q) : WpG K E rel m F H Q := by
  cases m with
  | ok a => exact h
  | error e => exact h.elim
abbrev DefOkG (K : PySem.W.Frag) (d : He.DefD) (fd : FuncData) : Prop := FunD K d.name d.qual d.params d.body d.scope [] [] (gAd K d.at_) fd
@[simp] abbrev mProp (c : String) (m : List D → M D) (a : M D) : M D := a >>= fun x => D.isIns c x >>= fun x => noX (m [x])
section
variable {X : Cx} {E : St → XK} {G : List Sl} {b : Expr} {mb : M D} {pos : Pos}
theorem de_propX {k : Nat} {p g : Addr} {fd : FuncData} {ps : List Str} {m : List D → M D} {c f : String} (hC : Cls X.K (He.ga X.K (Str.ofString c))) (hP : PropOf X.K (He.ga X.K (Str.ofString c)) (Str.ofString f) p g)
    (F : FnOk X.prog X.w X.K X.mg X.base (L2.CX X.prog X.w) k g fd ps (spD X.K [true] m)) (hr : Room (k + 1) X.A) (hb : Binds X.K fd ps []) (ho : DR X E G b mb)
    (hab : attributeBase b (Str.ofString f) X.env (eval b X.env) = eval b X.env := by rfl) : DE X E G (.Attribute b (Str.ofString f) pos) (mProp c m mb) :=
  de_prop (m := fun l => noX (m l)) hC hP (F.imp fun vs H Q E ⟨F0, ds, h1, h2, h3⟩ => ⟨F0, ds, h1, h2, noX_wp h3⟩) hr hb ho (fun l x => noX_no x) hab
end
end DL

set_option Elab.async false
set_option linter.all false
set_option maxRecDepth 100000
set_option maxHeartbeats 4000000
namespace DL
open PySem PySem.Spec L2
section
variable {X : Cx} {CX : CXT} {k n : Nat} {f C : Addr} {fd : FuncData} {ps ks : List Str} {sp : Sp} {E : St → XK} {x : Str} {p pos : Pos} {kws : List Keyword} {tk : TA} {g : List Value → List Value → List Value} {gV : List V → List V → List V} {pins : List (Addr × Obj)} {σ : St} {H : Hp} {s : Shared} {Q : VK} {ws : List Value} {zs : List V}
theorem make_atK {E1 : XK} (M : Mk X.K C f) (F : FnOk X.prog X.w X.K X.mg X.base CX k f fd ps sp) (hr : Room (k + 1) X.A) (hb : KBn X.K fd ps 1 ks g gV) (pass : PassesAt CX X σ E1) (I : Inv X pins σ H s) (rz : Vals zs ws) (lz : zs.length = ks.length)
    (want : ∀ x dx, H x = none → H dx = none → dx ≠ x → sp (gV [.ref x] zs) (upd (upd H dx (.own x)) x (.ins C dx [])) (fun v H2 => v = .non ∧ Q (.ref x) H2) E1) :
    wpAny (model X.prog X.w) X.A (call (.ref C) [] (ks.zip ws)) (EP X pins σ Q) X.xe s := by
  have w := want (s.heap.objs.size + 1) s.heap.objs.size (I.hok.fresh (Nat.le_succ _)) (I.hok.fresh (Nat.le_refl _)) (Nat.ne_of_lt (Nat.lt_succ_self _))
  have J := Inv.made (C := C) I
  have self : RelV (V.ref (s.heap.objs.size + 1)) (Value.ref (s.heap.objs.size + 1)) := rfl
  have one : Vals [V.ref (s.heap.objs.size + 1)] [Value.ref (s.heap.objs.size + 1)] := .cons self .nil
  have all := hb.rel one rz
  refine wpAny_call (make_map (f := f) I.kIn M.makes M.init (beq_iff_eq.mp M.fn) (codeAny_mono (F.run _ X.stack _ _ _ _ _ _ E1 (hr.make C [] (ks.zip ws)) (J.env0.make C [] (ks.zip ws)) (hb.to _ _ ws J.kIn rfl (rz.length.symm.trans lz)) all w) ?_))
  intro res s2 got
  match res, got with
  | .error e, got => exact pass pins _ _ e s2 J got
  | .ok (.ret u), got =>
    obtain ⟨v, H2, I2, rv, ev, q⟩ := J.after got
    cases ev
    exact ⟨rv, V.ref (s.heap.objs.size + 1), H2, I2, rfl, q⟩
def tMakeKS (C : Addr) (m : Nat) (sp : Sp) (gV : List V → List V → List V) (E : St → XK) (tk : TA) : TE := fun σ H Q => tk σ H fun zs H2 => zs.length = m ∧ ∀ x dx, H2 x = none → H2 dx = none → dx ≠ x → sp (gV [.ref x] zs) (upd (upd H2 dx (.own x)) x (.ins C dx [])) (fun v H3 => v = .non ∧ Q (.ref x) H3) (E σ)
theorem pe_makeKS (M : Mk X.K C f) (F : FnOk X.prog X.w X.K X.mg X.base CX k f fd ps sp) (hr : Room (k + 1) X.A) (hg : Gl X x) (hm : X.mg x = some (.ref C)) (hb : KBn X.K fd ps 1 ks g gV) (pass : ∀ σ, PassesAt CX X σ (E σ)) (hkw : PK X kws tk)
    (hall : (backToKw pos (keywordEach kws X.env)).all (·.1.isSome) = true) (hks : (backToKw pos (keywordEach kws X.env)).filterMap (·.1) = ks) (hdb : (x == ("__debug__" : Str)) = false)
    (hpl : ((backTo pos (starEach [] X.env)).any (·.1) || (backToKw pos (keywordEach kws X.env)).any (·.1.isNone)) = false) :
    PE X (.Call (.Name x p) [] kws pos) (tMakeKS C ks.length sp gV E tk) := by
  constructor
  intro pins s σ H Q I h
  refine wpAny_Call_Name_kw (ld_glob I hg hm (PySem.W.callWith_KW0 (h₀ := X.base) I.ok.mod.kin M.kp hall (thn (hkw.run pos pins s σ H _ I h) ?_) hpl) hdb)
  rintro ws s2 ⟨zs, H2, I2, rz, lz, q2⟩
  rw [hks]
  exact ⟨I2.kIn, make_atK M F hr hb (pass σ) I2 rz lz q2⟩
end
section
variable {X : Cx} {E : St → XK} {G : List Sl} {a : Expr} {ma : M D} {pos : Pos}
def DAK (X : Cx) (E : St → XK) (G : List Sl) (bs : List Bool) (kws : List Keyword) (m : M (List D)) : Prop :=
  ∃ t, PK X kws t ∧ ∀ B σ F H Q, Same F H → GOk X.K B G σ F H → WpG X.K (E σ) (fun F' H' v d => RpA X.K F' H' bs v d) m F H Q → t σ H Q
theorem dak_nil : DAK X E G [] [] (.ok []) := ⟨_, pk_nil, fun B σ F H Q s g q => q F H _ (Ext.refl s) .nil⟩
theorem dak_frz {kws : List Keyword} {nm : Option Str} {kp : Pos} {bs : List Bool} {ms : M (List D)} (ha : DE X E G a ma) (hr : DAK X E G bs kws ms) : DAK X E G (false :: bs) (⟨nm, a, kp⟩ :: kws) (ma >>= fun x => ms >>= fun xs => .ok (x :: xs)) := by
  obtain ⟨t1, p1, w1⟩ := ha
  obtain ⟨t2, p2, w2⟩ := hr
  exact ⟨_, pk_cons p1 p2, fun B σ F H Q s g q => w1 B σ F H _ s g (WpG.bind q fun x F1 H1 v x1 r1 k1 => w2 B σ F1 H1 _ x1.sFH (g.ext x1) (WpG.bind k1 fun xs F2 H2 vs x2 r2 k2 => k2 F2 H2 _ (Ext.refl x2.sFH) (.frz (r1.mono x2.sF) r2)))⟩
theorem dak_bor {kws : List Keyword} {nm : Option Str} {kp : Pos} {bs : List Bool} {ms : M (List D)} (ha : DR X E G a ma) (hr : DAK X E G bs kws ms) : DAK X E G (true :: bs) (⟨nm, a, kp⟩ :: kws) (ma >>= fun x => ms >>= fun xs => .ok (x :: xs)) := by
  obtain ⟨t1, p1, w1⟩ := ha
  obtain ⟨t2, p2, w2⟩ := hr
  exact ⟨_, pk_cons p1 p2, fun B σ F H Q s g q => w1 B σ F H _ s g (WpG.bind q fun x F1 H1 v x1 r1 k1 => w2 B σ F1 H1 _ x1.sFH (g.ext x1) (WpG.bind k1 fun xs F2 H2 vs x2 r2 k2 => k2 F2 H2 _ (Ext.refl x2.sFH) (.bor (r1.ext x2) r2)))⟩
theorem de_makeK {k : Nat} {f : Addr} {fd : FuncData} {ps ks : List Str} {bc bs : List Bool} {m : List D → M (List (String × D))} {x : Str} {c : String} {p : Pos} {kws : List Keyword} {ms : M (List D)} {g : List Value → List Value → List Value} {gV : List V → List V → List V} {gv : List V → List V} {gd : List D → List D}
    (cx : CtxOk X E) (M : Mk X.K (He.ga X.K (Str.ofString c)) f) (F : FnOk X.prog X.w X.K X.mg X.base (L2.CX X.prog X.w) k f fd ps (spI X.K c bs m)) (hr : Room (k + 1) X.A) (hg : Gl X x) (hm : X.mg x = some (.ref (He.ga X.K (Str.ofString c)))) (hb : KBn X.K fd ps 1 ks g gV)
    (hgv : ∀ x zs, zs.length = ks.length → gV [.ref x] zs = .ref x :: gv zs) (hbc : bc.length = ks.length) (hv : ∀ F H vs ds, RpA X.K F H bc vs ds → RpA X.K F H bs (gv vs) (gd ds)) (ha : DAK X E G bc kws ms)
    (hall : (backToKw pos (keywordEach kws X.env)).all (·.1.isSome) = true := by rfl) (hks : (backToKw pos (keywordEach kws X.env)).filterMap (·.1) = ks := by rfl) (hdb : (x == ("__debug__" : Str)) = false := by decide)
    (hpl : ((backTo pos (starEach [] X.env)).any (·.1) || (backToKw pos (keywordEach kws X.env)).any (·.1.isNone)) = false := by rfl) :
    DE X E G (.Call (.Name x p) [] kws pos) (ms >>= fun l => m (gd l) >>= fun l => .ok (.ins c l)) := by
  obtain ⟨t, pk, w⟩ := ha
  refine ⟨_, pe_makeKS M F hr hg hm hb cx.pass pk hall hks hdb hpl, fun B σ F H Q s g q => w B σ F H _ s g (WpG.bind q fun l F1 H1 vs x1 r1 k1 => ⟨r1.len.1.trans hbc, fun x dx hx hdx ne => ?_⟩)⟩
  rw [hgv x vs (r1.len.1.trans hbc)]
  have h := make_run (c := c) (m := m) x1.sFH (hv F1 H1 vs l r1) k1 x dx hx hdx ne
  rw [List.append_nil] at h
  exact h
@[simp] abbrev mkInsK (c : String) (m : List D → M (List (String × D))) (gd : List D → List D) (a : M (List D)) : M D := a >>= fun l => m (gd l) >>= fun l => .ok (.ins c l)
end
def kwdAt (p : Str × Option Str) (x : Str) (K : PySem.W.Frag) : Addr := match K.lookup (He.fAd K p) with
  | some ⟨_, _, .func fd, _⟩ => (match fd.kwdefaults with
    | .ref D => (match PySem.W.nsIn K D x with
      | some (some (.ref a)) => a
      | _ => 0)
    | _ => 0)
  | _ => 0
def tup0B (K : PySem.W.Frag) (a : Addr) : Bool := match K.lookup a with
  | some ⟨.type "tuple", none, .seq its _, _⟩ => its.isEmpty
  | _ => false
theorem tup0_ok {K : PySem.W.Frag} {a : Addr} (h : tup0B K a = true) (F : Hp) : Rp K F (.ref a) (.tup []) := by
  unfold tup0B at h
  split at h
  · rename_i its n sl e
    have hi : its = #[] := by simpa using h
    subst hi
    exact .tup (.inr ⟨_, #[], n, e, rfl, rfl, rfl, Nat.zero_le _, .nil⟩) .nil
  · cases h
def pick {α : Type} (l : List α) (i : Nat) : List α := (l.drop i).take 1
@[simp] theorem pick_0 {α : Type} (a : α) (l : List α) : pick (a :: l) 0 = [a] := rfl
@[simp] theorem pick_s {α : Type} (a : α) (l : List α) (i : Nat) : pick (a :: l) (i + 1) = pick l i := rfl
theorem vals_take : ∀ (n : Nat) {vs : List V} {us : List Value}, Vals vs us → Vals (vs.take n) (us.take n)
  | 0, _, _, _ => .nil
  | _ + 1, _, _, .nil => .nil
  | n + 1, _, _, .cons r h => .cons r (vals_take n h)
theorem vals_drop : ∀ (n : Nat) {vs : List V} {us : List Value}, Vals vs us → Vals (vs.drop n) (us.drop n)
  | 0, _, _, h => h
  | _ + 1, _, _, .nil => .nil
  | n + 1, _, _, .cons _ h => vals_drop n h
theorem vals_pick {vs : List V} {us : List Value} (h : Vals vs us) (i : Nat) : Vals (pick vs i) (pick us i) := vals_take 1 (vals_drop i h)
theorem rpa_pick {K : PySem.W.Frag} {F H : Hp} {b : Bool} {b2 : List Bool} {r : List V} {r2 : List D} : ∀ {bs : List Bool} {vs : List V} {ds : List D} (i : Nat), bs[i]? = some b → RpA K F H bs vs ds → RpA K F H b2 r r2 → RpA K F H (b :: b2) (pick vs i ++ r) (pick ds i ++ r2)
  | _, _, _, _, e, .nil, _ => by simp at e
  | _, _, _, 0, e, .frz x h, q => by
    have : false = b := by simpa using e
    subst this
    exact .frz x q
  | _, _, _, 0, e, .bor x h, q => by
    have : true = b := by simpa using e
    subst this
    exact .bor x q
  | _, _, _, i + 1, e, .frz x h, q => rpa_pick i (by simpa using e) h q
  | _, _, _, i + 1, e, .bor x h, q => rpa_pick i (by simpa using e) h q
theorem rpa_dfl {K : PySem.W.Frag} {F H : Hp} {b : Bool} {b2 : List Bool} {r : List V} {r2 : List D} {v : V} {d : D} (h : Rp K F v d) (q : RpA K F H b2 r r2) : RpA K F H (b :: b2) (v :: r) (d :: r2) := by
  cases b with
  | false => exact .frz h q
  | true => exact .bor (.of h) q
end DL

set_option Elab.async false
set_option linter.all false
set_option maxRecDepth 100000
set_option maxHeartbeats 4000000
namespace DL
open PySem PySem.Spec L2
section
variable {P : Program} {w : World} {K : PySem.W.Frag} {A : Around} {x qual nm : Str} {params : Arguments} {scope : Scope} {p1 p2 p3 p4 : Pos} {j : Nat} {f : Addr} {fd : FuncData} {N : List Str}
theorem first_call (F : FunD K x qual params [.Return (some (.Subscript (.Name nm p1) (.Constant (.int 0) j p2) p3)) p4] scope [] [] f fd) (S : FnScope N [nm] scope) (hl : scope.names.lookup nm = some .local) (hn : (nm == ("__debug__" : Str)) = false) (hb : Binds K fd [nm] []) (hd : A.depth < recursionLimit)
    {s : Shared} (KX : K.In s.heap) (lim : s.heap.NoLimit) {t : Addr} {its : Array Value} {y : Value} (ht : PyProof.Rows.IsTup s.heap t its) (hy : its[0]? = some y) :
    codeAny (model P w) A (.call (.ref f) ⟨[.ref t], []⟩) (fun r s' => r = .ok (.ret y) ∧ ∃ h' tk, s' = { s with heap := h', toks := tk } ∧ ∀ b o, s.heap.get? b = some o → h'.get? b = some o) s := by
  obtain ⟨oc, od, dV, kV, doc, pm, an, cdv, ct, osl, rfl, lk, hcd, _, _⟩ := F.ex
  have hkind : ∀ z ∈ [(nm, Value.ref t)], scope.names.lookup z.1 = some .local ∨ (scope.names.lookup z.1 = some .cell ∧ ((cellsFrom (s.heap.objs.size + 1) scope.names []).lookup z.1).isSome = true) := fun z hz => by
    rw [List.mem_singleton.mp hz]
    exact .inl hl
  refine codeAny_call_function hd (KX _ _ lk) rfl S.co S.gen rfl (PySem.W.codeRec_of KX hcd) (hb s [.ref t] KX rfl _ _ _ _ ?_)
  refine wpAny_newFunctionEnv_cells S.kind hkind fun env he s1 z => ?_
  subst he
  refine ⟨lim.keeps z.toInCall.keep, codeAny_func (wpAny_execs_cons (wpAny_Return_some (PyProof.Rows.Subscript_ ?_)))⟩
  refine wpAny_Name (wpAny_loadName_local S.kind hl z.toInCall.ns (v := .ref t) ?_ ?_) hn
  · show (if scope.names.lookup nm = some .local then (fun y => if y = nm then some (Value.ref t) else none) else fun _ => none) nm = _
    rw [if_pos hl]
    simp
  · refine wpAny_Constant_int ?_
    have z1 := z.tok (s1.toks + 1)
    refine PyProof.Rows.item_tuple (j := 0) (x := y) (ht.keeps z.toInCall.keep) (by decide) (by decide) ?_ hy ?_
    · have := (Array.getElem?_eq_some_iff.mp hy).1
      unfold seqIndex?
      have h0 : ((0 : Int) < (its.size : Int)) := by omega
      have hj : ((0 : Int) ≤ 0 && decide ((0 : Int) < (its.size : Int))) = true := by simp only [decide_eq_true h0]; rfl
      show (if ((0 : Int) ≤ (if (0 : Int) < 0 then 0 + (its.size : Int) else 0) && decide ((if (0 : Int) < 0 then 0 + (its.size : Int) else 0) < (its.size : Int))) = true then some (if (0 : Int) < 0 then 0 + (its.size : Int) else 0).toNat else none) = some 0
      rw [if_neg (show ¬ (0 : Int) < 0 by omega)]
      rw [if_pos (by simp only [decide_eq_true h0]; rfl)]
      rfl
    · obtain ⟨h', tk, e, k⟩ := z1.done
      exact ⟨rfl, h', tk, e, k⟩
end
end DL

set_option Elab.async false
set_option linter.all false
set_option maxRecDepth 100000
set_option maxHeartbeats 4000000
namespace DL
open PySem PySem.Spec L2
def rSortK0 (K : PySem.W.Frag) (f : Addr) : List V → List V → Hp → VK → Prop := fun vs zs H Q => ∃ (a : Addr) (bs : List (V × Str)), vs = [V.ref a] ∧ zs = [V.ref f] ∧ SqL K H a (bs.map (·.1)) ∧
  (∀ b ∈ bs, ∃ t xs, b.1 = V.ref t ∧ SqT K H t xs ∧ xs[0]? = some (V.str b.2)) ∧ ∀ p, H p = none → Q (.ref p) (upd H p (.lst ((bs.mergeSort (PySem.W.dataLe false fun b => .str b.2)).map (·.1))))
theorem vals_eachS : ∀ {bs : List (V × Str)} {out : List Value}, PySem.W.EachIs (fun v (b : V × Str) => RelV b.1 v) out bs → Vals (bs.map (·.1)) out
  | _, _, .nil => .nil
  | _, _, .cons r e => .cons r (vals_eachS e)
theorem eachS_vals : ∀ {bs : List (V × Str)} {out : List Value}, Vals (bs.map (·.1)) out → PySem.W.EachIs (fun v (b : V × Str) => RelV b.1 v) out bs
  | [], _, r => by
    cases r
    exact .nil
  | b :: bs, _, r => by
    cases r with
    | cons r1 r2 => exact .cons r1 (eachS_vals r2)
theorem cr_sortK0 {X : Cx} {x qual nm : Str} {params : Arguments} {scope : Scope} {p1 p2 p3 p4 : Pos} {j : Nat} {f : Addr} {fd : FuncData} {N : List Str}
    (F : FunD X.K x qual params [.Return (some (.Subscript (.Name nm p1) (.Constant (.int 0) j p2) p3)) p4] scope [] [] f fd) (S : FnScope N [nm] scope) (hl : scope.names.lookup nm = some .local) (hn : (nm == ("__debug__" : Str)) = false) (hb : Binds X.K fd [nm] [])
    (hd : X.A.in1.in1.depth < recursionLimit) (hu : X.A.units + 70 < cLine) : CallRK X (.builtin "sorted") [Str.ofString "key"] (rSortK0 X.K f) := by
  intro pins s σ H vs zs us ws Q I r rz h
  obtain ⟨a, bs, rfl, rfl, hs, hx, q⟩ := h
  obtain rfl := Vals.ref1 r
  obtain ⟨w1, rfl, e1⟩ := vals1 rz
  obtain rfl : w1 = Value.ref f := e1
  obtain ⟨its, rv, hlst, hz⟩ := I.list hs
  rw [List.length_map] at hz
  refine PySem.W.sorted_key_data (fun b : V × Str => PyData.str b.2) hlst.isList (eachS_vals rv) (PySem.W.AllAlike.of fun b b' => by simp [PySem.W.alike]) (PySem.W.Sortable.others fun b => ⟨by simp, fun xs => by simp⟩) hz (fun b hb => by simp only [PyData.depth]; omega)
    (PyProof.Rows.ksk_s1 _ _) (fun _ => PyProof.Rows.ksk_l1 _ _) (fun _ => PyProof.Rows.ksk_t1 _ _) (fun v b hR hb' h tk kp => ?_) fun out c h' tk kp hD hD2 ho eo => ?_
  · obtain ⟨t, xs, et, ht, h0⟩ := hx b hb'
    rw [et] at hR
    cases (show v = Value.ref t from hR)
    obtain ⟨its2, rv2, pl, hz2⟩ := I.tuple ht
    obtain ⟨y, hy, ry⟩ := rv2.get h0
    obtain ⟨tk2, rfl⟩ : ∃ t, y = Value.str b.2 t := ry
    refine wpAny_call (codeAny_mono (first_call F S hl hn hb hd (s := { s with heap := h, toks := tk }) (I.kIn.keeps kp) (I.nolimit.keeps kp) (pl.keeps kp) (y := Value.str b.2 tk2) (by simpa using hy)) fun r s' ⟨er, h2, tk3, e2, k2⟩ => ?_)
    subst er
    exact ⟨h2, tk3, e2, k2, .str _ _⟩
  · have hlen : ((bs.mergeSort (PySem.W.dataLe false fun b => .str b.2)).map (·.1)).length ≤ sizeLine := by
      rw [List.length_map, List.length_mergeSort]
      exact hz
    exact ⟨.ref _, upd H (s.heap.objs.size + 1) (.lst ((bs.mergeSort (PySem.W.dataLe false fun b => .str b.2)).map (·.1))), I.laid (t' := tk) (fun b o e => kp b o e) (Nat.le_succ _) ⟨hlen, out, c, vals_eachS eo, hD2⟩, rfl, q _ (I.hok.fresh (Nat.le_succ _))⟩
def D.key0 : D → Option Str
  | .tup (.str k :: _) => some k
  | _ => none
def D.sortK0 (l : List D) : List D := l.mergeSort fun a b => !PySem.W.dataLt (.str ((D.key0 b).getD ⟨#[]⟩)) (.str ((D.key0 a).getD ⟨#[]⟩))
def D.sortedK0 : D → M D
  | .lst l => need (l.all fun d => d.key0.isSome) >>= fun _ => .ok (.lst (D.sortK0 l))
  | _ => stuck
section
variable {K : PySem.W.Frag} {F H : Hp}
theorem key0_rp {v : V} {d : D} {k : Str} (r : Rp K F v d) (h : d.key0 = some k) : ∃ t xs, v = V.ref t ∧ SqT K F t xs ∧ xs[0]? = some (V.str k) := by
  cases d with
  | tup l => cases l with
    | nil => cases h
    | cons x l => cases x with
      | str y =>
        cases h
        cases r with
        | tup h1 hs => cases hs with
          | cons h2 _ => cases h2 with
            | str _ _ => exact ⟨_, _, rfl, h1.sqT, rfl⟩
      | _ => cases h
  | _ => cases h
theorem sortK0_rp {xs : List V} {l : List D} (r : RpL K F xs l) : RpL K F (((xs.zip (l.map fun d => (D.key0 d).getD ⟨#[]⟩)).mergeSort (PySem.W.dataLe false fun b => .str b.2)).map (·.1)) (D.sortK0 l) := by
  obtain ⟨h1, h2, h3⟩ := rpl_zip r
  have eb : xs.zip (l.map fun d => (D.key0 d).getD ⟨#[]⟩) = (xs.zip l).map fun c => (c.1, (D.key0 c.2).getD ⟨#[]⟩) := by
    rw [List.zip_map_right]
    rfl
  have e1 : (((xs.zip (l.map fun d => (D.key0 d).getD ⟨#[]⟩)).mergeSort (PySem.W.dataLe false fun b => .str b.2)).map (·.1)) = ((xs.zip l).mergeSort fun a b => !PySem.W.dataLt (.str ((D.key0 b.2).getD ⟨#[]⟩)) (.str ((D.key0 a.2).getD ⟨#[]⟩))).map (·.1) := by
    rw [eb, ← List.map_mergeSort (r := fun a b : V × D => !PySem.W.dataLt (.str ((D.key0 b.2).getD ⟨#[]⟩)) (.str ((D.key0 a.2).getD ⟨#[]⟩))), List.map_map]
    · rfl
    · intro a _ b _
      rw [PySem.W.dataLe_eq]
      rfl
  have e2 : D.sortK0 l = ((xs.zip l).mergeSort fun a b => !PySem.W.dataLt (.str ((D.key0 b.2).getD ⟨#[]⟩)) (.str ((D.key0 a.2).getD ⟨#[]⟩))).map (·.2) := by
    unfold D.sortK0
    rw [List.map_mergeSort (s := fun a b => !PySem.W.dataLt (.str ((D.key0 b).getD ⟨#[]⟩)) (.str ((D.key0 a).getD ⟨#[]⟩))), h2]
    intro a _ b _
    rfl
  rw [e1, e2]
  exact rpl_of fun c hc => h3 c (List.mem_mergeSort.mp hc)
end
section
variable {X : Cx} {E : St → XK} {G : List Sl} {a b c e : Expr} {ma mb mc : M D} {pos : Pos} {F H : Hp}
theorem de_sortK0 {f : Addr} {p pk : Pos} {k : Expr} (hc : CallRK X (.builtin "sorted") [Str.ofString "key"] (rSortK0 X.K f)) (hg : Gl X "sorted") (hm : X.mg "sorted" = none) (hk : PE X k (tC (.ref f))) (ha : DR X E G a ma)
    (hs : starEach [a] X.env = (false, eval a X.env) :: starEach [] X.env := by rfl)
    (he : backTo pos (starEach [a] X.env) = (false, eval a X.env) :: backTo pos (starEach [] X.env) := by rfl) (hpl : (backTo pos (starEach [a] X.env)).any (·.1) = false := by rfl)
    (hall : (backToKw pos (keywordEach [⟨some "key", k, pk⟩] X.env)).all (·.1.isSome) = true := by rfl) (hnone : (backToKw pos (keywordEach [⟨some "key", k, pk⟩] X.env)).any (·.1.isNone) = false := by rfl) (hks : (backToKw pos (keywordEach [⟨some "key", k, pk⟩] X.env)).filterMap (·.1) = [Str.ofString "key"] := by rfl) :
    DE X E G (.Call (.Name "sorted" p) [a] [⟨some "key", k, pk⟩] pos) (ma >>= fun x => D.sortedK0 x) := by
  obtain ⟨t, pa, w⟩ := ha
  refine ⟨_, pe_callBK hc hg hm boot_sorted_ (pa_cons pa pa_nil hs) (pk_cons hk pk_nil) (by decide) (by decide) he hpl hall hnone hks, fun B σ F H Q s g q => w B σ F H _ s g (WpG.bind q fun x F1 H1 v x1 r1 k1 => ?_)⟩
  cases x with
  | lst l =>
    have k1 : WpG X.K (E σ) (rE X.K) (need (l.all fun d => d.key0.isSome) >>= fun _ => .ok (.lst (D.sortK0 l))) F1 H1 Q := k1
    obtain ⟨c, k2⟩ := WpG.need k1
    clear k1
    obtain ⟨p, xs, rfl, h, r⟩ := r1.lst x1.sFH
    have hl : xs.length = (l.map fun d => (D.key0 d).getD ⟨#[]⟩).length := by rw [List.length_map, r.length]
    have e1 : (xs.zip (l.map fun d => (D.key0 d).getD ⟨#[]⟩)).map (·.1) = xs := List.map_fst_zip (Nat.le_of_eq hl)
    refine ⟨p, xs.zip (l.map fun d => (D.key0 d).getD ⟨#[]⟩), rfl, rfl, by rw [e1]; exact SqL.of h, fun b hb => ?_, new_lst x1.sFH (sortK0_rp r) k2⟩
    obtain ⟨h1, h2, h3⟩ := rpl_zip r
    rw [List.zip_map_right] at hb
    obtain ⟨z, hz, rfl⟩ := List.mem_map.mp hb
    have hz2 : z.2 ∈ l := by
      rw [← h2]
      exact List.mem_map.mpr ⟨z, hz, rfl⟩
    have sh := List.all_eq_true.mp c _ hz2
    obtain ⟨k, ek⟩ := Option.isSome_iff_exists.mp sh
    obtain ⟨t, ys, e1, e2, e3⟩ := key0_rp (h3 z hz) ek
    exact ⟨t, ys, e1, Same.seqT x1.sFH e2.sqT, by simpa [ek] using e3⟩
  | _ => exact k1.elim
def ixOf (l : List D) (x : D) : Option Nat := l.findIdx? fun z => D.beq z x
def D.index (x y : D) : M D :=
  match x with
  | .lst l => need (l.all (D.shp 19) && y.shp 19) >>= fun _ => match ixOf l y with | some j => .ok (.int (j : Nat)) | none => stuck
  | _ => stuck
end
end DL

set_option Elab.async false
set_option linter.all false
set_option maxRecDepth 100000
set_option maxHeartbeats 4000000
namespace DL
open PySem PySem.Spec L2
section
variable {K : PySem.W.Frag} {E : XK} {B0 B F H F' H' : Hp}
end
def putDk (l : List (D × D)) (k v : D) : List (D × D) := if (l.any fun q => D.beq q.1 k) = true then l.map (fun q => if D.beq q.1 k = true then (q.1, v) else q) else l ++ [(k, v)]
def dropDk (l : List (D × D)) (k : D) : List (D × D) := l.filter fun q => !D.beq q.1 k
section
variable {K : PySem.W.Frag} {F : Hp}
end
section
variable {X : Cx} {E : XK} {G : List Sl} {a b c e : Expr} {ma mb mc : M D} {ta tb : M Bool} {pos : Pos} {st : Stmt} {rest body : List Stmt} {F H : Hp}
@[simp] abbrev mPut (l : List (D × D)) (me mk : M D) : M (List (D × D)) := me >>= fun d => mk >>= fun k => need (k.isKey && decide (l.length < sizeLine)) >>= fun _ => .ok (putDk l k d)
end
section
variable {X : Cx} {E : St → XK} {G : List Sl} {a b c e : Expr} {ma mb mc : M D} {pos : Pos} {F H : Hp}
def D.get2 (x k z : D) : M D :=
  match x with
  | .dct l => need k.isKey >>= fun _ => .ok ((D.look l k).getD z)
  | _ => stuck
def D.isDct : D → Bool
  | .dct _ => true
  | _ => false
@[simp] abbrev mGet2 (mo mk mz : M D) : M D := mo >>= fun x => need x.isDct >>= fun _ => mk >>= fun k => mz >>= fun z => D.get2 x k z
end
section
variable {X : Cx} {E : XK} {G : List Sl} {body : List Stmt}
end
end DL

set_option Elab.async false
set_option linter.all false
set_option maxRecDepth 100000
set_option maxHeartbeats 4000000
namespace DL
open PySem PySem.Spec L2
def WpE {α β : Type} (K : PySem.W.Frag) (E : XK) (B0 B : Hp) (σ : St) (G1 : α → List Sl) (rel : Hp → Hp → β → α → Prop) (m : M α) (F : Hp) (Q : β → Hp → Prop) : Prop :=
  match m with
  | .ok a => ∀ F' H' v, Same F F' → Ext B0 B F' H' → GOk K B (G1 a) σ F' H' → rel F' H' v a → Q v H'
  | .error .stuck => False
  | .error (.exc x) => ∀ F' H' c d, Same F F' → Ext B0 B F' H' → RpX K F' H' c d x → E c d H'
section
variable {K : PySem.W.Frag} {E : XK} {B0 B F F' : Hp} {σ : St}
theorem WpE.mono {α β : Type} {G1 : α → List Sl} {rel : Hp → Hp → β → α → Prop} {m : M α} {Q : β → Hp → Prop} (s : Same F F') (h : WpE K E B0 B σ G1 rel m F Q) : WpE K E B0 B σ G1 rel m F' Q := by
  cases m with
  | ok a => exact fun F2 H2 v s2 => h F2 H2 v (s.trans s2)
  | error e => cases e with
    | stuck => exact h
    | exc x => exact fun F2 H2 c d s2 => h F2 H2 c d (s.trans s2)
theorem WpE.bind {α β γ δ : Type} {G1 : α → List Sl} {G2 : γ → List Sl} {rel : Hp → Hp → β → α → Prop} {rel2 : Hp → Hp → δ → γ → Prop} {m : M α} {k : α → M γ} {Q : δ → Hp → Prop} {Q1 : β → Hp → Prop}
    (h : WpE K E B0 B σ G2 rel2 (m >>= k) F Q) (hk : ∀ a F' H' v, Same F F' → Ext B0 B F' H' → GOk K B (G1 a) σ F' H' → rel F' H' v a → WpE K E B0 B σ G2 rel2 (k a) F' Q → Q1 v H') : WpE K E B0 B σ G1 rel m F Q1 := by
  cases m with
  | ok a => exact fun F2 H2 v s2 x g r => hk a F2 H2 v s2 x g r (WpE.mono s2 h)
  | error e => cases e with
    | stuck => exact h
    | exc x => exact h
end
section
variable {X : Cx} {E : St → XK} {G : List Sl} {a b c e : Expr} {ma mb mc : M D} {pos : Pos} {F H : Hp}
def Rcv (X : Cx) (G : List Sl) (i : Nat) (x : D) : Prop := G[i]? = some (.bor x) ∨ G[i]? = some (.val x)
theorem Rcv.at {i : Nat} {x : D} (h : Rcv X G i x) {B : Hp} {σ : St} (g : GOk X.K B G σ F H) : ∃ v, σ[i]? = some (some v) ∧ ∀ F' H', Same F F' → Same B H' → RpT X.K F' H' v x := by
  rcases h with h | h
  · obtain ⟨o, h1, v, rfl, r⟩ := g.ok i _ h
    exact ⟨v, h1, fun F' H' s1 s2 => (r.monoF s1).monoH s2⟩
  · obtain ⟨o, h1, v, rfl, r⟩ := g.ok i _ h
    exact ⟨v, h1, fun F' H' s1 s2 => .of (r.mono s1)⟩
end
section
variable {X : Cx} {E : XK} {G : List Sl} {pos : Pos} {body : List Stmt}
end
end DL

set_option Elab.async false
set_option linter.all false
set_option maxRecDepth 100000
set_option maxHeartbeats 4000000
namespace DL
open PySem PySem.Spec L2
section
variable {X : Cx} {E : St → XK} {G : List Sl} {a b c e : Expr} {ma mb mc : M D} {pos : Pos} {F H : Hp}
end
end DL

set_option Elab.async false
set_option linter.all false
set_option maxRecDepth 100000
set_option maxHeartbeats 4000000
namespace DL
open PySem PySem.Spec L2
def relN (K : PySem.W.Frag) (l : List D) : Hp → Hp → Hp → V → Prop := fun B F' H' v => ∃ p xs, v = .ref p ∧ B p = none ∧ H' p = some (.lst xs) ∧ F' p = none ∧ RpL K F' xs l
abbrev rN (K : PySem.W.Frag) (H : Hp) : Hp → Hp → V → List D → Prop := fun F' H' v l => ∃ p xs, v = .ref p ∧ H p = none ∧ H' p = some (.lst xs) ∧ F' p = none ∧ RpL K F' xs l
def spO (K : PySem.W.Frag) (bs : List Bool) (m : List D → M (List D)) : Sp := fun vs H Q E => ∃ F ds, Same F H ∧ RpA K F H bs vs ds ∧ WpG K E (rN K H) (m ds) F H Q
section
variable {X : Cx} {E : XK} {G : List Sl} {e : Expr} {pos : Pos} {st : Stmt} {rest body : List Stmt}
theorem ds_retO {m : M (List D)} (h : DN X (cE E) G e m) : DS X E G (.Return (some e) pos) m (fun l => .rg (relN X.K l)) := by
  obtain ⟨t, pe, w⟩ := h
  refine ⟨_, ps_ret pe, fun B0 B σ F H D x0 g q => w B σ F H _ x0.sFH g ?_⟩
  cases m with
  | ok l =>
    intro F' H' v x ⟨p, xs, ev, n, h1, f1, r1⟩
    exact q.ok v F' H' x.sF (x0.trans x) ⟨p, xs, ev, g.sB.free n, h1, f1, r1⟩
  | error er => cases er with
    | stuck => exact q.elim
    | exc y => exact fun F' H' c d x r => q F' H' c d x.sF (x0.trans x) r
end
section
variable {P : Program} {w : World} {K : PySem.W.Frag} {mg : Str → Option Value} {base : Heap} {x qual : Str} {params : Arguments} {body : List Stmt} {scope : Scope} {dvs : List V} {kws : List (Str × V)} {f : Addr} {fd : FuncData}
theorem fn_defO {N ps : List Str} {k : Nat} {bs : List Bool} {m : List D → M (List D)} (F : FunD K x qual params body scope dvs kws f fd) (S : FnScope N ps scope) (hbs : bs.length = ps.length)
    (hb : ∀ (cdv : Value) (A : Around) (outer : List Env) (s : Shared) (H : Hp) (E : XK), Room k (A.deeper (PyProof.Rows.envOfC qual scope s.heap.objs.size f cdv)) → ∀ ds : List D, ds.length = bs.length →
      DB (cxOf (L2.CX P w) P w K mg base N qual scope f cdv A outer s H E) E (argSl bs ds ++ List.replicate (N.length - bs.length) .un) body (m ds) (fun l => .rg (relN K l))) : FnOk P w K mg base (L2.CX P w) (k + 1) f fd ps (spO K bs m) := by
  refine F.ok S (fun vs H Q E h => ?_) (fun cdv A outer s H vs Q E hr h => ?_)
  · obtain ⟨F, ds, _, r, _⟩ := h
    rw [r.len.1, hbs]
  · obtain ⟨F, ds, sF, r, q⟩ := h
    obtain ⟨t, p, wt⟩ := hb cdv A outer s H E hr ds r.len.2
    refine ⟨t, p, wt F H (L2.start N vs) F H _ (Ext.refl sF) (gok_start r) ?_⟩
    cases e : m ds with
    | ok d =>
      rw [e] at q
      exact WpB.of_ok (fun v F' H' _ x' r' => q F' H' v x' r')
    | error er =>
      rw [e] at q
      cases er with
      | stuck => exact q.elim
      | exc y => exact fun F' H' c d _ x' r' => q F' H' c d x' r'
end
section
variable {X : Cx} {E : St → XK} {G : List Sl} {a b c e : Expr} {ma mb mc : M D} {pos : Pos} {F H : Hp}
theorem rN_from {K : PySem.W.Frag} {F H F1 H1 : Hp} {E₁ : XK} {m : M (List D)} {Q : VK} (x : Ext F H F1 H1) (q : WpG K E₁ (rN K H) m F1 H1 Q) : WpG K E₁ (rN K H1) m F1 H1 Q := by
  cases m with
  | ok l => exact fun F' H' v y ⟨p, xs, e, n, r⟩ => q F' H' v y ⟨p, xs, e, x.sH.free n, r⟩
  | error er => cases er with
    | stuck => exact q
    | exc y => exact q
theorem dn_callO {k : Nat} {f : Addr} {fd : FuncData} {ps : List Str} {bs : List Bool} {m : List D → M (List D)} {x : Str} {p : Pos} {es : List Expr} {ms : M (List D)} (cx : CtxOk X E) (F : FnOk X.prog X.w X.K X.mg X.base (L2.CX X.prog X.w) k f fd ps (spO X.K bs m)) (hr : Room k X.A) (hg : Gl X x) (hm : X.mg x = some (.ref f)) (hk : PySem.W.keepIn X.K (.ref f) = true) (hb : Binds X.K fd ps [])
    (ha : DAM X E G bs (a :: es) ms) (hdb : (x == ("__debug__" : Str)) = false := by decide) (he : starEach (a :: es) X.env = (false, eval a X.env) :: starEach es X.env := by rfl) (hpl : (backTo pos (starEach es X.env)).any (·.1) = false := by rfl) :
    DN X E G (.Call (.Name x p) (a :: es) [] pos) (ms >>= fun l => m l) := by
  obtain ⟨t, pa, w⟩ := ha
  refine ⟨_, pe_callD F hr hg hm hk hb .nil cx.pass pa hdb he hpl, fun B σ F H Q s g q => w B σ F H _ s g (WpG.bind q fun l F1 H1 vs x1 r1 k1 => ?_)⟩
  show spO X.K bs m (vs ++ []) H1 Q (E σ)
  rw [List.append_nil]
  exact ⟨F1, l, x1.sFH, r1, rN_from x1 k1⟩
end
end DL

set_option Elab.async false
set_option linter.all false
set_option maxRecDepth 100000
set_option maxHeartbeats 4000000
namespace DL
open PySem PySem.Spec L2
@[simp] abbrev mMethO (c mn : String) (m : List D → M (List D)) (a : M D) (ms : M (List D)) : M (List D) := a >>= fun x => D.recv c mn x >>= fun x => ms >>= fun l => m (x :: l)
end DL

set_option Elab.async false
set_option linter.all false
set_option maxRecDepth 100000
set_option maxHeartbeats 4000000
namespace DL
open PySem PySem.Spec L2
def Sl.nb : Sl → Bool
  | .bor _ => false
  | .tre _ _ _ => false
  | _ => true
def nbL (G : List Sl) : Bool := G.all Sl.nb
section
variable {K : PySem.W.Frag} {F H B F' H' : Hp}
theorem TreOk.off {a : Addr} {c : String} {l : List (String × D)} {as : List Addr} (t : TreOk K F B a c l as) : ∀ p ∈ as, F p = none ∧ ∃ kvs, B p = some (.dK kvs) :=
  let ⟨_, _, _, _, h⟩ := t.at_
  h.off
theorem TreOk.ne {a : Addr} {c : String} {l : List (String × D)} {as : List Addr} (t : TreOk K F B a c l as) : ∀ p ∈ as, p ≠ a := fun p hp z => by
  obtain ⟨_, kvs, e⟩ := t.off p hp
  obtain ⟨dx, fs, h, _⟩ := t.at_
  subst z
  rw [h] at e
  cases e
theorem TreOk.same {B' : Hp} {a : Addr} {c : String} {l : List (String × D)} {as : List Addr} (t : TreOk K F B a c l as) (h : ∀ b u, B b = some u → B' b = some u) : TreOk K F B' a c l as := by
  obtain ⟨dx, fs, h1, h2, h3⟩ := t.at_
  refine ⟨⟨dx, fs, h _ _ h1, h2, FvL.same (fun p hp => ?_) h3⟩, t.na, t.nd⟩
  obtain ⟨_, kvs, e⟩ := h3.off p hp
  rw [e, h _ _ e]
structure GT (K : PySem.W.Frag) (W : Addr → Prop) (HB B : Hp) (a : Addr) (c : String) (l : List (String × D)) (G : List Sl) (σ : St) (F H : Hp) : Prop where
  g : GOk K B (.tre a c l :: G) σ F H
  nb : nbL G = true
  t : ∃ as, TreOk K F B a c l as ∧ W a ∧ ∀ b ∈ as, W b
  out : ∀ b o, ¬ W b → HB b = some o → B b = some o
  new : ∀ b, HB b = none → W b
  pin : ∀ b o, W b → HB b = some o → F b = none ∧ ∃ u, B b = some u
theorem GT.moreF {W : Addr → Prop} {HB : Hp} {a : Addr} {c : String} {l : List (String × D)} {G G' : List Sl} {σ σ' : St} (sF : Same F F') (old : ∀ b o, B b = some o → F' b = F b) (g : GT K W HB B a c l G σ F H) (g' : GOk K B (.tre a c l :: G') σ' F' H') (nb : nbL G' = true) : GT K W HB B a c l G' σ' F' H' :=
  ⟨g', nb, let ⟨as, h1, h2⟩ := g.t; ⟨as, h1.mono sF old, h2⟩, g.out, g.new, fun b o w h => by
    obtain ⟨n, u, hu⟩ := g.pin b o w h
    exact ⟨by rw [old _ _ hu]; exact n, u, hu⟩⟩
theorem GT.ext {W : Addr → Prop} {HB : Hp} {a : Addr} {c : String} {l : List (String × D)} {G : List Sl} {σ : St} (x : Ext F H F' H') (g : GT K W HB B a c l G σ F H) : GT K W HB B a c l G σ F' H' :=
  g.moreF x.sF (fun b o h => x.old _ _ (g.g.sB _ _ h)) (g.g.ext x) g.nb
@[simp] def D.fz : D → D
  | .ow l => .dct l
  | d => d
theorem Rp.fz {v : V} {d : D} (r : Rp K F v d) : d.fz = d := by
  cases r <;> rfl
theorem GOk.rebase {G : List Sl} {σ : St} {b a : Addr} {c : String} {l l' : List (String × D)} {o u : HO} (g : GOk K B (.tre a c l :: G) σ F H) (nb : nbL G = true) (hb : B b = some u) (r : ∃ as, TreOk K F (upd B b o) a c l' as) : GOk K (upd B b o) (.tre a c l' :: G) σ F (upd H b o) where
  sB := fun x z h => by
    by_cases e : x = b
    · subst e
      rw [upd_same] at h ⊢
      exact h
    · rw [upd_ne e] at h ⊢
      exact g.sB _ _ h
  len := g.len
  ok := fun i s hs => by
    cases i with
    | zero =>
      cases hs
      obtain ⟨v, k1, k2⟩ := g.ok 0 _ rfl
      exact ⟨v, k1, k2.1, fun x z h => by
        by_cases e : x = b
        · subst e
          rw [upd_same] at h ⊢
          exact h
        · rw [upd_ne e] at h ⊢
          exact g.sB _ _ h, r⟩
    | succ i =>
      obtain ⟨v, k1, k2⟩ := g.ok (i + 1) s hs
      have hs' : G[i]? = some s := hs
      have nbs := List.all_eq_true.mp nb s (List.mem_of_getElem? hs')
      have ne : ∀ x, B x = none → x ≠ b := fun x hx z => by
        rw [z, hb] at hx
        cases hx
      refine ⟨v, k1, ?_⟩
      cases s with
      | un => exact k2
      | any => trivial
      | tre b _ _ => cases nbs
      | val d => exact k2
      | exn _ _ _ => exact k2
      | bor d => cases nbs
      | own l =>
        obtain ⟨a, xs, e, e2, n, hn, r⟩ := k2
        exact ⟨a, xs, e, by rw [upd_ne (ne a hn)]; exact e2, n, by rw [upd_ne (ne a hn)]; exact hn, r⟩
      | ownd l =>
        obtain ⟨a, e, d, n, hn⟩ := k2
        exact ⟨a, e, by rw [upd_ne (ne a hn)]; exact d, n, by rw [upd_ne (ne a hn)]; exact hn⟩
      | ownu l =>
        obtain ⟨a, e, d, n, hn⟩ := k2
        exact ⟨a, e, by rw [upd_ne (ne a hn)]; exact d, n, by rw [upd_ne (ne a hn)]; exact hn⟩
      | obj a c l =>
        obtain ⟨dx, fs, e, h1, n, hn, h2, r⟩ := k2
        exact ⟨dx, fs, e, by rw [upd_ne (ne a hn)]; exact h1, n, by rw [upd_ne (ne a hn)]; exact hn, h2, r⟩
  dis := fun i j s t d hi hj o1 o2 e1 e2 => by
    cases i with
    | zero => cases hi; cases o1
    | succ i => cases j with
      | zero => cases hj; cases o2
      | succ j => exact g.dis (i + 1) (j + 1) s t d hi hj o1 o2 e1 e2
theorem GOk.base {B' : Hp} {G : List Sl} {σ : St} {a : Addr} {c : String} {l l' : List (String × D)} (g : GOk K B (.tre a c l :: G) σ F H) (nb : nbL G = true) (sB : Same B' H') (sF : Same F F') (hH : ∀ x u, H x = some u → B x = none → H' x = some u ∧ B' x = none ∧ F' x = F x) (r : ∃ as, TreOk K F' B' a c l' as) : GOk K B' (.tre a c l' :: G) σ F' H' where
  sB := sB
  len := g.len
  ok := fun i s hs => by
    cases i with
    | zero =>
      cases hs
      obtain ⟨v, k1, k2⟩ := g.ok 0 _ rfl
      exact ⟨v, k1, k2.1, sB, r⟩
    | succ i =>
      obtain ⟨v, k1, k2⟩ := g.ok (i + 1) s hs
      have hs' : G[i]? = some s := hs
      have nbs := List.all_eq_true.mp nb s (List.mem_of_getElem? hs')
      refine ⟨v, k1, ?_⟩
      cases s with
      | un => exact k2
      | any => trivial
      | exn _ _ _ => exact ⟨k2.1, k2.2.mono sF⟩
      | tre b _ _ => cases nbs
      | val d => exact ⟨k2.choose, k2.choose_spec.1, k2.choose_spec.2.mono sF⟩
      | bor d => cases nbs
      | own l =>
        obtain ⟨a, xs, e, e2, n, hn, r⟩ := k2
        obtain ⟨q1, q2, q3⟩ := hH _ _ e2 hn
        exact ⟨a, xs, e, q1, by rw [q3]; exact n, q2, r.mono sF⟩
      | ownd l =>
        obtain ⟨a, e, d, n, hn⟩ := k2
        obtain ⟨u, hu⟩ := d.some
        obtain ⟨q1, q2, q3⟩ := hH _ _ hu hn
        exact ⟨a, e, by rw [q1, ← hu]; exact d.mono sF, by rw [q3]; exact n, q2⟩
      | ownu l =>
        obtain ⟨a, e, d, n, hn⟩ := k2
        obtain ⟨u, hu⟩ := d.some
        obtain ⟨q1, q2, q3⟩ := hH _ _ hu hn
        exact ⟨a, e, by rw [q1, ← hu]; exact d.mono sF, by rw [q3]; exact n, q2⟩
      | obj a c l =>
        obtain ⟨dx, fs, e, h1, n, hn, h2, r⟩ := k2
        obtain ⟨q1, q2, q3⟩ := hH _ _ h1 hn
        exact ⟨dx, fs, e, q1, by rw [q3]; exact n, q2, h2, r.mono sF⟩
  dis := fun i j s t d hi hj o1 o2 e1 e2 => by
    cases i with
    | zero => cases hi; cases o1
    | succ i => cases j with
      | zero => cases hj; cases o2
      | succ j => exact g.dis (i + 1) (j + 1) s t d hi hj o1 o2 e1 e2
theorem Ext.rebase {B0 : Hp} {b : Addr} {o u : HO} (x : Ext B0 B F H) (fb : F b = none) (hb : B b = some u) : Ext B0 (upd B b o) F (upd H b o) where
  sF := x.sF
  sH := fun c z h => by
    by_cases e : c = b
    · subst e
      rw [upd_same] at h ⊢
      exact h
    · rw [upd_ne e] at h ⊢
      exact x.sH _ _ h
  sFH := fun c z h => by
    rw [upd_ne (ne_of_none h fb)]
    exact x.sFH _ _ h
  old := fun c z h => by
    by_cases e : c = b
    · subst e
      exact x.old _ _ hb
    · rw [upd_ne e] at h
      exact x.old _ _ h
theorem GT.wr {W : Addr → Prop} {HB : Hp} {a b : Addr} {c : String} {l l' : List (String × D)} {G : List Sl} {σ : St} {o u : HO} (g : GT K W HB B a c l G σ F H) (hb : B b = some u) (wb : W b) (t : ∃ as, TreOk K F (upd B b o) a c l' as ∧ ∀ p ∈ as, W p) : GT K W HB (upd B b o) a c l' G σ F (upd H b o) where
  g := let ⟨_, t1, _⟩ := t; g.g.rebase g.nb hb ⟨_, t1⟩
  nb := g.nb
  t := let ⟨as, t1, t2⟩ := t; let ⟨_, _, w, _⟩ := g.t; ⟨as, t1, w, t2⟩
  out := fun x z nw h => by
    have ne : x ≠ b := fun e => nw (by rw [e]; exact wb)
    rw [upd_ne ne]
    exact g.out _ _ nw h
  new := g.new
  pin := fun x z w h => by
    obtain ⟨n, v, hv⟩ := g.pin x z w h
    refine ⟨n, ?_⟩
    by_cases e : x = b
    · subst e
      exact ⟨o, upd_same⟩
    · exact ⟨v, by rw [upd_ne e]; exact hv⟩
theorem GT.fresh {W : Addr → Prop} {HB : Hp} {a p : Addr} {c : String} {l : List (String × D)} {G : List Sl} {σ : St} (g : GT K W HB B a c l G σ F H) (hp : H p = none) : W p := by
  apply Classical.byContradiction
  intro nw
  cases e : HB p with
  | none => exact nw (g.new p e)
  | some o =>
    have := g.g.sB _ _ (g.out p o nw e)
    rw [hp] at this
    cases this
def Fv1 (K : PySem.W.Frag) (F B : Hp) (v : V) (d : D) (as : List Addr) : Prop := (Rp K F v d ∧ as = []) ∨ ∃ p l, v = .ref p ∧ d = .ow l ∧ F p = none ∧ DctAt K F (B p) l ∧ as = [p]
theorem FvL.cons1 {v : V} {d : D} {as1 as : List Addr} {vs : List V} {ds : List D} (h : Fv1 K F B v d as1) (q : FvL K F B vs ds as) : FvL K F B (v :: vs) (d :: ds) (as1 ++ as) := by
  rcases h with ⟨r, rfl⟩ | ⟨p, l, rfl, rfl, h1, h2, rfl⟩
  · exact .frz r q
  · exact .dk h1 h2 q
theorem FvL.put {f : String} {v : V} {d : D} {as1 : List Addr} (h : Fv1 K F B v d as1) (n1 : as1.Nodup) : ∀ {fs : List (Str × V)} {l : List (String × D)} {as : List Addr}, fs.map (·.1) = l.map (fun q => Str.ofString q.1) → FvL K F B (fs.map (·.2)) (l.map (·.2)) as → as.Nodup → (∀ b ∈ as1, b ∉ as) →
    (putF (Str.ofString f) v fs).map (·.1) = (putD f d l).map (fun q => Str.ofString q.1) ∧ ∃ as', FvL K F B ((putF (Str.ofString f) v fs).map (·.2)) ((putD f d l).map (·.2)) as' ∧ as'.Nodup ∧ ∀ b ∈ as', b ∈ as ∨ b ∈ as1
  | [], [], _, _, q, _, _ => by
    cases q
    refine ⟨rfl, as1, ?_, n1, fun b hb => .inr hb⟩
    have := FvL.cons1 h (FvL.nil (K := K) (F := F) (B := B))
    rw [List.append_nil] at this
    exact this
  | [], _ :: _, _, h, _, _, _ => by simp at h
  | _ :: _, [], _, h, _, _, _ => by simp at h
  | (g, x) :: fs, (g2, y) :: l, as, hn, q, nd, dj => by
    have h1 : g = Str.ofString g2 ∧ fs.map (·.1) = l.map (fun q => Str.ofString q.1) := by simpa using hn
    obtain ⟨rfl, h2⟩ := h1
    have q' : FvL K F B (x :: fs.map (·.2)) (y :: l.map (·.2)) as := q
    have tail : ∃ as2 asx, as = asx ++ as2 ∧ Fv1 K F B x y asx ∧ FvL K F B (fs.map (·.2)) (l.map (·.2)) as2 := by
      cases q' with
      | frz r q3 => exact ⟨_, [], rfl, .inl ⟨r, rfl⟩, q3⟩
      | dk a1 a2 q3 => exact ⟨_, [_], rfl, .inr ⟨_, _, rfl, rfl, a1, a2, rfl⟩, q3⟩
    obtain ⟨as2, asx, rfl, hx, q2⟩ := tail
    have nd2 : as2.Nodup := (List.nodup_append.mp nd).2.1
    have dj2 : ∀ b ∈ as1, b ∉ as2 := fun b hb z => dj b hb (List.mem_append_right _ z)
    by_cases e : g2 = f
    · subst e
      have e1 : putF (Str.ofString g2) v ((Str.ofString g2, x) :: fs) = (Str.ofString g2, v) :: fs := if_pos rfl
      have e2 : putD g2 d ((g2, y) :: l) = (g2, d) :: l := if_pos rfl
      rw [e1, e2]
      refine ⟨by simp [h2], as1 ++ as2, FvL.cons1 h q2, List.nodup_append.mpr ⟨n1, nd2, fun a ha b hb z => dj2 a ha (z ▸ hb)⟩, fun b hb => ?_⟩
      rcases List.mem_append.mp hb with hb | hb
      · exact .inr hb
      · exact .inl (List.mem_append_right _ hb)
    · have e1 : putF (Str.ofString f) v ((Str.ofString g2, x) :: fs) = (Str.ofString g2, x) :: putF (Str.ofString f) v fs := if_neg fun z => e (ofString_inj z)
      have e2 : putD f d ((g2, y) :: l) = (g2, y) :: putD f d l := if_neg e
      rw [e1, e2]
      obtain ⟨i1, as', i2, i3, i4⟩ := FvL.put h n1 h2 q2 nd2 dj2
      have ndx := List.nodup_append.mp nd
      refine ⟨by simp [i1], asx ++ as', FvL.cons1 hx i2, List.nodup_append.mpr ⟨ndx.1, i3, fun a ha b hb z => ?_⟩, fun b hb => ?_⟩
      · subst z
        rcases i4 a hb with hb | hb
        · exact ndx.2.2 a ha a hb rfl
        · exact dj a hb (List.mem_append_left _ ha)
      · rcases List.mem_append.mp hb with hb | hb
        · exact .inl (List.mem_append_left _ hb)
        · rcases i4 b hb with hb | hb
          · exact .inl (List.mem_append_right _ hb)
          · exact .inr hb
theorem FvL.upd {f : String} {kl : List (D × D)} : ∀ {fs : List (Str × V)} {l : List (String × D)} {as : List Addr}, fs.map (·.1) = l.map (fun q => Str.ofString q.1) → FvL K F B (fs.map (·.2)) (l.map (·.2)) as → as.Nodup → l.lookup f = some (.ow kl) →
    ∃ p, fs.lookup (Str.ofString f) = some (.ref p) ∧ p ∈ as ∧ F p = none ∧ DctAt K F (B p) kl ∧ ∀ o kl', DctAt K F (some o) kl' → fs.map (·.1) = (putD f (.ow kl') l).map (fun q => Str.ofString q.1) ∧ FvL K F (upd B p o) (fs.map (·.2)) ((putD f (.ow kl') l).map (·.2)) as
  | [], [], _, _, _, _, h => by simp at h
  | [], _ :: _, _, h, _, _, _ => by simp at h
  | _ :: _, [], _, h, _, _, _ => by simp at h
  | (g, x) :: fs, (g2, y) :: l, as, hn, q, nd, hl => by
    have h1 : g = Str.ofString g2 ∧ fs.map (·.1) = l.map (fun q => Str.ofString q.1) := by simpa using hn
    obtain ⟨rfl, h2⟩ := h1
    have q' : FvL K F B (x :: fs.map (·.2)) (y :: l.map (·.2)) as := q
    by_cases e : f = g2
    · subst e
      have hy : y = .ow kl := by simpa [List.lookup] using hl
      subst hy
      cases q' with
      | frz r q => cases r
      | dk a1 a2 q2 =>
        rename_i p as2
        refine ⟨p, by simp [List.lookup], List.mem_cons_self .., a1, a2, fun o kl' hd => ?_⟩
        have e2 : putD f (.ow kl') ((f, .ow kl) :: l) = (f, .ow kl') :: l := if_pos rfl
        rw [e2]
        refine ⟨by simp [h2], ?_⟩
        refine FvL.dk a1 (by rw [upd_same]; exact hd) (FvL.same (fun b hb => upd_ne fun z => ?_) q2)
        subst z
        exact (List.nodup_cons.mp nd).1 hb
    · have e1 : (f == g2) = false := beq_eq_false_iff_ne.mpr e
      have e2 : (Str.ofString f == Str.ofString g2) = false := beq_eq_false_iff_ne.mpr fun z => e (ofString_inj z)
      have a1 : List.lookup f ((g2, y) :: l) = l.lookup f := by simp [List.lookup, e1]
      have a2 : List.lookup (Str.ofString f) ((Str.ofString g2, x) :: fs) = fs.lookup (Str.ofString f) := by simp [List.lookup, e2]
      rw [a1] at hl
      rw [a2]
      have e3 : ∀ d, putD f d ((g2, y) :: l) = (g2, y) :: putD f d l := fun d => if_neg (Ne.symm e)
      cases q' with
      | frz r q2 =>
        obtain ⟨p, i1, i2, i3, i4, i5⟩ := FvL.upd h2 q2 nd hl
        refine ⟨p, i1, i2, i3, i4, fun o kl' hd => ?_⟩
        obtain ⟨j1, j2⟩ := i5 o kl' hd
        rw [e3]
        exact ⟨by simp [j1], .frz r j2⟩
      | dk b1 b2 q2 =>
        obtain ⟨nd1, nd2⟩ := List.nodup_cons.mp nd
        obtain ⟨p, i1, i2, i3, i4, i5⟩ := FvL.upd h2 q2 nd2 hl
        refine ⟨p, i1, List.mem_cons_of_mem _ i2, i3, i4, fun o kl' hd => ?_⟩
        obtain ⟨j1, j2⟩ := i5 o kl' hd
        rw [e3]
        refine ⟨by simp [j1], .dk b1 ?_ j2⟩
        rw [upd_ne fun z => nd1 (by rw [z]; exact i2)]
        exact b2
end
end DL

set_option Elab.async false
set_option linter.all false
set_option maxRecDepth 100000
set_option maxHeartbeats 4000000
namespace DL
open PySem PySem.Spec L2
inductive OcT where
  | nx (l : List (String × D)) (G : List Sl)
  | ct (l : List (String × D)) (G : List Sl)
  | bk (l : List (String × D)) (G : List Sl)
  | no
def OutT (W : Addr → Prop) (HB B F : Hp) : Prop := (∀ b o, ¬ W b → HB b = some o → B b = some o) ∧ ∀ b o, W b → HB b = some o → F b = none
section
variable {K : PySem.W.Frag} {E : XK} {W : Addr → Prop} {HB B0 B F F' H H' : Hp} {a : Addr} {c : String}
def OcTP (K : PySem.W.Frag) (a : Addr) (c : String) (W : Addr → Prop) (HB B0 F : Hp) (D : Ends) : OcT → Prop
  | .nx l G => ∀ B σ F' H', Same F F' → Ext B0 B F' H' → GT K W HB B a c l G σ F' H' → D.nx σ H'
  | .ct l G => ∀ B σ F' H', Same F F' → Ext B0 B F' H' → GT K W HB B a c l G σ F' H' → D.ct σ H'
  | .bk l G => ∀ B σ F' H', Same F F' → Ext B0 B F' H' → GT K W HB B a c l G σ F' H' → D.bk σ H'
  | .no => False
def WpT {α : Type} (K : PySem.W.Frag) (E : XK) (a : Addr) (c : String) (W : Addr → Prop) (HB B0 : Hp) (post : α → OcT) (m : M α) (F : Hp) (D : Ends) : Prop :=
  match m with
  | .ok x => OcTP K a c W HB B0 F D (post x)
  | .error .stuck => False
  | .error (.exc x) => ∀ B F' H' c' d, Same F F' → Ext B0 B F' H' → OutT W HB B F' → RpX K F' H' c' d x → E c' d H'
theorem GT.outT {l : List (String × D)} {G : List Sl} {σ : St} (g : GT K W HB B a c l G σ F H) : OutT W HB B F := ⟨g.out, fun b o w h => (g.pin b o w h).1⟩
theorem OcTP.mono {D : Ends} {o : OcT} (s : Same F F') (h : OcTP K a c W HB B0 F D o) : OcTP K a c W HB B0 F' D o := by
  cases o with
  | nx l G => exact fun B σ F2 H2 s2 => h B σ F2 H2 (s.trans s2)
  | ct l G => exact fun B σ F2 H2 s2 => h B σ F2 H2 (s.trans s2)
  | bk l G => exact fun B σ F2 H2 s2 => h B σ F2 H2 (s.trans s2)
  | no => exact h
theorem WpT.mono {α : Type} {post : α → OcT} {m : M α} {D : Ends} (s : Same F F') (h : WpT K E a c W HB B0 post m F D) : WpT K E a c W HB B0 post m F' D := by
  cases m with
  | ok x => exact OcTP.mono s h
  | error e => cases e with
    | stuck => exact h
    | exc x => exact fun B F2 H2 c d s2 => h B F2 H2 c d (s.trans s2)
theorem WpT.err {α β : Type} {post : α → OcT} {p2 : β → OcT} {e : Er} {D : Ends} (h : WpT K E a c W HB B0 post (.error e) F D) : WpT K E a c W HB B0 p2 (.error e) F D := by
  cases e with
  | stuck => exact h
  | exc x => exact h
theorem WpT.bind {α β : Type} {post : α → OcT} {p1 : β → OcT} {m : M β} {k : β → M α} {D D1 : Ends} (h : WpT K E a c W HB B0 post (m >>= k) F D) (hk : ∀ j, m = .ok j → WpT K E a c W HB B0 post (k j) F D → OcTP K a c W HB B0 F D1 (p1 j)) : WpT K E a c W HB B0 p1 m F D1 := by
  cases m with
  | ok j => exact hk j rfl h
  | error e => cases e with
    | stuck => exact h
    | exc x => exact h
theorem WpT.need {α : Type} {post : α → OcT} {b : Bool} {k : Unit → M α} {D : Ends} (h : WpT K E a c W HB B0 post (need b >>= k) F D) : b = true ∧ WpT K E a c W HB B0 post (k ()) F D := by
  cases b with
  | true => exact ⟨rfl, h⟩
  | false => exact h.elim
theorem WpT.expr {α β γ : Type} {post : α → OcT} {rel : Hp → Hp → γ → β → Prop} {m : M β} {k : β → M α} {l : List (String × D)} {G : List Sl} {σ : St} {D : Ends} {Q : γ → Hp → Prop} (x0 : Ext B0 B F H) (g : GT K W HB B a c l G σ F H) (h : WpT K E a c W HB B0 post (m >>= k) F D)
    (hk : ∀ j F' H' v, Ext F H F' H' → Ext B0 B F' H' → GT K W HB B a c l G σ F' H' → rel F' H' v j → WpT K E a c W HB B0 post (k j) F' D → Q v H') : WpG K E rel m F H Q := by
  cases m with
  | ok j => exact fun F' H' v x r => hk j F' H' v x (x0.trans x) (g.ext x) r (WpT.mono x.sF h)
  | error e => cases e with
    | stuck => exact h
    | exc y => exact fun F' H' c d x r => h B F' H' c d x.sF (x0.trans x) (g.ext x).outT r
end
section
variable {X : Cx} {E : XK} {a : Addr} {c : String} {l : List (String × D)} {G : List Sl} {e e2 k : Expr} {ma mb mc : M D} {ta tb : M Bool} {pos : Pos} {st : Stmt} {rest body : List Stmt}
end
end DL

set_option Elab.async false
set_option linter.all false
set_option maxRecDepth 100000
set_option maxHeartbeats 4000000
namespace DL
open PySem PySem.Spec L2
section
variable {K : PySem.W.Frag} {F H : Hp}
end
section
variable {X : Cx} {E : St → XK} {G : List Sl} {a : Expr} {ma : M D} {pos : Pos}
end
section
variable {X : Cx} {E : XK} {a : Addr} {c : String} {l : List (String × D)} {G : List Sl} {e k : Expr} {m mk : M D} {pos : Pos}
theorem GT.self {K : PySem.W.Frag} {W : Addr → Prop} {HB B F H : Hp} {σ : St} (g : GT K W HB B a c l G σ F H) : σ[0]? = some (some (.ref a)) := by
  obtain ⟨o, h1, h2⟩ := g.g.ok 0 _ rfl
  rw [h1, h2.1]
theorem names_len {fs : List (Str × V)} {l : List (String × D)} (h : fs.map (·.1) = l.map (fun q => Str.ofString q.1)) : fs.length = l.length := by
  have := congrArg List.length h
  simpa using this
@[simp] abbrev mFld (f : String) (l : List (String × D)) (m : M D) : M (List (String × D)) := m >>= fun d => need (decide (l.length < 1000)) >>= fun _ => .ok (putD f d l)
@[simp] abbrev mFldD (f : String) (l : List (String × D)) : M (List (String × D)) := need (decide (l.length < 1000)) >>= fun _ => .ok (putD f (.ow []) l)
def mOw (f : String) (l : List (String × D)) (k : List (D × D) → M (List (D × D))) : M (List (String × D)) := match l.lookup f with
  | some (.ow kl) => k kl >>= fun kl' => .ok (putD f (.ow kl') l)
  | _ => stuck
theorem GT.dict {K : PySem.W.Frag} {W : Addr → Prop} {HB B B0 F H : Hp} {σ : St} {f : String} {kl : List (D × D)} (x0 : Ext B0 B F H) (g : GT K W HB B a c l G σ F H) (hl : l.lookup f = some (.ow kl)) : ∃ dx fs p, H a = some (.ins (He.ga K (Str.ofString c)) dx fs) ∧ fs.lookup (Str.ofString f) = some (.ref p) ∧ DctAt K F (H p) kl ∧
    ∀ o kl', DctAt K F (some o) kl' → ∃ B', Ext B0 B' F (upd H p o) ∧ GT K W HB B' a c (putD f (.ow kl') l) G σ F (upd H p o) := by
  obtain ⟨as, t1, w1, t2⟩ := g.t
  obtain ⟨dx, fs, h1, h2, h3⟩ := t1.at_
  obtain ⟨p, i1, i2, i3, i4, i5⟩ := FvL.upd h2 h3 t1.nd hl
  obtain ⟨u, hu⟩ := i4.some
  refine ⟨dx, fs, p, g.g.sB _ _ h1, i1, ?_, fun o kl' hd => ⟨upd B p o, x0.rebase i3 hu, g.wr hu (t2 p i2) ⟨as, ⟨⟨dx, fs, ?_, (i5 o kl' hd).1, (i5 o kl' hd).2⟩, t1.na, t1.nd⟩, t2⟩⟩⟩
  · rw [g.g.sB _ _ hu, ← hu]
    exact i4
  · rw [upd_ne (Ne.symm (t1.ne p i2))]
    exact h1
@[simp] abbrev mPutT (f : String) (l : List (String × D)) (me mk : M D) : M (List (String × D)) := me >>= fun d => mOw f l fun kl => mk >>= fun k => need (k.isKey && decide (kl.length < sizeLine)) >>= fun _ => .ok (putDk kl k d)
theorem WpT.ow {α : Type} {K : PySem.W.Frag} {E : XK} {W : Addr → Prop} {HB B0 F : Hp} {post : α → OcT} {f : String} {g : List (D × D) → M (List (D × D))} {k : List (String × D) → M α} {Dn : Ends} (h : WpT K E a c W HB B0 post (mOw f l g >>= k) F Dn) : ∃ kl, l.lookup f = some (.ow kl) ∧ WpT K E a c W HB B0 post (g kl >>= fun kl' => k (putD f (.ow kl') l)) F Dn := by
  unfold mOw at h
  split at h
  · rename_i kl e
    refine ⟨kl, e, ?_⟩
    cases eg : g kl with
    | ok z => rw [eg] at h; exact h
    | error z => rw [eg] at h; exact h
  · exact h.elim
@[simp] abbrev mPopT (f : String) (l : List (String × D)) (mk : M D) : M (List (String × D)) := mOw f l fun kl => mk >>= fun k => need (k.isKey && (D.look kl k).isSome) >>= fun _ => .ok (dropDk kl k)
end
end DL

set_option Elab.async false
set_option linter.all false
set_option maxRecDepth 100000
set_option maxHeartbeats 4000000
namespace DL
open PySem PySem.Spec L2
section
variable {P : Program} {w : World} {K : PySem.W.Frag} {mg : Str → Option Value} {base : Heap} {x qual : Str} {params : Arguments} {body : List Stmt} {scope : Scope} {dvs : List V} {kws : List (Str × V)} {f : Addr} {fd : FuncData}
end
end DL

set_option Elab.async false
set_option linter.all false
set_option maxRecDepth 100000
set_option maxHeartbeats 4000000
namespace DL
open PySem PySem.Spec L2
section
variable {X : Cx} {E : XK} {a : Addr} {c : String} {l : List (String × D)} {G : List Sl} {e : Expr} {pos : Pos} {rest : List Stmt}
@[simp] abbrev mCallT (mn : String) (l : List (String × D)) (m : List (String × D) → List D → M (List (String × D))) (ms : M (List D)) : M (List (String × D)) := need (l.lookup mn).isNone >>= fun _ => ms >>= fun ds => m l ds
end
end DL

set_option Elab.async false
set_option linter.all false
set_option maxRecDepth 100000
set_option maxHeartbeats 4000000
namespace DL
open PySem PySem.Spec L2
section
variable {K : PySem.W.Frag} {F H B : Hp} {G : List Sl} {σ : St}
end
section
variable {X : Cx} {E : St → XK} {a : Addr} {c : String} {l : List (String × D)} {G : List Sl} {e : Expr} {pos : Pos}
end
end DL

set_option Elab.async false
set_option linter.all false
set_option maxRecDepth 100000
set_option maxHeartbeats 4000000
section
open PySem PySem.SeqAt PyProof.Rows PySem.W
namespace PySem.W
section
variable {prog : Program} {w : World} {A : Around} {E : Value → Shared → Prop} {s : Shared}
end
end PySem.W
end
namespace DL
open PySem PySem.Spec L2
mutual
theorem D.py_inj : ∀ {n : Nat} {a b : D}, a.shp n = true → b.shp n = true → a.py = b.py → a = b
  | n, a, b, ha, hb, e => by
    rcases D.shp_cases ha with h1 | ⟨m, l, rfl, hd, hl⟩
    · rcases D.shp_cases hb with h2 | ⟨m2, l2, _, hd2, _⟩
      · rcases D.leaf_cases h1 with rfl | ⟨x, rfl⟩ | ⟨x, rfl⟩ | ⟨x, rfl⟩ <;> rcases D.leaf_cases h2 with rfl | ⟨y, rfl⟩ | ⟨y, rfl⟩ | ⟨y, rfl⟩ <;> simp_all [D.py]
      · rcases D.leaf_cases h1 with rfl | ⟨x, rfl⟩ | ⟨x, rfl⟩ | ⟨x, rfl⟩ <;> rcases hd2 with rfl | rfl <;> simp [D.py] at e
    · rcases D.shp_cases hb with h2 | ⟨m2, l2, e2, hd2, hl2⟩
      · rcases D.leaf_cases h2 with rfl | ⟨x, rfl⟩ | ⟨x, rfl⟩ | ⟨x, rfl⟩ <;> rcases hd with rfl | rfl <;> simp [D.py] at e
      · have e2 := Nat.succ.inj e2
        subst e2
        rcases hd with rfl | rfl <;> rcases hd2 with rfl | rfl <;> simp only [D.py] at e
        · injection e with e
          rw [D.pyL_inj hl hl2 e]
        · cases e
        · cases e
        · injection e with e
          rw [D.pyL_inj hl hl2 e]
theorem D.pyL_inj : ∀ {n : Nat} {a b : List D}, a.all (D.shp n) = true → b.all (D.shp n) = true → D.pyL a = D.pyL b → a = b
  | n, [], [], _, _, _ => rfl
  | n, [], _ :: _, _, _, e => by simp [D.pyL] at e
  | n, _ :: _, [], _, _, e => by simp [D.pyL] at e
  | n, x :: a, y :: b, ha, hb, e => by
    simp only [D.pyL] at e
    injection e with e1 e2
    rw [List.all_cons, Bool.and_eq_true] at ha hb
    rw [D.py_inj ha.1 hb.1 e1, D.pyL_inj ha.2 hb.2 e2]
end
def D.most (x : D) (xs : List D) : D := xs.foldl (fun a y => if PySem.W.dataLt a.py y.py then y else a) x
end DL

set_option Elab.async false
set_option linter.all false
set_option maxRecDepth 100000
set_option maxHeartbeats 4000000
namespace DL
open PySem PySem.Spec L2
@[simp] def a0 {α : Type} (f : M α) : List D → M α
  | [] => f
  | _ => stuck
section
variable {X : Cx} {E : XK} {a : Addr} {c : String} {l : List (String × D)} {G : List Sl} {e : Expr} {pos : Pos} {st : Stmt} {rest body : List Stmt}
end
end DL

set_option Elab.async false
set_option linter.all false
set_option maxRecDepth 100000
set_option maxHeartbeats 4000000
namespace DL
open PySem PySem.Spec L2
@[simp] abbrev mDisp1 (mk mv : M D) : M (List (D × D)) := mk >>= fun k => mv >>= fun v => need k.isKey >>= fun _ => .ok [(k, v)]
section
variable {X : Cx} {E : XK} {G : List Sl} {k v : Expr} {mk mv : M D} {pos : Pos}
end
end DL

set_option Elab.async false
set_option linter.all false
set_option maxRecDepth 100000
set_option maxHeartbeats 4000000
namespace DL
open PySem PySem.Spec L2
section
variable {X : Cx} {E : St → XK} {G : List Sl} {a b e z : Expr} {ma mb mz : M D} {pos : Pos}
@[simp] abbrev mRevL (m : M D) : M (List D) := m >>= fun x => match x with | .lst l => .ok l.reverse | _ => stuck
end
end DL
section
open PySem PySem.SeqAt PyProof.Rows PySem.W
namespace PySem.W
section
variable {prog : Program} {w : World} {A : Around} {E : Value → Shared → Prop} {s : Shared}
end
end PySem.W
end
namespace DL
open PySem PySem.Spec L2
section
variable {X : Cx} {E : St → XK} {G : List Sl} {a b e z : Expr} {ma mb mz : M D} {pos : Pos}
end
end DL

set_option Elab.async false
set_option linter.all false
set_option maxRecDepth 100000
set_option maxHeartbeats 4000000
namespace DL
open PySem PySem.Spec L2

structure SupAt (P : Program) (K : PySem.W.Frag) (C fI : Addr) (name qual : Str) (params : Arguments) (body : List Stmt) (scope : Scope) : Prop where
  ex : ∃ (kV doc pm ct oc ccl cl : Value) (an od cdd cld : Option Addr) (osl ccs csl : Array (Option Value)) (cda cc : Addr) (vs : Array Value) (file : Str) (tf : Tok),
    K.lookup fI = some ⟨oc, od, .func (PySem.W.ksFn name qual params body scope .none kV doc pm an (.ref cda) ct cc), osl⟩ ∧ PySem.W.codeIn K (.ref cda) qual = true ∧ K.lookup cda = some ⟨ccl, cdd, .fields vs, ccs⟩ ∧ vs[2]? = some (.str file tf) ∧
      ((P.main.file : Str) == file) = true ∧ K.lookup cc = some ⟨cl, cld, .cell (some (.ref C)), csl⟩
  htop : (P.main.scope.names.lookup ("super" : Str)).isSome = false
  sup : PySem.W.ks_superIn K C C "__init__" = some (some (.builtin "ValueError.__init__"))
  sub : PySem.W.mroIn K C (.ref C) = some true
  ve : PySem.W.subIn K (.ref C) (.type "ValueError") = some true
  sta : PySem.W.nsIn K cStatics "thirdparty.any" = some none
  ini : PySem.W.excInitIn K C He.veBase "ValueError.__new__" = true
  gs : PySem.W.nsIn K mainGlobals "super" = some none
structure SupSt (slf fld : Str) (scope : Scope) : Prop where
  hk : scope.kind = .function
  hco : scope.isCoroutine = false
  hgen : scope.isGenerator = false
  s1 : scope.names.lookup ("super" : Str) = some .globalImplicit
  s2 : scope.names.lookup ("__class__" : Str) = some .free
  s3 : scope.names.lookup slf = some .local
  s4 : scope.names.lookup fld = some .local
  s5 : ∀ x ∈ scope.names, x.2 ≠ .cell
  ne : (slf == fld) = false
  nd1 : (slf == ("__debug__" : Str)) = false
  nd2 : (fld == ("__debug__" : Str)) = false

section
open PySem.W PySem.Calls PyProof.Rows
variable {P : Program} {w : World} {A : Around} {K : Frag} {C fI a t0 : Addr} {name qual self fld txt : Str} {params : Arguments} {body : List Stmt} {scope : Scope} {a1 a2 : Arg} {p0 p1 p2 p3 p4 p5 q1 q2 q3 q4 : Pos} {ck : Nat} {u : Value} {h₀ hp : Heap} {g : Array GenState} {d : Drawn} {t : Nat} {os : OsState} {mg : Str → Option Value} {R : Result → Shared → Prop} {pl : Env → Sem Bool}
end
end DL

set_option Elab.async false
set_option linter.all false
set_option maxRecDepth 100000
set_option maxHeartbeats 4000000
namespace DL
open PySem PySem.Spec L2
section
open PySem.W PySem.Calls PyProof.Rows
variable {X : Cx} {e : Expr} {te : TE}
variable {C fI : Addr} {x name qual self fld txt : Str} {params : Arguments} {body : List Stmt} {scope : Scope} {a1 : Arg} {p pos p0 p1 p2 p3 p4 p5 q1 q2 q3 q4 : Pos} {ck : Nat} {pl : Env → Sem Bool}
structure SupC (P : Program) (K : PySem.W.Frag) (C fI : Addr) (fld : Str) : Prop where
  run : ∀ {w : World} {A : Around} {mg : Str → Option Value} {a t0 : Addr} {u : Value} {h₀ hp : Heap} {g : Array GenState} {d : Drawn} {t : Nat} {os : OsState} {R : Result → Shared → Prop},
    K.In h₀ → (∀ b o, h₀.get? b = some o → hp.get? b = some o) → h₀.get? a = none → L2.Mod K mg h₀ → A.depth < recursionLimit → hp.get? a = some (HandSPX.excO C t0) →
    (∀ h' t' t1 dx, (∀ b o, b ≠ a → hp.get? b = some o → h'.get? b = some o) → hp.objs.size ≤ dx → dx ≠ a →
      h'.get? a = some ({ cls := .ref C, dict := some dx, data := .fields #[.ref t1, .none, .none, .none, .bool false, .none] } : Obj) → h'.Ns1 dx (fun y => if y = fld then some u else none) → R (.ok (.ret .none)) ⟨h', g, d, t', os⟩) →
    codeAny (model P w) A (.call (.ref fI) ⟨[.ref a, u], []⟩) R ⟨hp, g, d, t, os⟩
  o : OexC K C
  iC : findIn K (.ref C) "__init__" = some (some (.ref fI))
  tI : typeIn K (.ref fI) = some (.type "function")
end
end DL

set_option Elab.async false
set_option linter.all false
set_option maxRecDepth 100000
set_option maxHeartbeats 4000000
namespace DL
open PySem PySem.Spec L2 PyProof.Rows
abbrev Hdl : Type := Value × Option Nat × (Addr → Value → Option Addr → TS)
inductive HdsG (X : Cx) : List ExceptHandler → List Hdl → Prop
  | nil : HdsG X [] []
  | cons {x : Str} {c : Value} {ts : Addr → Value → Option Addr → TS} {b₀ : Stmt} {suite : List Stmt} {np pos' : Pos} {hds : List ExceptHandler} {l : List Hdl} (hc : Names X x c)
      (hsu : ∀ (a : Addr) (oe : Obj) (cls : Value) (d : Option Addr) (pn : List (Addr × Obj)), Zc cls d oe → (∃ vs, oe.data = .fields vs) → PSs (X.suite a ((a, oe) :: pn)) (b₀ :: suite) (ts a cls d)) (r : HdsG X hds l) :
      HdsG X (.ExceptHandler (some (.Name x np)) none (b₀ :: suite) pos' :: hds) ((c, none, ts) :: l)
  | consA {x n : Str} {i : Nat} {c : Value} {ts : Addr → Value → Option Addr → TS} {b₀ : Stmt} {suite : List Stmt} {np pos' : Pos} {hds : List ExceptHandler} {l : List Hdl} (hc : Names X x c) (hi : X.N[i]? = some n) (hln : X.env.kindOf n = some .local)
      (hsu : ∀ (a : Addr) (oe : Obj) (cls : Value) (d : Option Addr) (pn : List (Addr × Obj)), Zc cls d oe → (∃ vs, oe.data = .fields vs) → PSs (X.suite a ((a, oe) :: pn)) (b₀ :: suite) (ts a cls d)) (r : HdsG X hds l) :
      HdsG X (.ExceptHandler (some (.Name x np)) (some n) (b₀ :: suite) pos' :: hds) ((c, some i, ts) :: l)
section
variable {X : Cx} {body : List Stmt} {h₀ : ExceptHandler} {hds : List ExceptHandler} {l : List Hdl} {pos : Pos} {tb : WX → TS} {Wout : WX}
end
end DL

set_option Elab.async false
set_option linter.all false
set_option maxRecDepth 100000
set_option maxHeartbeats 4000000
namespace DL
open PySem PySem.Spec L2
structure XC (K : PySem.W.Frag) (Fs : List String) (c : String) : Prop where
  e : ExcC K (He.ga K (Str.ofString c))
  x : XfC K (He.ga K (Str.ofString c))
  no : ∀ f ∈ Fs, PySem.W.findIn K (.ref (He.ga K (Str.ofString c))) (Str.ofString f) = some none
def cvD (K : PySem.W.Frag) : Option String → Value
  | some c => .ref (He.ga K (Str.ofString c))
  | none => .type "ValueError"
structure XP (K : PySem.W.Frag) (U : List String) (t : Option String) (cs : List String) : Prop where
  m : ∀ c ∈ U, PySem.W.exmOne K (.ref (He.ga K (Str.ofString c))) (cvD K t) = some (cs.contains c)
  i : ∀ c ∈ U, PySem.W.kitOne K (.ref (He.ga K (Str.ofString c))) (cvD K t) = some (cs.contains c)
@[simp] abbrev mRs {α : Type} (m : M Empty) : M α := m >>= fun d => nomatch d
def Ex.get (x : Ex) (f : String) : M D := match x.args with
  | [(g, v)] => if g = f then .ok v else stuck
  | _ => stuck
section
variable {X : Cx} {E : XK} {G : List Sl} {a b c e : Expr} {ma mb mc : M D} {pos : Pos} {st : Stmt} {rest body : List Stmt} {F H : Hp}
inductive Wk : List Sl → List Sl → Prop
  | nil : Wk [] []
  | any {s : Sl} {G G' : List Sl} : Wk G G' → Wk (s :: G) (.any :: G')
  | same {s : Sl} {G G' : List Sl} : Wk G G' → Wk (s :: G) (s :: G')
theorem Wk.len : ∀ {G G' : List Sl}, Wk G G' → G.length = G'.length
  | _, _, .nil => rfl
  | _, _, .any h => congrArg Nat.succ h.len
  | _, _, .same h => congrArg Nat.succ h.len
theorem Wk.at : ∀ {G G' : List Sl}, Wk G G' → ∀ (i : Nat) (s : Sl), G'[i]? = some s → s = .any ∨ G[i]? = some s
  | _, _, .nil, i, s, h => by simp at h
  | _, _, .any h, 0, s, e => by
    simp at e
    exact .inl e.symm
  | _, _, .any h, i + 1, s, e => by
    have := h.at i s (by simpa using e)
    simpa using this
  | _, _, .same h, 0, s, e => by
    simp at e
    exact .inr (by simpa using e)
  | _, _, .same h, i + 1, s, e => by
    have := h.at i s (by simpa using e)
    simpa using this
theorem GOk.wk {K : PySem.W.Frag} {B : Hp} {σ : St} {G G' : List Sl} (w : Wk G G') (g : GOk K B G σ F H) : GOk K B G' σ F H where
  sB := g.sB
  len := by rw [g.len, w.len]
  ok := fun i s h => by
    rcases w.at i s h with rfl | h'
    · have hi : i < G'.length := (List.getElem?_eq_some_iff.mp h).1
      have hi2 : i < σ.length := by rw [g.len, w.len]; exact hi
      exact ⟨σ[i], List.getElem?_eq_getElem hi2, trivial⟩
    · exact g.ok i s h'
  dis := fun i j s t a h1 h2 o1 o2 e1 e2 => by
    rcases w.at i s h1 with rfl | h1'
    · cases o1
    · rcases w.at j t h2 with rfl | h2'
      · cases o2
      · exact g.dis i j s t a h1' h2' o1 o2 e1 e2
def WpX {α : Type} (K : PySem.W.Frag) (W : WX) (Gt : List Sl) (B0 B : Hp) (post : α → Oc) (m : M α) (F : Hp) (D : Ends) : Prop :=
  match m with
  | .ok x => OcP K B0 B F D (post x)
  | .error .stuck => False
  | .error (.exc x) => ∀ σ F' H' c d, Same F F' → Ext B0 B F' H' → GOk K B Gt σ F' H' → RpX K F' H' c d x → W c d σ H'
section
variable {K : PySem.W.Frag} {W : WX} {Gt : List Sl} {B0 B F' H' : Hp} {σ : St}
theorem WpX.mono {α : Type} {post : α → Oc} {m : M α} {D : Ends} (s : Same F F') (h : WpX K W Gt B0 B post m F D) : WpX K W Gt B0 B post m F' D := by
  cases m with
  | ok x => exact OcP.mono s h
  | error e => cases e with
    | stuck => exact h
    | exc x => exact fun σ F2 H2 c d s2 => h σ F2 H2 c d (s.trans s2)
theorem WpX.bind {α β : Type} {post : α → Oc} {p1 : β → Oc} {m : M β} {k : β → M α} {D D1 : Ends} (h : WpX K W Gt B0 B post (m >>= k) F D) (hk : ∀ j, m = .ok j → WpX K W Gt B0 B post (k j) F D → OcP K B0 B F D1 (p1 j)) : WpX K W Gt B0 B p1 m F D1 := by
  cases m with
  | ok j => exact hk j rfl h
  | error e => cases e with
    | stuck => exact h
    | exc x => exact h
theorem WpX.expr {α β γ : Type} {post : α → Oc} {rel : Hp → Hp → γ → β → Prop} {m : M β} {k : β → M α} {D : Ends} {Q : γ → Hp → Prop} (x0 : Ext B0 B F H) (wk : Wk G Gt) (g : GOk K B G σ F H) (h : WpX K W Gt B0 B post (m >>= k) F D)
    (hk : ∀ j F' H' v, Ext F H F' H' → Ext B0 B F' H' → rel F' H' v j → WpX K W Gt B0 B post (k j) F' D → Q v H') : WpG K (WE W σ) rel m F H Q := by
  cases m with
  | ok j => exact fun F' H' v x r => hk j F' H' v x (x0.trans x) r (WpX.mono x.sF h)
  | error e => cases e with
    | stuck => exact h
    | exc y => exact fun F' H' c d x r => h σ F' H' c d x.sF (x0.trans x) ((g.ext x).wk wk) r
end
variable {W : WX} {Gt : List Sl}
end
end DL

set_option Elab.async false
set_option linter.all false
set_option maxRecDepth 100000
set_option maxHeartbeats 4000000
namespace DL
open PySem PySem.Spec L2
section
open PyProof.Rows
end
section
variable {X : Cx} {E : St → XK} {G : List Sl} {e : Expr} {pos : Pos} {F H : Hp} {i : Nat} {a : Addr} {oe : Obj} {d : Option Addr} {pn : List (Addr × Obj)} {x : Ex} {Fs U : List String}
end

inductive HJ (X : Cx) (U Fs : List String) (Gt : List Sl) : List ExceptHandler → List (List String × (Ex → M D)) → Prop
  | nil : HJ X U Fs Gt [] []
  | cons {t : String} {cs : List String} {h : Ex → M D} {b₀ : Stmt} {suite : List Stmt} {np pos' : Pos} {hds : List ExceptHandler} {l : List (List String × (Ex → M D))} (hc : Names X (Str.ofString t) (.ref (He.ga X.K (Str.ofString t)))) (hp : XP X.K U (some t) cs)
      (hsu : ∀ (x : Ex), x.cls ∈ U → ∀ (a : Addr) (oe : Obj) (d : Option Addr) (pn : List (Addr × Obj)), Zc (.ref (He.ga X.K (Str.ofString x.cls))) d oe → (∃ vs, oe.data = .fields vs) → DB (X.suite a ((a, oe) :: pn)) EN0 Gt (b₀ :: suite) (h x) .rt) (r : HJ X U Fs Gt hds l) :
      HJ X U Fs Gt (.ExceptHandler (some (.Name (Str.ofString t) np)) none (b₀ :: suite) pos' :: hds) ((cs, h) :: l)
  | consA {t : String} {n : Str} {i : Nat} {cs : List String} {h : Ex → M D} {b₀ : Stmt} {suite : List Stmt} {np pos' : Pos} {hds : List ExceptHandler} {l : List (List String × (Ex → M D))} (hc : Names X (Str.ofString t) (.ref (He.ga X.K (Str.ofString t)))) (hp : XP X.K U (some t) cs)
      (hi : X.N[i]? = some n) (hln : X.env.kindOf n = some .local)
      (hsu : ∀ (x : Ex), x.cls ∈ U → ∀ (a : Addr) (oe : Obj) (d : Option Addr) (pn : List (Addr × Obj)), Zc (.ref (He.ga X.K (Str.ofString x.cls))) d oe → (∃ vs, oe.data = .fields vs) → DB (X.suite a ((a, oe) :: pn)) EN0 (Gt.set i (.exn a d x.args)) (b₀ :: suite) (h x) .rt) (r : HJ X U Fs Gt hds l) :
      HJ X U Fs Gt (.ExceptHandler (some (.Name (Str.ofString t) np)) (some n) (b₀ :: suite) pos' :: hds) ((cs, h) :: l)
section
variable {X : Cx} {E : XK} {G Gt : List Sl} {pos : Pos} {U Fs : List String} {body : List Stmt} {h₀ : ExceptHandler} {hds : List ExceptHandler} {hs : List (List String × (Ex → M D))}
end
end DL

set_option Elab.async false
set_option linter.all false
set_option maxRecDepth 100000
set_option maxHeartbeats 4000000
namespace DL
open PySem PySem.Spec L2
abbrev SupV : Type := Option (Str × Str × Arguments × FuncBody × Scope × Addr × List Str × Addr)
def supO (K : PySem.W.Frag) (fI : Addr) : SupV := (K.lookup fI).bind fun o => match o.data with
  | .func f => some (f.name, f.qualname, f.params, f.body, f.scope, f.globals, f.closure.map (·.1), f.builtins)
  | _ => none
def supD (d : He.DefD) : SupV := some (d.name, d.qual, d.params, .stmts d.body, d.scope, mainGlobals, ["__class__"], builtinsNs)
def fileAt (K : PySem.W.Frag) (c : Value) (f0 : Str) : Bool := match c with
  | .ref a => (match K.lookup a with
    | some o => (match o.data with
      | .fields vs => (match (vs[2]? : Option Value) with
        | some (.str f _) => decide (f = f0)
        | _ => false)
      | _ => false)
    | none => false)
  | _ => false
def cellAt (K : PySem.W.Frag) (a C : Addr) : Bool := match K.lookup a with
  | some o => (match o.data with
    | .cell (some (.ref D)) => decide (D = C)
    | _ => false)
  | none => false
def cloAt (K : PySem.W.Frag) (C : Addr) : List (Str × Addr) → Bool
  | [(_, cc)] => cellAt K cc C
  | _ => false
def supX (K : PySem.W.Frag) (f0 q : Str) (C fI : Addr) : Bool := match K.lookup fI with
  | some o => (match o.data with
    | .func f => PySem.W.codeIn K f.code q && (He.dflB K f.defaults [] && (fileAt K f.code f0 && cloAt K C f.closure))
    | _ => false)
  | none => false
def oexB (K : PySem.W.Frag) (C : Addr) : Bool := match K.lookup C with
  | some ⟨.type "type", _, .cls cd, sl⟩ => (match cd.mro, sl.toList with
    | .ref C' :: bm, [_, _, _, _, some (.builtin n), _] => C' == C && n == "ValueError.__new__" && !cd.hasDel && cd.hasDict && HandSPX.refsVE bm
    | _, _ => false)
  | _ => false
def supB (K : PySem.W.Frag) (f0 q : Str) (C fI : Addr) (fld : Str) : Bool := supX K f0 q C fI && (oexB K C && (
  decide (PySem.W.findIn K (.ref C) "__setattr__" = some (some (.builtin "object.__setattr__"))) && (decide (PySem.W.subIn K (.ref C) (.type "BaseException") = some true) && (decide (PySem.W.typeIn K (.ref C) = some (.type "type")) && (PySem.W.keepIn K (.ref C) && (
  decide (PySem.W.findIn K (.ref C) "__init__" = some (some (.ref fI))) && (decide (PySem.W.typeIn K (.ref fI) = some (.type "function")) && (decide (PySem.W.findIn K (.ref C) fld = some none) && (
  decide (PySem.W.ks_superIn K C C "__init__" = some (some (.builtin "ValueError.__init__"))) && (decide (PySem.W.mroIn K C (.ref C) = some true) && (decide (PySem.W.subIn K (.ref C) (.type "ValueError") = some true) && (decide (PySem.W.nsIn K cStatics "thirdparty.any" = some none) && (
  PySem.W.excInitIn K C He.veBase "ValueError.__new__" && decide (PySem.W.nsIn K mainGlobals "super" = some none))))))))))))))
structure PFx (P : Program) (f0 : Str) : Prop where
  file : ((P.main.file : Str) == f0) = true
  top : (P.main.scope.names.lookup ("super" : Str)).isSome = false
section
variable {P : Program} {K : PySem.W.Frag} {C fI : Addr} {f0 self fld txt : Str} {d : He.DefD} {a1 : Arg} {p0 p1 p2 p3 p4 p5 q1 q2 q3 q4 : Pos} {ck : Nat} {pl : Env → Sem Bool}
end
abbrev AlX : Type := AlG × List SupV
structure SupE where
  cls : Str
  fld : Str
  d : He.DefD
def SupE.fI (K : PySem.W.Frag) (s : SupE) : Addr := He.ma K (He.ga K s.cls) "__init__"
def exX (sx : List SupE) (f0 : Str) (ex : PySem.W.Frag → Bool) (K : PySem.W.Frag) : Bool := ex K && sx.all fun s => supB K f0 s.d.qual (He.ga K s.cls) (s.fI K) s.fld
def seenX (fa : List He.Fa) (fn gt : List He.DefD) (sx : List SupE) (f0 : Str) (ex : PySem.W.Frag → Bool) (K : PySem.W.Frag) : AlX := (seen fa fn gt (exX sx f0 ex) K, sx.map fun s => supO K (s.fI K))
def dueX (fn gt : List He.DefD) (sx : List SupE) : AlX := (due fn gt, sx.map fun s => supD s.d)
def SaysX (fa : List He.Fa) (fn gt : List He.DefD) (sx : List SupE) (f0 : Str) (ex : PySem.W.Frag → Bool) (K : PySem.W.Frag) : Prop := seenX fa fn gt sx f0 ex K = dueX fn gt sx
section
variable {fa : List He.Fa} {fn gt : List He.DefD} {sx : List SupE} {f0 : Str} {ex : PySem.W.Frag → Bool} {K : PySem.W.Frag}
theorem SaysX.g (c : SaysX fa fn gt sx f0 ex K) : SaysG fa fn gt (exX sx f0 ex) K := congrArg (fun z : AlX => z.1) c
theorem SaysX.d (c : SaysX fa fn gt sx f0 ex K) : He.SaysD fa fn K := c.g.d
theorem SaysX.more (c : SaysX fa fn gt sx f0 ex K) : ex K = true := (and2 c.g.more).1
theorem SaysX.get (c : SaysX fa fn gt sx f0 ex K) (i : Nat) {d : He.DefD} (h : gt[i]? = some d) : ∃ fd, FunD K d.name d.qual d.params d.body d.scope [] [] (gAd K d.at_) fd := c.g.get i h
theorem SaysX.sup (c : SaysX fa fn gt sx f0 ex K) (i : Nat) {s : SupE} (h : sx[i]? = some s) : supO K (s.fI K) = supD s.d ∧ supB K f0 s.d.qual (He.ga K s.cls) (s.fI K) s.fld = true := by
  have e : (sx.map fun s => supO K (s.fI K)) = sx.map fun s => supD s.d := congrArg (fun z : AlX => z.2) c
  have e2 : (sx.map fun s => supO K (s.fI K))[i]? = (sx.map fun s => supD s.d)[i]? := by rw [e]
  rw [List.getElem?_map, List.getElem?_map, h] at e2
  exact ⟨Option.some.inj e2, List.all_eq_true.mp (and2 c.g.more).2 s (List.mem_of_getElem? h)⟩
end
end DL

set_option Elab.async false
set_option linter.all false
set_option maxRecDepth 100000
set_option maxHeartbeats 4000000
namespace DL
open PySem PySem.Spec L2
section
variable {X : Cx} {E : XK} {G Gt : List Sl} {c e : Expr} {pos : Pos} {st : Stmt} {rest body : List Stmt} {W : WX}
end
end DL

set_option Elab.async false
set_option linter.all false
set_option maxRecDepth 100000
set_option maxHeartbeats 4000000
namespace DL
open PySem PySem.Spec L2
section
variable {X : Cx} {E : XK} {G : List Sl} {a b c e : Expr} {ma mb mc : M D} {pos : Pos} {st : Stmt} {rest body : List Stmt} {F H : Hp}
def setIx (l : List D) (i v : D) : M (List D) := match i with
  | .int k => (match ixN l.length k with | some j => .ok (l.set j v) | none => stuck)
  | _ => stuck
@[simp] abbrev mSetI (l : List D) (me mk : M D) : M (List D) := me >>= fun d => mk >>= fun i => setIx l i d
theorem ds_setI {x : Str} {i : Nat} {l : List D} {p1 p2 : Pos} {me mk : M D} {k : Expr} (hs : G[i]? = some (.own l)) (pv : PE X (.Name x p1) (tVar i)) (h : DE X (cE E) G e me) (hk : DR X (cE E) G k mk)
    (hsw : swapsWithSole [.Subscript (.Name x p1) k p2] e pos.line X.env = pure false) (hw : swappedStores [.Subscript (.Name x p1) k p2] e X.env = pure none) (h1 : (assignEach [.Subscript (.Name x p1) k p2] X.env).map (·.2) = [assign (.Subscript (.Name x p1) k p2) X.env])
    (ha : ∀ v, assign (.Subscript (.Name x p1) k p2) X.env v = (do
      let ov ← holding [v] (eval (.Name x p1) X.env)
      let iv ← holding [v, ov] (eval k X.env)
      standAt p2
      holding [v, ov, iv] (setItem ov iv v)
      release [v, ov, iv] []) := by intro _; rfl) : DS X E G (.Assign [.Subscript (.Name x p1) k p2] e pos) (mSetI l me mk) (fun l' => .nx (G.set i (.own l'))) := by
  obtain ⟨t, pe, w⟩ := h
  obtain ⟨tk, pk, wk⟩ := hk
  refine ⟨_, ps_asg pe (pg_sub pv pk set_list ha) hsw hw h1, fun B0 B σ F H D x0 g q => w B σ F H _ x0.sFH g (WpB.expr (H := H) x0 q fun d F1 H1 v x1 x1' r1 q1 => ?_)⟩
  obtain ⟨o, k1, hs1⟩ := (g.ext x1).ok i _ hs
  obtain ⟨ad, xs, rfl, hd, fa, ba, rl⟩ := hs1
  refine ⟨_, k1, wk B σ F1 H1 _ x1'.sFH (g.ext x1) (WpB.expr (H := H1) x1' q1 fun kd F2 H2 kv x2 x2' r2 q2 => ?_)⟩
  have q2 : WpB X.K E B0 B (fun l' => .nx (G.set i (.own l'))) (setIx l kd d) F2 D := q2
  cases kd with
  | int z =>
    have q2 : WpB X.K E B0 B (fun l' => .nx (G.set i (.own l'))) (match ixN l.length z with | some j => (.ok (l.set j d) : M (List DL.D)) | none => stuck) F2 D := q2
    obtain rfl := r2.int
    cases hj : ixN l.length z with
    | none => rw [hj] at q2; exact q2.elim
    | some j =>
      rw [hj] at q2
      have fa2 : F2 ad = none := by rw [x2.old _ _ hd]; exact fa
      refine ⟨ad, xs, z, j, rfl, rfl, x2.sH _ _ hd, by rw [rl.length]; exact hj, ?_⟩
      have q3 : OcP X.K B0 B F2 D (.nx (G.set i (.own (l.set j d)))) := q2.ok
      exact q3 σ F2 _ (Same.refl _) (x2'.write fa2 ba) (((g.ext x1).ext x2).write hs k1 ((rl.mono x2.sF).set (r1.mono x2.sF) j))
  | _ => exact q2.elim
theorem RpL.erase {K : PySem.W.Frag} : ∀ {xs : List V} {ds : List D} (j : Nat), RpL K F xs ds → RpL K F (xs.eraseIdx j) (ds.eraseIdx j)
  | _, _, _, .nil => .nil
  | _, _, 0, .cons h hs => hs
  | _, _, j + 1, .cons h hs => .cons h (RpL.erase j hs)
def augI (f : Int → Int → Int) (x y : D) : M D := match x, y with
  | .int i, .int j => .ok (.int (f i j))
  | _, _ => stuck
theorem ds_aug {x : Str} {i : Nat} {p1 : Pos} {op : Operator} {f : Int → Int → Int} {d : D} {me : M D} (hN : X.N.Nodup) (hi : X.N[i]? = some x) (hx : Loc X.env.scope x) (ho : PIp X op (ipI f)) (hs : G[i]? = some (.val d)) (h : DE X (cE E) G e me)
    (hf : X.fn x = true ∨ X.env.scope.names.lookup x = some .local := by first | exact .inl rfl | exact .inr rfl | assumption) :
    DS X E G (.AugAssign (.Name x p1) op e pos) (me >>= fun y => augI f d y) (fun z => .nx (G.set i (.val z))) := by
  obtain ⟨t, pe, w⟩ := h
  refine ⟨_, ps_aug hN hi hx pe ho hf, fun B0 B σ F H D x0 g q => ?_⟩
  obtain ⟨o, h1, v, rfl, r⟩ := g.ok i _ hs
  refine ⟨v, h1, w B σ F H _ x0.sFH g (WpB.expr (H := H) x0 q fun y F1 H1 u x1 x1' r1 q1 => ?_)⟩
  have q1 : WpB X.K E B0 B (fun z => .nx (G.set i (.val z))) (augI f d y) F1 D := q1
  cases d with
  | int a => cases y with
    | int b =>
      cases r
      cases r1
      have q3 : OcP X.K B0 B F1 D (.nx (G.set i (.val (.int (f a b))))) := WpB.ok (E := E) q1
      exact ⟨a, b, rfl, rfl, q3 _ F1 H1 (Same.refl _) x1' ((g.ext x1).set (.int _))⟩
    | _ => exact q1.elim
  | _ => cases y <;> exact q1.elim
end
section
variable {X : Cx} {E : St → XK} {G : List Sl} {a b c e : Expr} {ma mb mc : M D} {pos : Pos} {st : Stmt} {rest body : List Stmt} {F H : Hp}
end
section
variable {X : Cx} {G : List Sl} {pos : Pos} {body : List Stmt} {F H : Hp}
end
section
variable {X : Cx} {E : St → XK} {G : List Sl} {a b : Expr} {pos : Pos} {F H : Hp}
end
end DL

set_option Elab.async false
set_option linter.all false
set_option maxRecDepth 100000
set_option maxHeartbeats 4000000
namespace DL
open PySem PySem.Spec L2
def IsDk (u : HO) (kvs : List (Key × V)) : Prop := u = .dK kvs ∨ ∃ o, u = .frz o (.dK kvs)
def lkF (M : Hp) (a : Addr) (u : HO) : Hp := fun b => if b = a then (match M a with | none => none | some _ => some u) else M b
theorem lk_ne {M : Hp} {a b : Addr} {u : HO} (h : b ≠ a) : lkF M a u b = M b := if_neg h
theorem lk_none {M : Hp} {a : Addr} {u : HO} (h : M a = none) : lkF M a u a = none := by
  unfold lkF
  rw [if_pos rfl, h]
theorem lk_some {M : Hp} {a : Addr} {u x : HO} (h : M a = some x) : lkF M a u a = some u := by
  unfold lkF
  rw [if_pos rfl, h]
section
variable {K : PySem.W.Frag} {F H B : Hp} {a : Addr} {u0 u1 : HO} {kvs : List (Key × V)} (d0 : IsDk u0 kvs) (d1 : IsDk u1 kvs) (hF : ∀ x, F a = some x → x = u0)
include d0 d1 hF
theorem lk_keep {b : Addr} {u : HO} (h : F b = some u) (hu : ¬ IsDk u kvs) : lkF F a u1 b = some u := by
  by_cases e : b = a
  · subst e
    exact absurd (by rw [hF u h]; exact d0) hu
  · rw [lk_ne e]
    exact h
theorem lk_rd {b : Addr} {kvs' : List (Key × V)} (h : Rd F b (.dK kvs')) : Rd (lkF F a u1) b (.dK kvs') := by
  by_cases e : b = a
  · subst e
    have key : ∀ x, F b = some x → IsDk x kvs' → Rd (lkF F b u1) b (.dK kvs') := fun x hx hd => by
      have e0 := hF x hx
      have ek : kvs' = kvs := by
        rw [e0] at hd
        rcases d0 with d0 | ⟨o, d0⟩ <;> rcases hd with hd | ⟨o', hd⟩ <;> rw [d0] at hd <;> cases hd <;> rfl
      rw [ek]
      rcases d1 with d1 | ⟨o, d1⟩
      · exact .inl (by rw [lk_some hx, d1])
      · exact .inr ⟨o, by rw [lk_some hx, d1]⟩
    rcases h with h | ⟨o, h⟩
    · exact key _ h (.inl rfl)
    · exact key _ h (.inr ⟨o, rfl⟩)
  · rcases h with h | ⟨o, h⟩
    · exact .inl (by rw [lk_ne e]; exact h)
    · exact .inr ⟨o, by rw [lk_ne e]; exact h⟩
theorem lk_seqL {b : Addr} {xs : List V} (h : SqL K F b xs) : SqL K (lkF F a u1) b xs := by
  rcases h with (h | ⟨o, h⟩) | h
  · exact .inl (.inl (lk_keep d0 d1 hF h (by rintro (z | ⟨_, z⟩) <;> cases z)))
  · exact .inl (.inr ⟨o, lk_keep d0 d1 hF h (by rintro (z | ⟨_, z⟩) <;> cases z)⟩)
  · exact .inr h
theorem lk_plT {b : Addr} {xs : List V} (h : PlT K F b xs) : PlT K (lkF F a u1) b xs := by
  rcases h with ⟨o, h, c⟩ | h
  · exact .inl ⟨o, lk_keep d0 d1 hF h (by rintro (z | ⟨_, z⟩) <;> cases z), c⟩
  · exact .inr h
mutual
theorem Rp.lk : ∀ {v : V} {d : D}, Rp K F v d → Rp K (lkF F a u1) v d
  | _, _, .non => .non
  | _, _, .bl b => .bl b
  | _, _, .int i => .int i
  | _, _, .str x h => .str x h
  | _, _, .tup h hs => .tup (lk_plT d0 d1 hF h) (RpL.lk hs)
  | _, _, .lst h hs => .lst (lk_keep d0 d1 hF h (by rintro (z | ⟨_, z⟩) <;> cases z)) (RpL.lk hs)
  | _, _, .scr h => .scr (lk_seqL d0 d1 hF h)
  | _, _, .dctK h h2 hs => .dctK (lk_rd d0 d1 hF h) h2 (RpL.lk hs)
  | _, _, .dctT h h2 hs => .dctT (lk_keep d0 d1 hF h (by rintro (z | ⟨_, z⟩) <;> cases z)) h2 (RpL.lk hs)
  | _, _, .ins h h2 hs => .ins (lk_keep d0 d1 hF h (by rintro (z | ⟨_, z⟩) <;> cases z)) h2 (RpL.lk hs)
theorem RpL.lk : ∀ {v : List V} {d : List D}, RpL K F v d → RpL K (lkF F a u1) v d
  | _, _, .nil => .nil
  | _, _, .cons h hs => .cons (Rp.lk h) (RpL.lk hs)
end
end
def Sl.noT : Sl → Sl
  | .tre _ _ _ => .any
  | .exn _ _ _ => .any
  | s => s
theorem Sl.noT_owns (s : Sl) : s.noT.owns = s.owns := by cases s <;> rfl
section
variable {K : PySem.W.Frag} {F H B : Hp} {a : Addr} {u0 u1 : HO} {kvs : List (Key × V)} {G : List Sl} {σ : St}
theorem RpOL.lk (d0 : IsDk u0 kvs) (d1 : IsDk u1 kvs) (hF : ∀ x, F a = some x → x = u0) (hB : ∀ x, B a = some x → x = u0) : ∀ {vs : List V} {fv : List D}, RpOL K F B vs fv → RpOL K (lkF F a u1) (lkF B a u1) vs fv
  | _, _, .nil => .nil
  | _, _, .frz r q => .frz (r.lk d0 d1 hF) (RpOL.lk d0 d1 hF hB q)
  | _, _, .dk ⟨ks, r1, r2, r3⟩ q => .dk ⟨ks, lk_rd d0 d1 hB r1, r2, r3.lk d0 d1 hF⟩ (RpOL.lk d0 d1 hF hB q)
theorem same_lk (s : Same F H) : Same (lkF F a u1) (upd H a u1) := fun b z h => by
  by_cases e : b = a
  · subst e
    rw [upd_same]
    cases hb : F b with
    | none =>
      rw [lk_none hb] at h
      cases h
    | some x =>
      rw [lk_some hb] at h
      exact h
  · rw [upd_ne e]
    rw [lk_ne e] at h
    exact s b z h
theorem GOk.lk (d0 : IsDk u0 kvs) (d1 : IsDk u1 kvs) (s : Same F H) (g : GOk K B G σ F H) (hH : H a = some u0) (hab : F a ≠ none ∨ B a ≠ none) : GOk K (lkF B a u1) (G.map Sl.noT) σ (lkF F a u1) (upd H a u1) where
  sB := same_lk g.sB
  len := by rw [List.length_map]; exact g.len
  ok := fun i s1 hs => by
    have hF : ∀ x, F a = some x → x = u0 := fun x hx => Option.some.inj ((s a x hx).symm.trans hH)
    have hB : ∀ x, B a = some x → x = u0 := fun x hx => Option.some.inj ((g.sB a x hx).symm.trans hH)
    rw [List.getElem?_map] at hs
    cases e : G[i]? with
    | none => rw [e] at hs; cases hs
    | some s' =>
      rw [e] at hs
      cases hs
      obtain ⟨v, k1, k2⟩ := g.ok i _ e
      have ne : ∀ x, F x = none → B x = none → x ≠ a := fun x h1 h2 z => by
        subst z
        rcases hab with h | h
        · exact h h1
        · exact h h2
      refine ⟨v, k1, ?_⟩
      cases s' with
      | un => exact k2
      | any => trivial
      | tre b _ _ => trivial
      | exn _ _ _ => trivial
      | val d =>
        obtain ⟨w, e1, r⟩ := k2
        exact ⟨w, e1, r.lk d0 d1 hF⟩
      | own l =>
        obtain ⟨b, xs, e1, e2, n1, n2, r⟩ := k2
        have nb := ne b n1 n2
        exact ⟨b, xs, e1, by rw [upd_ne nb]; exact e2, by rw [lk_ne nb]; exact n1, by rw [lk_ne nb]; exact n2, r.lk d0 d1 hF⟩
      | ownd l =>
        obtain ⟨b, e1, ⟨ks, r1, r2, r3⟩, n1, n2⟩ := k2
        have nb := ne b n1 n2
        exact ⟨b, e1, ⟨ks, by rw [upd_ne nb]; exact r1, r2, r3.lk d0 d1 hF⟩, by rw [lk_ne nb]; exact n1, by rw [lk_ne nb]; exact n2⟩
      | ownu l =>
        obtain ⟨b, e1, ⟨ks, r1, r2, r3⟩, n1, n2⟩ := k2
        have nb := ne b n1 n2
        exact ⟨b, e1, ⟨ks, by rw [upd_ne nb]; exact r1, r2, r3.lk d0 d1 hF⟩, by rw [lk_ne nb]; exact n1, by rw [lk_ne nb]; exact n2⟩
      | obj b c l =>
        obtain ⟨dx, fs, e1, e2, n1, n2, e3, r⟩ := k2
        have nb := ne b n1 n2
        exact ⟨dx, fs, e1, by rw [upd_ne nb]; exact e2, by rw [lk_ne nb]; exact n1, by rw [lk_ne nb]; exact n2, e3, r.lk d0 d1 hF⟩
      | bor d =>
        obtain ⟨w, e1, r⟩ := k2
        refine ⟨w, e1, ?_⟩
        cases r with
        | of r => exact .of (r.lk d0 d1 hF)
        | own h r => exact .own (lk_keep d0 d1 hB h (by rintro (z | ⟨_, z⟩) <;> cases z)) (r.lk d0 d1 hF)
        | ownd r =>
          obtain ⟨ks, r1, r2, r3⟩ := r
          exact .ownd ⟨ks, lk_rd d0 d1 hB r1, r2, r3.lk d0 d1 hF⟩
        | ownu r =>
          obtain ⟨ks, r1, r2, r3⟩ := r
          exact .ownu ⟨ks, lk_keep d0 d1 hB r1 (by rintro (z | ⟨_, z⟩) <;> cases z), r2, r3.lk d0 d1 hF⟩
        | obj h h2 r => exact .obj (lk_keep d0 d1 hB h (by rintro (z | ⟨_, z⟩) <;> cases z)) h2 (r.lk d0 d1 hF)
        | obt h h2 r => exact .obt (lk_keep d0 d1 hB h (by rintro (z | ⟨_, z⟩) <;> cases z)) h2 (RpOL.lk d0 d1 hF hB r)
  dis := fun i j s1 t1 d h1 h2 o1 o2 e1 e2 => by
    rw [List.getElem?_map] at h1 h2
    cases ei : G[i]? with
    | none => rw [ei] at h1; cases h1
    | some x =>
      cases ej : G[j]? with
      | none => rw [ej] at h2; cases h2
      | some y =>
        rw [ei] at h1
        rw [ej] at h2
        cases h1
        cases h2
        rw [Sl.noT_owns] at o1 o2
        exact g.dis i j _ _ d ei ej o1 o2 e1 e2
end
section
variable {X : Cx} {E : St → XK} {G : List Sl} {e c : Expr} {pos : Pos}
end
end DL

set_option Elab.async false
set_option linter.all false
set_option maxRecDepth 100000
set_option maxHeartbeats 4000000
namespace DL
open PySem PySem.Spec L2
section
variable {X : Cx} {E : St → XK} {G : List Sl} {a : Expr} {ma : M D} {pos : Pos}
end
end DL

set_option Elab.async false
set_option linter.all false
set_option maxRecDepth 100000
set_option maxHeartbeats 4000000
namespace DL
open PySem PySem.Spec L2
section
variable {X : Cx} {E : St → XK} {G : List Sl} {a : Expr} {ma : M D} {pos : Pos}
end
end DL

set_option Elab.async false
set_option linter.all false
set_option maxRecDepth 100000
set_option maxHeartbeats 4000000
namespace DL
open PySem PySem.Spec L2
@[simp] def a7 {α : Type} (f : D → D → D → D → D → D → D → M α) : List D → M α
  | [a, b, c, d, e, g, h] => f a b c d e g h
  | _ => stuck
@[simp] def a8 {α : Type} (f : D → D → D → D → D → D → D → D → M α) : List D → M α
  | [a, b, c, d, e, g, h, i] => f a b c d e g h i
  | _ => stuck
section
variable {K : PySem.W.Frag} {B0 B F H F' H' : Hp} {a : Addr} {u0 u1 u : HO}
theorem same_lk2 (s : Same F F') : Same (lkF F a u) (lkF F' a u) := fun b z h => by
  by_cases e : b = a
  · subst e
    cases hb : F b with
    | none =>
      rw [lk_none hb] at h
      cases h
    | some y =>
      rw [lk_some hb] at h
      rw [lk_some (s b y hb)]
      exact h
  · rw [lk_ne e] at h
    rw [lk_ne e]
    exact s b z h
theorem Ext.lk (x : Ext B0 B F H) : Ext (lkF B0 a u) (lkF B a u) (lkF F a u) (upd H a u) where
  sF := same_lk2 x.sF
  sH := same_lk x.sH
  sFH := same_lk x.sFH
  old := fun b z h => by
    by_cases e : b = a
    · subst e
      cases hb : B b with
      | none =>
        rw [lk_none hb] at h
        cases h
      | some y =>
        have h1 := x.old b y hb
        cases h0 : B0 b with
        | none =>
          rw [h0] at h1
          rw [lk_none h1, lk_none h0]
        | some w =>
          rw [h0] at h1
          rw [lk_some h1, lk_some h0]
    · rw [lk_ne e] at h
      rw [lk_ne e, lk_ne e]
      exact x.old b z h
end
section
variable {X : Cx} {E : XK} {G : List Sl} {pos : Pos} {body : List Stmt}
end
end DL

set_option Elab.async false
set_option linter.all false
set_option maxRecDepth 100000
set_option maxHeartbeats 4000000
namespace DL
open PySem PySem.Spec L2
def D.pr : D → Option (D × D)
  | .tup [k, v] => if k.isKey = true then some (k, v) else none
  | _ => none
section
variable {K : PySem.W.Frag} {F F' H H' : Hp}
theorem freezeO {p : Addr} {o : HO} (x : Ext F H F' H') (n : H p = none) (h : H' p = some o) (nf : F' p = none) : Ext F H (upd F' p o) H' where
  sF := fun b u q => by
    rw [upd_ne (fun z => by
      subst z
      have := x.sF _ _ q
      rw [nf] at this
      cases this)]
    exact x.sF _ _ q
  sH := x.sH
  sFH := fun b u q => by
    by_cases e : b = p
    · subst e
      rw [upd_same] at q
      cases q
      exact h
    · rw [upd_ne e] at q
      exact x.sFH _ _ q
  old := fun a u q => by
    rw [upd_ne (ne_of_none q n)]
    exact x.old a u q
end
section
variable {X : Cx} {E : St → XK} {G : List Sl} {a : Expr} {ma : M D} {pos : Pos}
end
end DL

set_option Elab.async false
set_option linter.all false
set_option maxRecDepth 100000
set_option maxHeartbeats 4000000
namespace DL
open PySem PySem.Spec L2
section
variable {X : Cx}
end
end DL

set_option Elab.async false
set_option linter.all false
set_option maxRecDepth 100000
set_option maxHeartbeats 4000000
namespace DL
open PySem PySem.Spec L2
section
variable {X : Cx} {E : XK} {G : List Sl} {body : List Stmt}
end
end DL

set_option Elab.async false
set_option linter.all false
set_option maxRecDepth 100000
set_option maxHeartbeats 4000000
namespace DL
open PySem PySem.Spec L2
def D.repOk (d : D) : Bool := d.shp 20 && (d.py.showable && (decide (d.py.shown.length ≤ sizeLine) && PyData.strOk d.py.shown))
def D.repr (d : D) : M D := match d with
  | .non => need d.repOk >>= fun _ => .ok (.str d.py.shown)
  | .lst _ => need d.repOk >>= fun _ => .ok (.str d.py.shown)
  | .tup _ => need d.repOk >>= fun _ => .ok (.str d.py.shown)
  | _ => stuck
def rRepr (K : PySem.W.Frag) : List V → Hp → VK → Prop := fun vs H Q => ∃ (v : V) (d : PyData), vs = [v] ∧ Dp K H v d ∧ (v = .non ∨ ∃ a, v = .ref a) ∧ d.showable = true ∧ d.hasDict = false ∧ d.depth ≤ 60 ∧ d.shown.length ≤ sizeLine ∧ Q (.str d.shown) H
theorem cr_repr {X : Cx} (hu : X.A.units + 70 < cLine) (hg : X.A.guards = some []) : CallR X (.builtin "repr") (rRepr X.K) := by
  intro pins s σ H vs us Q I r h
  obtain ⟨v, d, rfl, hd, hv, h1, h2, h3, h4, q⟩ := h
  obtain ⟨u, rfl, ru⟩ := vals1 r
  rcases hv with rfl | ⟨a, rfl⟩
  · cases ru
    cases hd
    exact PySem.P.repr_of_none ⟨.str _, H, I.tok _, ⟨_, rfl⟩, q⟩
  · obtain rfl : u = Value.ref a := ru
    obtain ⟨as, ra⟩ := Dp.reads I d (.ref a) (.ref a) hd rfl
    exact repr_of_reads' ra h1 (PyData.noDict_hsm h2) hg (by omega) (fun _ _ e => e) (fun h' u tk k => ⟨.str _, H, I.kept k, ⟨u, rfl⟩, q⟩) h4
theorem rep_run {K : PySem.W.Frag} {F H : Hp} {E : XK} {v : V} {d : D} {Q : VK} (s : Same F H) (r : RpT K F H v d) (hv : v = .non ∨ ∃ a, v = .ref a) (q : WpG K E (rE K) (need d.repOk >>= fun _ => .ok (.str d.py.shown)) F H Q) : rRepr K [v] H Q := by
  obtain ⟨c, q⟩ := q.need
  obtain ⟨c1, c⟩ := and2 c
  obtain ⟨c2, c⟩ := and2 c
  obtain ⟨c3, c4⟩ := and2 c
  obtain ⟨d1, d2⟩ := RpT.dp s c1 r
  exact ⟨v, d.py, rfl, d1, hv, c2, PyData.hasDict_of_canLay _ d2, Nat.le_trans (D.shp_depth c1) (by omega), of_decide_eq_true c3, q F H _ (Ext.refl s) (.str _ c4)⟩
theorem repr_op {X : Cx} : OpN X.K (f1 D.repr) (rRepr X.K) := opN1 fun E F H v d Q s r q => by
  cases d with
  | non => exact rep_run s r (.inl r.non) q
  | lst l =>
    obtain ⟨a, _, rfl, _⟩ := r.lst s
    exact rep_run s r (.inr ⟨a, rfl⟩) q
  | tup l =>
    obtain ⟨a, _, rfl, _⟩ := r.tup s
    exact rep_run s r (.inr ⟨a, rfl⟩) q
  | _ => exact q.elim
structure FnG (P : Program) (w : World) (K : PySem.W.Frag) (mg : Str → Option Value) (base : Heap) (CX : CXT) (k : Nat) (f : Addr) (fd : FuncData) (ps : List Str) (sp : Sp) : Prop where
  ln : ∀ vs H Q E, sp vs H Q E → vs.length = ps.length
  go : ∀ (A : Around) (o : List Env) (s : Shared) (H : Hp) (ar : Args) (us : List Value) (vs : List V) (Q : VK) (E : XK), A.guards = some [] → Room k A → Env0 P w K mg base A o s H → BindsTo s fd ar (ps.zip us) → Vals vs us → sp vs H Q E → codeAny (model P w) A (.call (.ref f) ar) (CR CX o P w H s Q E) s
section
variable {P : Program} {w : World} {K : PySem.W.Frag} {mg : Str → Option Value} {base : Heap} {CX : CXT} {f : Addr} {fd : FuncData} {x : Str} {qual : Str} {params : Arguments} {body : List Stmt} {scope : Scope} {dvs : List V} {kws : List (Str × V)}
theorem fn_ofG {N ps : List Str} {k : Nat} {sp : Sp} (F : FunD K x qual params body scope dvs kws f fd) (S : FnScope N ps scope) (ln : ∀ vs H Q E, sp vs H Q E → vs.length = ps.length)
    (hb : ∀ (cdv : Value) (A : Around) (o : List Env) (s : Shared) (H : Hp) (vs : List V) (Q : VK) (E : XK), A.guards = some [] → Room k (A.deeper (PyProof.Rows.envOfC qual scope s.heap.objs.size f cdv)) → sp vs H Q E →
      ∃ t, PSs (cxOf CX P w K mg base N qual scope f cdv A o s H E) body t ∧ t { nx := fun _ H' => Q .non H', rt := Q } (L2.start N vs) H) : FnG P w K mg base CX (k + 1) f fd ps sp := by
  obtain ⟨oc, od, dV, kV, doc, pm, an, cdv, ct, osl, rfl, lk, hcd, _, _⟩ := F.ex
  refine ⟨ln, fun A o s H ar us vs Q E hg hr e0 hbi rv hs => ?_⟩
  have kx : K.In s.heap := e0.mod.kin.keeps fun b u e => (e0.bs b u e).1
  have nl : s.heap.NoLimit := e0.mod.nolimit.keeps fun b u e => (e0.bs b u e).1
  have knd : ∀ y ∈ ps.zip us, scope.names.lookup y.1 = some .local ∨ (scope.names.lookup y.1 = some .cell ∧ ((cellsFrom (s.heap.objs.size + 1) scope.names []).lookup y.1).isSome = true) := fun y hy => by
    rcases S.par y.1 (List.of_mem_zip (show (y.1, y.2) ∈ ps.zip us from hy)).1 with c | c
    · exact .inl c
    · exact .inr ⟨c, PySem.W.cellsFrom_some _ _ _ (.inl c)⟩
  refine codeAny_call_function hr.depth (kx _ _ lk) rfl S.co S.gen rfl (PySem.W.codeRec_of kx hcd) (hbi _ _ _ _ ?_)
  refine wpAny_newFunctionEnv_cells S.kind knd fun env he s1 inc => ?_
  subst he
  refine ⟨nl.keeps inc.toInCall.keep, codeAny_func ?_⟩
  obtain ⟨t, ht, hq⟩ := hb cdv A o s H vs Q E hg (hr.deeper _) hs
  have iv : Inv (cxOf CX P w K mg base N qual scope f cdv A o s H E) [] (L2.start N vs) H s1 := inv_start S hr.hd e0 (ln _ _ _ _ hs) rv inc
  refine wpAny_mono (ht.run [] s1 (L2.start N vs) H _ iv hq) (fun fl s' z => ?_) fun e s' z => z
  have fin : ∀ {σ' : St} {H' : Hp} {v : V} {u : Value}, Inv (cxOf CX P w K mg base N qual scope f cdv A o s H E) [] σ' H' s' → RelV v u → Q v H' → CE o P w H s Q u s' := fun {_ H' v _} j c d => ⟨v, H', j.os, j.bare, j.base, j.hok, c, d⟩
  cases fl with
  | next =>
    obtain ⟨_, _, j, d⟩ := z
    exact fin (v := V.non) (u := Value.none) j rfl d
  | ret u =>
    obtain ⟨_, _, _, j, c, d⟩ := z
    exact fin j c d
  | brk =>
    obtain ⟨_, _, _, d⟩ := z
    exact d.elim
  | cont =>
    obtain ⟨_, _, _, d⟩ := z
    exact d.elim
theorem fn_defG {N ps : List Str} {k : Nat} {bs : List Bool} {m : List D → M D} (F : FunD K x qual params body scope dvs kws f fd) (S : FnScope N ps scope) (hbs : bs.length = ps.length)
    (hb : ∀ (cdv : Value) (A : Around) (outer : List Env) (s : Shared) (H : Hp) (E : XK), A.guards = some [] → Room k (A.deeper (PyProof.Rows.envOfC qual scope s.heap.objs.size f cdv)) → ∀ ds : List D, ds.length = bs.length →
      DB (cxOf (L2.CX P w) P w K mg base N qual scope f cdv A outer s H E) E (argSl bs ds ++ List.replicate (N.length - bs.length) .un) body (m ds) Oc.rt) : FnG P w K mg base (L2.CX P w) (k + 1) f fd ps (spD K bs m) := by
  refine fn_ofG F S (fun vs H Q E h => ?_) (fun cdv A outer s H vs Q E hg hr h => ?_)
  · obtain ⟨F, ds, _, r, _⟩ := h
    rw [r.len.1, hbs]
  · obtain ⟨F, ds, sF, r, q⟩ := h
    obtain ⟨t, p, wt⟩ := hb cdv A outer s H E hg hr ds r.len.2
    refine ⟨t, p, wt F H (L2.start N vs) F H _ (Ext.refl sF) (gok_start r) ?_⟩
    cases e : m ds with
    | ok d =>
      rw [e] at q
      exact WpB.of_ok (fun v F' H' _ x' r' => q F' H' v x' r')
    | error er =>
      rw [e] at q
      cases er with
      | stuck => exact q.elim
      | exc y => exact fun F' H' c d _ x' r' => q F' H' c d x' r'
end
theorem fn_anyG {P : Program} {w : World} {K : PySem.W.Frag} {mg : Str → Option Value} {base : Heap} {k : Nat} {f : Addr} {fd : FuncData} {ps : List Str} {sp : Sp} (F : FnG P w K mg base (L2.CX P w) k f fd ps sp) : FnG P w K mg base (CXA P) k f fd ps sp :=
  ⟨F.ln, fun A o s H ar us vs Q E h0 h1 h2 h3 h4 h5 => codeAny_mono (F.go A o s H ar us vs Q E h0 h1 h2 h3 h4 h5) fun r s' h => by
    cases r with
    | ok z => cases z with
      | ret u => exact h
      | _ => exact h.elim
    | error e => exact ⟨w, h⟩⟩
theorem law_callG {P : Program} {w : World} {K : PySem.W.Frag} {mg mb : Str → Option Value} {CX : CXT} {k : Nat} {fa a : Addr} {fd : FuncData} {x : Str} {sp : Sp} {s1 : Shared} {vs : List Value} {ns : List Int}
    (kx : K.In s1.heap) (hn : s1.heap.Ns mainGlobals mg) (hb : s1.heap.Ns builtinsNs mb) (hbb : ∀ y : Str, y ≠ "__name__" → mb y = bootBuiltins y) (nl : s1.heap.NoLimit) (ge : s1.gens = #[])
    (ha : s1.heap.get? a = some { cls := .type "list", data := .seq vs.toArray }) (hi : PyProof.Rows.IntsAre vs ns) (hl : ns.length ≤ sizeLine) (hr : Room k PySem.callerA)
    (F : ∀ base : Heap, K.In base → base.Ns mainGlobals mg → FnG P w K mg base CX k fa fd [x] sp) (hbi : ∀ (s : Shared) (u : Value), BindsTo s fd ⟨[u], []⟩ [(x, u)])
    (hsp : ∀ H : Hp, Only H → SqL K H a (ns.map V.int) → sp [.ref a] H (fun v _ => v = .bl true) fun _ _ _ => False)
    (hx : ∀ H e s', CX [] H s1 (fun _ _ _ => False) e s' → False) :
    codeAny (model P w) PySem.callerA (.call (.ref fa) ⟨[.ref a], []⟩) (fun r s' => r = .ok (.ret (.bool true)) ∧ OldK s1.heap s'.heap ∧ s'.os = s1.os ∧ PyProof.Rows.AllBare s'.gens) s1 := by
  have rv := vals_ints hi
  have main : ∀ H : Hp, Only H → SqL K H a (ns.map V.int) → HOk P w H s1.heap → (∀ b, H b ≠ none → b = a) → (H a ≠ none → K.lookup a = none) →
      codeAny (model P w) PySem.callerA (.call (.ref fa) ⟨[.ref a], []⟩) (fun r s' => r = .ok (.ret (.bool true)) ∧ OldK s1.heap s'.heap ∧ s'.os = s1.os ∧ PyProof.Rows.AllBare s'.gens) s1 := by
    intro H only sq hok one hk
    have at_a : ∀ {b : Addr}, H b ≠ none → ∀ {z : Obj}, s1.heap.get? b = some z → z = { cls := .type "list", data := .seq vs.toArray } := fun {b} n z e => by
      have e' := one b n
      subst e'
      rw [ha] at e
      cases e
      rfl
    have noD : ∀ {b : Addr} {z : Obj} {es : Array DictEntry} {ep : Nat}, s1.heap.get? b = some z → z.data = .dict es ep → H b = none := fun {b z es ep} e d => Classical.byContradiction fun n => by
      have e' := at_a n e
      subst e'
      have d : Data.seq vs.toArray _ = Data.dict es ep := d
      cases d
    have nsH : ∀ {b : Addr} {m : Str → Option Value}, s1.heap.Ns b m → (hidT s1.heap H).Ns b m := fun {b m} ⟨z, es, ep, e, d, r⟩ => ⟨z, es, ep, hidT_get e (noD e d), d, r⟩
    have kH : K.In (hidT s1.heap H) := fun b z e => hidT_get (kx b z e) (Classical.byContradiction fun n => by
      have e' := one b n
      subst e'
      rw [hk n] at e
      cases e)
    have md : Mod K mg (hidT s1.heap H) := ⟨kH, nsH hn, ⟨mb, nsH hb, hbb⟩, let ⟨mc, g1, g2⟩ := nl; ⟨mc, nsH g1, g2⟩⟩
    have e0 : Env0 P w K mg (hidT s1.heap H) PySem.callerA [] s1 H := ⟨rfl, md, fun b z e => of_hidT e, Nat.le_of_eq (hidT_size _ _), trivial, fun b hb => absurd (show b ∈ ([] : List Addr) from hb) (by simp), hok, .of_eq ge⟩
    refine codeAny_mono ((F _ kH (nsH hn)).go PySem.callerA [] s1 H ⟨[.ref a], []⟩ [.ref a] [.ref a] _ _ rfl hr e0 (hbi s1 (.ref a)) (.cons rfl .nil) (hsp H only sq)) fun r s' h => ?_
    cases r with
    | error e => exact (hx H e s' h).elim
    | ok fl =>
      cases fl with
      | ret u =>
        obtain ⟨v, H', os, bare, un, hok', r', q⟩ := h
        have q : v = .bl true := q
        subst q
        obtain rfl : u = Value.bool true := r'
        refine ⟨rfl, OldK.of_keep fun b z e => ?_, os, bare⟩
        cases c : H b with
        | none => exact un.keep b z e c (by intro y; exact absurd (show b ∈ ([] : List Addr) from y) (by simp)) (by simp)
        | some c' =>
          rcases only b with y | ⟨ob, xs, y⟩
          · rw [c] at y
            cases y
          · obtain ⟨e1, _⟩ := hok b _ y
            obtain ⟨e2, _⟩ := hok' b _ (un.frzs b ob _ y)
            rw [e] at e1
            cases e1
            exact e2
      | _ => exact False.elim h
  have lv := hi.length
  cases hk : K.lookup a with
  | some z =>
    have e := kx a z hk
    rw [ha] at e
    cases e
    exact main (fun _ => none) (fun _ => .inl rfl) (.inr ⟨_, vs.toArray, _, hk, rfl, rfl, rfl, by rw [List.size_toArray, lv]; exact hl, by simpa using rv⟩) (fun b u z => nomatch (show (none : Option HO) = some u from z)) (fun b z => absurd rfl z) fun z => absurd rfl z
  | none =>
    refine main (fun b => if b = a then some (.frz { cls := .type "list", data := .seq vs.toArray } (.lst (ns.map V.int))) else none) (fun b => ?_) (.inl (.inr ⟨{ cls := .type "list", data := .seq vs.toArray }, if_pos rfl⟩)) (fun b u z => ?_) (fun b z => Classical.byContradiction fun n => z (if_neg n)) fun _ => hk
    · by_cases e : b = a
      · exact .inr ⟨_, _, if_pos e⟩
      · exact .inl (if_neg e)
    · by_cases e : b = a
      · have z := (if_pos e).symm.trans z
        cases z
        subst e
        exact ⟨ha, by rw [List.length_map]; exact hl, vs, _, rv, ha⟩
      · have z := (if_neg e).symm.trans z
        cases z
theorem walk_ofG {lw : PySem.W.OpenLaw} {n k : Nat} {pr : Program} {lo : List Str} {XP : (Str → Option Value) → Heap → Prop} {YP : World → Heap → Prop} {dr : DefRec} {CX : CXT} {x : Str}
    (h1 : lw.most = some n) (h2 : n ≤ sizeLine) (h3 : dr.params.defaults = []) (h4 : Room k PySem.callerA)
    (G : ∀ (wd : World) (mg : Str → Option Value) (fa : Addr) (hp : Heap), YP wd hp → hp.Ns mainGlobals mg → mg dr.name = some (.ref fa) → ∃ (K : PySem.W.Frag) (fd : FuncData) (sp : Sp), K.In hp ∧
        (∀ (t : Shared) (u : Value), BindsTo t fd ⟨[u], []⟩ [(x, u)]) ∧ (∀ (H : Hp) (a : Addr) (ns : List Int), ns.length ≤ n → Only H → SqL K H a (ns.map V.int) → sp [.ref a] H (fun v _ => v = .bl true) fun _ _ _ => False) ∧
        ∀ bs : Heap, K.In bs → bs.Ns mainGlobals mg → FnG lw.prog wd K mg bs CX k fa fd [x] sp)
    (h5 : ∀ (H : Hp) (t : Shared) (e : Value) (t' : Shared), CX [] H t (fun _ _ _ => False) e t' → False) : PySem.W.WalkO pr lo XP YP lw.row.toRowW dr [] (fun f vs => PySem.call f vs) := by
  refine Att.attach_call h1 h3 fun wd t0 t1 mg mb fa ob pm cd doc a vs ns gr Y ho hd hcd hmg hobj hints hlen hg => ?_
  obtain ⟨K, fd, sp, kx, hbi, hsp, hF⟩ := G wd mg fa _ Y gr.T.g hmg
  exact law_callG kx gr.T.g gr.T.b gr.T.builtins gr.T.nolimit hg hobj hints (Nat.le_trans hlen h2) h4 hF hbi (fun H a1 a2 => hsp H a ns hlen a1 a2) fun H e t' => h5 H t1 e t'
end DL

set_option Elab.async false
set_option linter.all false
set_option maxRecDepth 100000
set_option maxHeartbeats 4000000
namespace DL
open PySem PySem.Spec L2
section
variable {K : PySem.W.Frag} {x qual : Str} {params : Arguments} {body : List Stmt} {scope : Scope} {f : Addr} {fd : FuncData} {ps : List Str}
end
section
variable {X : Cx} {CX : CXT} {k n : Nat} {f : Addr} {fd : FuncData} {ps ks : List Str} {sp : Sp} {E : St → XK} {x : Str} {p pos : Pos} {e : Expr} {es : List Expr} {kws : List Keyword} {t tk : TA} {g : List Value → List Value → List Value} {gV : List V → List V → List V} {pins : List (Addr × Obj)} {σ : St} {H : Hp} {s : Shared} {Q : VK} {us ws : List Value} {vs zs : List V}
theorem run_atK {E1 : XK} (F : FnOk X.prog X.w X.K X.mg X.base CX k f fd ps sp) (hr : Room k X.A) (hb : KBn X.K fd ps n ks g gV) (pass : PassesAt CX X σ E1) (I : Inv X pins σ H s) (r : Vals vs us) (rz : Vals zs ws) (l1 : vs.length = n) (l2 : zs.length = ks.length) (want : sp (gV vs zs) H Q E1) :
    wpAny (model X.prog X.w) X.A (call (.ref f) us (ks.zip ws)) (EP X pins σ Q) X.xe s := by
  refine wpAny_call (codeAny_mono (F.run _ _ _ _ _ _ _ _ E1 hr I.env0 (hb.to s us ws I.kIn (r.length.symm.trans l1) (rz.length.symm.trans l2)) (hb.rel r rz) want) ?_)
  intro res s2 got
  match res, got with
  | .error e, got => exact pass pins H s e s2 I got
  | .ok (.ret u), got => exact I.after got
def tCallKD (n m : Nat) (sp : Sp) (gV : List V → List V → List V) (E : St → XK) (t tk : TA) : TE := fun σ H Q => t σ H fun vs H1 => tk σ H1 fun zs H2 => vs.length = n ∧ zs.length = m ∧ sp (gV vs zs) H2 Q (E σ)
theorem pe_callKD (F : FnOk X.prog X.w X.K X.mg X.base CX k f fd ps sp) (hr : Room k X.A) (hg : Gl X x) (hm : X.mg x = some (.ref f)) (hk : PySem.W.keepIn X.K (.ref f) = true) (hb : KBn X.K fd ps n ks g gV) (pass : ∀ σ, PassesAt CX X σ (E σ)) (ha : PA X (e :: es) t) (hkw : PK X kws tk)
    (hall : (backToKw pos (keywordEach kws X.env)).all (·.1.isSome) = true) (hks : (backToKw pos (keywordEach kws X.env)).filterMap (·.1) = ks) (hdb : (x == ("__debug__" : Str)) = false) (he : starEach (e :: es) X.env = (false, eval e X.env) :: starEach es X.env)
    (hpl : ((backTo pos (starEach (e :: es) X.env)).any (·.1) || (backToKw pos (keywordEach kws X.env)).any (·.1.isNone)) = false) : PE X (.Call (.Name x p) (e :: es) kws pos) (tCallKD n ks.length sp gV E t tk) := by
  constructor
  intro pins s σ H Q I h
  refine wpAny_Call_Name_kw (ld_glob I hg hm (PySem.W.callWith_KW (h₀ := X.base) I.ok.mod.kin hk hall (thn (ha.run pos pins s σ H _ I h) ?_) hpl he) hdb)
  rintro us s1 ⟨vs, H1, I1, r, q⟩
  refine thn (hkw.run pos pins s1 σ H1 _ I1 q) ?_
  rintro ws s2 ⟨zs, H2, I2, rz, l1, l2, q2⟩
  rw [hks]
  exact ⟨I2.kIn, run_atK F hr hb (pass σ) I2 r rz l1 l2 q2⟩
end
section
variable {X : Cx} {E : St → XK} {G : List Sl} {a : Expr} {pos : Pos}
theorem RpA.app {K : PySem.W.Frag} {F H : Hp} {b2 : List Bool} {v2 : List V} {d2 : List D} (h2 : RpA K F H b2 v2 d2) : ∀ {bs : List Bool} {vs : List V} {ds : List D}, RpA K F H bs vs ds → RpA K F H (bs ++ b2) (vs ++ v2) (ds ++ d2)
  | _, _, _, .nil => h2
  | _, _, _, .frz r h => .frz r (RpA.app h2 h)
  | _, _, _, .bor r h => .bor r (RpA.app h2 h)
@[simp] abbrev mCallK (m : List D → M D) (gd : List D → List D) (a b : M (List D)) : M D := a >>= fun l => b >>= fun k => m (l ++ gd k)
theorem de_callK {k : Nat} {f : Addr} {fd : FuncData} {ps ks : List Str} {ba bc bk : List Bool} {m : List D → M D} {x : Str} {p : Pos} {es : List Expr} {kws : List Keyword} {ms mk : M (List D)} {g : List Value → List Value → List Value} {gV : List V → List V → List V} {gv : List V → List V} {gd : List D → List D}
    (cx : CtxOk X E) (F : FnOk X.prog X.w X.K X.mg X.base (L2.CX X.prog X.w) k f fd ps (spD X.K (ba ++ bk) m)) (hr : Room k X.A) (hg : Gl X x) (hm : X.mg x = some (.ref f)) (hkp : PySem.W.keepIn X.K (.ref f) = true) (hb : KBn X.K fd ps ba.length ks g gV)
    (hgv : ∀ vs zs, vs.length = ba.length → zs.length = ks.length → gV vs zs = vs ++ gv zs) (hbc : bc.length = ks.length) (hv : ∀ F H vs ds, RpA X.K F H bc vs ds → RpA X.K F H bk (gv vs) (gd ds)) (ha : DAM X E G ba (a :: es) ms) (hk : DAK X E G bc kws mk)
    (hall : (backToKw pos (keywordEach kws X.env)).all (·.1.isSome) = true := by rfl) (hks : (backToKw pos (keywordEach kws X.env)).filterMap (·.1) = ks := by rfl) (hdb : (x == ("__debug__" : Str)) = false := by decide) (he : starEach (a :: es) X.env = (false, eval a X.env) :: starEach es X.env := by rfl)
    (hpl : ((backTo pos (starEach (a :: es) X.env)).any (·.1) || (backToKw pos (keywordEach kws X.env)).any (·.1.isNone)) = false := by rfl) :
    DE X E G (.Call (.Name x p) (a :: es) kws pos) (mCallK m gd ms mk) := by
  obtain ⟨t, pa, w⟩ := ha
  obtain ⟨tk, pk, wk⟩ := hk
  refine ⟨_, pe_callKD F hr hg hm hkp hb cx.pass pa pk hall hks hdb he hpl, fun B σ F H Q s g0 q => w B σ F H _ s g0 (WpG.bind q fun l F1 H1 vs x1 r1 k1 => wk B σ F1 H1 _ x1.sFH (g0.ext x1) (WpG.bind k1 fun l2 F2 H2 zs x2 r2 k2 => ?_))⟩
  refine ⟨r1.len.1, r2.len.1.trans hbc, ?_⟩
  rw [hgv vs zs r1.len.1 (r2.len.1.trans hbc)]
  exact ⟨F2, l ++ gd l2, x2.sFH, RpA.app (hv F2 H2 zs l2 r2) (r1.ext x2), k2⟩
end
end DL

set_option Elab.async false
set_option linter.all false
set_option maxRecDepth 100000
set_option maxHeartbeats 4000000
namespace DL
open PySem PySem.Spec L2
section
variable {X : Cx} {E : St → XK} {G : List Sl} {a b : Expr} {ma mb : M D} {pos : Pos}
end
end DL

set_option Elab.async false
set_option linter.all false
set_option maxRecDepth 100000
set_option maxHeartbeats 4000000
namespace DL
open PySem PySem.Spec L2
section
variable {X : Cx} {CX : CXT} {k : Nat} {C f : Addr} {fd : FuncData} {ps ks : List Str} {sp : Sp} {E : St → XK} {m : Str} {apos pos : Pos} {o : Expr} {kws : List Keyword} {ta : TE} {tk : TA} {g : List Value → List Value → List Value} {gV : List V → List V → List V}
end
section
variable {X : Cx} {E : St → XK} {G : List Sl} {b : Expr} {mb : M D} {pos : Pos}
@[simp] abbrev mMethK (c mn : String) (m : List D → M D) (gd : List D → List D) (a : M D) (b : M (List D)) : M D := a >>= fun x => D.recv c mn x >>= fun x => b >>= fun l => m (x :: gd l)
end
end DL

set_option Elab.async false
set_option linter.all false
set_option maxRecDepth 100000
set_option maxHeartbeats 4000000
namespace DL
open PySem PySem.Spec L2
section
variable {X : Cx} {E : St → XK} {e fe : Expr} {es : List Expr} {pos : Pos} {tf : TE} {ta : TA}
end
def pickF (ms : List (List D → M D)) : D → M (List D → M D)
  | .int (.ofNat n) => match ms[n]? with
    | some m => .ok m
    | none => stuck
  | _ => stuck
section
variable {X : Cx} {E : St → XK} {G : List Sl} {a ie : Expr} {pos : Pos}
@[simp] abbrev mCallIx (fs : List (List D → M D)) (i : M D) (ms : M (List D)) : M D := i >>= fun i => pickF fs i >>= fun f => ms >>= fun l => f l
end
end DL

set_option Elab.async false
set_option linter.all false
set_option maxRecDepth 100000
set_option maxHeartbeats 4000000
namespace PySem
open Sem (wp)
section
variable {M : Model} {A : Around} {E : Value → Shared → Prop} {s : Shared} {env : Env}
end
end PySem

namespace L2
open PySem PySem.Spec PyProof.Rows
section
variable {X : Cx} {pins : List (Addr × Obj)} {σ : St} {H : Hp} {s s' : Shared} {E : XK} {L : Addr}
end
section
variable {X : Cx} {pins : List (Addr × Obj)} {σ : St} {H3 : Hp} {s3 : Shared} {E : XK} {W : WX} {scope : Scope} {ce : Env} {fp : List Addr}
end
end L2

namespace L2
open PySem PySem.Spec PyProof.Rows
section
variable {X : Cx}
end
end L2

namespace DL
open PySem PySem.Spec L2
section
variable {X : Cx} {E1 : XK} {s : Shared} {H : Hp} {scope : Scope} {cenv : Env} {fp : List Addr}
structure XOk (X : Cx) (E1 : XK) : Prop where
  stk : X.stack = X.env :: X.outer
  frm : X.env.frame = some X.env.locals
  tk : Takes X (fun c d _ H => E1 c d H)
end
section
variable {X : Cx} {E1 : XK} {G : List Sl} {e c : Expr} {pos : Pos}
end
section
variable {X : Cx} {E1 : XK} {G : List Sl} {e c : Expr} {pos : Pos}
end
end DL

set_option Elab.async false
set_option linter.all false
set_option maxRecDepth 100000
set_option maxHeartbeats 4000000
namespace SrtF
open PySem PySem.Calls PyProof.Rows SrtO Srt
section
variable {prog : Program} {w : World} {A : Around} {s : Shared} {E : Value → Shared → Prop}
def FstT (h : Heap) (v : Value) (x : Str) : Prop := ∃ (a : Addr) (o : Obj) (xs : Array Value) (n : Nat) (t : Tok), v = .ref a ∧ h.get? a = some o ∧ o.cls = .type "tuple" ∧ o.data = .seq xs n ∧ xs[0]? = some (.str x t) ∧ ∀ u ∈ xs.toList, (u == u) = true
theorem FstT.keeps {h h' : Heap} {v : Value} {x : Str} (p : FstT h v x) (k : ∀ b o, h.get? b = some o → o.cls = .type "tuple" → h'.get? b = some o) : FstT h' v x := by
  obtain ⟨a, o, xs, n, t, e, ho, hc, hd, h0, hs⟩ := p
  exact ⟨a, o, xs, n, t, e, k _ _ ho hc, hc, hd, h0, hs⟩
theorem kat_self {b fin : Bool} {Q : Bool → Shared → Prop} (hq : Q fin s) : ∀ (l : List Value) (i : Nat), (∀ u ∈ l, (u == u) = true) → PySem.W.KatLex prog w A b fin Q (l.zip l) i s
  | [], _, _ => PySem.W.kat_nil hq
  | u :: l, i, h => by
    rw [List.zip_cons_cons]
    refine PySem.W.kat_cons ?_
    unfold eqBool
    refine wpAny_holding ?_
    rw [if_pos (h u (List.mem_cons_self ..))]
    refine wpAny_bind (wpAny_rule (wpAny_pure ?_))
    exact PySem.W.kat_yes (kat_self hq l (i + 1) fun x hx => h x (List.mem_cons_of_mem _ hx))
def ltS (x y : Str) : Bool := decide (x.cps.toList < y.cps.toList)
theorem ltS_asym {x y : Str} (h : ltS x y = true) : ltS y x = false := by
  unfold ltS at *
  exact decide_eq_false fun z => absurd (List.lt_trans (of_decide_eq_true h) z) (List.lt_irrefl _)
theorem ltS_tr {x y z : Str} (h : ltS y x = false) (h' : ltS z y = false) : ltS z x = false := by
  unfold ltS at *
  have h := of_decide_eq_false h
  have h' := of_decide_eq_false h'
  exact decide_eq_false fun q => by
    have a : x.cps.toList ≤ y.cps.toList := List.not_lt.mp h
    have b : y.cps.toList ≤ z.cps.toList := List.not_lt.mp h'
    exact (List.not_lt.mpr (List.le_trans a b)) q
theorem ltS_anti {x y : Str} (h : ltS y x = false) (h' : ltS x y = false) : x = y := by
  unfold ltS at *
  have h := of_decide_eq_false h
  have h' := of_decide_eq_false h'
  exact PySem.W.str_of_cps (List.le_antisymm (List.not_lt.mp h) (List.not_lt.mp h'))
theorem swo_ltS (k : Value → Str) : Swo fun v u => ltS (k v) (k u) := ⟨fun _ _ h => ltS_asym h, fun _ _ _ h1 h2 => ltS_tr h1 h2⟩
theorem fst_cmp {vs : List Value} {k : Value → Str} (hp : ∀ v ∈ vs, FstT s.heap v (k v)) (hk : ∀ v ∈ vs, ∀ u ∈ vs, k v = k u → v = u) : Cmp prog w A s (tuples' true) (fun p => p.1 ∈ vs) (lt2 fun v u => ltS (k v) (k u)) := by
  intro p q hm hm'
  have h1 := hp _ hm
  have h2 := hp _ hm'
  show wpAny (model prog w) A (keyLt' (tuples' true) p.1 q.1) (fun r s' => s' = s ∧ r = ltS (k p.1) (k q.1)) (fun _ _ => False) s
  by_cases e : p.1 = q.1
  · rw [← e]
    obtain ⟨a, o, xs, n, t, ea, ho, hc, hd, h0, hs⟩ := h1
    rw [ea]
    refine PySem.W.kat_lt ho hd ho hd (kat_self ⟨rfl, ?_⟩ _ 0 hs)
    rw [decide_eq_false (Nat.lt_irrefl _)]
    unfold ltS
    exact (decide_eq_false (List.lt_irrefl _)).symm
  · have ne : ¬ k p.1 = k q.1 := fun z => e (hk _ hm _ hm' z)
    generalize k p.1 = x at h1 ne ⊢
    generalize k q.1 = y at h2 ne ⊢
    obtain ⟨a, o, xs, n, t, ea, ho, hc, hd, h0, hs⟩ := h1
    obtain ⟨a', o', ys, n', t', ea', ho', hc', hd', h0', hs'⟩ := h2
    rw [ea, ea']
    refine PySem.W.kat_lt ho hd ho' hd' ?_
    have zx : ∃ rx, xs.toList = .str x t :: rx := by
      cases q : xs.toList with
      | nil =>
        have : xs.toList[0]? = some (.str x t) := by rw [Array.getElem?_toList]; exact h0
        rw [q] at this
        cases this
      | cons z r =>
        have : xs.toList[0]? = some (.str x t) := by rw [Array.getElem?_toList]; exact h0
        rw [q] at this
        cases this
        exact ⟨r, rfl⟩
    have zy : ∃ ry, ys.toList = .str y t' :: ry := by
      cases q : ys.toList with
      | nil =>
        have : ys.toList[0]? = some (.str y t') := by rw [Array.getElem?_toList]; exact h0'
        rw [q] at this
        cases this
      | cons z r =>
        have : ys.toList[0]? = some (.str y t') := by rw [Array.getElem?_toList]; exact h0'
        rw [q] at this
        cases this
        exact ⟨r, rfl⟩
    obtain ⟨rx, zx⟩ := zx
    obtain ⟨ry, zy⟩ := zy
    rw [zx, zy, List.zip_cons_cons]
    refine PySem.W.kat_cons (SeqAt.EqAt.str_str x t y t' prog w _ _ ?_)
    rw [beq_eq_false_iff_ne.mpr ne]
    exact PySem.W.kat_no (oneLt_str ⟨rfl, rfl⟩)
theorem fst_firsts {h : Heap} {k : Value → Str} : ∀ {vs : List Value}, (∀ v ∈ vs, FstT h v (k v)) → ∃ fs : List Value, PySem.W.KatTups h vs fs ∧ fs.length = vs.length ∧ ∀ f ∈ fs, ∃ x t, f = Value.str x t
  | [], _ => ⟨[], PySem.W.KatTups.nil, rfl, fun _ hm => by simp at hm⟩
  | v :: vs, hp => by
    obtain ⟨fs, h1, h2, h3⟩ := fst_firsts (vs := vs) fun v' hm => hp v' (List.mem_cons_of_mem _ hm)
    obtain ⟨a, o, xs, n, t, e, ho, hc, hd, h0, hs⟩ := hp v (List.mem_cons_self ..)
    generalize k v = x at h0
    subst e
    refine ⟨.str x t :: fs, PySem.W.KatTups.cons ho hc hd h0 h1, by rw [List.length_cons, List.length_cons, h2], fun f hm => ?_⟩
    rcases List.mem_cons.mp hm with rfl | hm
    · exact ⟨x, t, rfl⟩
    · exact h3 f hm
theorem fst_sortableO {a : Addr} {vs : List Value} {k : Value → Str} (h0 : 0 < vs.length) (hp : ∀ v ∈ vs, FstT s.heap v (k v)) (hk : ∀ v ∈ vs, ∀ u ∈ vs, k v = k u → v = u) (ha : ∀ o, s.heap.get? a = some o → o.cls ≠ .type "tuple") :
    SortableO prog w A s a vs fun v u => ltS (k v) (k u) := by
  intro h' keep
  have hp' : ∀ v ∈ vs, FstT h' v (k v) := fun v hm => (hp v hm).keeps fun b o e c => keep b o (fun z => by subst z; exact ha o e c) e
  obtain ⟨fs, h1, h2, h3⟩ := fst_firsts hp'
  refine ⟨tuples' true, fun Q E hq => ?_, fst_cmp hp' hk⟩
  refine PySem.W.kat_kind (T := .type "str") h1 (by omega) (fun f hm => ?_) (by rfl) ?_
  · obtain ⟨x, t, rfl⟩ := h3 f hm
    exact PySem.W.Looks.now
  · have e : (Value.type "str" != Value.type "tuple") = true := by first | decide +kernel | rfl | decide
    rw [e]
    exact hq
theorem sorted_fstO {l : Addr} {vs : List Value} {k : Value → Str} {Q : Value → Shared → Prop} (hl : s.heap.IsList l vs.toArray) (hz : vs.length ≤ sizeLine) (hp : ∀ v ∈ vs, FstT s.heap v (k v)) (hk : ∀ v ∈ vs, ∀ u ∈ vs, k v = k u → v = u)
    (h : ∀ (h' : Heap) (d : Addr) (out : List Value), Srtd (fun v u => ltS (k v) (k u)) out → out.Perm vs → (∀ b o, s.heap.get? b = some o → h'.get? b = some o) → s.heap.objs.size ≤ d → (∃ n, h'.get? d = some (seqObj "list" out.toArray n)) → Q (.ref d) { s with heap := h' }) :
    wpAny (model prog w) A (call (.builtin "sorted") [.ref l]) Q E s := by
  refine sorted_ord (swo_ltS k) hl hz (fun h2 h₁ a ha kk => ?_) fun out hs hb => ?_
  · refine fst_sortableO (s := { s with heap := h₁ }) (by omega) (fun v hm => (hp v hm).keeps fun b o e _ => (kk b o e).2) hk fun o e => ?_
    have e' : some o = some (seqObj "list" vs.toArray 0) := e.symm.trans ha
    cases e'
    intro c
    exact absurd (Value.type.inj c) (by decide)
  · exact h _ _ out hs hb.perm (fun b o e => sortedAll_old e) (Nat.le_succ _) (sortedAll_at s.heap vs out.toArray)
end
end SrtF
namespace DL
open PySem PySem.Spec L2 SrtF
def ltF (a b : V × Str) : Bool := !ltS b.2 a.2
def rSortF (K : PySem.W.Frag) : List V → Hp → VK → Prop := fun vs H Q => ∃ (a : Addr) (bs : List (V × Str)), vs = [V.ref a] ∧ SqL K H a (bs.map (·.1)) ∧
  (∀ b ∈ bs, ∃ c rest, b.1 = V.ref c ∧ SqT K H c (.str b.2 :: rest) ∧ ∀ z ∈ rest, ∀ v, RelV z v → (v == v) = true) ∧ (bs.map (·.2)).Nodup ∧
  ∀ p, H p = none → Q (.ref p) (upd H p (.lst ((bs.mergeSort ltF).map (·.1))))
def gV : V → Value
  | .ref c => .ref c
  | _ => .none
def nmOf (h : Heap) (v : Value) : Str := match v with
  | .ref a => (match h.get? a with
    | some o => (match o.data with
      | .seq xs _ => (match (xs[0]? : Option Value) with
        | some (Value.str x _) => x
        | _ => "")
      | _ => "")
    | none => "")
  | _ => ""
theorem nmOf_fst {h : Heap} {v : Value} {x : Str} (p : FstT h v x) : nmOf h v = x := by
  obtain ⟨a, o, xs, n, t, e, ho, hc, hd, h0, hs⟩ := p
  subst e
  unfold nmOf
  simp only [ho, hd, h0]
theorem fst_all {X : Cx} {pins : List (Addr × Obj)} {σ : St} {H : Hp} {s : Shared} (I : Inv X pins σ H s) : ∀ {bs : List (V × Str)} {its : List Value}, Vals (bs.map (·.1)) its →
    (∀ b ∈ bs, ∃ c rest, b.1 = V.ref c ∧ SqT X.K H c (.str b.2 :: rest) ∧ ∀ z ∈ rest, ∀ v, RelV z v → (v == v) = true) → its = bs.map (fun b => gV b.1) ∧ ∀ b ∈ bs, RelV b.1 (gV b.1) ∧ FstT s.heap (gV b.1) b.2
  | [], _, r, _ => by
    cases r
    exact ⟨rfl, fun b h => nomatch h⟩
  | b :: bs, _, r, h => by
    cases r with
    | cons r1 r2 =>
      obtain ⟨e1, e2⟩ := fst_all I (bs := bs) r2 fun x hx => h x (List.mem_cons_of_mem _ hx)
      obtain ⟨c, rest, eb, hs, pl⟩ := h b (List.mem_cons_self ..)
      obtain ⟨xs, rv, ht, _⟩ := I.tuple hs
      have r1 : RelV b.1 _ := r1
      rw [eb] at r1
      have r1 : _ = Value.ref c := r1
      subst r1
      cases rv with
      | cons q1 q2 =>
        obtain ⟨t, rfl⟩ := q1
        rename_i us
        obtain ⟨o, ho, hc, n, hd⟩ := ht
        refine ⟨by rw [List.map_cons, eb, ← e1]; rfl, fun z hz => ?_⟩
        rcases List.mem_cons.mp hz with rfl | hz
        · rw [eb]
          refine ⟨rfl, c, o, _, n, t, rfl, ho, hc, hd, by simp, fun u hu => ?_⟩
          have hu : u ∈ Value.str z.2 t :: us := by simpa using hu
          rcases List.mem_cons.mp hu with rfl | hu
          · simp
          · have key : ∀ {rest : List V} {us : List Value}, Vals rest us → (∀ z ∈ rest, ∀ v, RelV z v → (v == v) = true) → ∀ u ∈ us, (u == u) = true := by
              intro rest us rv
              induction rv with
              | nil => intro _ u hu; cases hu
              | cons r1 r2 ih =>
                intro pl u hu
                rcases List.mem_cons.mp hu with rfl | hu
                · exact pl _ (List.mem_cons_self ..) _ r1
                · exact ih (fun z hz => pl z (List.mem_cons_of_mem _ hz)) u hu
            exact key q2 pl u hu
        · exact e2 z hz
theorem cr_sortF {X : Cx} : CallR X (.builtin "sorted") (rSortF X.K) := by
  intro pins s σ H vs us Q I r h
  obtain ⟨a, bs, rfl, hs, hd, hn, q⟩ := h
  obtain ⟨its, rv, hl, hz⟩ := I.list hs
  rw [Vals.ref1 r]
  obtain ⟨e1, e2⟩ := fst_all I rv hd
  have hz : its.length ≤ sizeLine := by rw [e1, List.length_map]; rw [List.length_map] at hz; exact hz
  let g : V × Str → Value := fun b => gV b.1
  have e1 : its = bs.map g := e1
  have e2 : ∀ b ∈ bs, RelV b.1 (g b) ∧ FstT s.heap (g b) b.2 := e2
  have kg : ∀ b ∈ bs, nmOf s.heap (g b) = b.2 := fun b hb => nmOf_fst (e2 b hb).2
  have one : ∀ b ∈ bs, ∀ c ∈ bs, b.2 = c.2 → b = c := fun b hb c hc e => by
    have : ∀ (l : List (V × Str)), (l.map (·.2)).Nodup → b ∈ l → c ∈ l → b = c := by
      intro l
      induction l with
      | nil => intro _ h; cases h
      | cons x l ih =>
        intro hn h1 h2
        rw [List.map_cons, List.nodup_cons] at hn
        rcases List.mem_cons.mp h1 with rfl | k1 <;> rcases List.mem_cons.mp h2 with rfl | k2
        · rfl
        · exact (hn.1 (List.mem_map.mpr ⟨c, k2, e.symm⟩)).elim
        · exact (hn.1 (List.mem_map.mpr ⟨b, k1, e⟩)).elim
        · exact ih hn.2 k1 k2
    exact this bs hn hb hc
  refine sorted_fstO (k := nmOf s.heap) hl.isList hz (fun v hv => ?_) (fun v hv u hu e => ?_) fun h' d out so po kp hD hd' => ?_
  · rw [e1] at hv
    obtain ⟨b, hb, rfl⟩ := List.mem_map.mp hv
    rw [kg b hb]
    exact (e2 b hb).2
  · rw [e1] at hv hu
    obtain ⟨b, hb, rfl⟩ := List.mem_map.mp hv
    obtain ⟨c, hc, rfl⟩ := List.mem_map.mp hu
    rw [kg b hb, kg c hc] at e
    rw [one b hb c hc e]
  · -- the one sorted list
    have hm : ∀ b ∈ bs.mergeSort ltF, b ∈ bs := fun b hb => List.mem_mergeSort.mp hb
    have pw : (bs.mergeSort ltF).Pairwise (fun a b => ltF a b = true) := List.pairwise_mergeSort (le := ltF) (fun a b c h1 h2 => by
      unfold ltF at *
      simp only [Bool.not_eq_true'] at *
      exact ltS_tr h1 h2) (fun a b => by
      unfold ltF
      cases h : ltS b.2 a.2 with
      | false => simp
      | true => simp [ltS_asym h]) bs
    have eo : out = (bs.mergeSort ltF).map g := by
      have pm : out.Perm ((bs.mergeSort ltF).map g) := by
        rw [e1] at po
        exact po.trans ((List.mergeSort_perm bs ltF).symm.map g)
      refine pm.eq_of_pairwise (le := fun v u => ltS (nmOf s.heap u) (nmOf s.heap v) = false) (fun v u hv hu h1 h2 => ?_) so (List.pairwise_map.mpr (pw.imp_of_mem fun {a b} ha hb h => ?_))
      · have hv := po.mem_iff.mp hv
        rw [e1] at hv
        obtain ⟨b, hb, rfl⟩ := List.mem_map.mp hv
        obtain ⟨c, hc, rfl⟩ := List.mem_map.mp hu
        have hc := hm c hc
        rw [kg b hb, kg c hc] at h1 h2
        rw [one b hb c hc (ltS_anti h1 h2)]
      · rw [kg a (hm a ha), kg b (hm b hb)]
        unfold ltF at h
        simpa using h
    have rvo : Vals ((bs.mergeSort ltF).map (·.1)) out := by
      rw [eo]
      have : ∀ l : List (V × Str), (∀ b ∈ l, b ∈ bs) → Vals (l.map (·.1)) (l.map g) := by
        intro l
        induction l with
        | nil => intro _; exact .nil
        | cons b l ih => intro h; exact .cons (e2 b (h b (List.mem_cons_self ..))).1 (ih fun x hx => h x (List.mem_cons_of_mem _ hx))
      exact this _ hm
    have hlen : ((bs.mergeSort ltF).map (·.1)).length ≤ sizeLine := by
      rw [List.length_map, List.length_mergeSort]
      rw [e1, List.length_map] at hz
      exact hz
    obtain ⟨ep, hd'⟩ := hd'
    exact ⟨.ref d, upd H d (.lst ((bs.mergeSort ltF).map (·.1))), I.laid (t' := s.toks) kp hD ⟨hlen, out, ep, rvo, hd'⟩, rfl, q d (I.hok.fresh hD)⟩
def D.fst? : D → Option Str
  | .tup (.str x :: _) => some x
  | _ => none
def D.sortF (l : List D) : Bool := l.all (fun d => d.fst?.isSome) && decide ((l.map fun d => d.fst?.getD "").Nodup)
def D.leF (a b : D) : Bool := !ltS (b.fst?.getD "") (a.fst?.getD "")
def D.sorted2 : D → M D
  | .lst l => need (D.sortF l) >>= fun _ => .ok (.lst (l.mergeSort D.leF))
  | _ => stuck
theorem Rp.selfEq {K : PySem.W.Frag} {F : Hp} {u : V} {d : D} (r : Rp K F u d) : ∀ v, RelV u v → (v == v) = true := by
  intro v h
  cases r with
  | non => cases h; rfl
  | bl b => cases h; simp
  | int i =>
    obtain ⟨t, rfl⟩ := h
    simp
  | str x _ =>
    obtain ⟨t, rfl⟩ := h
    simp
  | _ =>
    cases h
    simp
theorem sortF_op {X : Cx} : OpN X.K (f1 D.sorted2) (rSortF X.K) := opN1 fun E F H v d Q s r q => by
  cases d with
  | lst l =>
    have q : WpG X.K E (rE X.K) (need (D.sortF l) >>= fun _ => .ok (.lst (l.mergeSort D.leF))) F H Q := q
    obtain ⟨c, q⟩ := q.need
    obtain ⟨c1, c2⟩ := and2 c
    have c2 := of_decide_eq_true c2
    obtain ⟨p, xs, rfl, h, r⟩ := r.lst s
    have hl : xs.length = l.length := r.length
    let nm : D → Str := fun d => d.fst?.getD ""
    obtain ⟨h1, h2, h3⟩ := rpl_zip r
    have b1 : (xs.zip (l.map nm)).map (·.1) = xs := List.map_fst_zip (by rw [List.length_map]; omega)
    have b2 : (xs.zip (l.map nm)).map (·.2) = l.map nm := List.map_snd_zip (by rw [List.length_map]; omega)
    have bz : xs.zip (l.map nm) = (xs.zip l).map fun c => (c.1, nm c.2) := by
      rw [List.zip_map_right]
      rfl
    have srt : RpL X.K F (((xs.zip (l.map nm)).mergeSort ltF).map (·.1)) (l.mergeSort D.leF) := by
      have e1 : (((xs.zip (l.map nm)).mergeSort ltF).map (·.1)) = ((xs.zip l).mergeSort fun a b => D.leF a.2 b.2).map (·.1) := by
        rw [bz, ← List.map_mergeSort (r := fun a b : V × D => D.leF a.2 b.2), List.map_map]
        · rfl
        · intro a _ b _
          rfl
      have e2 : l.mergeSort D.leF = ((xs.zip l).mergeSort fun a b => D.leF a.2 b.2).map (·.2) := by
        rw [List.map_mergeSort (s := D.leF), h2]
        intro a _ b _
        rfl
      rw [e1, e2]
      exact rpl_of fun c hc => h3 c (List.mem_mergeSort.mp hc)
    refine ⟨p, xs.zip (l.map nm), rfl, by rw [b1]; exact SqL.of h, fun b hb => ?_, by rw [b2]; exact c2, new_lst s srt q⟩
    rw [bz] at hb
    obtain ⟨z, hz, rfl⟩ := List.mem_map.mp hb
    have hz2 : z.2 ∈ l := by
      rw [← h2]
      exact List.mem_map.mpr ⟨z, hz, rfl⟩
    have f1 := List.all_eq_true.mp c1 _ hz2
    have rz := h3 z hz
    show ∃ c rest, z.1 = V.ref c ∧ SqT X.K H c (.str (nm z.2) :: rest) ∧ _
    generalize z.1 = v at rz
    generalize z.2 = dz at rz f1
    cases dz with
    | tup ds =>
      cases rz with
      | tup hs rs =>
        match ds, f1, rs with
        | .str x :: ds', _, .cons rx rs' =>
          cases rx with
          | str _ hx =>
            refine ⟨_, _, rfl, Same.seqT s (hs).sqT, ?_⟩
            have key : ∀ {vs : List V} {ds : List D}, RpL X.K F vs ds → ∀ z ∈ vs, ∀ v, RelV z v → (v == v) = true := by
              intro vs
              induction vs with
              | nil => intro _ _ z hz; cases hz
              | cons u vs ih =>
                intro ds r z hz
                cases r with
                | cons r1 r2 =>
                  rcases List.mem_cons.mp hz with rfl | hz
                  · exact Rp.selfEq r1
                  · exact ih r2 z hz
            exact key rs'
    | _ => cases f1
  | _ => exact q.elim
end DL

set_option Elab.async false
set_option linter.all false
set_option maxRecDepth 100000
set_option maxHeartbeats 4000000
namespace L2
open PySem PySem.Spec PyProof.Rows
section
variable {X : Cx}
end
end L2
namespace DL
open PySem PySem.Spec L2
section
variable {X : Cx} {E : St → XK} {G : List Sl} {pos : Pos}
def DDL (X : Cx) (E : St → XK) (G : List Sl) (e : Expr) (m : M D) : Prop :=
  ∃ t, PE X e t ∧ (∀ {i : Nat} {y : Str} {py spos : Pos}, X.N[i]? = some y → X.env.scope.names.lookup y = some .local → swapsWith e (some (.Name y py)) spos.line X.env = pure true → PS X (.Assign [.Name y py] e spos) (tAsg t (gName i))) ∧
    ∀ B σ F H Q, Same F H → GOk X.K B G σ F H → WpG X.K (E σ) (fun F' _ v d => Rp X.K F' v d) m F H Q → t σ H Q
theorem DDL.de {e : Expr} {m : M D} (h : DDL X E G e m) : DE X E G e m := let ⟨t, p, _, w⟩ := h; ⟨t, p, w⟩
end
section
variable {X : Cx} {E : XK} {G : List Sl} {e : Expr} {pos : Pos}
end
end DL

set_option Elab.async false
set_option linter.all false
set_option maxRecDepth 100000
set_option maxHeartbeats 4000000
namespace DL
open PySem PySem.Spec L2
def Sl.ol : Option (List D) → Sl
  | none => .val .non
  | some l => .own l
def olD : Option (List D) → D
  | none => .non
  | some l => .lst l
def relOl (K : PySem.W.Frag) : Option (List D) → Hp → Hp → Hp → V → Prop
  | none => fun _ _ _ v => v = .non
  | some l => relN K l
def rOl (K : PySem.W.Frag) (H : Hp) : Hp → Hp → V → Option (List D) → Prop := fun F' H' v r => match r with
  | none => v = .non
  | some l => rN K H F' H' v l
def spOl (K : PySem.W.Frag) (bs : List Bool) (m : List D → M (Option (List D))) : Sp := fun vs H Q E => ∃ F ds, Same F H ∧ RpA K F H bs vs ds ∧ WpG K E (rOl K H) (m ds) F H Q
def DNO (X : Cx) (E : St → XK) (G : List Sl) (e : Expr) (m : M (Option (List D))) : Prop :=
  ∃ t, PE X e t ∧ ∀ B σ F H Q, Same F H → GOk X.K B G σ F H → WpG X.K (E σ) (rOl X.K H) m F H Q → t σ H Q
section
variable {X : Cx} {E : XK} {G : List Sl} {e : Expr} {pos : Pos} {st : Stmt} {rest body : List Stmt}
theorem ds_retOlN (h : DE X (cE E) G e (.ok .non)) : DS X E G (.Return (some e) pos) (.ok none : M (Option (List D))) (fun r => .rg (relOl X.K r)) := by
  obtain ⟨t, pe, w⟩ := h
  refine ⟨_, ps_ret pe, fun B0 B σ F H D x0 g q => w B σ F H _ x0.sFH g ?_⟩
  exact fun F' H' v x r => q.ok v F' H' x.sF (x0.trans x) (by
    cases r
    rfl)
theorem ds_setOl {x : Str} {i : Nat} {pos' : Pos} {m : M (Option (List D))} (h : DNO X (cE E) G e m) (p : ∀ {te : TE}, PE X e te → PS X (.Assign [.Name x pos'] e pos) (tAsg te (gName i))) : DS X E G (.Assign [.Name x pos'] e pos) m (fun r => .nx (G.set i (Sl.ol r))) := by
  obtain ⟨t, pe, w⟩ := h
  refine ⟨_, p pe, fun B0 B σ F H D x0 g q => w B σ F H _ x0.sFH g ?_⟩
  cases m with
  | ok r =>
    cases r with
    | none =>
      intro F' H' v x ev
      have ev : v = .non := ev
      subst ev
      exact q.ok _ F' H' x.sF (x0.trans x) ((g.ext x).set .non)
    | some l =>
      intro F' H' v x ⟨a, xs, ev, n, h1, f1, r1⟩
      subst ev
      have hB : B a = none := x0.sH.free n
      exact q.ok _ F' H' x.sF (x0.trans x) ((g.ext x).setOwn h1 f1 hB r1 fun j s hj oj ej => by
        obtain ⟨u, hu⟩ := g.owned hj oj ej
        rw [n] at hu
        cases hu)
  | error er => cases er with
    | stuck => exact q.elim
    | exc y => exact fun F' H' c d x r => q F' H' c d x.sF (x0.trans x) r
end
section
variable {P : Program} {w : World} {K : PySem.W.Frag} {mg : Str → Option Value} {base : Heap} {x qual : Str} {params : Arguments} {body : List Stmt} {scope : Scope} {dvs : List V} {kws : List (Str × V)} {f : Addr} {fd : FuncData}
theorem fn_defOl {N ps : List Str} {k : Nat} {bs : List Bool} {m : List D → M (Option (List D))} (F : FunD K x qual params body scope dvs kws f fd) (S : FnScope N ps scope) (hbs : bs.length = ps.length)
    (hb : ∀ (cdv : Value) (A : Around) (outer : List Env) (s : Shared) (H : Hp) (E : XK), Room k (A.deeper (PyProof.Rows.envOfC qual scope s.heap.objs.size f cdv)) → ∀ ds : List D, ds.length = bs.length →
      DB (cxOf (L2.CX P w) P w K mg base N qual scope f cdv A outer s H E) E (argSl bs ds ++ List.replicate (N.length - bs.length) .un) body (m ds) (fun r => .rg (relOl K r))) : FnOk P w K mg base (L2.CX P w) (k + 1) f fd ps (spOl K bs m) := by
  refine F.ok S (fun vs H Q E h => ?_) (fun cdv A outer s H vs Q E hr h => ?_)
  · obtain ⟨F, ds, _, r, _⟩ := h
    rw [r.len.1, hbs]
  · obtain ⟨F, ds, sF, r, q⟩ := h
    obtain ⟨t, p, wt⟩ := hb cdv A outer s H E hr ds r.len.2
    refine ⟨t, p, wt F H (L2.start N vs) F H _ (Ext.refl sF) (gok_start r) ?_⟩
    cases e : m ds with
    | ok d =>
      rw [e] at q
      cases d with
      | none => exact WpB.of_ok (fun v F' H' _ x' r' => q F' H' v x' r')
      | some l => exact WpB.of_ok (fun v F' H' _ x' r' => q F' H' v x' r')
    | error er =>
      rw [e] at q
      cases er with
      | stuck => exact q.elim
      | exc y => exact fun F' H' c d _ x' r' => q F' H' c d x' r'
end
section
variable {X : Cx} {E : St → XK} {G : List Sl} {a b c e : Expr} {ma mb mc : M D} {pos : Pos} {F H : Hp}
theorem rOl_from {K : PySem.W.Frag} {F H F1 H1 : Hp} {E₁ : XK} {m : M (Option (List D))} {Q : VK} (x : Ext F H F1 H1) (q : WpG K E₁ (rOl K H) m F1 H1 Q) : WpG K E₁ (rOl K H1) m F1 H1 Q := by
  cases m with
  | ok r =>
    cases r with
    | none => exact fun F' H' v y e => q F' H' v y e
    | some l => exact fun F' H' v y ⟨p, xs, e, n, r⟩ => q F' H' v y ⟨p, xs, e, x.sH.free n, r⟩
  | error er => cases er with
    | stuck => exact q
    | exc y => exact q
theorem dno_call {k : Nat} {f : Addr} {fd : FuncData} {ps : List Str} {bs : List Bool} {m : List D → M (Option (List D))} {x : Str} {p : Pos} {es : List Expr} {ms : M (List D)} (cx : CtxOk X E) (F : FnOk X.prog X.w X.K X.mg X.base (L2.CX X.prog X.w) k f fd ps (spOl X.K bs m)) (hr : Room k X.A) (hg : Gl X x) (hm : X.mg x = some (.ref f)) (hk : PySem.W.keepIn X.K (.ref f) = true) (hb : Binds X.K fd ps [])
    (ha : DAM X E G bs (a :: es) ms) (hdb : (x == ("__debug__" : Str)) = false := by decide) (he : starEach (a :: es) X.env = (false, eval a X.env) :: starEach es X.env := by rfl) (hpl : (backTo pos (starEach es X.env)).any (·.1) = false := by rfl) :
    DNO X E G (.Call (.Name x p) (a :: es) [] pos) (ms >>= fun l => m l) := by
  obtain ⟨t, pa, w⟩ := ha
  refine ⟨_, pe_callD F hr hg hm hk hb .nil cx.pass pa hdb he hpl, fun B σ F H Q s g q => w B σ F H _ s g (WpG.bind q fun l F1 H1 vs x1 r1 k1 => ?_)⟩
  show spOl X.K bs m (vs ++ []) H1 Q (E σ)
  rw [List.append_nil]
  exact ⟨F1, l, x1.sFH, r1, rOl_from x1 k1⟩
theorem de_callOl {k : Nat} {f : Addr} {fd : FuncData} {ps : List Str} {bs : List Bool} {m : List D → M (Option (List D))} {x : Str} {p : Pos} {es : List Expr} {ms : M (List D)} (cx : CtxOk X E) (F : FnOk X.prog X.w X.K X.mg X.base (L2.CX X.prog X.w) k f fd ps (spOl X.K bs m)) (hr : Room k X.A) (hg : Gl X x) (hm : X.mg x = some (.ref f)) (hk : PySem.W.keepIn X.K (.ref f) = true) (hb : Binds X.K fd ps [])
    (ha : DAM X E G bs (a :: es) ms) (hdb : (x == ("__debug__" : Str)) = false := by decide) (he : starEach (a :: es) X.env = (false, eval a X.env) :: starEach es X.env := by rfl) (hpl : (backTo pos (starEach es X.env)).any (·.1) = false := by rfl) :
    DE X E G (.Call (.Name x p) (a :: es) [] pos) ((ms >>= fun l => m l) >>= fun r => .ok (olD r)) := by
  obtain ⟨t, pe, w⟩ := dno_call cx F hr hg hm hk hb ha hdb he hpl
  refine ⟨t, pe, fun B σ F H Q s g q => w B σ F H Q s g ?_⟩
  cases h : (ms >>= fun l => m l) with
  | ok r =>
    rw [h] at q
    cases r with
    | none =>
      intro F' H' v y e
      have e : v = .non := e
      subst e
      exact q F' H' _ y .non
    | some l =>
      intro F' H' v y ⟨p, xs, e, n, h1, f1, r1⟩
      subst e
      exact q _ H' _ (y.freeze n h1 f1) (.lst upd_same (r1.mono (same_new f1)))
  | error er =>
    rw [h] at q
    cases er with
    | stuck => exact q.elim
    | exc y => exact q
end
end DL

set_option Elab.async false
set_option linter.all false
set_option maxRecDepth 100000
set_option maxHeartbeats 4000000
namespace DL
open PySem PySem.Spec L2
structure RoomP (k : Nat) (A : Around) : Prop where
  dp : A.depth + 3 * k + 5 < recursionLimit
  un : A.units + 16 * k + 200 < cLine
theorem RoomP.mono {j k : Nat} {A : Around} (r : RoomP k A) (h : j ≤ k) : RoomP j A := ⟨by have := r.dp; omega, by have := r.un; omega⟩
theorem RoomP.deeper {k : Nat} {A : Around} (r : RoomP (k + 1) A) (env : Env) : RoomP k (A.deeper env) :=
  ⟨by have := r.dp; show A.depth + 1 + 3 * k + 5 < _; omega, by have := r.un; show A.units + 3 + 16 * k + 200 < _; omega⟩
theorem RoomP.u70 {k : Nat} {A : Around} (r : RoomP k A) : A.units + 70 < cLine := by have := r.un; omega
structure FnP (P : Program) (w : World) (K : PySem.W.Frag) (mg : Str → Option Value) (base : Heap) (CX : CXT) (k : Nat) (f : Addr) (fd : FuncData) (ps : List Str) (sp : Sp) : Prop where
  ln : ∀ vs H Q E, sp vs H Q E → vs.length = ps.length
  go : ∀ (A : Around) (o : List Env) (s : Shared) (H : Hp) (ar : Args) (us : List Value) (vs : List V) (Q : VK) (E : XK), RoomP k A → Env0 P w K mg base A o s H → BindsTo s fd ar (ps.zip us) → Vals vs us → sp vs H Q E → codeAny (model P w) A (.call (.ref f) ar) (CR CX o P w H s Q E) s
section
variable {P : Program} {w : World} {K : PySem.W.Frag} {mg : Str → Option Value} {base : Heap} {CX : CXT} {f : Addr} {fd : FuncData} {x : Str} {qual : Str} {params : Arguments} {body : List Stmt} {scope : Scope} {dvs : List V} {kws : List (Str × V)}
end
section
variable {X : Cx} {G : List Sl} {a : Expr} {pos : Pos}
end
end DL

set_option Elab.async false
set_option linter.all false
set_option maxRecDepth 100000
set_option maxHeartbeats 4000000
namespace DL
open PySem PySem.Spec L2
def stepL {α : Type} (k : Int) (l : List α) : List α := (sliceRange 0 (l.length : Nat) k).filterMap (l[·]?)
theorem RpL.pick {K : PySem.W.Frag} {F : Hp} {xs : List V} {ds : List D} (r : RpL K F xs ds) : ∀ is : List Nat, RpL K F (is.filterMap (xs[·]?)) (is.filterMap (ds[·]?))
  | [] => .nil
  | i :: is => by
    have ih := RpL.pick r is
    cases h : xs[i]? with
    | none =>
      have h2 : ds[i]? = none := by
        rw [List.getElem?_eq_none_iff] at h ⊢
        rw [← r.length]
        exact h
      rw [List.filterMap_cons_none h, List.filterMap_cons_none h2]
      exact ih
    | some x =>
      obtain ⟨u, h2, ru⟩ := r.getV h
      rw [List.filterMap_cons_some h, List.filterMap_cons_some h2]
      exact .cons ru ih
theorem RpL.step {K : PySem.W.Frag} {F : Hp} {xs : List V} {ds : List D} {k : Int} (r : RpL K F xs ds) : RpL K F (stepL k xs) (stepL k ds) := by
  unfold stepL
  rw [r.length]
  exact r.pick _
section
variable {X : Cx} {E : St → XK} {G : List Sl} {e st : Expr} {te ts : TE} {ma mb : M D} {p3 pos : Pos}
@[simp] abbrev mStepL (ma mb : M D) : M (List D) := ma >>= fun x => mb >>= fun y => match x, y with
  | .lst l, .int k => need (decide (0 < k)) >>= fun _ => .ok (stepL k l)
  | _, _ => stuck
end
end DL

set_option Elab.async false
set_option linter.all false
set_option maxRecDepth 100000
set_option maxHeartbeats 4000000
namespace DL
open PySem PySem.Spec L2
section
variable {X : Cx} {E : XK} {G : List Sl} {e : Expr} {pos : Pos}
end
end DL

set_option Elab.async false
set_option linter.all false
set_option maxRecDepth 100000
set_option maxHeartbeats 4000000
namespace DL
open PySem PySem.Spec L2
section
variable {X : Cx} {E : St → XK} {G : List Sl} {a b : Expr} {ma mb : M D} {pos : Pos}
end
end DL

set_option Elab.async false
set_option linter.all false
set_option maxRecDepth 100000
set_option maxHeartbeats 4000000
namespace DL
open PySem PySem.Spec L2
section
variable {X : Cx} {E : St → XK} {G : List Sl} {pos : Pos} {body : List Stmt}
end
end DL

set_option Elab.async false
set_option linter.all false
set_option maxRecDepth 100000
set_option maxHeartbeats 4000000
namespace DL
open PySem PySem.Spec L2
section
variable {P : Program} {w : World} {K : PySem.W.Frag} {mg : Str → Option Value} {base : Heap} {x qual : Str} {params : Arguments} {body : List Stmt} {scope : Scope} {dvs : List V} {kws : List (Str × V)} {f : Addr} {fd : FuncData}
end
section
variable {X : Cx} {E : St → XK} {G : List Sl} {a b : Expr} {ml : M (List D)} {mb : M D} {pos : Pos}
@[simp] abbrev mCallC (m : List D → M D) (ml : M (List D)) (mb : M D) : M D := ml >>= fun l => mb >>= fun d => m [.lst l, d]
end
end DL

set_option Elab.async false
set_option linter.all false
set_option maxRecDepth 100000
set_option maxHeartbeats 4000000
namespace DL
open PySem PySem.Spec PyProof.Rows L2
open PySem.Builtin PySem.Builtin.Str
section
variable {X : Cx} {o : Expr} {to : TE} {y z : Str} {j k l : Nat} {c0 c1 c2 apos pos : Pos}
end
end DL
namespace DL
open PySem PySem.Spec L2
section
variable {X : Cx} {st : Stmt} {rest : List Stmt} {t u : TS}
end
section
variable {X : Cx} {E : XK} {G : List Sl} {a b c e : Expr} {ma mb mc : M D} {pos : Pos} {st : Stmt} {rest body : List Stmt}
def DBk (X : Cx) (E : XK) (G : List Sl) (body : List Stmt) {α : Type} (m : M α) (post : α → Oc) : Prop :=
  ∃ t, PSsT X body t ∧ ∀ B0 B σ F H D, Ext B0 B F H → GOk X.K B G σ F H → WpB X.K E B0 B post m F D → t D σ H
def DSk (X : Cx) (E : XK) (G : List Sl) (st : Stmt) {α : Type} (m : M α) (post : α → Oc) : Prop :=
  ∃ t, PST X st t ∧ ∀ B0 B σ F H D, Ext B0 B F H → GOk X.K B G σ F H → WpB X.K E B0 B post m F D → t D σ H
theorem DBk.of {α : Type} {m : M α} {post : α → Oc} (h : DB X E G body m post) : DBk X E G body m post := let ⟨t, p, w⟩ := h; ⟨t, PSsT.of p, w⟩
theorem DSk.of {α : Type} {m : M α} {post : α → Oc} (h : DS X E G st m post) : DSk X E G st m post := let ⟨t, p, w⟩ := h; ⟨t, PST.of p, w⟩
end
section
variable {X : Cx} {E : St → XK} {G : List Sl} {a : Expr} {ma : M D} {pos : Pos}
end
end DL

set_option Elab.async false
set_option linter.all false
set_option maxRecDepth 100000
set_option maxHeartbeats 1000000
namespace DL
open PySem PySem.Spec L2
def D.isTup : D → Bool
  | .tup _ => true
  | _ => false
def D.indexT (x y : D) : M D := match x, y with
  | .tup l, .str z => match D.strs l with
    | some ys => match ys.findIdx? (fun w => decide (w = z)) with
      | some j => .ok (.int (j : Nat))
      | none => stuck
    | none => stuck
  | _, _ => stuck
section
variable {X : Cx} {E : St → XK} {G : List Sl} {a b : Expr} {ma mb : M D} {pos : Pos}
theorem de_indexT {apos : Pos} {ms : M (List D)} (ho : DR X E G b mb) (ha : DRA X E G [a] ms)
    (hbase : attributeBase b "index" X.env (eval b X.env) = eval b X.env := by rfl)
    (hfew : ((backTo pos (starEach [a] X.env)).all (fun x => !x.1) && (backToKw pos (keywordEach [] X.env)).all (fun x => x.1.isSome)
      && decide (([a] : List Expr).length + ([] : List Keyword).length + (if ([] : List Keyword).isEmpty then 0 else 1) < 30)) = true := by rfl)
    (hline : (apos.endLine == pos.line) = true := by rfl) (hs : starEach [a] X.env = (false, eval a X.env) :: starEach [] X.env := by rfl) (hplain : (backTo pos (starEach [] X.env)).any (·.1) = false := by rfl) :
    DE X E G (.Call (.Attribute b "index" apos) [a] [] pos) (meth D.isTup mb ms (m1 D.indexT)) := by
  obtain ⟨t1, p1, w1⟩ := ho
  obtain ⟨t2, p2, w2⟩ := ha
  refine ⟨_, pe_bmP PySem.F.plainAttrs_tuple PySem.F.slot_tuple_index PySem.F.type_tuple_index mt_tup_index p1 p2 hbase hfew hline hs hplain, fun B σ F H Q s g q => w1 B σ F H _ s g (WpG.bind q fun x F1 H1 v x1 r1 k1 => ?_)⟩
  obtain ⟨cx, k1⟩ := WpG.need k1
  cases x with
  | tup l =>
    obtain ⟨p, xs, rfl, hp, hr⟩ := r1.tupP x1.sFH
    refine ⟨⟨p, xs, rfl, hp⟩, w2 B σ F1 H1 _ x1.sFH (g.ext x1) (WpG.bind k1 fun ds F2 H2 vs x2 r2 k2 => ?_)⟩
    cases r2 with
    | nil => exact k2.elim
    | cons ry r3 => cases r3 with
      | cons _ _ => exact k2.elim
      | nil =>
        rename_i u y
        cases y with
        | str z =>
          have k2 : WpG X.K (E σ) (rE X.K) (match D.strs l with
            | some ys => match ys.findIdx? (fun w => decide (w = z)) with
              | some j => (.ok (.int (j : Nat)) : M D)
              | none => stuck
            | none => stuck) F2 H2 Q := k2
          cases hy : D.strs l with
          | none => rw [hy] at k2; exact k2.elim
          | some ys =>
            rw [hy] at k2
            obtain ⟨ex, _⟩ := strs_rp hy hr
            subst ex
            have k2 : WpG X.K (E σ) (rE X.K) (match ys.findIdx? (fun w => decide (w = z)) with
              | some j => (.ok (.int (j : Nat)) : M D)
              | none => stuck) F2 H2 Q := k2
            cases hj : ys.findIdx? (fun w => decide (w = z)) with
            | none => rw [hj] at k2; exact k2.elim
            | some j =>
              rw [hj] at k2
              obtain ⟨hlt, h1, h2⟩ := List.findIdx?_eq_some_iff_getElem.mp hj
              refine ⟨p, ys, z, j, rfl, by rw [ry.str.1], (hp.mono x2.sH).sqT, ?_, fun m hm z2 => ?_, k2 F2 H2 _ (Ext.refl x2.sFH) (.int _)⟩
              · rw [List.getElem?_eq_getElem hlt, of_decide_eq_true h1]
              · rw [List.getElem?_eq_getElem (Nat.lt_trans hm hlt)] at z2
                exact h2 m hm (decide_eq_true (Option.some.inj z2))
        | _ => exact k2.elim
  | _ => cases cx
end
end DL

set_option Elab.async false
set_option linter.all false
set_option maxRecDepth 100000
set_option maxHeartbeats 4000000
namespace LawWalk
open PySem PySem.Spec L2 DL
def top (i : Nat) : Stmt := PySem.Challenge.pw_waypapers_k34_vital_roads.main.body.getD i (.Pass ⟨0, 0, 0, 0⟩)
def d_law_row : He.DefD := ⟨("_law_row", none), "_law_row", "_law_row", defArgs (top 30), defBody (top 30), defScope (top 30), [], []⟩
def d_law_numbers : He.DefD := ⟨("_law_numbers", none), "_law_numbers", "_law_numbers", defArgs (top 31), defBody (top 31), defScope (top 31), [], []⟩
def d_law_names : He.DefD := ⟨("_law_names", none), "_law_names", "_law_names", defArgs (top 36), defBody (top 36), defScope (top 36), [], []⟩
def d_law_bars : He.DefD := ⟨("_law_bars", none), "_law_bars", "_law_bars", defArgs (top 34), defBody (top 34), defScope (top 34), [], []⟩
def d_law_hours : He.DefD := ⟨("_law_hours", none), "_law_hours", "_law_hours", defArgs (top 32), defBody (top 32), defScope (top 32), [], []⟩
def d_law_road : He.DefD := ⟨("_law_road", none), "_law_road", "_law_road", defArgs (top 33), defBody (top 33), defScope (top 33), [], []⟩
def d_law_parts : He.DefD := ⟨("_law_parts", none), "_law_parts", "_law_parts", defArgs (top 35), defBody (top 35), defScope (top 35), [], []⟩
def d_law_trip : He.DefD := ⟨("_law_trip", none), "_law_trip", "_law_trip", defArgs (top 41), defBody (top 41), defScope (top 41), [], []⟩
def d_law_apart_trip : He.DefD := ⟨("_law_apart_trip", none), "_law_apart_trip", "_law_apart_trip", defArgs (top 42), defBody (top 42), defScope (top 42), [], []⟩
def d_law_open : He.DefD := ⟨("_law_open", none), "_law_open", "_law_open", defArgs (top 38), defBody (top 38), defScope (top 38), [], []⟩
def d_law_follows : He.DefD := ⟨("_law_follows", none), "_law_follows", "_law_follows", defArgs (top 39), defBody (top 39), defScope (top 39), [], []⟩
def d_law_is_way : He.DefD := ⟨("_law_is_way", none), "_law_is_way", "_law_is_way", defArgs (top 40), defBody (top 40), defScope (top 40), [], []⟩
def d_require : He.DefD := ⟨("require", none), "require", "require", defArgs (top 27), defBody (top 27), defScope (top 27), [], []⟩
def d_name_of : He.DefD := ⟨("name_of", none), "name_of", "name_of", defArgs (top 26), defBody (top 26), defScope (top 26), [], []⟩
def d_are_different : He.DefD := ⟨("are_different", none), "are_different", "are_different", defArgs (top 24), defBody (top 24), defScope (top 24), [], []⟩
def d_Map_road_names : He.DefD := ⟨("Map", some "road_names"), "road_names", "Map.road_names", defArgs (inClass (top 28) 3), defBody (inClass (top 28) 3), defScope (inClass (top 28) 3), [], []⟩
def d_is_name : He.DefD := ⟨("is_name", none), "is_name", "is_name", defArgs (top 23), defBody (top 23), defScope (top 23), [], []⟩
def d_are_hours : He.DefD := ⟨("are_hours", none), "are_hours", "are_hours", defArgs (top 25), defBody (top 25), defScope (top 25), [], []⟩
def d_Map_checked : He.DefD := ⟨("Map", some "checked"), "checked", "Map.checked", defArgs (inClass (top 28) 1), defBody (inClass (top 28) 1), defScope (inClass (top 28) 1), [], []⟩
def d_Map_road : He.DefD := ⟨("Map", some "road"), "road", "Map.road", defArgs (inClass (top 28) 4), defBody (inClass (top 28) 4), defScope (inClass (top 28) 4), [], []⟩
def d_Map_checked_bar : He.DefD := ⟨("Map", some "checked_bar"), "checked_bar", "Map.checked_bar", defArgs (inClass (top 28) 2), defBody (inClass (top 28) 2), defScope (inClass (top 28) 2), [], []⟩
def d_Map_init : He.DefD := ⟨("Map", some "__init__"), "__init__", "Map.__init__", defArgs (inClass (top 28) 0), defBody (inClass (top 28) 0), defScope (inClass (top 28) 0), [], [("places", .adr (kwdAt ("Map", some "__init__") "places")), ("roads", .adr (kwdAt ("Map", some "__init__") "roads")), ("bars", .adr (kwdAt ("Map", some "__init__") "bars"))]⟩
def d_law_made : He.DefD := ⟨("_law_made", none), "_law_made", "_law_made", defArgs (top 37), defBody (top 37), defScope (top 37), [], []⟩
def d_Map_check_place : He.DefD := ⟨("Map", some "check_place"), "check_place", "Map.check_place", defArgs (inClass (top 28) 5), defBody (inClass (top 28) 5), defScope (inClass (top 28) 5), [], []⟩
def d_check_ends : He.DefD := ⟨("check_ends", none), "check_ends", "check_ends", defArgs (top 7), defBody (top 7), defScope (top 7), [], []⟩
def d_Map_roads_from : He.DefD := ⟨("Map", some "roads_from"), "roads_from", "Map.roads_from", defArgs (inClass (top 28) 6), defBody (inClass (top 28) 6), defScope (inClass (top 28) 6), [], []⟩
def d_Map_followers : He.DefD := ⟨("Map", some "followers"), "followers", "Map.followers", defArgs (inClass (top 28) 10), defBody (inClass (top 28) 10), defScope (inClass (top 28) 10), [], []⟩
def d_is_open : He.DefD := ⟨("is_open", none), "is_open", "is_open", defArgs (top 8), defBody (top 8), defScope (top 8), [], []⟩
def d_usable : He.DefD := ⟨("usable", none), "usable", "usable", defArgs (top 9), defBody (top 9), defScope (top 9), [], []⟩
def d_is_way : He.DefD := ⟨("is_way", none), "is_way", "is_way", defArgs (top 10), defBody (top 10), defScope (top 10), [], [("without", .adr (kwdAt ("is_way", none) "without"))]⟩
def d_vital_roads : He.DefD := ⟨("vital_roads", none), "vital_roads", "vital_roads", defArgs (top 11), defBody (top 11), defScope (top 11), [], []⟩
def d_law : He.DefD := ⟨("law", none), "law", "law", defArgs (top 43), defBody (top 43), defScope (top 43), [], []⟩
def fn : List He.DefD := [d_law_row, d_law_numbers, d_law_names, d_law_bars, d_law_hours, d_law_road, d_law_parts, d_law_trip, d_law_apart_trip, d_law_open, d_law_follows, d_law_is_way, d_require, d_name_of, d_are_different, d_is_name, d_are_hours, d_Map_checked, d_Map_road, d_Map_checked_bar, d_Map_init, d_law_made, d_Map_check_place, d_check_ends, d_Map_roads_from, d_Map_followers, d_is_open, d_usable, d_is_way, d_vital_roads, d_law]
def gt : List He.DefD := [d_Map_road_names]
def fa : List He.Fa := [.free "abs", .free "int", .free "range", .free "len", .free "max", .glo "_law_row", .free "min", .free "sorted", .free "tuple", .glo "_law_hours", .glo "_law_names", .glo "_law_road", .glo "_law_bars", .glo "_law_trip", .glo "_law_open", .glo "_law_follows", .free "any", .free "enumerate", .cls "Map", .noat "Map" "roads", .int "MOST_NAME_CHARS" (12), .str "NAME_CHARS" "abcdefghijklmnopqrstuvwxyz0123456789", .free "all", .int "MOST_HOURS" (4), .int "ROAD_PARTS" (6), .glo "require", .int "MOST_MINUTES" (1000), .noat "Map" "places", .glo "is_name", .noat "Map" "kinds", .glo "are_different", .noat "Map" "day", .glo "are_hours", .meth "Map" "road", .int "MOST_DAY" (1440), .int "MOST_PLACES" (30), .int "MOST_KINDS" (4), .int "MOST_ROADS" (60), .meth "Map" "checked", .glo "name_of", .int "MOST_BARS" (40), .meth "Map" "checked_bar", .noat "Map" "bars", .mkr "Map", .glo "Map", .meth "Map" "check_place", .meth "Map" "roads_from", .glo "is_open", .glo "usable", .meth "Map" "followers", .glo "check_ends", .glo "is_way", .glo "_law_numbers", .glo "_law_parts", .free "list", .glo "_law_apart_trip", .glo "_law_is_way", .glo "_law_made", .glo "vital_roads", .free "repr", .glo "law"]
theorem fa_0 : fa[0]? = some (.free "abs") := rfl
theorem fa_1 : fa[1]? = some (.free "int") := rfl
theorem fa_2 : fa[2]? = some (.free "range") := rfl
theorem fa_3 : fa[3]? = some (.free "len") := rfl
theorem fa_4 : fa[4]? = some (.free "max") := rfl
theorem fa_5 : fa[5]? = some (.glo "_law_row") := rfl
theorem fa_6 : fa[6]? = some (.free "min") := rfl
theorem fa_7 : fa[7]? = some (.free "sorted") := rfl
theorem fa_8 : fa[8]? = some (.free "tuple") := rfl
theorem fa_9 : fa[9]? = some (.glo "_law_hours") := rfl
theorem fa_10 : fa[10]? = some (.glo "_law_names") := rfl
theorem fa_11 : fa[11]? = some (.glo "_law_road") := rfl
theorem fa_12 : fa[12]? = some (.glo "_law_bars") := rfl
theorem fa_13 : fa[13]? = some (.glo "_law_trip") := rfl
theorem fa_14 : fa[14]? = some (.glo "_law_open") := rfl
theorem fa_15 : fa[15]? = some (.glo "_law_follows") := rfl
theorem fa_16 : fa[16]? = some (.free "any") := rfl
theorem fa_17 : fa[17]? = some (.free "enumerate") := rfl
theorem fa_18 : fa[18]? = some (.cls "Map") := rfl
theorem fa_19 : fa[19]? = some (.noat "Map" "roads") := rfl
theorem fa_20 : fa[20]? = some (.int "MOST_NAME_CHARS" (12)) := rfl
theorem fa_21 : fa[21]? = some (.str "NAME_CHARS" "abcdefghijklmnopqrstuvwxyz0123456789") := rfl
theorem fa_22 : fa[22]? = some (.free "all") := rfl
theorem fa_23 : fa[23]? = some (.int "MOST_HOURS" (4)) := rfl
theorem fa_24 : fa[24]? = some (.int "ROAD_PARTS" (6)) := rfl
theorem fa_25 : fa[25]? = some (.glo "require") := rfl
theorem fa_26 : fa[26]? = some (.int "MOST_MINUTES" (1000)) := rfl
theorem fa_27 : fa[27]? = some (.noat "Map" "places") := rfl
theorem fa_28 : fa[28]? = some (.glo "is_name") := rfl
theorem fa_29 : fa[29]? = some (.noat "Map" "kinds") := rfl
theorem fa_30 : fa[30]? = some (.glo "are_different") := rfl
theorem fa_31 : fa[31]? = some (.noat "Map" "day") := rfl
theorem fa_32 : fa[32]? = some (.glo "are_hours") := rfl
theorem fa_33 : fa[33]? = some (.meth "Map" "road") := rfl
theorem fa_34 : fa[34]? = some (.int "MOST_DAY" (1440)) := rfl
theorem fa_35 : fa[35]? = some (.int "MOST_PLACES" (30)) := rfl
theorem fa_36 : fa[36]? = some (.int "MOST_KINDS" (4)) := rfl
theorem fa_37 : fa[37]? = some (.int "MOST_ROADS" (60)) := rfl
theorem fa_38 : fa[38]? = some (.meth "Map" "checked") := rfl
theorem fa_39 : fa[39]? = some (.glo "name_of") := rfl
theorem fa_40 : fa[40]? = some (.int "MOST_BARS" (40)) := rfl
theorem fa_41 : fa[41]? = some (.meth "Map" "checked_bar") := rfl
theorem fa_42 : fa[42]? = some (.noat "Map" "bars") := rfl
theorem fa_43 : fa[43]? = some (.mkr "Map") := rfl
theorem fa_44 : fa[44]? = some (.glo "Map") := rfl
theorem fa_45 : fa[45]? = some (.meth "Map" "check_place") := rfl
theorem fa_46 : fa[46]? = some (.meth "Map" "roads_from") := rfl
theorem fa_47 : fa[47]? = some (.glo "is_open") := rfl
theorem fa_48 : fa[48]? = some (.glo "usable") := rfl
theorem fa_49 : fa[49]? = some (.meth "Map" "followers") := rfl
theorem fa_50 : fa[50]? = some (.glo "check_ends") := rfl
theorem fa_51 : fa[51]? = some (.glo "is_way") := rfl
theorem fa_52 : fa[52]? = some (.glo "_law_numbers") := rfl
theorem fa_53 : fa[53]? = some (.glo "_law_parts") := rfl
theorem fa_54 : fa[54]? = some (.free "list") := rfl
theorem fa_55 : fa[55]? = some (.glo "_law_apart_trip") := rfl
theorem fa_56 : fa[56]? = some (.glo "_law_is_way") := rfl
theorem fa_57 : fa[57]? = some (.glo "_law_made") := rfl
theorem fa_58 : fa[58]? = some (.glo "vital_roads") := rfl
theorem fa_59 : fa[59]? = some (.free "repr") := rfl
theorem fa_60 : fa[60]? = some (.glo "law") := rfl
def insC : List Str := []
def propC : List (Str × Str) := [("Map", "road_names")]
def tup0C : List ((Str × Option Str) × Str) := [(("is_way", none), "without")]
def exW (K : PySem.W.Frag) : Bool := insC.all (fun x => insB K (He.ga K x)) && (propC.all (fun p => propB K p.1 p.2) && tup0C.all (fun p => tup0B K (kwdAt p.1 p.2 K)))
abbrev DefOk (K : PySem.W.Frag) (d : He.DefD) (fd : FuncData) : Prop := FunD K d.name d.qual d.params d.body d.scope (d.dvs K) (d.kws K) (He.fAd K d.at_) fd
structure Lw (K : PySem.W.Frag) (mg : Str → Option Value) : Prop where
  h : ∃ hp : Heap, K.In hp ∧ hp.Ns mainGlobals mg
  s : SaysG fa fn gt exW K
theorem Lw.c {K : PySem.W.Frag} {mg : Str → Option Value} (L : Lw K mg) : He.SaysD fa fn K := L.s.d
section
variable {K : PySem.W.Frag} {mg : Str → Option Value} (L : Lw K mg) {i : Nat}
include L
theorem Lw.glo {x : Str} (e : fa[i]? = some (.glo x)) : mg x = some (.ref (He.ga K x)) := let ⟨_, X, G⟩ := L.h; He.glo_ok X G (L.c.fact i e)
theorem Lw.free {x : Str} (e : fa[i]? = some (.free x)) : mg x = none := let ⟨_, X, G⟩ := L.h; He.free_ok X G (L.c.fact i e)
theorem Lw.int {x : Str} {v : Int} (e : fa[i]? = some (.int x v)) : ∃ t, mg x = some (.int v t) := let ⟨_, X, G⟩ := L.h; He.int_ok X G (L.c.fact i e)
theorem Lw.str {x z : Str} (e : fa[i]? = some (.str x z)) : ∃ t, mg x = some (.str z t) := let ⟨_, X, G⟩ := L.h; He.str_ok X G (L.c.fact i e)
theorem Lw.cls {x : Str} (e : fa[i]? = some (.cls x)) : Cls K (He.ga K x) := He.cls_ok (L.c.fact i e)
theorem Lw.noat {x f : Str} (e : fa[i]? = some (.noat x f)) : NoAttr K (He.ga K x) f := He.noat_ok (L.c.fact i e)
theorem Lw.mkr {x : Str} (e : fa[i]? = some (.mkr x)) : Mk K (He.ga K x) (He.ma K (He.ga K x) "__init__") := He.mkr_ok (L.c.fact i e)
theorem Lw.prop {c f : Str} (h : (c, f) ∈ propC) : PropOf K (He.ga K c) f (He.fAd K (c, some f)) (gAd K (c, some f)) := propB_ok (List.all_eq_true.mp (and2 (and2 L.s.more).2).1 (c, f) h)
theorem Lw.tup0 {p : Str × Option Str} {x : Str} (h : (p, x) ∈ tup0C) (F : Hp) : Rp K F (.ref (kwdAt p x K)) (.tup []) := tup0_ok (List.all_eq_true.mp (and2 (and2 L.s.more).2).2 (p, x) h) F
theorem Lw.meth {x m : Str} (e : fa[i]? = some (.meth x m)) : Meth K (He.ga K x) m (He.ma K (He.ga K x) m) := He.meth_ok (L.c.fact i e)
theorem Lw.ats {cs : List String} {f : String} (h : AllC K f cs) : ∀ c ∈ cs, Cls K (He.ga K (Str.ofString c)) ∧ NoAttr K (He.ga K (Str.ofString c)) (Str.ofString f) := h.all
end
end LawWalk

set_option Elab.async false
set_option linter.all false
set_option maxRecDepth 100000
set_option maxHeartbeats 0
namespace LawHead
open PySem PySem.Spec PyProof.Rows L2
abbrev R : PySem.W.OpenRow := PySem.W.OpenLaw.row PySem.Challenge.rw_waypapers_k34_vital_roads
abbrev hk : PySem.W.Hook := DL.hookG 5 LawWalk.fa LawWalk.fn LawWalk.gt LawWalk.exW
def ob (s : PySem.W.SharedT) : DL.AlG := DL.seen LawWalk.fa LawWalk.fn LawWalk.gt LawWalk.exW (He.frG (HandSHeadRun.getT s) (He.asD (HandSHeadRun.getT s) 5))
theorem ob_eq (s : PySem.W.SharedT) : ob s = hk.obs s.abs := DL.obsG_eq (HandSHeadRun.getT_eq s)
def loose : List PySem.Str := (["_wall", "WaypapersError", "InvalidMap", "UnknownName", "InvalidQuestion", "check_ends", "is_open", "usable", "is_way", "vital_roads", "NAME_CHARS", "MOST_NAME_CHARS"] : List PySem.Str) ++ (["MOST_DAY", "MOST_PLACES", "MOST_KINDS", "MOST_ROADS", "MOST_BARS", "MOST_MINUTES", "MOST_HOURS", "ROAD_PARTS", "is_name", "are_different", "are_hours", "name_of"] : List PySem.Str) ++ (["require", "Map", "_law_row", "_law_numbers", "_law_hours", "_law_road", "_law_bars", "_law_parts", "_law_names", "_law_made", "_law_open", "_law_follows"] : List PySem.Str) ++ (["_law_is_way", "_law_trip", "_law_apart_trip"] : List PySem.Str)
theorem run (w : World) : HandSHeadRun.RunEq R (PySem.W.view R.prog [43]) hk ob 20000 loose w := by
  intro os
  kernel_rfl
end LawHead

set_option Elab.async false
set_option linter.all false
set_option maxRecDepth 100000
set_option maxHeartbeats 4000000
namespace DL
open PySem L2
section
variable {α β : Type}
@[simp] theorem okb (a : α) (f : α → M β) : ((.ok a : M α) >>= f) = f a := rfl
@[simp] theorem erb (e : Er) (f : α → M β) : ((.error e : M α) >>= f) = .error e := rfl
@[simp] theorem need_t : need true = .ok () := rfl
@[simp] theorem need_f : need false = stuck := rfl

variable {i j : Int} {l m : List D} {x y : Str} {a b : Bool}
@[simp] theorem f1_1 (f : D → M D) (x : D) : f1 f [x] = f x := rfl
@[simp] theorem f2_2 (f : D → D → M D) (x y : D) : f2 f [x, y] = f x y := rfl
@[simp] theorem add_ii : D.add (.int i) (.int j) = .ok (.int (i + j)) := rfl
@[simp] theorem sub_ii : D.sub (.int i) (.int j) = .ok (.int (i - j)) := rfl
@[simp] theorem mul_ii : D.mul (.int i) (.int j) = (need (decide ((-(2 ^ 64) < i ∧ i < 2 ^ 64) ∨ (-(2 ^ 64) < j ∧ j < 2 ^ 64))) >>= fun _ => .ok (.int (i * j))) := rfl
@[simp] theorem mod_ii : D.mod (.int i) (.int j) = (need (decide (0 < j)) >>= fun _ => .ok (.int (i % j))) := rfl
@[simp] theorem fdiv_ii : D.fdiv (.int i) (.int j) = (need (decide (0 < j ∧ j < 1073741824)) >>= fun _ => .ok (.int (i / j))) := rfl
@[simp] theorem pow_ii : D.pow (.int i) (.int j) = (need (decide (0 ≤ j ∧ j ≤ 1000000 ∧ i.natAbs < 2 ^ 64)) >>= fun _ => .ok (.int (i ^ j.toNat))) := rfl
@[simp] theorem neg_i : D.neg (.int i) = .ok (.int (-i)) := rfl
@[simp] theorem toInt_i : D.toInt (.int i) = .ok (.int i) := rfl
@[simp] theorem abs_i : D.abs (.int i) = .ok (.int (if i < 0 then -i else i)) := rfl
@[simp] theorem lt_ii : D.lt (.int i) (.int j) = .ok (decide (i < j)) := rfl
@[simp] theorem le_ii : D.le (.int i) (.int j) = .ok (decide (i ≤ j)) := rfl
@[simp] theorem gt_ii : D.gt (.int i) (.int j) = .ok (decide (j < i)) := rfl
@[simp] theorem ge_ii : D.ge (.int i) (.int j) = .ok (decide (j ≤ i)) := rfl
@[simp] theorem max_ii : D.max2 (.int i) (.int j) = .ok (.int (if j > i then j else i)) := rfl
@[simp] theorem min_ii : D.min2 (.int i) (.int j) = .ok (.int (if j < i then j else i)) := rfl
@[simp] theorem len_l : D.len (.lst l) = .ok (.int l.length) := rfl
@[simp] theorem len_t : D.len (.tup l) = .ok (.int l.length) := rfl
@[simp] theorem len_scr {l : List Int} : D.len (.scr l) = .ok (.int l.length) := rfl
@[simp] theorem len_s : D.len (.str x) = (need (decide (x.length ≤ sizeLine)) >>= fun _ => .ok (.int x.length)) := rfl
@[simp] theorem tru_b : D.tru (.bl a) = .ok a := rfl
@[simp] theorem tru_i : D.tru (.int i) = .ok (i != 0) := rfl
@[simp] theorem tru_l : D.tru (.lst l) = .ok (!l.isEmpty) := rfl
@[simp] theorem tru_t : D.tru (.tup l) = .ok (!l.isEmpty) := rfl
@[simp] theorem items_l : D.items (.lst l) = .ok l := rfl
@[simp] theorem items_t : D.items (.tup l) = .ok l := rfl
@[simp] theorem items_s : D.items (.str x) = .ok (x.cps.toList.map fun c => D.str ⟨#[c]⟩) := rfl
@[simp] theorem bnd_i : D.bnd (.int i) = .ok (some i) := rfl
@[simp] theorem isN_n {d : D} : D.isN d .non = .ok d.isNon := rfl
@[simp] theorem notN_n {d : D} : D.notN d .non = .ok (!d.isNon) := rfl
@[simp] theorem isNon_n : D.isNon .non = true := rfl
@[simp] theorem isNon_l : D.isNon (.lst l) = false := rfl
@[simp] theorem isNon_t : D.isNon (.tup l) = false := rfl
@[simp] theorem isNon_i : D.isNon (.int i) = false := rfl
@[simp] theorem isNon_s : D.isNon (.str x) = false := rfl
@[simp] theorem bD_ok : bD (.ok a) = .ok (.bl a) := rfl
@[simp] theorem mkLst_l : D.mkLst l = (need (decide (l.length ≤ sizeLine)) >>= fun _ => .ok (.lst l)) := rfl
@[simp] theorem mkTup_l : D.mkTup l = (need (decide (l.length ≤ sizeLine)) >>= fun _ => .ok (.tup l)) := rfl
@[simp] theorem toTup_l : D.toTup (.lst l) = .ok (.tup l) := rfl
@[simp] theorem toTup_t : D.toTup (.tup l) = .ok (.tup l) := rfl
@[simp] theorem toList_l : D.toList (.lst l) = .ok (.lst l) := rfl
@[simp] theorem toList_t : D.toList (.tup l) = .ok (.lst l) := rfl
@[simp] theorem nList_l : nList (.ok [.lst l]) = .ok l := rfl
@[simp] theorem nList_t : nList (.ok [.tup l]) = .ok l := rfl
@[simp] theorem sl_l {lo hi : Option Int} : D.sl (.lst l) lo hi = .ok (.lst (cutL l lo hi)) := rfl
@[simp] theorem sl_t {lo hi : Option Int} : D.sl (.tup l) lo hi = .ok (.tup (cutL l lo hi)) := rfl
@[simp] theorem sl_scr {l : List Int} {lo hi : Option Int} : D.sl (.scr l) lo hi = .ok (.lst ((cutL l lo hi).map D.int)) := rfl
@[simp] theorem sl_s {lo hi : Option Int} : D.sl (.str x) lo hi = (need (decide (x.length ≤ sizeLine)) >>= fun _ => .ok (.str (cutS x lo hi))) := rfl
@[simp] theorem add_ss : D.add (.str x) (.str y) = (need (decide (x.length + y.length ≤ sizeLine)) >>= fun _ => .ok (.str (x ++ y))) := rfl
@[simp] theorem add_ll : D.add (.lst l) (.lst m) = (need (decide (l.length + m.length ≤ sizeLine)) >>= fun _ => .ok (.lst (l ++ m))) := rfl
@[simp] theorem add_tt : D.add (.tup l) (.tup m) = (need (decide (l.length + m.length ≤ sizeLine)) >>= fun _ => .ok (.tup (l ++ m))) := rfl
@[simp] theorem range1_i : D.range1 [.int j] = (need (smallI j) >>= fun _ => .ok (rangeL 0 j.toNat)) := rfl
@[simp] theorem range2_i : D.range2 [.int i, .int j] = (need (smallI i && smallI j) >>= fun _ => .ok (rangeL i (j - i).toNat)) := rfl
theorem ix_nat {n : Nat} {d : D} (h : l[n]? = some d) (e : i = (n : Int)) : D.ix (.lst l) (.int i) = .ok d := by
  subst e
  show (match atI l (n : Int) with | some d => (.ok d : M D) | none => stuck) = _
  have : atI l (n : Int) = some d := by
    have hl := (List.getElem?_eq_some_iff.mp h).1
    have e : ixN l.length (n : Int) = some n := by
      unfold ixN
      simp
      omega
    show (ixN l.length (n : Int)).bind (fun j => l[j]?) = some d
    rw [e]
    exact h
  rw [this]
theorem ix_natT {n : Nat} {d : D} (h : l[n]? = some d) (e : i = (n : Int)) : D.ix (.tup l) (.int i) = .ok d := ix_nat (l := l) h e
end
section
variable {α : Type}
theorem cut_take (xs : List α) {i : Int} (h : 0 ≤ i) : cutL xs none (some i) = xs.take i.toNat := by
  have e1 : HT.sIx xs.length 0 none = 0 := rfl
  have e2 : HT.sIx xs.length xs.length (some i) = min i.toNat xs.length := by
    unfold HT.sIx
    simp
    omega
  unfold cutL
  rw [e1, e2, List.drop_zero, Nat.sub_zero]
  apply List.ext_getElem?
  intro k
  rw [List.getElem?_take, List.getElem?_take]
  by_cases h1 : k < xs.length
  · by_cases h2 : k < i.toNat
    · rw [if_pos (by omega), if_pos h2]
    · rw [if_neg (by omega), if_neg h2]
  · rw [List.getElem?_eq_none (by omega)]
    simp
theorem cut_drop (xs : List α) {i : Int} (h : 0 ≤ i) : cutL xs (some i) none = xs.drop i.toNat := by
  have e1 : HT.sIx xs.length xs.length none = xs.length := rfl
  have e2 : HT.sIx xs.length 0 (some i) = min i.toNat xs.length := by
    unfold HT.sIx
    simp
    omega
  unfold cutL
  rw [e1, e2]
  by_cases h1 : i.toNat ≤ xs.length
  · rw [Nat.min_eq_left h1, List.take_of_length_le (by rw [List.length_drop]; omega)]
  · rw [Nat.min_eq_right (by omega), List.drop_eq_nil_of_le (Nat.le_refl _), List.drop_eq_nil_of_le (by omega), List.take_nil]
end
section
variable {S : Type}
theorem loopF_cons {f : S → D → M S} {s : S} {d : D} {ds : List D} : loopF f (d :: ds) s = (f s d >>= fun s => loopF f ds s) := rfl
theorem loopF_inv {f : S → D → M S} (I : Nat → S → Prop) : ∀ (ds : List D) (k : Nat) (s0 : S), I k s0 → (∀ i d s, ds[i]? = some d → I (k + i) s → ∃ s', f s d = .ok s' ∧ I (k + i + 1) s') → ∃ s', loopF f ds s0 = .ok s' ∧ I (k + ds.length) s'
  | [], k, s0, h, _ => ⟨s0, rfl, h⟩
  | d :: ds, k, s0, h, st => by
    obtain ⟨s1, e1, h1⟩ := st 0 d s0 rfl h
    obtain ⟨s', e2, h2⟩ := loopF_inv I ds (k + 1) s1 h1 (fun i d' s hd hi => by
      have hi' : I (k + (i + 1)) s := by
        have e : k + (i + 1) = k + 1 + i := by omega
        rw [e]
        exact hi
      obtain ⟨s', e, h'⟩ := st (i + 1) d' s (by simpa using hd) hi'
      refine ⟨s', e, ?_⟩
      have e : k + 1 + i + 1 = k + (i + 1) + 1 := by omega
      rw [e]
      exact h')
    refine ⟨s', ?_, ?_⟩
    · rw [loopF_cons, e1]
      exact e2
    · have e : k + (d :: ds).length = k + 1 + ds.length := by simp; omega
      rw [e]
      exact h2
theorem rangeL_len (lo : Int) (n : Nat) : (rangeL lo n).length = n := by simp [rangeL]
theorem rangeL_get {lo : Int} {n i : Nat} {d : D} (h : (rangeL lo n)[i]? = some d) : d = .int (lo + (i : Int)) ∧ i < n := by
  unfold rangeL at h
  rw [List.getElem?_map] at h
  by_cases hi : i < n
  · rw [List.getElem?_range hi] at h
    cases h
    exact ⟨rfl, hi⟩
  · rw [List.getElem?_eq_none (by simpa using hi)] at h
    cases h
theorem small_of {i : Int} (h1 : -4611686018427387904 ≤ i) (h2 : i < 4611686018427387904) : smallI i = true := by
  unfold smallI
  exact decide_eq_true ⟨h1, h2⟩
theorem whileF_inv {c : S → M Bool} {f : S → M S} (I : S → Prop) (μ : S → Nat) (hc : ∀ s, I s → ∃ b, c s = .ok b ∧ (b = true → ∃ s', f s = .ok s' ∧ I s' ∧ μ s' < μ s)) : ∀ (n : Nat) (s : S), I s → μ s < n → ∃ s', whileF c f n s = .ok s' ∧ I s' ∧ c s' = .ok false
  | 0, s, h, hm => absurd hm (Nat.not_lt_zero _)
  | n + 1, s, h, hm => by
    obtain ⟨b, e, hb⟩ := hc s h
    cases b with
    | false =>
      refine ⟨s, ?_, h, e⟩
      show (c s >>= fun b => if b = true then f s >>= fun s => whileF c f n s else .ok s) = _
      rw [e]
      rfl
    | true =>
      obtain ⟨s', e2, h2, h3⟩ := hb rfl
      obtain ⟨s'', e4, h4, h5⟩ := whileF_inv I μ hc n s' h2 (by omega)
      refine ⟨s'', ?_, h4, h5⟩
      show (c s >>= fun b => if b = true then f s >>= fun s => whileF c f n s else .ok s) = _
      rw [e]
      show (f s >>= fun s => whileF c f n s) = _
      rw [e2]
      exact e4
end
end DL

set_option Elab.async false
set_option linter.all false
set_option maxRecDepth 100000
set_option maxHeartbeats 4000000
namespace DL
open PySem L2
theorem need_p {p : Prop} [Decidable p] (h : p) : need (decide p) = .ok () := by
  rw [decide_eq_true h]
  rfl
theorem mul_okl {i j : Int} (h1 : -(2 ^ 64) < i) (h2 : i < 2 ^ 64) : D.mul (.int i) (.int j) = .ok (.int (i * j)) := by
  rw [mul_ii, need_p (.inl ⟨h1, h2⟩)]
  rfl
theorem mod_ok {i j : Int} (h : 0 < j) : D.mod (.int i) (.int j) = .ok (.int (i % j)) := by
  rw [mod_ii, need_p h]
  rfl
abbrev tl (x : Str) : List Nat := TL.tl x
def mk (l : List Nat) : Str := ⟨l.toArray⟩
@[simp] theorem tl_mk (l : List Nat) : tl (mk l) = l := rfl
@[simp] theorem mk_tl (x : Str) : mk (tl x) = x := TL.mk_tl x
theorem len_mk (l : List Nat) : (mk l).length = l.length := TL.len_tl _
theorem mk_app (l m : List Nat) : mk l ++ mk m = mk (l ++ m) := TL.ext_tl (TL.tl_append _ _)
@[simp] theorem mk_inj {l m : List Nat} : mk l = mk m ↔ l = m := ⟨fun h => congrArg tl h, fun h => h ▸ rfl⟩
theorem tl_cut (z : Str) (lo hi : Option Int) : tl (cutS z lo hi) = cutL (tl z) lo hi := by
  unfold cutS cutL
  rw [TL.len_tl z]
theorem cutS_mk (l : List Nat) (lo hi : Option Int) : cutS (mk l) lo hi = mk (cutL l lo hi) := TL.ext_tl (tl_cut _ _ _)
theorem mem_char' (c : Nat) (z : Str) : D.mem (.str (mk [c])) (.str z) = .ok (decide (c ∈ tl z)) := rfl
theorem items_mk (l : List Nat) : D.items (.str (mk l)) = .ok (l.map fun c => D.str (mk [c])) := rfl
theorem ix_str {x : Str} {n : Nat} {c : Nat} {i : Int} (hl : x.length ≤ 16777216) (h : (tl x)[n]? = some c) (e : i = (n : Int)) : D.ix (.str x) (.int i) = .ok (.str (mk [c])) := by
  subst e
  have hn := (List.getElem?_eq_some_iff.mp h).1
  have e : atI x.cps.toList (n : Int) = some c := by
    have e : ixN (tl x).length (n : Int) = some n := by
      unfold ixN
      simp
      omega
    show (ixN (tl x).length (n : Int)).bind (fun j => (tl x)[j]?) = some c
    rw [e]
    exact h
  show (need (decide (x.length ≤ sizeLine)) >>= fun _ => match atI x.cps.toList (n : Int) with | some c => (.ok (.str ⟨#[c]⟩) : M D) | none => stuck) = _
  rw [PySem.sizeLine_eq, decide_eq_true hl, e]
  rfl
section
variable {α : Type}
theorem compL_mapA {f : D → M D} {k : α → D} {g : α → D} {l : List α} (hl : l.length ≤ 16777216) (h : ∀ a ∈ l, f (k a) = .ok (g a)) : compL (fElt noT f) (l.map k) = .ok (l.map g) := by
  unfold compL
  rw [PySem.sizeLine_eq, List.length_map, decide_eq_true hl]
  show comp _ _ = _
  clear hl
  induction l with
  | nil => rfl
  | cons a l ih =>
    have h1 := h a (List.mem_cons_self ..)
    have h2 := ih fun x hx => h x (List.mem_cons_of_mem _ hx)
    rw [List.map_cons]
    unfold comp
    have e : fElt noT f (k a) = .ok (some (g a)) := by
      unfold fElt
      simp [h1]
    rw [e]
    show (comp (fElt noT f) (l.map k) >>= fun ys => .ok (g a :: ys)) = _
    rw [h2]
    rfl
theorem compL_filterA {t : D → M Bool} {f : D → M D} {k : α → D} {p : α → Bool} {g : α → D} {l : List α} (hl : l.length ≤ 16777216) (ht : ∀ a ∈ l, t (k a) = .ok (p a)) (h : ∀ a ∈ l, p a = true → f (k a) = .ok (g a)) : compL (fElt t f) (l.map k) = .ok ((l.filter p).map g) := by
  unfold compL
  rw [PySem.sizeLine_eq, List.length_map, decide_eq_true hl]
  show comp _ _ = _
  clear hl
  induction l with
  | nil => rfl
  | cons a l ih =>
    have t1 := ht a (List.mem_cons_self ..)
    have h1 := h a (List.mem_cons_self ..)
    have h2 := ih (fun x hx => ht x (List.mem_cons_of_mem _ hx)) fun x hx => h x (List.mem_cons_of_mem _ hx)
    rw [List.map_cons]
    unfold comp
    cases e : p a with
    | true =>
      have e2 : fElt t f (k a) = .ok (some (g a)) := by
        unfold fElt
        simp [h1 e, t1, e]
      rw [e2, List.filter_cons, if_pos e]
      show (comp (fElt t f) (l.map k) >>= fun ys => .ok (g a :: ys)) = _
      rw [h2]
      rfl
    | false =>
      have e2 : fElt t f (k a) = .ok none := by
        unfold fElt
        simp [t1, e]
      rw [e2, List.filter_cons, if_neg (by rw [e]; exact Bool.false_ne_true)]
      exact h2
theorem bools_map {p : α → Bool} : ∀ l : List α, D.bools (l.map fun a => D.bl (p a)) = some (l.map p)
  | [] => rfl
  | a :: l => by
    show (D.bools (l.map fun a => D.bl (p a))).map (p a :: ·) = _
    rw [bools_map l]
    rfl
theorem all_map {p : α → Bool} (l : List α) : D.all (.lst (l.map fun a => D.bl (p a))) = .ok (.bl (l.all p)) := by
  show (match D.bools (l.map fun a => D.bl (p a)) with | some bs => (.ok (.bl (bs.all id)) : M D) | none => stuck) = _
  rw [bools_map]
  simp
theorem any_map {p : α → Bool} (l : List α) : D.any (.lst (l.map fun a => D.bl (p a))) = .ok (.bl (l.any p)) := by
  show (match D.bools (l.map fun a => D.bl (p a)) with | some bs => (.ok (.bl (bs.any id)) : M D) | none => stuck) = _
  rw [bools_map]
  simp
theorem strs_map : ∀ l : List Str, D.strs (l.map D.str) = some l
  | [] => rfl
  | a :: l => by
    show (D.strs (l.map D.str)).map (a :: ·) = _
    rw [strs_map l]
    rfl
end
@[simp] theorem isStr_s {x : Str} : D.isStr (.str x) = true := rfl
@[simp] theorem meth_s {x : Str} {l : List D} {f : D → List D → M D} : meth D.isStr (.ok (.str x)) (.ok l) f = f (.str x) l := rfl
@[simp] theorem m1_1 {x y : D} {f : D → D → M D} : m1 f x [y] = f x y := rfl
theorem join_ok {y : Str} {l : List Str} (h : (l.map (·.length)).sum + l.length * y.length ≤ 16777216) : D.join (.str y) (.lst (l.map D.str)) = .ok (.str (Str.join y l)) := by
  unfold D.join
  simp only [strs_map]
  show (need (decide ((l.map (·.length)).sum + l.length * y.length ≤ 16777216)) >>= fun _ => (.ok (.str (Txt.join y l)) : M D)) = _
  rw [decide_eq_true h, TL.join_eq]
  rfl
theorem joinL_nil : ∀ l : List (List Nat), TL.joinL [] l = l.flatten
  | [] => rfl
  | [p] => by simp [TL.joinL]
  | p :: q :: r => by
    show p ++ ([] ++ TL.joinL [] (q :: r)) = _
    rw [joinL_nil (q :: r)]
    simp
theorem join0 (l : List Str) : Str.join "" l = mk (l.map tl).flatten := by
  apply TL.ext_tl
  rw [TL.tl_join]
  have : TL.tl ("" : Str) = [] := by decide
  rw [this, joinL_nil]
  rfl
theorem eq_ss {x y : Str} : D.eq (.str x) (.str y) = .ok (decide (x = y)) := by
  unfold D.eq
  simp [D.shp, D.leaf, D.beq]
theorem eq_ii {i j : Int} : D.eq (.int i) (.int j) = .ok (decide (i = j)) := by
  unfold D.eq
  simp [D.shp, D.leaf, D.beq]
theorem eq_of {x y : D} (hx : x.shp 20 = true) (hy : y.shp 20 = true) : D.eq x y = .ok (D.beq x y) := by
  unfold D.eq
  rw [hx, hy]
  rfl
theorem ne_ss {x y : Str} : D.ne (.str x) (.str y) = .ok (!decide (x = y)) := by
  unfold D.ne
  rw [eq_ss]
  rfl
theorem shp_leaf {d : D} (h : d.leaf = true) : ∀ n, d.shp n = true
  | 0 => h
  | n + 1 => by cases d <;> first | exact h | cases h
theorem shp_mono : ∀ {n : Nat} {d : D}, d.shp n = true → d.shp (n + 1) = true
  | n, d, h => by
    induction n generalizing d with
    | zero => exact shp_leaf h 1
    | succ n ih =>
      rcases D.shp_cases h with h1 | ⟨m, l, e, hd, hl⟩
      · exact shp_leaf h1 _
      · cases e
        have : l.all (D.shp (n + 1)) = true := List.all_eq_true.mpr fun x hx => ih _ (List.all_eq_true.mp hl x hx)
        rcases hd with rfl | rfl <;> exact this
theorem shp_le {n m : Nat} {d : D} (h : d.shp n = true) (hm : n ≤ m) : d.shp m = true := by
  induction m with
  | zero =>
    have : n = 0 := by omega
    subst this
    exact h
  | succ m ih =>
    by_cases e : n = m + 1
    · subst e
      exact h
    · exact shp_mono (ih (by omega))
theorem shp_lst {l : List D} {n : Nat} (h : ∀ d ∈ l, d.shp n = true) : (D.lst l).shp (n + 1) = true := List.all_eq_true.mpr h
theorem shp_tup {l : List D} {n : Nat} (h : ∀ d ∈ l, d.shp n = true) : (D.tup l).shp (n + 1) = true := List.all_eq_true.mpr h
@[simp] theorem shp_str {x : Str} {n : Nat} : (D.str x).shp n = true := shp_leaf rfl n
@[simp] theorem shp_int {x : Int} {n : Nat} : (D.int x).shp n = true := shp_leaf rfl n
@[simp] theorem shp_non {n : Nat} : (D.non).shp n = true := shp_leaf rfl n
@[simp] theorem shp_bl {b : Bool} {n : Nat} : (D.bl b).shp n = true := shp_leaf rfl n
end DL

set_option Elab.async false
set_option linter.all false
set_option maxRecDepth 100000
set_option maxHeartbeats 4000000
namespace DL
open PySem L2
structure En {α : Type} [DecidableEq α] (n : Nat) (e : α → D) : Prop where
  beq : ∀ x y, D.beq (e x) (e y) = decide (x = y)
  shp : ∀ x, (e x).shp n = true
section
variable {α β : Type} [DecidableEq α] [DecidableEq β] {n m : Nat} {e : α → D} {e2 : β → D}
theorem En.le (h : En n e) (hm : n ≤ m) : En m e := ⟨h.beq, fun x => shp_le (h.shp x) hm⟩
theorem en_str : En n D.str := ⟨fun x y => by simp [D.beq], fun x => shp_str⟩
theorem en_int : En n D.int := ⟨fun x y => by simp [D.beq], fun x => shp_int⟩
theorem beq_nl {d : D} (h : d.isNon = false) : D.beq .non d = false := by
  cases d with
  | non => cases h
  | _ => rfl
theorem beq_nr {d : D} (h : d.isNon = false) : D.beq d .non = false := by
  cases d with
  | non => cases h
  | _ => rfl
def optD (e : α → D) : Option α → D
  | none => .non
  | some x => e x
theorem en_opt (h : En n e) (hn : ∀ x, (e x).isNon = false) : En n (optD e) := ⟨fun x y => by
  cases x with
  | none => cases y with
    | none => rfl
    | some b => simp [optD, beq_nl (hn b)]
  | some a => cases y with
    | none => simp [optD, beq_nr (hn a)]
    | some b => simp [optD, h.beq], fun x => by
  cases x with
  | none => exact shp_non
  | some a => exact h.shp a⟩
theorem beqL_map (h : ∀ x y, D.beq (e x) (e y) = decide (x = y)) : ∀ l m : List α, D.beqL (l.map e) (m.map e) = decide (l = m)
  | [], [] => by simp [D.beqL]
  | [], _ :: _ => by simp [D.beqL]
  | _ :: _, [] => by simp [D.beqL]
  | a :: l, b :: m => by
    simp only [List.map_cons, D.beqL, h, beqL_map h l m]
    by_cases e1 : a = b <;> by_cases e2 : l = m <;> simp [e1, e2]
theorem en_lst (h : En n e) : En (n + 1) (fun l : List α => D.lst (l.map e)) := ⟨fun x y => by simp only [D.beq]; exact beqL_map h.beq x y, fun x => shp_lst fun d hd => by
  obtain ⟨a, _, rfl⟩ := List.mem_map.mp hd
  exact h.shp a⟩
theorem en_tup (h : En n e) : En (n + 1) (fun l : List α => D.tup (l.map e)) := ⟨fun x y => by simp only [D.beq]; exact beqL_map h.beq x y, fun x => shp_tup fun d hd => by
  obtain ⟨a, _, rfl⟩ := List.mem_map.mp hd
  exact h.shp a⟩
theorem en_pair (h : En n e) (h2 : En n e2) : En (n + 1) (fun p : α × β => D.tup [e p.1, e2 p.2]) := ⟨fun x y => by
  obtain ⟨a, b⟩ := x
  obtain ⟨c, d⟩ := y
  simp only [D.beq, D.beqL, h.beq, h2.beq]
  by_cases e1 : a = c <;> by_cases e2 : b = d <;> simp [e1, e2], fun x => shp_tup fun d hd => by
  rcases List.mem_cons.mp hd with rfl | hd
  · exact h.shp _
  · rw [List.mem_singleton.mp hd]
    exact h2.shp _⟩
variable (h : En 15 e)
include h
theorem En.eq (x y : α) : D.eq (e x) (e y) = .ok (decide (x = y)) := by rw [eq_of (shp_le (h.shp x) (by omega)) (shp_le (h.shp y) (by omega)), h.beq]
theorem En.ne (x y : α) : D.ne (e x) (e y) = .ok (!decide (x = y)) := by
  unfold D.ne
  rw [h.eq]
  rfl
theorem En.any (x : α) (l : List α) : ((l.map e).any fun z => D.beq z (e x)) = decide (x ∈ l) := by
  induction l with
  | nil => simp
  | cons a l ih =>
    rw [List.map_cons, List.any_cons, h.beq, ih]
    by_cases e1 : a = x
    · simp [e1]
    · have e2 : ¬ x = a := fun z => e1 z.symm
      simp [e1, e2]
theorem En.all (l : List α) : (l.map e).all (D.shp 19) = true := List.all_eq_true.mpr fun d hd => by
  obtain ⟨a, _, rfl⟩ := List.mem_map.mp hd
  exact shp_le (h.shp a) (by omega)
theorem En.mem (x : α) (l : List α) [i : Decidable (x ∈ l)] : D.mem (e x) (.lst (l.map e)) = .ok (decide (x ∈ l)) := by
  have ei : i = List.instDecidableMemOfLawfulBEq x l := Subsingleton.elim _ _
  subst ei
  show (need ((e x).shp 19 && (l.map e).all (D.shp 19)) >>= fun _ => .ok ((l.map e).any fun z => D.beq z (e x))) = _
  rw [shp_le (h.shp x) (by omega), h.all, h.any]
  rfl
theorem En.memT (x : α) (l : List α) [Decidable (x ∈ l)] : D.mem (e x) (.tup (l.map e)) = .ok (decide (x ∈ l)) := h.mem x l
theorem En.nmem (x : α) (l : List α) [Decidable (x ∈ l)] : D.nmem (e x) (.lst (l.map e)) = .ok (!decide (x ∈ l)) := by
  unfold D.nmem
  rw [h.mem]
  rfl
theorem En.nmemT (x : α) (l : List α) [Decidable (x ∈ l)] : D.nmem (e x) (.tup (l.map e)) = .ok (!decide (x ∈ l)) := h.nmem x l
theorem En.index {x : α} {l : List α} {j : Nat} (hj : l.idxOf x = j) (hx : x ∈ l) : D.index (.lst (l.map e)) (e x) = .ok (.int j) := by
  show (need ((l.map e).all (D.shp 19) && (e x).shp 19) >>= fun _ => match ixOf (l.map e) (e x) with | some j => (.ok (.int (j : Nat)) : M D) | none => stuck) = _
  rw [shp_le (h.shp x) (by omega), h.all]
  have e1 : ixOf (l.map e) (e x) = some j := by
    unfold ixOf
    rw [List.findIdx?_eq_some_iff_getElem]
    have hlt : l.idxOf x < l.length := List.idxOf_lt_length_of_mem hx
    subst hj
    refine ⟨by rw [List.length_map]; exact hlt, ?_, fun k hk => ?_⟩
    · rw [List.getElem_map, h.beq]
      exact decide_eq_true (List.getElem_idxOf hlt)
    · rw [List.getElem_map, h.beq]
      have : l[k] ≠ x := fun z => by
        have := List.not_of_lt_findIdx (p := (· == x)) (xs := l) (i := k) hk
        simp [z] at this
      simpa using this
  rw [e1]
  rfl
end
def leS (a b : Str) : Bool := decide (tl a ≤ tl b)
def sortS (l : List Str) : List Str := l.mergeSort leS
theorem leD_str (a b : Str) : D.leD (.str a) (.str b) = leS a b := by
  unfold D.leD leS
  simp only [D.py]
  rw [PySem.W.dataLt_str, PySem.W.not_lt_str]
theorem sorted_str (l : List Str) : D.sorted (.lst (l.map D.str)) = .ok (.lst ((sortS l).map D.str)) := by
  show (need (D.sortOk (l.map D.str)) >>= fun _ => (.ok (.lst (D.srt (l.map D.str))) : M D)) = _
  have h1 : D.sortOk (l.map D.str) = true := by
    unfold D.sortOk D.alk
    simp only [Bool.and_eq_true, Bool.or_eq_true, List.all_eq_true]
    refine ⟨fun d hd => ?_, fun a ha b hb => ?_, .inr fun d hd => ?_⟩
    · obtain ⟨x, _, rfl⟩ := List.mem_map.mp hd
      exact shp_str
    · obtain ⟨x, _, rfl⟩ := List.mem_map.mp ha
      obtain ⟨y, _, rfl⟩ := List.mem_map.mp hb
      simp [D.py, PySem.W.alike]
    · obtain ⟨x, _, rfl⟩ := List.mem_map.mp hd
      exact ⟨rfl, rfl⟩
  rw [h1]
  have e : D.srt (l.map D.str) = (sortS l).map D.str := by
    unfold D.srt sortS
    rw [List.map_mergeSort (s := D.leD)]
    intro a _ b _
    exact (leD_str a b).symm
  rw [e]
  rfl
theorem leS_trans (a b c : Str) (h1 : leS a b = true) (h2 : leS b c = true) : leS a c = true := by
  unfold leS at *
  exact decide_eq_true (List.le_trans (of_decide_eq_true h1) (of_decide_eq_true h2))
theorem leS_total (a b : Str) : (leS a b || leS b a) = true := by
  unfold leS
  rcases List.le_total (tl a) (tl b) with h | h
  · simp [h]
  · simp [h]
theorem leS_anti {a b : Str} (h1 : leS a b = true) (h2 : leS b a = true) : a = b := by
  unfold leS at *
  have := List.le_antisymm (of_decide_eq_true h1) (of_decide_eq_true h2)
  rw [← mk_tl a, ← mk_tl b, this]
theorem sortS_perm (l : List Str) : (sortS l).Perm l := List.mergeSort_perm l leS
theorem sortS_pw (l : List Str) : (sortS l).Pairwise (fun a b => leS a b = true) := List.pairwise_mergeSort leS_trans leS_total l
def leP (a b : Str × Str) : Bool := if a.1 = b.1 then leS a.2 b.2 else leS a.1 b.1
def prS (p : Str × Str) : D := .tup [.str p.1, .str p.2]
theorem en_prS : En 1 prS := en_pair (n := 0) en_str en_str
def sortP (l : List (Str × Str)) : List (Str × Str) := l.mergeSort leP
theorem leD_pair (a b : Str × Str) : D.leD (prS a) (prS b) = leP a b := by
  unfold D.leD leP prS
  simp only [D.py, D.pyL]
  rw [PySem.W.dataLt_pair (by simp [PySem.W.alike]) (by simp [PySem.W.alike]), PySem.W.dataLt_str, PySem.W.dataLt_str]
  simp only [PyData.eqv, beq_iff_eq]
  have q : ∀ x y : Str, (!decide (y.cps.toList < x.cps.toList)) = leS x y := fun x y => PySem.W.not_lt_str _ _
  by_cases e1 : a.1 = b.1
  · rw [if_pos e1.symm, if_pos e1]
    by_cases e2 : b.2 = a.2
    · rw [if_pos e2, e2]
      have := leS_total a.2 a.2
      simp at this
      simp [this]
    · rw [if_neg e2, q]
  · rw [if_neg (fun z => e1 z.symm), if_neg e1, q]
theorem sorted_pair (l : List (Str × Str)) : D.sorted (.lst (l.map prS)) = .ok (.lst ((sortP l).map prS)) := by
  show (need (D.sortOk (l.map prS)) >>= fun _ => (.ok (.lst (D.srt (l.map prS))) : M D)) = _
  have h1 : D.sortOk (l.map prS) = true := by
    unfold D.sortOk D.alk
    simp only [Bool.and_eq_true, Bool.or_eq_true, List.all_eq_true]
    refine ⟨fun d hd => ?_, fun a ha b hb => ?_, .inl fun d hd => ?_⟩
    · obtain ⟨x, _, rfl⟩ := List.mem_map.mp hd
      exact shp_le (en_prS.shp x) (by omega)
    · obtain ⟨x, _, rfl⟩ := List.mem_map.mp ha
      obtain ⟨y, _, rfl⟩ := List.mem_map.mp hb
      simp [prS, D.py, D.pyL, PySem.W.alike, PySem.W.alikeAll]
    · obtain ⟨x, _, rfl⟩ := List.mem_map.mp hd
      rfl
  rw [h1]
  have e : D.srt (l.map prS) = (sortP l).map prS := by
    unfold D.srt sortP
    rw [List.map_mergeSort (s := D.leD)]
    intro a _ b _
    exact (leD_pair a b).symm
  rw [e]
  rfl
theorem leP_total (a b : Str × Str) : (leP a b || leP b a) = true := by
  unfold leP
  by_cases e : a.1 = b.1
  · rw [if_pos e, if_pos e.symm]
    exact leS_total _ _
  · rw [if_neg e, if_neg fun z => e z.symm]
    exact leS_total _ _
theorem leP_trans (a b c : Str × Str) (h1 : leP a b = true) (h2 : leP b c = true) : leP a c = true := by
  unfold leP at *
  by_cases e1 : a.1 = b.1
  · rw [if_pos e1] at h1
    by_cases e2 : b.1 = c.1
    · rw [if_pos e2] at h2
      rw [if_pos (e1.trans e2)]
      exact leS_trans _ _ _ h1 h2
    · rw [if_neg e2] at h2
      rw [if_neg fun z => e2 (e1.symm.trans z), e1]
      exact h2
  · rw [if_neg e1] at h1
    by_cases e2 : b.1 = c.1
    · rw [if_neg fun z => e1 (z.trans e2.symm), ← e2]
      exact h1
    · rw [if_neg e2] at h2
      have h3 := leS_trans _ _ _ h1 h2
      by_cases e3 : a.1 = c.1
      · rw [← e3] at h2
        exact absurd (leS_anti h1 h2) e1
      · rw [if_neg e3]
        exact h3
theorem sortP_perm (l : List (Str × Str)) : (sortP l).Perm l := List.mergeSort_perm l leP
theorem sortP_pw (l : List (Str × Str)) : (sortP l).Pairwise (fun a b => leP a b = true) := List.pairwise_mergeSort leP_trans leP_total l
theorem nodup_len {α : Type} [DecidableEq α] : ∀ {fs l : List α}, fs.Nodup → (∀ x ∈ fs, x ∈ l) → fs.length ≤ l.length
  | [], _, _, _ => Nat.zero_le _
  | a :: fs, l, hd, hf => by
    rw [List.nodup_cons] at hd
    have ha : a ∈ l := hf a (List.mem_cons_self ..)
    have h1 := nodup_len (fs := fs) (l := l.erase a) hd.2 fun x hx => (List.mem_erase_of_ne (fun z => hd.1 (by rw [← z]; exact hx))).mpr (hf x (List.mem_cons_of_mem _ hx))
    rw [List.length_erase_of_mem ha] at h1
    have : 0 < l.length := List.length_pos_of_mem ha
    rw [List.length_cons]
    omega
theorem nodup_snoc {α : Type} {fs : List α} {q : α} (h : fs.Nodup) (hq : ¬ q ∈ fs) : (fs ++ [q]).Nodup := List.nodup_append.mpr ⟨h, List.nodup_cons.mpr ⟨(fun z => nomatch z), List.nodup_nil⟩, fun a ha b hb z => by
  rw [List.mem_singleton.mp hb] at z
  rw [z] at ha
  exact hq ha⟩
theorem nodup_all {α : Type} [DecidableEq α] {fs l : List α} (hd : fs.Nodup) (hf : ∀ x ∈ fs, x ∈ l) (hl : l.length ≤ fs.length) : ∀ x ∈ l, x ∈ fs := fun x hx => by
  by_cases e : x ∈ fs
  · exact e
  · have := nodup_len (nodup_snoc hd e) (l := l) (fun y hy => by
      rcases List.mem_append.mp hy with hy | hy
      · exact hf y hy
      · rw [List.mem_singleton.mp hy]
        exact hx)
    rw [List.length_append, List.length_singleton] at this
    omega
theorem loopF_app {S : Type} {f : S → D → M S} : ∀ (a b : List D) (s : S), loopF f (a ++ b) s = (loopF f a s >>= fun s => loopF f b s)
  | [], b, s => rfl
  | d :: a, b, s => by
    rw [List.cons_append, loopF_cons, loopF_cons]
    cases e : f s d with
    | error z => rfl
    | ok s' => exact loopF_app a b s'
theorem loopF_snoc {S : Type} {f : S → D → M S} (a : List D) (d : D) (s : S) : loopF f (a ++ [d]) s = (loopF f a s >>= fun s => f s d) := by
  rw [loopF_app]
  congr 1
  funext s'
  rw [loopF_cons]
  cases f s' d <;> rfl
section
variable {S : Type}
theorem loopR_go {f : S → D → M (Rs S)} {s s' : S} {d : D} {ds : List D} (h : f s d = .ok (.go s')) : loopR f (d :: ds) s = loopR f ds s' := by
  show (f s d >>= _) = _
  rw [h]
  rfl
theorem loopR_rt {f : S → D → M (Rs S)} {s : S} {d x : D} {ds : List D} (h : f s d = .ok (.rt x)) : loopR f (d :: ds) s = .ok (.inr x) := by
  show (f s d >>= _) = _
  rw [h]
  rfl
end
end DL

set_option Elab.async false
set_option linter.all false
set_option maxRecDepth 100000
set_option maxHeartbeats 4000000
namespace LawWalk
open PySem PySem.Spec L2 DL
def m_law_row_l1 (cell_1 : D) : (List D × D × D) → D → M (List D × D × D) := fun s k_1 => match s with | (row_here_2, rest_2, mixed_2) => ((B2 D.mod (B1 (f1 D.toInt) (A1 (B2 D.add (B2 D.mul (.ok mixed_2) (.ok (.int 16807))) (B2 D.mul (.ok (.int 271)) (B2 D.add (.ok k_1) (.ok (.int 3))))) A0)) (.ok (.int 2147483629))) >>= fun mixed_3 => (mIf (B2 D.ge (B1 (f1 D.abs) (A1 (.ok cell_1) A0)) (B2 D.pow (.ok (.int 10)) (.ok (.int 18)))) (mPush row_here_2 (B2 D.mod (B1 (f1 D.toInt) (A1 (.ok rest_2) A0)) (.ok (.int 1009))) >>= fun row_here_3 => ((B2 D.fdiv (.ok rest_2) (.ok (.int 1009))) >>= fun rest_3 => (.ok (row_here_3, rest_3, mixed_3)))) (mPush row_here_2 (B2 D.mod (B1 (f1 D.toInt) (A1 (B2 D.fdiv (.ok mixed_3) (.ok (.int 7))) A0)) (.ok (.int 1009))) >>= fun row_here_4 => (.ok (row_here_4, rest_2, mixed_3)))))
def g_law_row : D → D → M (D) := fun cell_1 many_1 => ((nLst A0) >>= fun row_here_1 => ((B1 (f1 D.abs) (A1 (.ok cell_1) A0)) >>= fun rest_1 => ((B2 D.mod (B1 (f1 D.toInt) (A1 (B2 D.add (B2 D.mul (.ok rest_1) (.ok (.int 48271))) (.ok (.int 69621))) A0)) (.ok (.int 2147483647))) >>= fun mixed_1 => (((B1 D.range1 (A1 (.ok many_1) A0)) >>= fun ds => loopF (m_law_row_l1 cell_1) ds (row_here_1, rest_1, mixed_1)) >>= fun s => match s with | (row_here_5, rest_4, mixed_4) => (.ok (.lst row_here_5))))))
def m_law_row : List D → M (D) := a2 g_law_row
theorem e_law_row (cell_1 many_1 : D) : m_law_row [cell_1, many_1] = g_law_row cell_1 many_1 := a2_ g_law_row cell_1 many_1
theorem sc_law_row : FnScope ["_law_cell", "_law_many", "_law_row_here", "_law_rest", "_law_mixed", "_law_k"] ["_law_cell", "_law_many"] (d_law_row).scope := ⟨rfl, rfl, rfl, by decide +kernel, rfl, by decide +kernel, by decide +kernel⟩
theorem ok_law_row {P : Program} {w : World} {K : PySem.W.Frag} {mg : Str → Option Value} {base : Heap} (L : Lw K mg) {fd : FuncData} (F : DefOk K d_law_row fd) : FnOk P w K mg base (L2.CX P w) 1 (He.fAd K d_law_row.at_) fd ["_law_cell", "_law_many"] (spD K [true, true] m_law_row) := by
  refine fn_def F sc_law_row rfl (fun cdv A outer s H E hr ds hl => ?_)
  match ds, hl with
  | [cell_1, many_1], _ =>
    exact db_G [.bor cell_1, .bor many_1, .un, .un, .un, .un] rfl <| db_step (fun row_here_1 => [.bor cell_1, .bor many_1, .own row_here_1, .un, .un, .un]) (ds_setN (dn_lst da_nil) (fun pe => ps_set (i := 2) sc_law_row.nd rfl (Or.inl rfl) pe)) (fun _ => rfl) fun row_here_1 => db_step (fun rest_1 => [.bor cell_1, .bor many_1, .own row_here_1, .val rest_1, .un, .un]) (ds_set (de_callB call_abs abs_op rfl (L.free (fa_0)) boot_abs_ (dra_cons (dr_bor (i := 0) rfl (pv 0)) dra_nil)) (fun pe => ps_set (i := 3) sc_law_row.nd rfl (Or.inl rfl) pe)) (fun _ => rfl) fun rest_1 => db_step (fun mixed_1 => [.bor cell_1, .bor many_1, .own row_here_1, .val rest_1, .val mixed_1, .un]) (ds_set (de_mod (DR.of (de_callTy int_R int_op rfl (L.free (fa_1)) boot_int_ (dra_cons (DR.of (de_add (DR.of (de_mul (dr_val (i := 3) rfl (pv 3)) (DR.of de_int))) (DR.of de_int))) dra_nil))) (DR.of de_int)) (fun pe => ps_set (i := 4) sc_law_row.nd rfl (Or.inl rfl) pe)) (fun _ => rfl) fun mixed_1 => db_any 5 <| db_step (fun (s : List D × D × D) => [.bor cell_1, .bor many_1, .own s.1, .val s.2.1, .val s.2.2, .any]) (ds_for1 (i := 5) (S := List D × D × D) (Γ := (fun (s : List D × D × D) => [.bor cell_1, .bor many_1, .own s.1, .val s.2.1, .val s.2.2, .any])) (f := (m_law_row_l1 cell_1)) (row_here_1, rest_1, mixed_1) rfl ctx_def (di_range1 rfl (L.free (fa_2)) (dra_cons (dr_bor (i := 1) rfl (pv 1)) dra_nil)) (pg_name (i := 5) sc_law_row.nd rfl (Or.inl rfl)) (fun s k_1 => match s with | (row_here_2, rest_2, mixed_2) => db_G [.bor cell_1, .bor many_1, .own row_here_2, .val rest_2, .val mixed_2, .val k_1] rfl <| db_step (fun mixed_3 => [.bor cell_1, .bor many_1, .own row_here_2, .val rest_2, .val mixed_3, .val k_1]) (ds_set (de_mod (DR.of (de_callTy int_R int_op rfl (L.free (fa_1)) boot_int_ (dra_cons (DR.of (de_add (DR.of (de_mul (dr_val (i := 4) rfl (pv 4)) (DR.of de_int))) (DR.of (de_mul (DR.of de_int) (DR.of (de_add (dr_val (i := 5) rfl (pv 5)) (DR.of de_int))))))) dra_nil))) (DR.of de_int)) (fun pe => ps_set (i := 4) sc_law_row.nd rfl (Or.inl rfl) pe)) (fun _ => rfl) fun mixed_3 => db_last (ds_if (dt_cmp op_ge cmp_ge (DR.of (de_callB call_abs abs_op rfl (L.free (fa_0)) boot_abs_ (dra_cons (dr_bor (i := 0) rfl (pv 0)) dra_nil))) (DR.of (de_pow (DR.of de_int) (DR.of de_int))) (nomark _)) (db_step (fun row_here_3 => [.bor cell_1, .bor many_1, .own row_here_3, .val rest_2, .val mixed_3, .val k_1]) (ds_pushO (i := 2) rfl (pv 2) (de_mod (DR.of (de_callTy int_R int_op rfl (L.free (fa_1)) boot_int_ (dra_cons (dr_val (i := 3) rfl (pv 3)) dra_nil))) (DR.of de_int))) (fun _ => rfl) fun row_here_3 => db_step (fun rest_3 => [.bor cell_1, .bor many_1, .own row_here_3, .val rest_3, .val mixed_3, .val k_1]) (ds_set (de_fdiv (dr_val (i := 3) rfl (pv 3)) (DR.of de_int)) (fun pe => ps_set (i := 3) sc_law_row.nd rfl (Or.inl rfl) pe)) (fun _ => rfl) fun rest_3 => db_any 5 <| db_nil rfl) (db_step (fun row_here_4 => [.bor cell_1, .bor many_1, .own row_here_4, .val rest_2, .val mixed_3, .val k_1]) (ds_pushO (i := 2) rfl (pv 2) (de_mod (DR.of (de_callTy int_R int_op rfl (L.free (fa_1)) boot_int_ (dra_cons (DR.of (de_fdiv (dr_val (i := 4) rfl (pv 4)) (DR.of de_int))) dra_nil))) (DR.of de_int))) (fun _ => rfl) fun row_here_4 => db_any 5 <| db_nil rfl)))) (fun _ => rfl) (fun s => match s with | (row_here_5, rest_4, mixed_4) => db_G [.bor cell_1, .bor many_1, .own row_here_5, .val rest_4, .val mixed_4, .any] rfl <| db_fzO 2 rfl <| db_last (ds_ret (de_val (i := 2) rfl (pv 2))))
def m_law_numbers_l1 : (List D) → D → M (List D) := fun numbers_here_3 number_1 => (mPush numbers_here_3 (.ok number_1) >>= fun numbers_here_4 => (.ok numbers_here_4))
def m_law_numbers_l2 (each_1 : D) : (List D) → D → M (List D) := fun numbers_here_2 cell_1 => (((B1 D.items (B1 m_law_row (A1 (.ok cell_1) (A1 (.ok each_1) A0)))) >>= fun ds => loopF m_law_numbers_l1 ds numbers_here_2) >>= fun numbers_here_5 => (.ok numbers_here_5))
def m_law_numbers_l3_c (many_1 : D) : (List D) → M Bool := fun numbers_here_7 => (B2 D.lt (B1 (f1 D.len) (A1 (.ok (.lst numbers_here_7)) A0)) (.ok many_1))
def m_law_numbers_l3 : (List D) → M (List D) := fun numbers_here_7 => (mPush numbers_here_7 (.ok (.int 0)) >>= fun numbers_here_8 => (.ok numbers_here_8))
def g_law_numbers : D → D → M (D) := fun script_1 many_1 => ((S3 (.ok script_1) oN (B1 D.bnd (.ok (.int 63)))) >>= fun cells_1 => ((B2 D.add (.ok (.int 1)) (B2 D.fdiv (.ok many_1) (B1 (f2 D.max2) (A1 (.ok (.int 1)) (A1 (B1 (f1 D.len) (A1 (.ok cells_1) A0)) A0))))) >>= fun each_1 => ((nLst A0) >>= fun numbers_here_1 => (((B1 D.items (.ok cells_1)) >>= fun ds => loopF (m_law_numbers_l2 each_1) ds numbers_here_1) >>= fun numbers_here_6 => ((whileF (m_law_numbers_l3_c many_1) m_law_numbers_l3 100000 numbers_here_6) >>= fun numbers_here_9 => (S3 (.ok (.lst numbers_here_9)) oN (B1 D.bnd (.ok many_1))))))))
def m_law_numbers : List D → M (D) := a2 g_law_numbers
theorem e_law_numbers (script_1 many_1 : D) : m_law_numbers [script_1, many_1] = g_law_numbers script_1 many_1 := a2_ g_law_numbers script_1 many_1
theorem sc_law_numbers : FnScope ["_law_script", "_law_many", "_law_cells", "_law_each", "_law_numbers_here", "_law_cell", "_law_number"] ["_law_script", "_law_many"] (d_law_numbers).scope := ⟨rfl, rfl, rfl, by decide +kernel, rfl, by decide +kernel, by decide +kernel⟩
theorem ok_law_numbers {P : Program} {w : World} {K : PySem.W.Frag} {mg : Str → Option Value} {base : Heap} (L : Lw K mg) {fd : FuncData} (F : DefOk K d_law_numbers fd) : FnOk P w K mg base (L2.CX P w) 2 (He.fAd K d_law_numbers.at_) fd ["_law_script", "_law_many"] (spD K [true, true] m_law_numbers) := by
  obtain ⟨fd_law_row, F_law_row⟩ := L.c.def_ 0 (d := d_law_row) rfl
  have k_law_row := ok_law_row (P := P) (w := w) (base := base) L F_law_row
  have b_law_row : Binds K fd_law_row ["_law_cell", "_law_many"] [] := F_law_row.bindsN fun _ _ _ _ _ _ us hl => match us, hl with | [_, _], _ => rfl
  refine fn_def F sc_law_numbers rfl (fun cdv A outer s H E hr ds hl => ?_)
  match ds, hl with
  | [script_1, many_1], _ =>
    exact db_G [.bor script_1, .bor many_1, .un, .un, .un, .un, .un] rfl <| db_step (fun cells_1 => [.bor script_1, .bor many_1, .val cells_1, .un, .un, .un, .un]) (ds_set (de_sl (dr_bor (i := 0) rfl (pv 0)) do_none (do_some (DR.of de_int))) (fun pe => ps_set (i := 2) sc_law_numbers.nd rfl (Or.inl rfl) pe)) (fun _ => rfl) fun cells_1 => db_step (fun each_1 => [.bor script_1, .bor many_1, .val cells_1, .val each_1, .un, .un, .un]) (ds_set (de_add (DR.of de_int) (DR.of (de_fdiv (dr_bor (i := 1) rfl (pv 1)) (DR.of (de_callB (call_max2 (CtxOk.calm ctx_def)) max_op rfl (L.free (fa_4)) boot_max_ (dra_cons (DR.of de_int) (dra_cons (DR.of (de_callB lenR len_op rfl (L.free (fa_3)) boot_len_ (dra_cons (dr_val (i := 2) rfl (pv 2)) dra_nil))) dra_nil))))))) (fun pe => ps_set (i := 3) sc_law_numbers.nd rfl (Or.inl rfl) pe)) (fun _ => rfl) fun each_1 => db_step (fun numbers_here_1 => [.bor script_1, .bor many_1, .val cells_1, .val each_1, .own numbers_here_1, .un, .un]) (ds_setN (dn_lst da_nil) (fun pe => ps_set (i := 4) sc_law_numbers.nd rfl (Or.inl rfl) pe)) (fun _ => rfl) fun numbers_here_1 => db_any 5 <| db_any 6 <| db_step (fun (s : List D) => [.bor script_1, .bor many_1, .val cells_1, .val each_1, .own s, .any, .any]) (ds_for1 (i := 5) (S := List D) (Γ := (fun (s : List D) => [.bor script_1, .bor many_1, .val cells_1, .val each_1, .own s, .any, .any])) (f := (m_law_numbers_l2 each_1)) numbers_here_1 rfl ctx_def (di_seq (de_val (i := 2) rfl (pv 2))) (pg_name (i := 5) sc_law_numbers.nd rfl (Or.inl rfl)) (fun numbers_here_2 cell_1 => db_G [.bor script_1, .bor many_1, .val cells_1, .val each_1, .own numbers_here_2, .val cell_1, .any] rfl <| db_step (fun (s : List D) => [.bor script_1, .bor many_1, .val cells_1, .val each_1, .own s, .val cell_1, .any]) (ds_for1 (i := 6) (S := List D) (Γ := (fun (s : List D) => [.bor script_1, .bor many_1, .val cells_1, .val each_1, .own s, .val cell_1, .any])) (f := m_law_numbers_l1) numbers_here_2 rfl ctx_def (di_seq (de_call ctx_def k_law_row (hr.mono (by decide)) rfl (L.glo (fa_5)) F_law_row.kp b_law_row (dam_bor (dr_val (i := 5) rfl (pv 5)) (dam_bor (dr_val (i := 3) rfl (pv 3)) dam_nil)))) (pg_name (i := 6) sc_law_numbers.nd rfl (Or.inl rfl)) (fun numbers_here_3 number_1 => db_G [.bor script_1, .bor many_1, .val cells_1, .val each_1, .own numbers_here_3, .val cell_1, .val number_1] rfl <| db_step (fun numbers_here_4 => [.bor script_1, .bor many_1, .val cells_1, .val each_1, .own numbers_here_4, .val cell_1, .val number_1]) (ds_pushO (i := 4) rfl (pv 4) (de_val (i := 6) rfl (pv 6))) (fun _ => rfl) fun numbers_here_4 => db_any 6 <| db_nil rfl)) (fun _ => rfl) (fun numbers_here_5 => db_G [.bor script_1, .bor many_1, .val cells_1, .val each_1, .own numbers_here_5, .val cell_1, .any] rfl <| db_any 5 <| db_nil rfl))) (fun _ => rfl) (fun numbers_here_6 => db_G [.bor script_1, .bor many_1, .val cells_1, .val each_1, .own numbers_here_6, .any, .any] rfl <| db_step (fun (s : List D) => [.bor script_1, .bor many_1, .val cells_1, .val each_1, .own s, .any, .any]) (ds_whileF (S := List D) (Γ := (fun (s : List D) => [.bor script_1, .bor many_1, .val cells_1, .val each_1, .own s, .any, .any])) (mc := (m_law_numbers_l3_c many_1)) (f := m_law_numbers_l3) 100000 numbers_here_6 rfl (CtxOk.own ctx_def) (fun numbers_here_7 => dt_G [.bor script_1, .bor many_1, .val cells_1, .val each_1, .own numbers_here_7, .any, .any] rfl <| (dt_cmp (op_lt.or op_lt_str) cmp_lt (DR.of (de_callB lenR len_op rfl (L.free (fa_3)) boot_len_ (dra_cons (dr_own (i := 4) rfl (pv 4)) dra_nil))) (dr_bor (i := 1) rfl (pv 1)) (nomark _))) (fun numbers_here_7 => db_G [.bor script_1, .bor many_1, .val cells_1, .val each_1, .own numbers_here_7, .any, .any] rfl <| db_step (fun numbers_here_8 => [.bor script_1, .bor many_1, .val cells_1, .val each_1, .own numbers_here_8, .any, .any]) (ds_pushO (i := 4) rfl (pv 4) de_int) (fun _ => rfl) fun numbers_here_8 => db_nil rfl)) (fun _ => rfl) (fun numbers_here_9 => db_G [.bor script_1, .bor many_1, .val cells_1, .val each_1, .own numbers_here_9, .any, .any] rfl <| db_last (ds_ret (de_sl (dr_own (i := 4) rfl (pv 4)) do_none (do_some (dr_bor (i := 1) rfl (pv 1)))))))
def m_law_names_l1 (number_1 : D) (letters_1 : D) (rest_1 : D) (place_1 : D) : (List D) → D → M (List D) := fun names_here_2 k_2 => ((.ok rest_1) >>= fun own_1 => ((mIf (B2 D.eq (B2 D.mod (B1 (f1 D.toInt) (A1 (B2 D.add (B2 D.fdiv (.ok number_1) (.ok (.int 121))) (.ok k_2)) A0)) (.ok (.int 3))) (.ok (.int 0))) ((S3 (.ok rest_1) (B1 D.bnd (.ok (.int 1))) oN) >>= fun own_2 => (.ok own_2)) (.ok own_1) : M (D)) >>= fun own_3 => ((B1 (f2 D.min2) (A1 (.ok place_1) (A1 (B1 (f1 D.len) (A1 (.ok own_3) A0)) A0))) >>= fun spot_1 => ((.ok (.int 5)) >>= fun step_1 => ((mIf (B2 D.eq (B2 D.mod (B1 (f1 D.toInt) (A1 (B2 D.fdiv (.ok number_1) (.ok (.int 363))) A0)) (.ok (.int 2))) (.ok (.int 1))) ((.ok (.int 31)) >>= fun step_2 => (.ok step_2)) (.ok step_1) : M (D)) >>= fun step_3 => ((B2 D.add (B2 D.ix (.ok letters_1) (B2 D.mod (B1 (f1 D.toInt) (A1 (B2 D.add (.ok number_1) (B2 D.mul (.ok (.int 3)) (.ok k_2))) A0)) (.ok (.int 26)))) (S3 (.ok own_3) oN (B1 D.bnd (.ok spot_1)))) >>= fun first_1 => (mPush names_here_2 (B2 D.add (B2 D.add (.ok first_1) (B2 D.ix (.ok letters_1) (B2 D.mod (B1 (f1 D.toInt) (A1 (B2 D.add (.ok number_1) (B2 D.mul (.ok step_3) (.ok k_2))) A0)) (.ok (.int 36))))) (S3 (.ok own_3) (B1 D.bnd (.ok spot_1)) oN)) >>= fun names_here_3 => (.ok names_here_3))))))))
def g_law_names : D → D → M (D) := fun number_1 many_1 => ((.ok (.str "abcdefghijklmnopqrstuvwxyz0123456789")) >>= fun letters_1 => ((B2 D.mod (B1 (f1 D.toInt) (A1 (.ok number_1) A0)) (.ok (.int 11))) >>= fun size_1 => ((meth D.isStr (.ok (.str "")) (A1 (L1 ((B1 D.range1 (A1 (.ok size_1) A0)) >>= fun ds => compL (fElt noT (fun k_1 => (B2 D.ix (.ok letters_1) (B2 D.mod (B1 (f1 D.toInt) (A1 (B2 D.add (.ok number_1) (B2 D.mul (B2 D.mul (.ok (.int 7)) (.ok k_1)) (.ok k_1))) A0)) (.ok (.int 36)))))) ds)) A0) (m1 D.join)) >>= fun rest_1 => ((B2 D.mod (B1 (f1 D.toInt) (A1 (B2 D.fdiv (.ok number_1) (.ok (.int 11))) A0)) (B2 D.add (.ok size_1) (.ok (.int 1)))) >>= fun place_1 => ((nLst A0) >>= fun names_here_1 => (((B1 D.range1 (A1 (.ok many_1) A0)) >>= fun ds => loopF (m_law_names_l1 number_1 letters_1 rest_1 place_1) ds names_here_1) >>= fun names_here_4 => (.ok (.lst names_here_4))))))))
def m_law_names : List D → M (D) := a2 g_law_names
theorem e_law_names (number_1 many_1 : D) : m_law_names [number_1, many_1] = g_law_names number_1 many_1 := a2_ g_law_names number_1 many_1
theorem sc_law_names : FnScope ["_law_number", "_law_many", "_law_letters", "_law_size", "_law_rest", "_law_place", "_law_names_here", "_law_k", "_law_own", "_law_spot", "_law_step", "_law_first"] ["_law_number", "_law_many"] (d_law_names).scope := ⟨rfl, rfl, rfl, by decide +kernel, rfl, by decide +kernel, by decide +kernel⟩
theorem ok_law_names {P : Program} {w : World} {K : PySem.W.Frag} {mg : Str → Option Value} {base : Heap} (L : Lw K mg) {fd : FuncData} (F : DefOk K d_law_names fd) : FnOk P w K mg base (L2.CX P w) 1 (He.fAd K d_law_names.at_) fd ["_law_number", "_law_many"] (spD K [true, true] m_law_names) := by
  refine fn_def F sc_law_names rfl (fun cdv A outer s H E hr ds hl => ?_)
  match ds, hl with
  | [number_1, many_1], _ =>
    exact db_G [.bor number_1, .bor many_1, .un, .un, .un, .un, .un, .un, .un, .un, .un, .un] rfl <| db_step (fun letters_1 => [.bor number_1, .bor many_1, .val letters_1, .un, .un, .un, .un, .un, .un, .un, .un, .un]) (ds_set (de_str (by decide +kernel)) (fun pe => ps_set (i := 2) sc_law_names.nd rfl (Or.inr rfl) pe)) (fun _ => rfl) fun letters_1 => db_step (fun size_1 => [.bor number_1, .bor many_1, .val letters_1, .val size_1, .un, .un, .un, .un, .un, .un, .un, .un]) (ds_set (de_mod (DR.of (de_callTy int_R int_op rfl (L.free (fa_1)) boot_int_ (dra_cons (dr_bor (i := 0) rfl (pv 0)) dra_nil))) (DR.of de_int)) (fun pe => ps_set (i := 3) sc_law_names.nd rfl (Or.inl rfl) pe)) (fun _ => rfl) fun size_1 => db_step (fun rest_1 => [.bor number_1, .bor many_1, .val letters_1, .val size_1, .val rest_1, .un, .un, .un, .un, .un, .un, .un]) (ds_set (de_join (DR.of (de_str (by decide +kernel))) (dra_cons (DR.of (DNL.de (dn_lc1 (own := [("_law_k", 7)]) (i := 7) (me := fun k_1 => (B2 D.ix (.ok letters_1) (B2 D.mod (B1 (f1 D.toInt) (A1 (B2 D.add (.ok number_1) (B2 D.mul (B2 D.mul (.ok (.int 7)) (.ok k_1)) (.ok k_1))) A0)) (.ok (.int 36))))) (CtxOk.calm ctx_def) sc_law_names.nd (DIR.of (di_range1 rfl (L.free (fa_2)) (dra_cons (dr_val (i := 3) rfl (pv 3)) dra_nil))) (blkOk_by (by kernel_rfl)) rfl (fun _ _ _ _ _ => pg_name (i := 7) sc_law_names.nd rfl (Or.inl rfl)) (fun _ _ _ _ _ k_1 => (de_ix hr.u70 (dr_val (i := 2) rfl (pv 2)) (DR.of (de_mod (DR.of (de_callTy int_R int_op rfl (L.free (fa_1)) boot_int_ (dra_cons (DR.of (de_add (dr_bor (i := 0) rfl (pv 0)) (DR.of (de_mul (DR.of (de_mul (DR.of de_int) (dr_val (i := 7) rfl (pv 7)))) (dr_val (i := 7) rfl (pv 7)))))) dra_nil))) (DR.of de_int)))))))) dra_nil)) (fun pe => ps_set (i := 4) sc_law_names.nd rfl (Or.inl rfl) pe)) (fun _ => rfl) fun rest_1 => db_step (fun place_1 => [.bor number_1, .bor many_1, .val letters_1, .val size_1, .val rest_1, .val place_1, .un, .un, .un, .un, .un, .un]) (ds_set (de_mod (DR.of (de_callTy int_R int_op rfl (L.free (fa_1)) boot_int_ (dra_cons (DR.of (de_fdiv (dr_bor (i := 0) rfl (pv 0)) (DR.of de_int))) dra_nil))) (DR.of (de_add (dr_val (i := 3) rfl (pv 3)) (DR.of de_int)))) (fun pe => ps_set (i := 5) sc_law_names.nd rfl (Or.inl rfl) pe)) (fun _ => rfl) fun place_1 => db_step (fun names_here_1 => [.bor number_1, .bor many_1, .val letters_1, .val size_1, .val rest_1, .val place_1, .own names_here_1, .un, .un, .un, .un, .un]) (ds_setN (dn_lst da_nil) (fun pe => ps_set (i := 6) sc_law_names.nd rfl (Or.inl rfl) pe)) (fun _ => rfl) fun names_here_1 => db_any 7 <| db_any 8 <| db_any 9 <| db_any 10 <| db_any 11 <| db_step (fun (s : List D) => [.bor number_1, .bor many_1, .val letters_1, .val size_1, .val rest_1, .val place_1, .own s, .any, .any, .any, .any, .any]) (ds_for1 (i := 7) (S := List D) (Γ := (fun (s : List D) => [.bor number_1, .bor many_1, .val letters_1, .val size_1, .val rest_1, .val place_1, .own s, .any, .any, .any, .any, .any])) (f := (m_law_names_l1 number_1 letters_1 rest_1 place_1)) names_here_1 rfl ctx_def (di_range1 rfl (L.free (fa_2)) (dra_cons (dr_bor (i := 1) rfl (pv 1)) dra_nil)) (pg_name (i := 7) sc_law_names.nd rfl (Or.inl rfl)) (fun names_here_2 k_2 => db_G [.bor number_1, .bor many_1, .val letters_1, .val size_1, .val rest_1, .val place_1, .own names_here_2, .val k_2, .any, .any, .any, .any] rfl <| db_step (fun own_1 => [.bor number_1, .bor many_1, .val letters_1, .val size_1, .val rest_1, .val place_1, .own names_here_2, .val k_2, .val own_1, .any, .any, .any]) (ds_set (de_val (i := 4) rfl (pv 4)) (fun pe => ps_set (i := 8) sc_law_names.nd rfl (Or.inl rfl) pe)) (fun _ => rfl) fun own_1 => db_step (fun (s : D) => [.bor number_1, .bor many_1, .val letters_1, .val size_1, .val rest_1, .val place_1, .own names_here_2, .val k_2, .val s, .any, .any, .any]) (ds_if (dt_cmp (op_eqD hr.u64) cmp_eq (DR.of (de_mod (DR.of (de_callTy int_R int_op rfl (L.free (fa_1)) boot_int_ (dra_cons (DR.of (de_add (DR.of (de_fdiv (dr_bor (i := 0) rfl (pv 0)) (DR.of de_int))) (dr_val (i := 7) rfl (pv 7)))) dra_nil))) (DR.of de_int))) (DR.of de_int) (nomark _)) (db_step (fun own_2 => [.bor number_1, .bor many_1, .val letters_1, .val size_1, .val rest_1, .val place_1, .own names_here_2, .val k_2, .val own_2, .any, .any, .any]) (ds_set (de_sl (dr_val (i := 4) rfl (pv 4)) (do_some (DR.of de_int)) do_none) (fun pe => ps_set (i := 8) sc_law_names.nd rfl (Or.inl rfl) pe)) (fun _ => rfl) fun own_2 => db_nil rfl) (db_nil rfl)) (fun _ => rfl) (fun own_3 => db_G [.bor number_1, .bor many_1, .val letters_1, .val size_1, .val rest_1, .val place_1, .own names_here_2, .val k_2, .val own_3, .any, .any, .any] rfl <| db_step (fun spot_1 => [.bor number_1, .bor many_1, .val letters_1, .val size_1, .val rest_1, .val place_1, .own names_here_2, .val k_2, .val own_3, .val spot_1, .any, .any]) (ds_set (de_callB (call_min2 (CtxOk.calm ctx_def)) min_op rfl (L.free (fa_6)) boot_min_ (dra_cons (dr_val (i := 5) rfl (pv 5)) (dra_cons (DR.of (de_callB lenR len_op rfl (L.free (fa_3)) boot_len_ (dra_cons (dr_val (i := 8) rfl (pv 8)) dra_nil))) dra_nil))) (fun pe => ps_set (i := 9) sc_law_names.nd rfl (Or.inl rfl) pe)) (fun _ => rfl) fun spot_1 => db_step (fun step_1 => [.bor number_1, .bor many_1, .val letters_1, .val size_1, .val rest_1, .val place_1, .own names_here_2, .val k_2, .val own_3, .val spot_1, .val step_1, .any]) (ds_set de_int (fun pe => ps_set (i := 10) sc_law_names.nd rfl (Or.inl rfl) pe)) (fun _ => rfl) fun step_1 => db_step (fun (s : D) => [.bor number_1, .bor many_1, .val letters_1, .val size_1, .val rest_1, .val place_1, .own names_here_2, .val k_2, .val own_3, .val spot_1, .val s, .any]) (ds_if (dt_cmp (op_eqD hr.u64) cmp_eq (DR.of (de_mod (DR.of (de_callTy int_R int_op rfl (L.free (fa_1)) boot_int_ (dra_cons (DR.of (de_fdiv (dr_bor (i := 0) rfl (pv 0)) (DR.of de_int))) dra_nil))) (DR.of de_int))) (DR.of de_int) (nomark _)) (db_step (fun step_2 => [.bor number_1, .bor many_1, .val letters_1, .val size_1, .val rest_1, .val place_1, .own names_here_2, .val k_2, .val own_3, .val spot_1, .val step_2, .any]) (ds_set de_int (fun pe => ps_set (i := 10) sc_law_names.nd rfl (Or.inl rfl) pe)) (fun _ => rfl) fun step_2 => db_nil rfl) (db_nil rfl)) (fun _ => rfl) (fun step_3 => db_G [.bor number_1, .bor many_1, .val letters_1, .val size_1, .val rest_1, .val place_1, .own names_here_2, .val k_2, .val own_3, .val spot_1, .val step_3, .any] rfl <| db_step (fun first_1 => [.bor number_1, .bor many_1, .val letters_1, .val size_1, .val rest_1, .val place_1, .own names_here_2, .val k_2, .val own_3, .val spot_1, .val step_3, .val first_1]) (ds_set (de_add (DR.of (de_ix hr.u70 (dr_val (i := 2) rfl (pv 2)) (DR.of (de_mod (DR.of (de_callTy int_R int_op rfl (L.free (fa_1)) boot_int_ (dra_cons (DR.of (de_add (dr_bor (i := 0) rfl (pv 0)) (DR.of (de_mul (DR.of de_int) (dr_val (i := 7) rfl (pv 7)))))) dra_nil))) (DR.of de_int))))) (DR.of (de_sl (dr_val (i := 8) rfl (pv 8)) do_none (do_some (dr_val (i := 9) rfl (pv 9)))))) (fun pe => ps_set (i := 11) sc_law_names.nd rfl (Or.inl rfl) pe)) (fun _ => rfl) fun first_1 => db_step (fun names_here_3 => [.bor number_1, .bor many_1, .val letters_1, .val size_1, .val rest_1, .val place_1, .own names_here_3, .val k_2, .val own_3, .val spot_1, .val step_3, .val first_1]) (ds_pushO (i := 6) rfl (pv 6) (de_add (DR.of (de_add (dr_val (i := 11) rfl (pv 11)) (DR.of (de_ix hr.u70 (dr_val (i := 2) rfl (pv 2)) (DR.of (de_mod (DR.of (de_callTy int_R int_op rfl (L.free (fa_1)) boot_int_ (dra_cons (DR.of (de_add (dr_bor (i := 0) rfl (pv 0)) (DR.of (de_mul (dr_val (i := 10) rfl (pv 10)) (dr_val (i := 7) rfl (pv 7)))))) dra_nil))) (DR.of de_int))))))) (DR.of (de_sl (dr_val (i := 8) rfl (pv 8)) (do_some (dr_val (i := 9) rfl (pv 9))) do_none)))) (fun _ => rfl) fun names_here_3 => db_any 7 <| db_any 8 <| db_any 9 <| db_any 10 <| db_any 11 <| db_nil rfl)))) (fun _ => rfl) (fun names_here_4 => db_G [.bor number_1, .bor many_1, .val letters_1, .val size_1, .val rest_1, .val place_1, .own names_here_4, .any, .any, .any, .any, .any] rfl <| db_fzO 6 rfl <| db_last (ds_ret (de_val (i := 6) rfl (pv 6))))
def m_law_bars_l1 (roads_1 : D) : (D) → D → M (D) := fun pairs_2 one_1 => ((B2 D.add (.ok pairs_2) (L1 ((B1 D.items (.ok roads_1)) >>= fun ds => compL (fElt (fun other_1 => (B2 D.eq (B2 D.ix (.ok one_1) (.ok (.int 2))) (B2 D.ix (.ok other_1) (.ok (.int 1))))) (fun other_1 => (B1 D.mkTup (A1 (B2 D.ix (.ok one_1) (.ok (.int 0))) (A1 (B2 D.ix (.ok other_1) (.ok (.int 0))) A0))))) ds))) >>= fun pairs_3 => (.ok pairs_3))
def m_law_bars_l2 (numbers_here_1 : D) (at_1 : D) (pairs_4 : D) : (List D) → D → M (List D) := fun chosen_2 k_1 => (mIf (mAnd (B2 D.eq (B2 D.mod (B1 (f1 D.toInt) (A1 (B2 D.add (B2 D.ix (.ok numbers_here_1) (B2 D.add (.ok at_1) (B2 D.mod (.ok k_1) (.ok (.int 7))))) (B2 D.mul (.ok (.int 5)) (.ok k_1))) A0)) (.ok (.int 6))) (.ok (.int 0))) (B2 D.lt (B1 (f1 D.len) (A1 (.ok (.lst chosen_2)) A0)) (.ok (.int 40)))) (mPush chosen_2 (B2 D.ix (.ok pairs_4) (.ok k_1)) >>= fun chosen_3 => (.ok chosen_3)) (.ok chosen_2))
def g_law_bars : D → D → D → M (D) := fun numbers_here_1 at_1 roads_1 => ((B1 D.mkLst A0) >>= fun pairs_1 => (((B1 D.items (.ok roads_1)) >>= fun ds => loopF (m_law_bars_l1 roads_1) ds pairs_1) >>= fun pairs_4 => ((nLst A0) >>= fun chosen_1 => (((B1 D.range1 (A1 (B1 (f1 D.len) (A1 (.ok pairs_4) A0)) A0)) >>= fun ds => loopF (m_law_bars_l2 numbers_here_1 at_1 pairs_4) ds chosen_1) >>= fun chosen_4 => (B1 (f1 D.toTup) (A1 (B1 (f1 D.sorted) (A1 (.ok (.lst chosen_4)) A0)) A0))))))
def m_law_bars : List D → M (D) := a3 g_law_bars
theorem e_law_bars (numbers_here_1 at_1 roads_1 : D) : m_law_bars [numbers_here_1, at_1, roads_1] = g_law_bars numbers_here_1 at_1 roads_1 := a3_ g_law_bars numbers_here_1 at_1 roads_1
theorem sc_law_bars : FnScope ["_law_numbers_here", "_law_at", "_law_roads", "_law_pairs", "_law_one", "_law_chosen", "_law_k", "_law_other"] ["_law_numbers_here", "_law_at", "_law_roads"] (d_law_bars).scope := ⟨rfl, rfl, rfl, by decide +kernel, rfl, by decide +kernel, by decide +kernel⟩
theorem ok_law_bars {P : Program} {w : World} {K : PySem.W.Frag} {mg : Str → Option Value} {base : Heap} (L : Lw K mg) {fd : FuncData} (F : DefOk K d_law_bars fd) : FnOk P w K mg base (L2.CX P w) 1 (He.fAd K d_law_bars.at_) fd ["_law_numbers_here", "_law_at", "_law_roads"] (spD K [true, true, false] m_law_bars) := by
  refine fn_def F sc_law_bars rfl (fun cdv A outer s H E hr ds hl => ?_)
  match ds, hl with
  | [numbers_here_1, at_1, roads_1], _ =>
    exact db_G [.bor numbers_here_1, .bor at_1, .val roads_1, .un, .un, .un, .un, .un] rfl <| db_step (fun pairs_1 => [.bor numbers_here_1, .bor at_1, .val roads_1, .val pairs_1, .un, .un, .un, .un]) (ds_set (de_lst da_nil) (fun pe => ps_set (i := 3) sc_law_bars.nd rfl (Or.inl rfl) pe)) (fun _ => rfl) fun pairs_1 => db_any 4 <| db_step (fun (s : D) => [.bor numbers_here_1, .bor at_1, .val roads_1, .val s, .any, .un, .un, .un]) (ds_for1 (i := 4) (S := D) (Γ := (fun (s : D) => [.bor numbers_here_1, .bor at_1, .val roads_1, .val s, .any, .un, .un, .un])) (f := (m_law_bars_l1 roads_1)) pairs_1 rfl ctx_def (di_seq (de_val (i := 2) rfl (pv 2))) (pg_name (i := 4) sc_law_bars.nd rfl (Or.inr rfl)) (fun pairs_2 one_1 => db_G [.bor numbers_here_1, .bor at_1, .val roads_1, .val pairs_2, .val one_1, .un, .un, .un] rfl <| db_step (fun pairs_3 => [.bor numbers_here_1, .bor at_1, .val roads_1, .val pairs_3, .val one_1, .un, .un, .un]) (ds_set (de_add (dr_val (i := 3) rfl (pv 3)) (DR.of (DNL.de (dn_lc2 (own := [("_law_other", 7)]) (i := 7) (mt := fun other_1 => (B2 D.eq (B2 D.ix (.ok one_1) (.ok (.int 2))) (B2 D.ix (.ok other_1) (.ok (.int 1))))) (me := fun other_1 => (B1 D.mkTup (A1 (B2 D.ix (.ok one_1) (.ok (.int 0))) (A1 (B2 D.ix (.ok other_1) (.ok (.int 0))) A0)))) (CtxOk.calm ctx_def) sc_law_bars.nd (dir_seq (dr_val (i := 2) rfl (pv 2))) (blkOk_by (by kernel_rfl)) rfl (fun _ _ _ _ _ => pg_name (i := 7) sc_law_bars.nd rfl (Or.inl rfl)) (fun _ _ _ _ _ other_1 => (dt_cmp (op_eqD hr.u64) cmp_eq (DR.of (de_ix hr.u70 (dr_val (i := 4) rfl (pv 4)) (DR.of de_int))) (DR.of (de_ix hr.u70 (dr_val (i := 7) rfl (pv 7)) (DR.of de_int))) (nomark _))) (fun _ _ _ _ _ other_1 => (de_tup (da_cons (de_ix hr.u70 (dr_val (i := 4) rfl (pv 4)) (DR.of de_int)) (da_cons (de_ix hr.u70 (dr_val (i := 7) rfl (pv 7)) (DR.of de_int)) da_nil)))))))) (fun pe => ps_set (i := 3) sc_law_bars.nd rfl (Or.inl rfl) pe)) (fun _ => rfl) fun pairs_3 => db_any 4 <| db_nil rfl)) (fun _ => rfl) (fun pairs_4 => db_G [.bor numbers_here_1, .bor at_1, .val roads_1, .val pairs_4, .any, .un, .un, .un] rfl <| db_step (fun chosen_1 => [.bor numbers_here_1, .bor at_1, .val roads_1, .val pairs_4, .any, .own chosen_1, .un, .un]) (ds_setN (dn_lst da_nil) (fun pe => ps_set (i := 5) sc_law_bars.nd rfl (Or.inl rfl) pe)) (fun _ => rfl) fun chosen_1 => db_any 6 <| db_step (fun (s : List D) => [.bor numbers_here_1, .bor at_1, .val roads_1, .val pairs_4, .any, .own s, .any, .un]) (ds_for1 (i := 6) (S := List D) (Γ := (fun (s : List D) => [.bor numbers_here_1, .bor at_1, .val roads_1, .val pairs_4, .any, .own s, .any, .un])) (f := (m_law_bars_l2 numbers_here_1 at_1 pairs_4)) chosen_1 rfl ctx_def (di_range1 rfl (L.free (fa_2)) (dra_cons (DR.of (de_callB lenR len_op rfl (L.free (fa_3)) boot_len_ (dra_cons (dr_val (i := 3) rfl (pv 3)) dra_nil))) dra_nil)) (pg_name (i := 6) sc_law_bars.nd rfl (Or.inl rfl)) (fun chosen_2 k_1 => db_G [.bor numbers_here_1, .bor at_1, .val roads_1, .val pairs_4, .any, .own chosen_2, .val k_1, .un] rfl <| db_last (ds_if (DW.dt (dw_and (dt_cmp (op_eqD hr.u64) cmp_eq (DR.of (de_mod (DR.of (de_callTy int_R int_op rfl (L.free (fa_1)) boot_int_ (dra_cons (DR.of (de_add (DR.of (de_ix hr.u70 (dr_bor (i := 0) rfl (pv 0)) (DR.of (de_add (dr_bor (i := 1) rfl (pv 1)) (DR.of (de_mod (dr_val (i := 6) rfl (pv 6)) (DR.of de_int))))))) (DR.of (de_mul (DR.of de_int) (dr_val (i := 6) rfl (pv 6)))))) dra_nil))) (DR.of de_int))) (DR.of de_int) (nomark _)) (dw_and1 (dt_cmp (op_lt.or op_lt_str) cmp_lt (DR.of (de_callB lenR len_op rfl (L.free (fa_3)) boot_len_ (dra_cons (dr_own (i := 5) rfl (pv 5)) dra_nil))) (DR.of de_int) (nomark _))))) (db_step (fun chosen_3 => [.bor numbers_here_1, .bor at_1, .val roads_1, .val pairs_4, .any, .own chosen_3, .val k_1, .un]) (ds_pushO (i := 5) rfl (pv 5) (de_ix hr.u70 (dr_val (i := 3) rfl (pv 3)) (dr_val (i := 6) rfl (pv 6)))) (fun _ => rfl) fun chosen_3 => db_any 6 <| db_nil rfl) (db_any 6 <| db_nil rfl)))) (fun _ => rfl) (fun chosen_4 => db_G [.bor numbers_here_1, .bor at_1, .val roads_1, .val pairs_4, .any, .own chosen_4, .any, .un] rfl <| db_last (ds_ret (de_callTy call_tuple_ofP tup_op rfl (L.free (fa_8)) boot_tuple_ (dra_cons (DR.of (de_callB (cr_sortD hr.u70) sorted_op rfl (L.free (fa_7)) boot_sorted_ (dra_cons (dr_own (i := 5) rfl (pv 5)) dra_nil))) dra_nil)))))
def m_law_hours_l1 (numbers_here_1 : D) (at_1 : D) (day_1 : D) : (List D × D) → D → M (List D × D) := fun s k_1 => match s with | (hours_here_2, last_2) => ((B2 D.add (B2 D.add (.ok last_2) (.ok (.int 1))) (B2 D.mod (B1 (f1 D.toInt) (A1 (B2 D.ix (.ok numbers_here_1) (B2 D.add (B2 D.add (.ok at_1) (.ok (.int 1))) (.ok k_1))) A0)) (.ok (.int 4)))) >>= fun opened_1 => ((B2 D.add (B2 D.add (.ok opened_1) (.ok (.int 1))) (B2 D.mod (B1 (f1 D.toInt) (A1 (B2 D.fdiv (B2 D.ix (.ok numbers_here_1) (B2 D.add (B2 D.add (.ok at_1) (.ok (.int 1))) (.ok k_1))) (.ok (.int 4))) A0)) (.ok (.int 6)))) >>= fun closed_1 => (mIf (B2 D.le (.ok closed_1) (.ok day_1)) (mPush hours_here_2 (B1 D.mkTup (A1 (.ok opened_1) (A1 (.ok closed_1) A0))) >>= fun hours_here_3 => ((.ok closed_1) >>= fun last_3 => (.ok (hours_here_3, last_3)))) (.ok (hours_here_2, last_2)))))
def g_law_hours : D → D → D → M (D) := fun numbers_here_1 at_1 day_1 => (mIf (B2 D.eq (B2 D.mod (B1 (f1 D.toInt) (A1 (B2 D.ix (.ok numbers_here_1) (.ok at_1)) A0)) (.ok (.int 3))) (.ok (.int 0))) (.ok .non) ((nLst A0) >>= fun hours_here_1 => ((B1 D.neg (.ok (.int 1))) >>= fun last_1 => (((B1 D.range1 (A1 (B2 D.mod (B1 (f1 D.toInt) (A1 (B2 D.ix (.ok numbers_here_1) (.ok at_1)) A0)) (.ok (.int 4))) A0)) >>= fun ds => loopF (m_law_hours_l1 numbers_here_1 at_1 day_1) ds (hours_here_1, last_1)) >>= fun s => match s with | (hours_here_4, last_4) => (B1 (f1 D.toTup) (A1 (.ok (.lst hours_here_4)) A0))))))
def m_law_hours : List D → M (D) := a3 g_law_hours
theorem e_law_hours (numbers_here_1 at_1 day_1 : D) : m_law_hours [numbers_here_1, at_1, day_1] = g_law_hours numbers_here_1 at_1 day_1 := a3_ g_law_hours numbers_here_1 at_1 day_1
theorem sc_law_hours : FnScope ["_law_numbers_here", "_law_at", "_law_day", "_law_hours_here", "_law_last", "_law_k", "_law_opened", "_law_closed"] ["_law_numbers_here", "_law_at", "_law_day"] (d_law_hours).scope := ⟨rfl, rfl, rfl, by decide +kernel, rfl, by decide +kernel, by decide +kernel⟩
theorem ok_law_hours {P : Program} {w : World} {K : PySem.W.Frag} {mg : Str → Option Value} {base : Heap} (L : Lw K mg) {fd : FuncData} (F : DefOk K d_law_hours fd) : FnOk P w K mg base (L2.CX P w) 1 (He.fAd K d_law_hours.at_) fd ["_law_numbers_here", "_law_at", "_law_day"] (spD K [true, true, true] m_law_hours) := by
  refine fn_def F sc_law_hours rfl (fun cdv A outer s H E hr ds hl => ?_)
  match ds, hl with
  | [numbers_here_1, at_1, day_1], _ =>
    exact db_G [.bor numbers_here_1, .bor at_1, .bor day_1, .un, .un, .un, .un, .un] rfl <| db_ifr (dt_cmp (op_eqD hr.u64) cmp_eq (DR.of (de_mod (DR.of (de_callTy int_R int_op rfl (L.free (fa_1)) boot_int_ (dra_cons (DR.of (de_ix hr.u70 (dr_bor (i := 0) rfl (pv 0)) (dr_bor (i := 1) rfl (pv 1)))) dra_nil))) (DR.of de_int))) (DR.of de_int) (nomark _)) (db_last (ds_ret de_non)) (db_step (fun hours_here_1 => [.bor numbers_here_1, .bor at_1, .bor day_1, .own hours_here_1, .un, .un, .un, .un]) (ds_setN (dn_lst da_nil) (fun pe => ps_set (i := 3) sc_law_hours.nd rfl (Or.inl rfl) pe)) (fun _ => rfl) fun hours_here_1 => db_step (fun last_1 => [.bor numbers_here_1, .bor at_1, .bor day_1, .own hours_here_1, .val last_1, .un, .un, .un]) (ds_set (de_neg (DR.of de_int)) (fun pe => ps_set (i := 4) sc_law_hours.nd rfl (Or.inl rfl) pe)) (fun _ => rfl) fun last_1 => db_any 5 <| db_any 6 <| db_any 7 <| db_step (fun (s : List D × D) => [.bor numbers_here_1, .bor at_1, .bor day_1, .own s.1, .val s.2, .any, .any, .any]) (ds_for1 (i := 5) (S := List D × D) (Γ := (fun (s : List D × D) => [.bor numbers_here_1, .bor at_1, .bor day_1, .own s.1, .val s.2, .any, .any, .any])) (f := (m_law_hours_l1 numbers_here_1 at_1 day_1)) (hours_here_1, last_1) rfl ctx_def (di_range1 rfl (L.free (fa_2)) (dra_cons (DR.of (de_mod (DR.of (de_callTy int_R int_op rfl (L.free (fa_1)) boot_int_ (dra_cons (DR.of (de_ix hr.u70 (dr_bor (i := 0) rfl (pv 0)) (dr_bor (i := 1) rfl (pv 1)))) dra_nil))) (DR.of de_int))) dra_nil)) (pg_name (i := 5) sc_law_hours.nd rfl (Or.inl rfl)) (fun s k_1 => match s with | (hours_here_2, last_2) => db_G [.bor numbers_here_1, .bor at_1, .bor day_1, .own hours_here_2, .val last_2, .val k_1, .any, .any] rfl <| db_step (fun opened_1 => [.bor numbers_here_1, .bor at_1, .bor day_1, .own hours_here_2, .val last_2, .val k_1, .val opened_1, .any]) (ds_set (de_add (DR.of (de_add (dr_val (i := 4) rfl (pv 4)) (DR.of de_int))) (DR.of (de_mod (DR.of (de_callTy int_R int_op rfl (L.free (fa_1)) boot_int_ (dra_cons (DR.of (de_ix hr.u70 (dr_bor (i := 0) rfl (pv 0)) (DR.of (de_add (DR.of (de_add (dr_bor (i := 1) rfl (pv 1)) (DR.of de_int))) (dr_val (i := 5) rfl (pv 5)))))) dra_nil))) (DR.of de_int)))) (fun pe => ps_set (i := 6) sc_law_hours.nd rfl (Or.inl rfl) pe)) (fun _ => rfl) fun opened_1 => db_step (fun closed_1 => [.bor numbers_here_1, .bor at_1, .bor day_1, .own hours_here_2, .val last_2, .val k_1, .val opened_1, .val closed_1]) (ds_set (de_add (DR.of (de_add (dr_val (i := 6) rfl (pv 6)) (DR.of de_int))) (DR.of (de_mod (DR.of (de_callTy int_R int_op rfl (L.free (fa_1)) boot_int_ (dra_cons (DR.of (de_fdiv (DR.of (de_ix hr.u70 (dr_bor (i := 0) rfl (pv 0)) (DR.of (de_add (DR.of (de_add (dr_bor (i := 1) rfl (pv 1)) (DR.of de_int))) (dr_val (i := 5) rfl (pv 5)))))) (DR.of de_int))) dra_nil))) (DR.of de_int)))) (fun pe => ps_set (i := 7) sc_law_hours.nd rfl (Or.inl rfl) pe)) (fun _ => rfl) fun closed_1 => db_last (ds_if (dt_cmp op_le cmp_le (dr_val (i := 7) rfl (pv 7)) (dr_bor (i := 2) rfl (pv 2)) (nomark _)) (db_step (fun hours_here_3 => [.bor numbers_here_1, .bor at_1, .bor day_1, .own hours_here_3, .val last_2, .val k_1, .val opened_1, .val closed_1]) (ds_pushO (i := 3) rfl (pv 3) (de_tup (da_cons (de_val (i := 6) rfl (pv 6)) (da_cons (de_val (i := 7) rfl (pv 7)) da_nil)))) (fun _ => rfl) fun hours_here_3 => db_step (fun last_3 => [.bor numbers_here_1, .bor at_1, .bor day_1, .own hours_here_3, .val last_3, .val k_1, .val opened_1, .val closed_1]) (ds_set (de_val (i := 7) rfl (pv 7)) (fun pe => ps_set (i := 4) sc_law_hours.nd rfl (Or.inl rfl) pe)) (fun _ => rfl) fun last_3 => db_any 5 <| db_any 6 <| db_any 7 <| db_nil rfl) (db_any 5 <| db_any 6 <| db_any 7 <| db_nil rfl)))) (fun _ => rfl) (fun s => match s with | (hours_here_4, last_4) => db_G [.bor numbers_here_1, .bor at_1, .bor day_1, .own hours_here_4, .val last_4, .any, .any, .any] rfl <| db_last (ds_ret (de_callTy call_tuple_ofP tup_op rfl (L.free (fa_8)) boot_tuple_ (dra_cons (dr_own (i := 3) rfl (pv 3)) dra_nil)))))
def g_law_road : D → D → D → D → D → D → M (D) := fun numbers_here_1 at_1 name_1 day_1 kinds_1 places_1 => ((B2 D.ix (.ok places_1) (B2 D.mod (B1 (f1 D.toInt) (A1 (B2 D.ix (.ok numbers_here_1) (.ok at_1)) A0)) (B1 (f1 D.len) (A1 (.ok places_1) A0)))) >>= fun start_1 => ((B2 D.ix (.ok places_1) (B2 D.mod (B1 (f1 D.toInt) (A1 (B2 D.ix (.ok numbers_here_1) (B2 D.add (.ok at_1) (.ok (.int 1)))) A0)) (B1 (f1 D.len) (A1 (.ok places_1) A0)))) >>= fun end_1 => ((B2 D.add (.ok (.int 1)) (B2 D.mod (B1 (f1 D.toInt) (A1 (B2 D.ix (.ok numbers_here_1) (B2 D.add (.ok at_1) (.ok (.int 2)))) A0)) (B2 D.ix (B1 D.mkTup (A1 (.ok (.int 9)) (A1 (.ok (.int 9)) (A1 (.ok (.int 40)) A0)))) (B2 D.mod (B1 (f1 D.toInt) (A1 (B2 D.ix (.ok numbers_here_1) (B2 D.add (.ok at_1) (.ok (.int 3)))) A0)) (.ok (.int 3)))))) >>= fun minutes_1 => ((B1 (f1 D.toTup) (A1 (L1 ((B1 D.range1 (A1 (B1 (f1 D.len) (A1 (.ok kinds_1) A0)) A0)) >>= fun ds => compL (fElt (fun k_1 => (B2 D.gt (B2 D.mod (B1 (f1 D.toInt) (A1 (B2 D.add (B2 D.ix (.ok numbers_here_1) (B2 D.add (.ok at_1) (.ok (.int 4)))) (.ok k_1)) A0)) (.ok (.int 4))) (.ok (.int 0)))) (fun k_1 => (B2 D.ix (.ok kinds_1) (.ok k_1)))) ds)) A0)) >>= fun used_1 => (B1 D.mkTup (A1 (.ok name_1) (A1 (.ok start_1) (A1 (.ok end_1) (A1 (.ok minutes_1) (A1 (.ok used_1) (A1 (B1 m_law_hours (A1 (.ok numbers_here_1) (A1 (B2 D.add (.ok at_1) (.ok (.int 5))) (A1 (.ok day_1) A0)))) A0)))))))))))
def m_law_road : List D → M (D) := a6 g_law_road
theorem e_law_road (numbers_here_1 at_1 name_1 day_1 kinds_1 places_1 : D) : m_law_road [numbers_here_1, at_1, name_1, day_1, kinds_1, places_1] = g_law_road numbers_here_1 at_1 name_1 day_1 kinds_1 places_1 := a6_ g_law_road numbers_here_1 at_1 name_1 day_1 kinds_1 places_1
theorem sc_law_road : FnScope ["_law_numbers_here", "_law_at", "_law_name", "_law_day", "_law_kinds", "_law_places", "_law_start", "_law_end", "_law_minutes", "_law_used", "_law_k"] ["_law_numbers_here", "_law_at", "_law_name", "_law_day", "_law_kinds", "_law_places"] (d_law_road).scope := ⟨rfl, rfl, rfl, by decide +kernel, rfl, by decide +kernel, by decide +kernel⟩
theorem ok_law_road {P : Program} {w : World} {K : PySem.W.Frag} {mg : Str → Option Value} {base : Heap} (L : Lw K mg) {fd : FuncData} (F : DefOk K d_law_road fd) : FnOk P w K mg base (L2.CX P w) 2 (He.fAd K d_law_road.at_) fd ["_law_numbers_here", "_law_at", "_law_name", "_law_day", "_law_kinds", "_law_places"] (spD K [true, true, false, true, true, true] m_law_road) := by
  obtain ⟨fd_law_hours, F_law_hours⟩ := L.c.def_ 4 (d := d_law_hours) rfl
  have k_law_hours := ok_law_hours (P := P) (w := w) (base := base) L F_law_hours
  have b_law_hours : Binds K fd_law_hours ["_law_numbers_here", "_law_at", "_law_day"] [] := F_law_hours.bindsN fun _ _ _ _ _ _ us hl => match us, hl with | [_, _, _], _ => rfl
  refine fn_def F sc_law_road rfl (fun cdv A outer s H E hr ds hl => ?_)
  match ds, hl with
  | [numbers_here_1, at_1, name_1, day_1, kinds_1, places_1], _ =>
    exact db_G [.bor numbers_here_1, .bor at_1, .val name_1, .bor day_1, .bor kinds_1, .bor places_1, .un, .un, .un, .un, .un] rfl <| db_step (fun start_1 => [.bor numbers_here_1, .bor at_1, .val name_1, .bor day_1, .bor kinds_1, .bor places_1, .val start_1, .un, .un, .un, .un]) (ds_set (de_ix hr.u70 (dr_bor (i := 5) rfl (pv 5)) (DR.of (de_mod (DR.of (de_callTy int_R int_op rfl (L.free (fa_1)) boot_int_ (dra_cons (DR.of (de_ix hr.u70 (dr_bor (i := 0) rfl (pv 0)) (dr_bor (i := 1) rfl (pv 1)))) dra_nil))) (DR.of (de_callB lenR len_op rfl (L.free (fa_3)) boot_len_ (dra_cons (dr_bor (i := 5) rfl (pv 5)) dra_nil)))))) (fun pe => ps_set (i := 6) sc_law_road.nd rfl (Or.inl rfl) pe)) (fun _ => rfl) fun start_1 => db_step (fun end_1 => [.bor numbers_here_1, .bor at_1, .val name_1, .bor day_1, .bor kinds_1, .bor places_1, .val start_1, .val end_1, .un, .un, .un]) (ds_set (de_ix hr.u70 (dr_bor (i := 5) rfl (pv 5)) (DR.of (de_mod (DR.of (de_callTy int_R int_op rfl (L.free (fa_1)) boot_int_ (dra_cons (DR.of (de_ix hr.u70 (dr_bor (i := 0) rfl (pv 0)) (DR.of (de_add (dr_bor (i := 1) rfl (pv 1)) (DR.of de_int))))) dra_nil))) (DR.of (de_callB lenR len_op rfl (L.free (fa_3)) boot_len_ (dra_cons (dr_bor (i := 5) rfl (pv 5)) dra_nil)))))) (fun pe => ps_set (i := 7) sc_law_road.nd rfl (Or.inl rfl) pe)) (fun _ => rfl) fun end_1 => db_step (fun minutes_1 => [.bor numbers_here_1, .bor at_1, .val name_1, .bor day_1, .bor kinds_1, .bor places_1, .val start_1, .val end_1, .val minutes_1, .un, .un]) (ds_set (de_add (DR.of de_int) (DR.of (de_mod (DR.of (de_callTy int_R int_op rfl (L.free (fa_1)) boot_int_ (dra_cons (DR.of (de_ix hr.u70 (dr_bor (i := 0) rfl (pv 0)) (DR.of (de_add (dr_bor (i := 1) rfl (pv 1)) (DR.of de_int))))) dra_nil))) (DR.of (de_ix hr.u70 (DR.of (de_tup (da_cons de_int (da_cons de_int (da_cons de_int da_nil))))) (DR.of (de_mod (DR.of (de_callTy int_R int_op rfl (L.free (fa_1)) boot_int_ (dra_cons (DR.of (de_ix hr.u70 (dr_bor (i := 0) rfl (pv 0)) (DR.of (de_add (dr_bor (i := 1) rfl (pv 1)) (DR.of de_int))))) dra_nil))) (DR.of de_int)))))))) (fun pe => ps_set (i := 8) sc_law_road.nd rfl (Or.inl rfl) pe)) (fun _ => rfl) fun minutes_1 => db_step (fun used_1 => [.bor numbers_here_1, .bor at_1, .val name_1, .bor day_1, .bor kinds_1, .bor places_1, .val start_1, .val end_1, .val minutes_1, .val used_1, .un]) (ds_set (de_callTy call_tuple_ofP tup_op rfl (L.free (fa_8)) boot_tuple_ (dra_cons (DR.of (DNL.de (dn_lc2 (own := [("_law_k", 10)]) (i := 10) (mt := fun k_1 => (B2 D.gt (B2 D.mod (B1 (f1 D.toInt) (A1 (B2 D.add (B2 D.ix (.ok numbers_here_1) (B2 D.add (.ok at_1) (.ok (.int 4)))) (.ok k_1)) A0)) (.ok (.int 4))) (.ok (.int 0)))) (me := fun k_1 => (B2 D.ix (.ok kinds_1) (.ok k_1))) (CtxOk.calm ctx_def) sc_law_road.nd (DIR.of (di_range1 rfl (L.free (fa_2)) (dra_cons (DR.of (de_callB lenR len_op rfl (L.free (fa_3)) boot_len_ (dra_cons (dr_bor (i := 4) rfl (pv 4)) dra_nil))) dra_nil))) (blkOk_by (by kernel_rfl)) rfl (fun _ _ _ _ _ => pg_name (i := 10) sc_law_road.nd rfl (Or.inl rfl)) (fun _ _ _ _ _ k_1 => (dt_cmp op_gt cmp_gt (DR.of (de_mod (DR.of (de_callTy int_R int_op rfl (L.free (fa_1)) boot_int_ (dra_cons (DR.of (de_add (DR.of (de_ix hr.u70 (dr_bor (i := 0) rfl (pv 0)) (DR.of (de_add (dr_bor (i := 1) rfl (pv 1)) (DR.of de_int))))) (dr_val (i := 10) rfl (pv 10)))) dra_nil))) (DR.of de_int))) (DR.of de_int) (nomark _))) (fun _ _ _ _ _ k_1 => (de_ix hr.u70 (dr_bor (i := 4) rfl (pv 4)) (dr_val (i := 10) rfl (pv 10))))))) dra_nil)) (fun pe => ps_set (i := 9) sc_law_road.nd rfl (Or.inl rfl) pe)) (fun _ => rfl) fun used_1 => db_last (ds_ret (de_tup (da_cons (de_val (i := 2) rfl (pv 2)) (da_cons (de_val (i := 6) rfl (pv 6)) (da_cons (de_val (i := 7) rfl (pv 7)) (da_cons (de_val (i := 8) rfl (pv 8)) (da_cons (de_val (i := 9) rfl (pv 9)) (da_cons (de_call ctx_def k_law_hours (hr.mono (by decide)) rfl (L.glo (fa_9)) F_law_hours.kp b_law_hours (dam_bor (dr_bor (i := 0) rfl (pv 0)) (dam_bor (DR.of (de_add (dr_bor (i := 1) rfl (pv 1)) (DR.of de_int))) (dam_bor (dr_bor (i := 3) rfl (pv 3)) dam_nil)))) da_nil))))))))
def m_law_parts_l1 (numbers_here_1 : D) (at_1 : D) (day_1 : D) (kinds_1 : D) (places_1 : D) (names_here_1 : D) : (List D) → D → M (List D) := fun roads_2 k_1 => (mPush roads_2 (B1 m_law_road (A1 (.ok numbers_here_1) (A1 (B2 D.add (B2 D.add (.ok at_1) (.ok (.int 8))) (B2 D.mul (.ok (.int 10)) (.ok k_1))) (A1 (B2 D.ix (.ok names_here_1) (.ok k_1)) (A1 (.ok day_1) (A1 (.ok kinds_1) (A1 (.ok places_1) A0))))))) >>= fun roads_3 => (.ok roads_3))
def g_law_parts : D → D → M (List D) := fun numbers_here_1 at_1 => ((B2 D.ix (B1 D.mkTup (A1 (B2 D.add (.ok (.int 1)) (B2 D.mod (B1 (f1 D.toInt) (A1 (B2 D.ix (.ok numbers_here_1) (.ok at_1)) A0)) (.ok (.int 24)))) (A1 (.ok (.int 24)) (A1 (.ok (.int 1440)) (A1 (B2 D.add (.ok (.int 1)) (B2 D.mod (B1 (f1 D.toInt) (A1 (B2 D.ix (.ok numbers_here_1) (.ok at_1)) A0)) (.ok (.int 24)))) A0))))) (B2 D.mod (B1 (f1 D.toInt) (A1 (B2 D.ix (.ok numbers_here_1) (B2 D.add (.ok at_1) (.ok (.int 1)))) A0)) (.ok (.int 4)))) >>= fun day_1 => ((B1 (f1 D.toTup) (A1 (B1 (f1 D.sorted) (A1 (B1 m_law_names (A1 (B2 D.ix (.ok numbers_here_1) (B2 D.add (.ok at_1) (.ok (.int 2)))) (A1 (B2 D.add (.ok (.int 1)) (B2 D.mod (B1 (f1 D.toInt) (A1 (B2 D.ix (.ok numbers_here_1) (B2 D.add (.ok at_1) (.ok (.int 3)))) A0)) (.ok (.int 2)))) A0))) A0)) A0)) >>= fun kinds_1 => ((B1 (f1 D.toTup) (A1 (B1 (f1 D.sorted) (A1 (B1 m_law_names (A1 (B2 D.ix (.ok numbers_here_1) (B2 D.add (.ok at_1) (.ok (.int 4)))) (A1 (B2 D.add (.ok (.int 2)) (B2 D.mod (B1 (f1 D.toInt) (A1 (B2 D.ix (.ok numbers_here_1) (B2 D.add (.ok at_1) (.ok (.int 5)))) A0)) (.ok (.int 4)))) A0))) A0)) A0)) >>= fun places_1 => ((B1 m_law_names (A1 (B2 D.ix (.ok numbers_here_1) (B2 D.add (.ok at_1) (.ok (.int 6)))) (A1 (.ok (.int 8)) A0))) >>= fun names_here_1 => ((nLst A0) >>= fun roads_1 => (((B1 D.range1 (A1 (B2 D.add (.ok (.int 1)) (B2 D.mod (B1 (f1 D.toInt) (A1 (B2 D.ix (.ok numbers_here_1) (B2 D.add (.ok at_1) (.ok (.int 7)))) A0)) (.ok (.int 8)))) A0)) >>= fun ds => loopF (m_law_parts_l1 numbers_here_1 at_1 day_1 kinds_1 places_1 names_here_1) ds roads_1) >>= fun roads_4 => ((B1 (f1 D.toTup) (A1 (B1 (f1 D.sorted2) (A1 (.ok (.lst roads_4)) A0)) A0)) >>= fun roads_5 => (nLst (A1 (.ok day_1) (A1 (.ok kinds_1) (A1 (.ok places_1) (A1 (.ok roads_5) (A1 (B1 m_law_bars (A1 (.ok numbers_here_1) (A1 (B2 D.add (.ok at_1) (.ok (.int 90))) (A1 (.ok roads_5) A0)))) A0)))))))))))))
def m_law_parts : List D → M (List D) := a2 g_law_parts
theorem e_law_parts (numbers_here_1 at_1 : D) : m_law_parts [numbers_here_1, at_1] = g_law_parts numbers_here_1 at_1 := a2_ g_law_parts numbers_here_1 at_1
theorem sc_law_parts : FnScope ["_law_numbers_here", "_law_at", "_law_day", "_law_kinds", "_law_places", "_law_names_here", "_law_roads", "_law_k"] ["_law_numbers_here", "_law_at"] (d_law_parts).scope := ⟨rfl, rfl, rfl, by decide +kernel, rfl, by decide +kernel, by decide +kernel⟩
theorem ok_law_parts {P : Program} {w : World} {K : PySem.W.Frag} {mg : Str → Option Value} {base : Heap} (L : Lw K mg) {fd : FuncData} (F : DefOk K d_law_parts fd) : FnOk P w K mg base (L2.CX P w) 3 (He.fAd K d_law_parts.at_) fd ["_law_numbers_here", "_law_at"] (spO K [true, true] m_law_parts) := by
  obtain ⟨fd_law_names, F_law_names⟩ := L.c.def_ 2 (d := d_law_names) rfl
  have k_law_names := ok_law_names (P := P) (w := w) (base := base) L F_law_names
  have b_law_names : Binds K fd_law_names ["_law_number", "_law_many"] [] := F_law_names.bindsN fun _ _ _ _ _ _ us hl => match us, hl with | [_, _], _ => rfl
  obtain ⟨fd_law_road, F_law_road⟩ := L.c.def_ 5 (d := d_law_road) rfl
  have k_law_road := ok_law_road (P := P) (w := w) (base := base) L F_law_road
  have b_law_road : Binds K fd_law_road ["_law_numbers_here", "_law_at", "_law_name", "_law_day", "_law_kinds", "_law_places"] [] := F_law_road.bindsN fun _ _ _ _ _ _ us hl => match us, hl with | [_, _, _, _, _, _], _ => rfl
  obtain ⟨fd_law_bars, F_law_bars⟩ := L.c.def_ 3 (d := d_law_bars) rfl
  have k_law_bars := ok_law_bars (P := P) (w := w) (base := base) L F_law_bars
  have b_law_bars : Binds K fd_law_bars ["_law_numbers_here", "_law_at", "_law_roads"] [] := F_law_bars.bindsN fun _ _ _ _ _ _ us hl => match us, hl with | [_, _, _], _ => rfl
  refine fn_defO F sc_law_parts rfl (fun cdv A outer s H E hr ds hl => ?_)
  match ds, hl with
  | [numbers_here_1, at_1], _ =>
    exact db_G [.bor numbers_here_1, .bor at_1, .un, .un, .un, .un, .un, .un] rfl <| db_step (fun day_1 => [.bor numbers_here_1, .bor at_1, .val day_1, .un, .un, .un, .un, .un]) (ds_set (de_ix hr.u70 (DR.of (de_tup (da_cons (de_add (DR.of de_int) (DR.of (de_mod (DR.of (de_callTy int_R int_op rfl (L.free (fa_1)) boot_int_ (dra_cons (DR.of (de_ix hr.u70 (dr_bor (i := 0) rfl (pv 0)) (dr_bor (i := 1) rfl (pv 1)))) dra_nil))) (DR.of de_int)))) (da_cons de_int (da_cons de_int (da_cons (de_add (DR.of de_int) (DR.of (de_mod (DR.of (de_callTy int_R int_op rfl (L.free (fa_1)) boot_int_ (dra_cons (DR.of (de_ix hr.u70 (dr_bor (i := 0) rfl (pv 0)) (dr_bor (i := 1) rfl (pv 1)))) dra_nil))) (DR.of de_int)))) da_nil)))))) (DR.of (de_mod (DR.of (de_callTy int_R int_op rfl (L.free (fa_1)) boot_int_ (dra_cons (DR.of (de_ix hr.u70 (dr_bor (i := 0) rfl (pv 0)) (DR.of (de_add (dr_bor (i := 1) rfl (pv 1)) (DR.of de_int))))) dra_nil))) (DR.of de_int)))) (fun pe => ps_set (i := 2) sc_law_parts.nd rfl (Or.inl rfl) pe)) (fun _ => rfl) fun day_1 => db_step (fun kinds_1 => [.bor numbers_here_1, .bor at_1, .val day_1, .val kinds_1, .un, .un, .un, .un]) (ds_set (de_callTy call_tuple_ofP tup_op rfl (L.free (fa_8)) boot_tuple_ (dra_cons (DR.of (de_callB (cr_sortD hr.u70) sorted_op rfl (L.free (fa_7)) boot_sorted_ (dra_cons (DR.of (de_call ctx_def k_law_names (hr.mono (by decide)) rfl (L.glo (fa_10)) F_law_names.kp b_law_names (dam_bor (DR.of (de_ix hr.u70 (dr_bor (i := 0) rfl (pv 0)) (DR.of (de_add (dr_bor (i := 1) rfl (pv 1)) (DR.of de_int))))) (dam_bor (DR.of (de_add (DR.of de_int) (DR.of (de_mod (DR.of (de_callTy int_R int_op rfl (L.free (fa_1)) boot_int_ (dra_cons (DR.of (de_ix hr.u70 (dr_bor (i := 0) rfl (pv 0)) (DR.of (de_add (dr_bor (i := 1) rfl (pv 1)) (DR.of de_int))))) dra_nil))) (DR.of de_int))))) dam_nil)))) dra_nil))) dra_nil)) (fun pe => ps_set (i := 3) sc_law_parts.nd rfl (Or.inl rfl) pe)) (fun _ => rfl) fun kinds_1 => db_step (fun places_1 => [.bor numbers_here_1, .bor at_1, .val day_1, .val kinds_1, .val places_1, .un, .un, .un]) (ds_set (de_callTy call_tuple_ofP tup_op rfl (L.free (fa_8)) boot_tuple_ (dra_cons (DR.of (de_callB (cr_sortD hr.u70) sorted_op rfl (L.free (fa_7)) boot_sorted_ (dra_cons (DR.of (de_call ctx_def k_law_names (hr.mono (by decide)) rfl (L.glo (fa_10)) F_law_names.kp b_law_names (dam_bor (DR.of (de_ix hr.u70 (dr_bor (i := 0) rfl (pv 0)) (DR.of (de_add (dr_bor (i := 1) rfl (pv 1)) (DR.of de_int))))) (dam_bor (DR.of (de_add (DR.of de_int) (DR.of (de_mod (DR.of (de_callTy int_R int_op rfl (L.free (fa_1)) boot_int_ (dra_cons (DR.of (de_ix hr.u70 (dr_bor (i := 0) rfl (pv 0)) (DR.of (de_add (dr_bor (i := 1) rfl (pv 1)) (DR.of de_int))))) dra_nil))) (DR.of de_int))))) dam_nil)))) dra_nil))) dra_nil)) (fun pe => ps_set (i := 4) sc_law_parts.nd rfl (Or.inl rfl) pe)) (fun _ => rfl) fun places_1 => db_step (fun names_here_1 => [.bor numbers_here_1, .bor at_1, .val day_1, .val kinds_1, .val places_1, .val names_here_1, .un, .un]) (ds_set (de_call ctx_def k_law_names (hr.mono (by decide)) rfl (L.glo (fa_10)) F_law_names.kp b_law_names (dam_bor (DR.of (de_ix hr.u70 (dr_bor (i := 0) rfl (pv 0)) (DR.of (de_add (dr_bor (i := 1) rfl (pv 1)) (DR.of de_int))))) (dam_bor (DR.of de_int) dam_nil))) (fun pe => ps_set (i := 5) sc_law_parts.nd rfl (Or.inl rfl) pe)) (fun _ => rfl) fun names_here_1 => db_step (fun roads_1 => [.bor numbers_here_1, .bor at_1, .val day_1, .val kinds_1, .val places_1, .val names_here_1, .own roads_1, .un]) (ds_setN (dn_lst da_nil) (fun pe => ps_set (i := 6) sc_law_parts.nd rfl (Or.inl rfl) pe)) (fun _ => rfl) fun roads_1 => db_any 7 <| db_step (fun (s : List D) => [.bor numbers_here_1, .bor at_1, .val day_1, .val kinds_1, .val places_1, .val names_here_1, .own s, .any]) (ds_for1 (i := 7) (S := List D) (Γ := (fun (s : List D) => [.bor numbers_here_1, .bor at_1, .val day_1, .val kinds_1, .val places_1, .val names_here_1, .own s, .any])) (f := (m_law_parts_l1 numbers_here_1 at_1 day_1 kinds_1 places_1 names_here_1)) roads_1 rfl ctx_def (di_range1 rfl (L.free (fa_2)) (dra_cons (DR.of (de_add (DR.of de_int) (DR.of (de_mod (DR.of (de_callTy int_R int_op rfl (L.free (fa_1)) boot_int_ (dra_cons (DR.of (de_ix hr.u70 (dr_bor (i := 0) rfl (pv 0)) (DR.of (de_add (dr_bor (i := 1) rfl (pv 1)) (DR.of de_int))))) dra_nil))) (DR.of de_int))))) dra_nil)) (pg_name (i := 7) sc_law_parts.nd rfl (Or.inl rfl)) (fun roads_2 k_1 => db_G [.bor numbers_here_1, .bor at_1, .val day_1, .val kinds_1, .val places_1, .val names_here_1, .own roads_2, .val k_1] rfl <| db_step (fun roads_3 => [.bor numbers_here_1, .bor at_1, .val day_1, .val kinds_1, .val places_1, .val names_here_1, .own roads_3, .val k_1]) (ds_pushO (i := 6) rfl (pv 6) (de_call ctx_def k_law_road (hr.mono (by decide)) rfl (L.glo (fa_11)) F_law_road.kp b_law_road (dam_bor (dr_bor (i := 0) rfl (pv 0)) (dam_bor (DR.of (de_add (DR.of (de_add (dr_bor (i := 1) rfl (pv 1)) (DR.of de_int))) (DR.of (de_mul (DR.of de_int) (dr_val (i := 7) rfl (pv 7)))))) (dam_frz (de_ix hr.u70 (dr_val (i := 5) rfl (pv 5)) (dr_val (i := 7) rfl (pv 7))) (dam_bor (dr_val (i := 2) rfl (pv 2)) (dam_bor (dr_val (i := 3) rfl (pv 3)) (dam_bor (dr_val (i := 4) rfl (pv 4)) dam_nil)))))))) (fun _ => rfl) fun roads_3 => db_any 7 <| db_nil rfl)) (fun _ => rfl) (fun roads_4 => db_G [.bor numbers_here_1, .bor at_1, .val day_1, .val kinds_1, .val places_1, .val names_here_1, .own roads_4, .any] rfl <| db_step (fun roads_5 => [.bor numbers_here_1, .bor at_1, .val day_1, .val kinds_1, .val places_1, .val names_here_1, .val roads_5, .any]) (ds_set (de_callTy call_tuple_ofP tup_op rfl (L.free (fa_8)) boot_tuple_ (dra_cons (DR.of (de_callB cr_sortF sortF_op rfl (L.free (fa_7)) boot_sorted_ (dra_cons (dr_own (i := 6) rfl (pv 6)) dra_nil))) dra_nil)) (fun pe => ps_set (i := 6) sc_law_parts.nd rfl (Or.inl rfl) pe)) (fun _ => rfl) fun roads_5 => db_last (ds_retO (dn_lst (da_cons (de_val (i := 2) rfl (pv 2)) (da_cons (de_val (i := 3) rfl (pv 3)) (da_cons (de_val (i := 4) rfl (pv 4)) (da_cons (de_val (i := 6) rfl (pv 6)) (da_cons (de_call ctx_def k_law_bars (hr.mono (by decide)) rfl (L.glo (fa_12)) F_law_bars.kp b_law_bars (dam_bor (dr_bor (i := 0) rfl (pv 0)) (dam_bor (DR.of (de_add (dr_bor (i := 1) rfl (pv 1)) (DR.of de_int))) (dam_frz (de_val (i := 6) rfl (pv 6)) dam_nil)))) da_nil))))))))
def g_law_trip : D → D → D → M (D) := fun numbers_here_1 at_1 parts_here_1 => ((B2 D.ix (B2 D.ix (.ok parts_here_1) (.ok (.int 1))) (B2 D.mod (B1 (f1 D.toInt) (A1 (B2 D.ix (.ok numbers_here_1) (.ok at_1)) A0)) (B1 (f1 D.len) (A1 (B2 D.ix (.ok parts_here_1) (.ok (.int 1))) A0)))) >>= fun kind_1 => ((B2 D.ix (B2 D.ix (.ok parts_here_1) (.ok (.int 2))) (B2 D.mod (B1 (f1 D.toInt) (A1 (B2 D.ix (.ok numbers_here_1) (B2 D.add (.ok at_1) (.ok (.int 1)))) A0)) (B1 (f1 D.len) (A1 (B2 D.ix (.ok parts_here_1) (.ok (.int 2))) A0)))) >>= fun start_1 => ((B2 D.ix (B2 D.ix (.ok parts_here_1) (.ok (.int 2))) (B2 D.mod (B1 (f1 D.toInt) (A1 (B2 D.ix (.ok numbers_here_1) (B2 D.add (.ok at_1) (.ok (.int 2)))) A0)) (B1 (f1 D.len) (A1 (B2 D.ix (.ok parts_here_1) (.ok (.int 2))) A0)))) >>= fun goal_1 => ((B2 D.mul (B1 (f1 D.toInt) (A1 (B2 D.ix (.ok numbers_here_1) (B2 D.add (.ok at_1) (.ok (.int 3)))) A0)) (B2 D.ix (B1 D.mkLst (A1 (.ok (.int 0)) (A1 (.ok (.int 1)) (A1 (.ok (.int 1)) (A1 (.ok (.int 99)) A0))))) (B2 D.mod (B1 (f1 D.toInt) (A1 (B2 D.ix (.ok numbers_here_1) (B2 D.add (.ok at_1) (.ok (.int 4)))) A0)) (.ok (.int 4))))) >>= fun moment_1 => (B1 D.mkTup (A1 (.ok kind_1) (A1 (.ok start_1) (A1 (.ok goal_1) (A1 (.ok moment_1) A0)))))))))
def m_law_trip : List D → M (D) := a3 g_law_trip
theorem e_law_trip (numbers_here_1 at_1 parts_here_1 : D) : m_law_trip [numbers_here_1, at_1, parts_here_1] = g_law_trip numbers_here_1 at_1 parts_here_1 := a3_ g_law_trip numbers_here_1 at_1 parts_here_1
theorem sc_law_trip : FnScope ["_law_numbers_here", "_law_at", "_law_parts_here", "_law_kind", "_law_start", "_law_goal", "_law_moment"] ["_law_numbers_here", "_law_at", "_law_parts_here"] (d_law_trip).scope := ⟨rfl, rfl, rfl, by decide +kernel, rfl, by decide +kernel, by decide +kernel⟩
theorem ok_law_trip {P : Program} {w : World} {K : PySem.W.Frag} {mg : Str → Option Value} {base : Heap} (L : Lw K mg) {fd : FuncData} (F : DefOk K d_law_trip fd) : FnOk P w K mg base (L2.CX P w) 1 (He.fAd K d_law_trip.at_) fd ["_law_numbers_here", "_law_at", "_law_parts_here"] (spD K [true, true, true] m_law_trip) := by
  refine fn_def F sc_law_trip rfl (fun cdv A outer s H E hr ds hl => ?_)
  match ds, hl with
  | [numbers_here_1, at_1, parts_here_1], _ =>
    exact db_G [.bor numbers_here_1, .bor at_1, .bor parts_here_1, .un, .un, .un, .un] rfl <| db_step (fun kind_1 => [.bor numbers_here_1, .bor at_1, .bor parts_here_1, .val kind_1, .un, .un, .un]) (ds_set (de_ix hr.u70 (DR.of (de_ix hr.u70 (dr_bor (i := 2) rfl (pv 2)) (DR.of de_int))) (DR.of (de_mod (DR.of (de_callTy int_R int_op rfl (L.free (fa_1)) boot_int_ (dra_cons (DR.of (de_ix hr.u70 (dr_bor (i := 0) rfl (pv 0)) (dr_bor (i := 1) rfl (pv 1)))) dra_nil))) (DR.of (de_callB lenR len_op rfl (L.free (fa_3)) boot_len_ (dra_cons (DR.of (de_ix hr.u70 (dr_bor (i := 2) rfl (pv 2)) (DR.of de_int))) dra_nil)))))) (fun pe => ps_set (i := 3) sc_law_trip.nd rfl (Or.inl rfl) pe)) (fun _ => rfl) fun kind_1 => db_step (fun start_1 => [.bor numbers_here_1, .bor at_1, .bor parts_here_1, .val kind_1, .val start_1, .un, .un]) (ds_set (de_ix hr.u70 (DR.of (de_ix hr.u70 (dr_bor (i := 2) rfl (pv 2)) (DR.of de_int))) (DR.of (de_mod (DR.of (de_callTy int_R int_op rfl (L.free (fa_1)) boot_int_ (dra_cons (DR.of (de_ix hr.u70 (dr_bor (i := 0) rfl (pv 0)) (DR.of (de_add (dr_bor (i := 1) rfl (pv 1)) (DR.of de_int))))) dra_nil))) (DR.of (de_callB lenR len_op rfl (L.free (fa_3)) boot_len_ (dra_cons (DR.of (de_ix hr.u70 (dr_bor (i := 2) rfl (pv 2)) (DR.of de_int))) dra_nil)))))) (fun pe => ps_set (i := 4) sc_law_trip.nd rfl (Or.inl rfl) pe)) (fun _ => rfl) fun start_1 => db_step (fun goal_1 => [.bor numbers_here_1, .bor at_1, .bor parts_here_1, .val kind_1, .val start_1, .val goal_1, .un]) (ds_set (de_ix hr.u70 (DR.of (de_ix hr.u70 (dr_bor (i := 2) rfl (pv 2)) (DR.of de_int))) (DR.of (de_mod (DR.of (de_callTy int_R int_op rfl (L.free (fa_1)) boot_int_ (dra_cons (DR.of (de_ix hr.u70 (dr_bor (i := 0) rfl (pv 0)) (DR.of (de_add (dr_bor (i := 1) rfl (pv 1)) (DR.of de_int))))) dra_nil))) (DR.of (de_callB lenR len_op rfl (L.free (fa_3)) boot_len_ (dra_cons (DR.of (de_ix hr.u70 (dr_bor (i := 2) rfl (pv 2)) (DR.of de_int))) dra_nil)))))) (fun pe => ps_set (i := 5) sc_law_trip.nd rfl (Or.inl rfl) pe)) (fun _ => rfl) fun goal_1 => db_step (fun moment_1 => [.bor numbers_here_1, .bor at_1, .bor parts_here_1, .val kind_1, .val start_1, .val goal_1, .val moment_1]) (ds_set (de_mul (DR.of (de_callTy int_R int_op rfl (L.free (fa_1)) boot_int_ (dra_cons (DR.of (de_ix hr.u70 (dr_bor (i := 0) rfl (pv 0)) (DR.of (de_add (dr_bor (i := 1) rfl (pv 1)) (DR.of de_int))))) dra_nil))) (DR.of (de_ix hr.u70 (DR.of (de_lst (da_cons de_int (da_cons de_int (da_cons de_int (da_cons de_int da_nil)))))) (DR.of (de_mod (DR.of (de_callTy int_R int_op rfl (L.free (fa_1)) boot_int_ (dra_cons (DR.of (de_ix hr.u70 (dr_bor (i := 0) rfl (pv 0)) (DR.of (de_add (dr_bor (i := 1) rfl (pv 1)) (DR.of de_int))))) dra_nil))) (DR.of de_int)))))) (fun pe => ps_set (i := 6) sc_law_trip.nd rfl (Or.inl rfl) pe)) (fun _ => rfl) fun moment_1 => db_last (ds_ret (de_tup (da_cons (de_val (i := 3) rfl (pv 3)) (da_cons (de_val (i := 4) rfl (pv 4)) (da_cons (de_val (i := 5) rfl (pv 5)) (da_cons (de_val (i := 6) rfl (pv 6)) da_nil))))))
def g_law_apart_trip : D → D → D → M (D) := fun numbers_here_1 at_1 parts_here_1 => ((B1 m_law_trip (A1 (.ok numbers_here_1) (A1 (.ok at_1) (A1 (.ok parts_here_1) A0)))) >>= un4 fun kind_1 start_1 goal_1 moment_1 => ((mIf (B2 D.eq (.ok start_1) (.ok goal_1)) ((B2 D.ix (B2 D.ix (.ok parts_here_1) (.ok (.int 2))) (B2 D.mod (B2 D.add (meth D.isTup (B2 D.ix (.ok parts_here_1) (.ok (.int 2))) (A1 (.ok start_1) A0) (m1 D.indexT)) (.ok (.int 1))) (B1 (f1 D.len) (A1 (B2 D.ix (.ok parts_here_1) (.ok (.int 2))) A0)))) >>= fun goal_2 => (.ok goal_2)) (.ok goal_1) : M (D)) >>= fun goal_3 => (B1 D.mkTup (A1 (.ok kind_1) (A1 (.ok start_1) (A1 (.ok goal_3) A0))))))
def m_law_apart_trip : List D → M (D) := a3 g_law_apart_trip
theorem e_law_apart_trip (numbers_here_1 at_1 parts_here_1 : D) : m_law_apart_trip [numbers_here_1, at_1, parts_here_1] = g_law_apart_trip numbers_here_1 at_1 parts_here_1 := a3_ g_law_apart_trip numbers_here_1 at_1 parts_here_1
theorem sc_law_apart_trip : FnScope ["_law_numbers_here", "_law_at", "_law_parts_here", "_law_kind", "_law_start", "_law_goal", "_law_moment"] ["_law_numbers_here", "_law_at", "_law_parts_here"] (d_law_apart_trip).scope := ⟨rfl, rfl, rfl, by decide +kernel, rfl, by decide +kernel, by decide +kernel⟩
theorem ok_law_apart_trip {P : Program} {w : World} {K : PySem.W.Frag} {mg : Str → Option Value} {base : Heap} (L : Lw K mg) {fd : FuncData} (F : DefOk K d_law_apart_trip fd) : FnOk P w K mg base (L2.CX P w) 2 (He.fAd K d_law_apart_trip.at_) fd ["_law_numbers_here", "_law_at", "_law_parts_here"] (spD K [true, true, true] m_law_apart_trip) := by
  obtain ⟨fd_law_trip, F_law_trip⟩ := L.c.def_ 7 (d := d_law_trip) rfl
  have k_law_trip := ok_law_trip (P := P) (w := w) (base := base) L F_law_trip
  have b_law_trip : Binds K fd_law_trip ["_law_numbers_here", "_law_at", "_law_parts_here"] [] := F_law_trip.bindsN fun _ _ _ _ _ _ us hl => match us, hl with | [_, _, _], _ => rfl
  refine fn_def F sc_law_apart_trip rfl (fun cdv A outer s H E hr ds hl => ?_)
  match ds, hl with
  | [numbers_here_1, at_1, parts_here_1], _ =>
    exact db_G [.bor numbers_here_1, .bor at_1, .bor parts_here_1, .un, .un, .un, .un] rfl <| db_un4' [3, 4, 5, 6] (fun kind_1 start_1 goal_1 moment_1 => [.bor numbers_here_1, .bor at_1, .bor parts_here_1, .val kind_1, .val start_1, .val goal_1, .val moment_1]) (de_call ctx_def k_law_trip (hr.mono (by decide)) rfl (L.glo (fa_13)) F_law_trip.kp b_law_trip (dam_bor (dr_bor (i := 0) rfl (pv 0)) (dam_bor (dr_bor (i := 1) rfl (pv 1)) (dam_bor (dr_bor (i := 2) rfl (pv 2)) dam_nil)))) rfl (pg_seq rfl (pgs_cons (pg_name (i := 3) sc_law_apart_trip.nd rfl (Or.inl rfl)) (pgs_cons (pg_name (i := 4) sc_law_apart_trip.nd rfl (Or.inl rfl)) (pgs_cons (pg_name (i := 5) sc_law_apart_trip.nd rfl (Or.inl rfl)) (pgs_cons (pg_name (i := 6) sc_law_apart_trip.nd rfl (Or.inl rfl)) pgs_nil))))) rfl rfl rfl (fun _ _ _ _ => rfl) fun kind_1 start_1 goal_1 moment_1 => db_step (fun (s : D) => [.bor numbers_here_1, .bor at_1, .bor parts_here_1, .val kind_1, .val start_1, .val s, .val moment_1]) (ds_if (dt_cmp (op_eqD hr.u64) cmp_eq (dr_val (i := 4) rfl (pv 4)) (dr_val (i := 5) rfl (pv 5)) (nomark _)) (db_step (fun goal_2 => [.bor numbers_here_1, .bor at_1, .bor parts_here_1, .val kind_1, .val start_1, .val goal_2, .val moment_1]) (ds_set (de_ix hr.u70 (DR.of (de_ix hr.u70 (dr_bor (i := 2) rfl (pv 2)) (DR.of de_int))) (DR.of (de_mod (DR.of (de_add (DR.of (de_indexT (DR.of (de_ix hr.u70 (dr_bor (i := 2) rfl (pv 2)) (DR.of de_int))) (dra_cons (dr_val (i := 4) rfl (pv 4)) dra_nil))) (DR.of de_int))) (DR.of (de_callB lenR len_op rfl (L.free (fa_3)) boot_len_ (dra_cons (DR.of (de_ix hr.u70 (dr_bor (i := 2) rfl (pv 2)) (DR.of de_int))) dra_nil)))))) (fun pe => ps_set (i := 5) sc_law_apart_trip.nd rfl (Or.inl rfl) pe)) (fun _ => rfl) fun goal_2 => db_nil rfl) (db_nil rfl)) (fun _ => rfl) (fun goal_3 => db_G [.bor numbers_here_1, .bor at_1, .bor parts_here_1, .val kind_1, .val start_1, .val goal_3, .val moment_1] rfl <| db_last (ds_ret (de_tup (da_cons (de_val (i := 3) rfl (pv 3)) (da_cons (de_val (i := 4) rfl (pv 4)) (da_cons (de_val (i := 5) rfl (pv 5)) da_nil))))))
def g_law_open : D → D → M (D) := fun parts_here_1 kind_1 => (L1 ((B1 D.items (B2 D.ix (.ok parts_here_1) (.ok (.int 3)))) >>= fun ds => compL (fElt (fun road_here_1 => (mAnd (B2 D.mem (.ok kind_1) (B2 D.ix (.ok road_here_1) (.ok (.int 4)))) (B2 D.ne (B2 D.ix (.ok road_here_1) (.ok (.int 5))) (B1 D.mkTup A0)))) (fun road_here_1 => (.ok road_here_1))) ds))
def m_law_open : List D → M (D) := a2 g_law_open
theorem e_law_open (parts_here_1 kind_1 : D) : m_law_open [parts_here_1, kind_1] = g_law_open parts_here_1 kind_1 := a2_ g_law_open parts_here_1 kind_1
theorem sc_law_open : FnScope ["_law_parts_here", "_law_kind", "_law_road_here"] ["_law_parts_here", "_law_kind"] (d_law_open).scope := ⟨rfl, rfl, rfl, by decide +kernel, rfl, by decide +kernel, by decide +kernel⟩
theorem ok_law_open {P : Program} {w : World} {K : PySem.W.Frag} {mg : Str → Option Value} {base : Heap} (L : Lw K mg) {fd : FuncData} (F : DefOk K d_law_open fd) : FnOk P w K mg base (L2.CX P w) 1 (He.fAd K d_law_open.at_) fd ["_law_parts_here", "_law_kind"] (spD K [true, true] m_law_open) := by
  refine fn_def F sc_law_open rfl (fun cdv A outer s H E hr ds hl => ?_)
  match ds, hl with
  | [parts_here_1, kind_1], _ =>
    exact db_G [.bor parts_here_1, .bor kind_1, .un] rfl <| db_last (ds_ret (DNL.de (dn_lc2 (own := [("_law_road_here", 2)]) (i := 2) (mt := fun road_here_1 => (mAnd (B2 D.mem (.ok kind_1) (B2 D.ix (.ok road_here_1) (.ok (.int 4)))) (B2 D.ne (B2 D.ix (.ok road_here_1) (.ok (.int 5))) (B1 D.mkTup A0)))) (me := fun road_here_1 => (.ok road_here_1)) (CtxOk.calm ctx_def) sc_law_open.nd (dir_seq (DR.of (de_ix hr.u70 (dr_bor (i := 0) rfl (pv 0)) (DR.of de_int)))) (blkOk_by (by kernel_rfl)) rfl (fun _ _ _ _ _ => pg_name (i := 2) sc_law_open.nd rfl (Or.inl rfl)) (fun _ _ _ _ _ road_here_1 => (DW.dt (dw_and (dt_cmp (op_inAll hr.u70) cmp_in (dr_bor (i := 1) rfl (pv 1)) (DR.of (de_ix hr.u70 (dr_val (i := 2) rfl (pv 2)) (DR.of de_int))) rfl) (dw_and1 (dt_cmp (op_neD hr.u64) cmp_ne (DR.of (de_ix hr.u70 (dr_val (i := 2) rfl (pv 2)) (DR.of de_int))) (DR.of (de_tup da_nil)) (nomark _)))))) (fun _ _ _ _ _ road_here_1 => (de_val (i := 2) rfl (pv 2))))))
def g_law_follows : D → D → D → M (D) := fun parts_here_1 one_1 other_1 => (vAnd (C2 D.eq (B2 D.ix (.ok one_1) (.ok (.int 2))) (B2 D.ix (.ok other_1) (.ok (.int 1)))) (C2 D.nmem (B1 D.mkTup (A1 (B2 D.ix (.ok one_1) (.ok (.int 0))) (A1 (B2 D.ix (.ok other_1) (.ok (.int 0))) A0))) (B2 D.ix (.ok parts_here_1) (.ok (.int 4)))))
def m_law_follows : List D → M (D) := a3 g_law_follows
theorem e_law_follows (parts_here_1 one_1 other_1 : D) : m_law_follows [parts_here_1, one_1, other_1] = g_law_follows parts_here_1 one_1 other_1 := a3_ g_law_follows parts_here_1 one_1 other_1
theorem sc_law_follows : FnScope ["_law_parts_here", "_law_one", "_law_other"] ["_law_parts_here", "_law_one", "_law_other"] (d_law_follows).scope := ⟨rfl, rfl, rfl, by decide +kernel, rfl, by decide +kernel, by decide +kernel⟩
theorem ok_law_follows {P : Program} {w : World} {K : PySem.W.Frag} {mg : Str → Option Value} {base : Heap} (L : Lw K mg) {fd : FuncData} (F : DefOk K d_law_follows fd) : FnOk P w K mg base (L2.CX P w) 1 (He.fAd K d_law_follows.at_) fd ["_law_parts_here", "_law_one", "_law_other"] (spD K [true, true, true] m_law_follows) := by
  refine fn_def F sc_law_follows rfl (fun cdv A outer s H E hr ds hl => ?_)
  match ds, hl with
  | [parts_here_1, one_1, other_1], _ =>
    exact db_G [.bor parts_here_1, .bor one_1, .bor other_1] rfl <| db_last (ds_ret (de_and (de_cmp (op_eqD hr.u64) cmp_eq (DR.of (de_ix hr.u70 (dr_bor (i := 1) rfl (pv 1)) (DR.of de_int))) (DR.of (de_ix hr.u70 (dr_bor (i := 2) rfl (pv 2)) (DR.of de_int))) (nomark _)) (de_one (de_cmp (rNinAll_op hr.u70) cmp_nin (DR.of (de_tup (da_cons (de_ix hr.u70 (dr_bor (i := 1) rfl (pv 1)) (DR.of de_int)) (da_cons (de_ix hr.u70 (dr_bor (i := 2) rfl (pv 2)) (DR.of de_int)) da_nil)))) (DR.of (de_ix hr.u70 (dr_bor (i := 0) rfl (pv 0)) (DR.of de_int))) rfl))))
def m_law_is_way_l1 (parts_here_1 : D) (found_2 : D) : (List D) → D → M (List D) := fun more_2 road_here_3 => (mIf (mAnd (B2 D.nmem (.ok road_here_3) (.ok found_2)) (B1 D.tru (B1 (f1 D.any) (A1 (L1 ((B1 D.items (.ok found_2)) >>= fun ds => compL (fElt noT (fun one_1 => (B1 m_law_follows (A1 (.ok parts_here_1) (A1 (.ok one_1) (A1 (.ok road_here_3) A0)))))) ds)) A0)))) (mPush more_2 (.ok road_here_3) >>= fun more_3 => (.ok more_3)) (.ok more_2))
def m_law_is_way_l2 (parts_here_1 : D) (roads_1 : D) : (D) → D → M (D) := fun found_2 turn_1 => ((nLst A0) >>= fun more_1 => (((B1 D.items (.ok roads_1)) >>= fun ds => loopF (m_law_is_way_l1 parts_here_1 found_2) ds more_1) >>= fun more_4 => ((B2 D.add (.ok found_2) (.ok (.lst more_4))) >>= fun found_3 => (.ok found_3))))
def g_law_is_way : D → D → D → D → D → M (D) := fun parts_here_1 kind_1 start_1 goal_1 names_here_1 => ((L1 ((B1 D.items (B1 m_law_open (A1 (.ok parts_here_1) (A1 (.ok kind_1) A0)))) >>= fun ds => compL (fElt (fun road_here_1 => (B2 D.nmem (B2 D.ix (.ok road_here_1) (.ok (.int 0))) (.ok names_here_1))) (fun road_here_1 => (.ok road_here_1))) ds)) >>= fun roads_1 => ((L1 ((B1 D.items (.ok roads_1)) >>= fun ds => compL (fElt (fun road_here_2 => (B2 D.eq (B2 D.ix (.ok road_here_2) (.ok (.int 1))) (.ok start_1))) (fun road_here_2 => (.ok road_here_2))) ds)) >>= fun found_1 => (((B1 D.range1 (A1 (B1 (f1 D.len) (A1 (.ok roads_1) A0)) A0)) >>= fun ds => loopF (m_law_is_way_l2 parts_here_1 roads_1) ds found_1) >>= fun found_4 => (B1 (f1 D.any) (A1 (L1 ((B1 D.items (.ok found_4)) >>= fun ds => compL (fElt noT (fun road_here_4 => (C2 D.eq (B2 D.ix (.ok road_here_4) (.ok (.int 2))) (.ok goal_1)))) ds)) A0)))))
def m_law_is_way : List D → M (D) := a5 g_law_is_way
theorem e_law_is_way (parts_here_1 kind_1 start_1 goal_1 names_here_1 : D) : m_law_is_way [parts_here_1, kind_1, start_1, goal_1, names_here_1] = g_law_is_way parts_here_1 kind_1 start_1 goal_1 names_here_1 := a5_ g_law_is_way parts_here_1 kind_1 start_1 goal_1 names_here_1
theorem sc_law_is_way : FnScope ["_law_parts_here", "_law_kind", "_law_start", "_law_goal", "_law_names_here", "_law_roads", "_law_found", "_law_turn", "_law_more", "_law_road_here", "_law_one"] ["_law_parts_here", "_law_kind", "_law_start", "_law_goal", "_law_names_here"] (d_law_is_way).scope := ⟨rfl, rfl, rfl, by decide +kernel, rfl, by decide +kernel, by decide +kernel⟩
theorem ok_law_is_way {P : Program} {w : World} {K : PySem.W.Frag} {mg : Str → Option Value} {base : Heap} (L : Lw K mg) {fd : FuncData} (F : DefOk K d_law_is_way fd) : FnOk P w K mg base (L2.CX P w) 2 (He.fAd K d_law_is_way.at_) fd ["_law_parts_here", "_law_kind", "_law_start", "_law_goal", "_law_names_here"] (spD K [true, true, true, true, true] m_law_is_way) := by
  obtain ⟨fd_law_open, F_law_open⟩ := L.c.def_ 9 (d := d_law_open) rfl
  have k_law_open := ok_law_open (P := P) (w := w) (base := base) L F_law_open
  have b_law_open : Binds K fd_law_open ["_law_parts_here", "_law_kind"] [] := F_law_open.bindsN fun _ _ _ _ _ _ us hl => match us, hl with | [_, _], _ => rfl
  obtain ⟨fd_law_follows, F_law_follows⟩ := L.c.def_ 10 (d := d_law_follows) rfl
  have k_law_follows := ok_law_follows (P := P) (w := w) (base := base) L F_law_follows
  have b_law_follows : Binds K fd_law_follows ["_law_parts_here", "_law_one", "_law_other"] [] := F_law_follows.bindsN fun _ _ _ _ _ _ us hl => match us, hl with | [_, _, _], _ => rfl
  refine fn_def F sc_law_is_way rfl (fun cdv A outer s H E hr ds hl => ?_)
  match ds, hl with
  | [parts_here_1, kind_1, start_1, goal_1, names_here_1], _ =>
    exact db_G [.bor parts_here_1, .bor kind_1, .bor start_1, .bor goal_1, .bor names_here_1, .un, .un, .un, .un, .un, .un] rfl <| db_step (fun roads_1 => [.bor parts_here_1, .bor kind_1, .bor start_1, .bor goal_1, .bor names_here_1, .val roads_1, .un, .un, .un, .un, .un]) (ds_setLc (i := 5) (dn_lc2 (own := [("_law_road_here", 9)]) (i := 9) (mt := fun road_here_1 => (B2 D.nmem (B2 D.ix (.ok road_here_1) (.ok (.int 0))) (.ok names_here_1))) (me := fun road_here_1 => (.ok road_here_1)) (CtxOk.calm ctx_def) sc_law_is_way.nd (dir_seq (DR.of (de_call ctx_def k_law_open (hr.mono (by decide)) rfl (L.glo (fa_14)) F_law_open.kp b_law_open (dam_bor (dr_bor (i := 0) rfl (pv 0)) (dam_bor (dr_bor (i := 1) rfl (pv 1)) dam_nil))))) (blkOk_by (by kernel_rfl)) rfl (fun _ _ _ _ _ => pg_name (i := 9) sc_law_is_way.nd rfl (Or.inl rfl)) (fun _ _ _ _ _ road_here_1 => (dt_cmp (rNinAll_op hr.u70) cmp_nin (DR.of (de_ix hr.u70 (dr_val (i := 9) rfl (pv 9)) (DR.of de_int))) (dr_bor (i := 4) rfl (pv 4)) rfl)) (fun _ _ _ _ _ road_here_1 => (de_val (i := 9) rfl (pv 9)))) rfl rfl rfl) (fun _ => rfl) fun roads_1 => db_step (fun found_1 => [.bor parts_here_1, .bor kind_1, .bor start_1, .bor goal_1, .bor names_here_1, .val roads_1, .val found_1, .un, .un, .un, .un]) (ds_setLc (i := 6) (dn_lc2 (own := [("_law_road_here", 9)]) (i := 9) (mt := fun road_here_2 => (B2 D.eq (B2 D.ix (.ok road_here_2) (.ok (.int 1))) (.ok start_1))) (me := fun road_here_2 => (.ok road_here_2)) (CtxOk.calm ctx_def) sc_law_is_way.nd (dir_seq (dr_val (i := 5) rfl (pv 5))) (blkOk_by (by kernel_rfl)) rfl (fun _ _ _ _ _ => pg_name (i := 9) sc_law_is_way.nd rfl (Or.inl rfl)) (fun _ _ _ _ _ road_here_2 => (dt_cmp (op_eqD hr.u64) cmp_eq (DR.of (de_ix hr.u70 (dr_val (i := 9) rfl (pv 9)) (DR.of de_int))) (dr_bor (i := 2) rfl (pv 2)) (nomark _))) (fun _ _ _ _ _ road_here_2 => (de_val (i := 9) rfl (pv 9)))) rfl rfl rfl) (fun _ => rfl) fun found_1 => db_any 7 <| db_any 8 <| db_any 9 <| db_step (fun (s : D) => [.bor parts_here_1, .bor kind_1, .bor start_1, .bor goal_1, .bor names_here_1, .val roads_1, .val s, .any, .any, .any, .un]) (ds_for1 (i := 7) (S := D) (Γ := (fun (s : D) => [.bor parts_here_1, .bor kind_1, .bor start_1, .bor goal_1, .bor names_here_1, .val roads_1, .val s, .any, .any, .any, .un])) (f := (m_law_is_way_l2 parts_here_1 roads_1)) found_1 rfl ctx_def (di_range1 rfl (L.free (fa_2)) (dra_cons (DR.of (de_callB lenR len_op rfl (L.free (fa_3)) boot_len_ (dra_cons (dr_val (i := 5) rfl (pv 5)) dra_nil))) dra_nil)) (pg_name (i := 7) sc_law_is_way.nd rfl (Or.inl rfl)) (fun found_2 turn_1 => db_G [.bor parts_here_1, .bor kind_1, .bor start_1, .bor goal_1, .bor names_here_1, .val roads_1, .val found_2, .val turn_1, .any, .any, .un] rfl <| db_step (fun more_1 => [.bor parts_here_1, .bor kind_1, .bor start_1, .bor goal_1, .bor names_here_1, .val roads_1, .val found_2, .val turn_1, .own more_1, .any, .un]) (ds_setN (dn_lst da_nil) (fun pe => ps_set (i := 8) sc_law_is_way.nd rfl (Or.inl rfl) pe)) (fun _ => rfl) fun more_1 => db_step (fun (s : List D) => [.bor parts_here_1, .bor kind_1, .bor start_1, .bor goal_1, .bor names_here_1, .val roads_1, .val found_2, .val turn_1, .own s, .any, .un]) (ds_for1 (i := 9) (S := List D) (Γ := (fun (s : List D) => [.bor parts_here_1, .bor kind_1, .bor start_1, .bor goal_1, .bor names_here_1, .val roads_1, .val found_2, .val turn_1, .own s, .any, .un])) (f := (m_law_is_way_l1 parts_here_1 found_2)) more_1 rfl ctx_def (di_seq (de_val (i := 5) rfl (pv 5))) (pg_name (i := 9) sc_law_is_way.nd rfl (Or.inr rfl)) (fun more_2 road_here_3 => db_G [.bor parts_here_1, .bor kind_1, .bor start_1, .bor goal_1, .bor names_here_1, .val roads_1, .val found_2, .val turn_1, .own more_2, .val road_here_3, .un] rfl <| db_last (ds_if (DW.dt (dw_and (dt_cmp (rNinAll_op hr.u70) cmp_nin (dr_val (i := 9) rfl (pv 9)) (dr_val (i := 6) rfl (pv 6)) rfl) (dw_and1 (dt_val (DR.of (de_callB (cr_any (CtxOk.calm ctx_def)) any_op rfl (L.free (fa_16)) boot_any_ (dra_cons (DR.of (DNL.de (dn_lc1 (own := [("_law_one", 10)]) (i := 10) (me := fun one_1 => (B1 m_law_follows (A1 (.ok parts_here_1) (A1 (.ok one_1) (A1 (.ok road_here_3) A0))))) (CtxOk.calm ctx_def) sc_law_is_way.nd (dir_seq (dr_val (i := 6) rfl (pv 6))) (blkOk_by (by kernel_rfl)) rfl (fun _ _ _ _ _ => pg_name (i := 10) sc_law_is_way.nd rfl (Or.inl rfl)) (fun _ _ _ _ _ one_1 => (de_call (CtxOk.blk ctx_def) k_law_follows (hr.mono (by decide)) rfl (L.glo (fa_15)) F_law_follows.kp b_law_follows (dam_bor (dr_bor (i := 0) rfl (pv 0)) (dam_bor (dr_val (i := 10) rfl (pv 10)) (dam_bor (dr_val (i := 9) rfl (pv 9)) dam_nil)))))))) dra_nil))))))) (db_step (fun more_3 => [.bor parts_here_1, .bor kind_1, .bor start_1, .bor goal_1, .bor names_here_1, .val roads_1, .val found_2, .val turn_1, .own more_3, .val road_here_3, .un]) (ds_pushO (i := 8) rfl (pv 8) (de_val (i := 9) rfl (pv 9))) (fun _ => rfl) fun more_3 => db_any 9 <| db_nil rfl) (db_any 9 <| db_nil rfl)))) (fun _ => rfl) (fun more_4 => db_G [.bor parts_here_1, .bor kind_1, .bor start_1, .bor goal_1, .bor names_here_1, .val roads_1, .val found_2, .val turn_1, .own more_4, .any, .un] rfl <| db_step (fun found_3 => [.bor parts_here_1, .bor kind_1, .bor start_1, .bor goal_1, .bor names_here_1, .val roads_1, .val found_3, .val turn_1, .own more_4, .any, .un]) (ds_set (de_add (dr_val (i := 6) rfl (pv 6)) (dr_own (i := 8) rfl (pv 8))) (fun pe => ps_set (i := 6) sc_law_is_way.nd rfl (Or.inl rfl) pe)) (fun _ => rfl) fun found_3 => db_any 7 <| db_any 8 <| db_nil rfl))) (fun _ => rfl) (fun found_4 => db_G [.bor parts_here_1, .bor kind_1, .bor start_1, .bor goal_1, .bor names_here_1, .val roads_1, .val found_4, .any, .any, .any, .un] rfl <| db_last (ds_ret (de_callB (cr_any (CtxOk.calm ctx_def)) any_op rfl (L.free (fa_16)) boot_any_ (dra_cons (DR.of (DNL.de (dn_lc1 (own := [("_law_road_here", 9)]) (i := 9) (me := fun road_here_4 => (C2 D.eq (B2 D.ix (.ok road_here_4) (.ok (.int 2))) (.ok goal_1))) (CtxOk.calm ctx_def) sc_law_is_way.nd (dir_seq (dr_val (i := 6) rfl (pv 6))) (blkOk_by (by kernel_rfl)) rfl (fun _ _ _ _ _ => pg_name (i := 9) sc_law_is_way.nd rfl (Or.inl rfl)) (fun _ _ _ _ _ road_here_4 => (de_cmp (op_eqD hr.u64) cmp_eq (DR.of (de_ix hr.u70 (dr_val (i := 9) rfl (pv 9)) (DR.of de_int))) (dr_bor (i := 3) rfl (pv 3)) (nomark _)))))) dra_nil))))
def g_require : D → M (Option D) := fun holds_1 => (mIf (mNot (B1 D.tru (.ok holds_1))) stuck (.ok none))
def m_require : List D → M D := fun ds => orNon (a1 g_require ds)
theorem sc_require : FnScope ["holds"] ["holds"] (d_require).scope := ⟨rfl, rfl, rfl, by decide +kernel, rfl, by decide +kernel, by decide +kernel⟩
theorem ok_require {P : Program} {w : World} {K : PySem.W.Frag} {mg : Str → Option Value} {base : Heap} (L : Lw K mg) {fd : FuncData} (F : DefOk K d_require fd) : FnOk P w K mg base (L2.CX P w) 1 (He.fAd K d_require.at_) fd ["holds"] (spD K [true] m_require) := by
  refine fn_defN F sc_require rfl (fun cdv A outer s H E hr ds hl => ?_)
  match ds, hl with
  | [holds_1], _ =>
    exact db_G [.bor holds_1] rfl <| db_last (ds_if (dt_not (dt_val (dr_bor (i := 0) rfl (pv 0)))) (db_stuck) (db_end rfl))
def g_name_of : D → M (D) := fun road_1 => (B2 D.ix (.ok road_1) (.ok (.int 0)))
def m_name_of : List D → M (D) := a1 g_name_of
theorem sc_name_of : FnScope ["road"] ["road"] (d_name_of).scope := ⟨rfl, rfl, rfl, by decide +kernel, rfl, by decide +kernel, by decide +kernel⟩
theorem ok_name_of {P : Program} {w : World} {K : PySem.W.Frag} {mg : Str → Option Value} {base : Heap} (L : Lw K mg) {fd : FuncData} (F : DefOk K d_name_of fd) : FnOk P w K mg base (L2.CX P w) 1 (He.fAd K d_name_of.at_) fd ["road"] (spD K [true] m_name_of) := by
  refine fn_def F sc_name_of rfl (fun cdv A outer s H E hr ds hl => ?_)
  match ds, hl with
  | [road_1], _ =>
    exact db_G [.bor road_1] rfl <| db_last (ds_ret (de_ix hr.u70 (dr_bor (i := 0) rfl (pv 0)) (DR.of de_int)))
def m_are_different_l1 (parts_1 : D) : (Unit) → D → D → M (Rs (Unit)) := fun _ number_1 part_1 => (mIf (B2 D.mem (.ok part_1) (S3 (.ok parts_1) oN (B1 D.bnd (.ok number_1)))) ((.ok (.bl false)) >>= fun d => .ok (.rt d)) (.ok (.go ())))
def g_are_different : D → M (D) := fun parts_1 => (((B1 D.enum1 (A1 (.ok parts_1) A0)) >>= fun ds => loopR (fun s => on2 ((m_are_different_l1 parts_1) s)) ds ()) >>= fun r => sFin r (fun _ => (.ok (.bl true))))
def m_are_different : List D → M (D) := a1 g_are_different
theorem e_are_different (parts_1 : D) : m_are_different [parts_1] = g_are_different parts_1 := a1_ g_are_different parts_1
theorem sc_are_different : FnScope ["parts", "number", "part"] ["parts"] (d_are_different).scope := ⟨rfl, rfl, rfl, by decide +kernel, rfl, by decide +kernel, by decide +kernel⟩
theorem ok_are_different {P : Program} {w : World} {K : PySem.W.Frag} {mg : Str → Option Value} {base : Heap} (L : Lw K mg) {fd : FuncData} (F : DefOk K d_are_different fd) : FnOk P w K mg base (L2.CX P w) 1 (He.fAd K d_are_different.at_) fd ["parts"] (spD K [false] m_are_different) := by
  refine fn_def F sc_are_different rfl (fun cdv A outer s H E hr ds hl => ?_)
  match ds, hl with
  | [parts_1], _ =>
    exact db_G [.val parts_1, .un, .un] rfl <| db_any 1 <| db_any 2 <| db_sumF (ds_for2R (i := 1) (j := 2) (S := Unit) (Γ := (fun (s : Unit) => [.val parts_1, .any, .any])) (f := (m_are_different_l1 parts_1)) () rfl ctx_def (di_enum1 rfl (L.free (fa_17)) (da_cons (de_val (i := 0) rfl (pv 0)) da_nil)) (pg_tup rfl (pgs_cons (pg_name (i := 1) sc_are_different.nd rfl (Or.inl rfl)) (pgs_cons (pg_name (i := 2) sc_are_different.nd rfl (Or.inl rfl)) pgs_nil))) (fun _ number_1 part_1 => db_G [.val parts_1, .val number_1, .val part_1] rfl <| db_last (ds_if (dt_cmp (op_inAll hr.u70) cmp_in (dr_val (i := 2) rfl (pv 2)) (DR.of (de_sl (dr_val (i := 0) rfl (pv 0)) do_none (do_some (dr_val (i := 1) rfl (pv 1))))) rfl) (db_map Rx.rt (db_last (ds_ret de_bl)) (fun _ => rfl)) (db_any 1 <| db_any 2 <| db_nil rfl)))) (fun _ => db_G [.val parts_1, .any, .any] rfl <| db_last (ds_ret de_bl))
def g_Map_road_names : D → M (D) := fun self_1 => (B1 (f1 D.toTup) (A1 (L1 ((B1 D.items (B1 (D.attrC ["Map"] "roads") (.ok self_1))) >>= fun ds => compL (fElt noT (fun road_1 => (B2 D.ix (.ok road_1) (.ok (.int 0))))) ds)) A0))
def m_Map_road_names : List D → M (D) := a1 g_Map_road_names
theorem e_Map_road_names (self_1 : D) : m_Map_road_names [self_1] = g_Map_road_names self_1 := a1_ g_Map_road_names self_1
theorem sc_Map_road_names : FnScope ["self", "road"] ["self"] (d_Map_road_names).scope := ⟨rfl, rfl, rfl, by decide +kernel, rfl, by decide +kernel, by decide +kernel⟩
theorem ok_Map_road_names {P : Program} {w : World} {K : PySem.W.Frag} {mg : Str → Option Value} {base : Heap} (L : Lw K mg) {fd : FuncData} (F : DefOkG K d_Map_road_names fd) : FnOk P w K mg base (L2.CX P w) 1 (gAd K d_Map_road_names.at_) fd ["self"] (spD K [true] m_Map_road_names) := by
  refine fn_def F sc_Map_road_names rfl (fun cdv A outer s H E hr ds hl => ?_)
  match ds, hl with
  | [self_1], _ =>
    exact db_G [.bor self_1, .un] rfl <| db_last (ds_ret (de_callTy call_tuple_ofP tup_op rfl (L.free (fa_8)) boot_tuple_ (dra_cons (DR.of (DNL.de (dn_lc1 (own := [("road", 1)]) (i := 1) (me := fun road_1 => (B2 D.ix (.ok road_1) (.ok (.int 0)))) (CtxOk.calm ctx_def) sc_Map_road_names.nd (dir_seq (DR.of (de_attr (cs := ["Map"]) (f := "roads") (by first | exact L.ats (f := "roads") ⟨L.cls (fa_18), L.noat (fa_19), True.intro⟩) (dr_bor (i := 0) rfl (pv 0))))) (blkOk_by (by kernel_rfl)) rfl (fun _ _ _ _ _ => pg_name (i := 1) sc_Map_road_names.nd rfl (Or.inl rfl)) (fun _ _ _ _ _ road_1 => (de_ix hr.u70 (dr_val (i := 1) rfl (pv 1)) (DR.of de_int)))))) dra_nil)))
def g_is_name : D → M (D) := fun text_1 => (mIf (mOr (mNot (T3 D.le D.le (.ok (.int 1)) (B1 (f1 D.len) (A1 (.ok text_1) A0)) (.ok (.int 12)))) (B2 D.mem (B2 D.ix (.ok text_1) (.ok (.int 0))) (.ok (.str "0123456789")))) (.ok (.bl false)) (B1 (f1 D.all) (A1 (L1 ((B1 D.items (.ok text_1)) >>= fun ds => compL (fElt noT (fun char_1 => (C2 D.mem (.ok char_1) (.ok (.str "abcdefghijklmnopqrstuvwxyz0123456789"))))) ds)) A0)))
def m_is_name : List D → M (D) := a1 g_is_name
theorem e_is_name (text_1 : D) : m_is_name [text_1] = g_is_name text_1 := a1_ g_is_name text_1
theorem sc_is_name : FnScope ["text", "char"] ["text"] (d_is_name).scope := ⟨rfl, rfl, rfl, by decide +kernel, rfl, by decide +kernel, by decide +kernel⟩
theorem ok_is_name {P : Program} {w : World} {K : PySem.W.Frag} {mg : Str → Option Value} {base : Heap} (L : Lw K mg) {fd : FuncData} (F : DefOk K d_is_name fd) : FnOk P w K mg base (L2.CX P w) 1 (He.fAd K d_is_name.at_) fd ["text"] (spD K [true] m_is_name) := by
  refine fn_def F sc_is_name rfl (fun cdv A outer s H E hr ds hl => ?_)
  match ds, hl with
  | [text_1], _ =>
    exact db_G [.bor text_1, .un] rfl <| db_ifr (DW.dt (dw_or (dt_not (dt_chain op_le op_le cmp_le cmp_le (DR.of de_int) (DR.of (de_callB lenR len_op rfl (L.free (fa_3)) boot_len_ (dra_cons (dr_bor (i := 0) rfl (pv 0)) dra_nil))) (DR.of (de_gintE rfl (L.int (fa_20)))))) (dw_or1 (dt_cmp (op_inAll hr.u70) cmp_in (DR.of (de_ix hr.u70 (dr_bor (i := 0) rfl (pv 0)) (DR.of de_int))) (DR.of (de_str (by decide +kernel))) rfl)))) (db_last (ds_ret de_bl)) (db_last (ds_ret (de_callB (cr_all (CtxOk.calm ctx_def)) all_op rfl (L.free (fa_22)) boot_all_ (dra_cons (DR.of (DNL.de (dn_lc1 (own := [("char", 1)]) (i := 1) (me := fun char_1 => (C2 D.mem (.ok char_1) (.ok (.str "abcdefghijklmnopqrstuvwxyz0123456789")))) (CtxOk.calm ctx_def) sc_is_name.nd (dir_seq (dr_bor (i := 0) rfl (pv 0))) (blkOk_by (by kernel_rfl)) rfl (fun _ _ _ _ _ => pg_name (i := 1) sc_is_name.nd rfl (Or.inl rfl)) (fun _ _ _ _ _ char_1 => (de_cmp (op_inAll hr.u70) cmp_in (dr_val (i := 1) rfl (pv 1)) (DR.of (de_gstrE rfl (L.str (fa_21)) (by decide +kernel))) rfl))))) dra_nil))))
def m_are_hours_l1 (day_1 : D) : (D) → D → D → M (Rs (D)) := fun before_2 opened_1 closed_1 => (mIf (mNot (T4 D.lt D.lt D.le (.ok before_2) (.ok opened_1) (.ok closed_1) (.ok day_1))) ((.ok (.bl false)) >>= fun d => .ok (.rt d)) ((.ok closed_1) >>= fun before_3 => (.ok (.go before_3))))
def g_are_hours : D → D → M (D) := fun hours_1 day_1 => (mIf (B2 D.gt (B1 (f1 D.len) (A1 (.ok hours_1) A0)) (.ok (.int 4))) (.ok (.bl false)) ((B1 D.neg (.ok (.int 1))) >>= fun before_1 => (((B1 D.items (.ok hours_1)) >>= fun ds => loopR (fun s => on2 ((m_are_hours_l1 day_1) s)) ds before_1) >>= fun r => sFin r (fun before_4 => (.ok (.bl true))))))
def m_are_hours : List D → M (D) := a2 g_are_hours
theorem e_are_hours (hours_1 day_1 : D) : m_are_hours [hours_1, day_1] = g_are_hours hours_1 day_1 := a2_ g_are_hours hours_1 day_1
theorem sc_are_hours : FnScope ["hours", "day", "before", "opened", "closed"] ["hours", "day"] (d_are_hours).scope := ⟨rfl, rfl, rfl, by decide +kernel, rfl, by decide +kernel, by decide +kernel⟩
theorem ok_are_hours {P : Program} {w : World} {K : PySem.W.Frag} {mg : Str → Option Value} {base : Heap} (L : Lw K mg) {fd : FuncData} (F : DefOk K d_are_hours fd) : FnOk P w K mg base (L2.CX P w) 1 (He.fAd K d_are_hours.at_) fd ["hours", "day"] (spD K [false, true] m_are_hours) := by
  refine fn_def F sc_are_hours rfl (fun cdv A outer s H E hr ds hl => ?_)
  match ds, hl with
  | [hours_1, day_1], _ =>
    exact db_G [.val hours_1, .bor day_1, .un, .un, .un] rfl <| db_ifr (dt_cmp op_gt cmp_gt (DR.of (de_callB lenR len_op rfl (L.free (fa_3)) boot_len_ (dra_cons (dr_val (i := 0) rfl (pv 0)) dra_nil))) (DR.of (de_gintE rfl (L.int (fa_23)))) (nomark _)) (db_last (ds_ret de_bl)) (db_step (fun before_1 => [.val hours_1, .bor day_1, .val before_1, .un, .un]) (ds_set (de_neg (DR.of de_int)) (fun pe => ps_set (i := 2) sc_are_hours.nd rfl (Or.inl rfl) pe)) (fun _ => rfl) fun before_1 => db_any 3 <| db_any 4 <| db_sumF (ds_for2R (i := 3) (j := 4) (S := D) (Γ := (fun (s : D) => [.val hours_1, .bor day_1, .val s, .any, .any])) (f := (m_are_hours_l1 day_1)) before_1 rfl ctx_def (di_seq (de_val (i := 0) rfl (pv 0))) (pg_tup rfl (pgs_cons (pg_name (i := 3) sc_are_hours.nd rfl (Or.inl rfl)) (pgs_cons (pg_name (i := 4) sc_are_hours.nd rfl (Or.inl rfl)) pgs_nil))) (fun before_2 opened_1 closed_1 => db_G [.val hours_1, .bor day_1, .val before_2, .val opened_1, .val closed_1] rfl <| db_ifRt (dt_not (dt_chain3 (op_lt.or op_lt_str) (op_lt.or op_lt_str) op_le cmp_lt cmp_lt cmp_le (dr_val (i := 2) rfl (pv 2)) (dr_val (i := 3) rfl (pv 3)) (dr_val (i := 4) rfl (pv 4)) (dr_bor (i := 1) rfl (pv 1)))) (db_last (ds_ret de_bl)) (db_step (fun before_3 => [.val hours_1, .bor day_1, .val before_3, .val opened_1, .val closed_1]) (ds_set (de_val (i := 4) rfl (pv 4)) (fun pe => ps_set (i := 2) sc_are_hours.nd rfl (Or.inl rfl) pe)) (fun _ => rfl) fun before_3 => db_any 3 <| db_any 4 <| db_nil rfl))) (fun before_4 => db_G [.val hours_1, .bor day_1, .val before_4, .any, .any] rfl <| db_last (ds_ret de_bl)))
def g_Map_checked : D → D → M (D) := fun self_1 road_1 => ((B1 m_require (A1 (C2 D.eq (B1 (f1 D.len) (A1 (.ok road_1) A0)) (.ok (.int 6))) A0)) >>= fun _ => ((.ok road_1) >>= un6 fun name_1 start_1 end_1 minutes_1 kinds_1 hours_1 => ((B1 m_require (A1 (vAnd (B1 m_is_name (A1 (.ok name_1) A0)) (vAnd (C2 D.mem (.ok start_1) (B1 (D.attrC ["Map"] "places") (.ok self_1))) (vAnd (C2 D.mem (.ok end_1) (B1 (D.attrC ["Map"] "places") (.ok self_1))) (C3 D.le D.le (.ok (.int 1)) (.ok minutes_1) (.ok (.int 1000)))))) A0)) >>= fun _ => ((B1 m_require (A1 (vAnd (B1 m_are_different (A1 (.ok kinds_1) A0)) (B1 (f1 D.all) (A1 (L1 ((B1 D.items (.ok kinds_1)) >>= fun ds => compL (fElt noT (fun kind_1 => (C2 D.mem (.ok kind_1) (B1 (D.attrC ["Map"] "kinds") (.ok self_1))))) ds)) A0))) A0)) >>= fun _ => ((B1 (f1 D.toTup) (A1 (L1 ((B1 D.items (B1 (D.attrC ["Map"] "kinds") (.ok self_1))) >>= fun ds => compL (fElt (fun kind_2 => (B2 D.mem (.ok kind_2) (.ok kinds_1))) (fun kind_2 => (.ok kind_2))) ds)) A0)) >>= fun ordered_1 => (mIf (B2 D.isN (.ok hours_1) (.ok .non)) (B1 D.mkTup (A1 (.ok name_1) (A1 (.ok start_1) (A1 (.ok end_1) (A1 (.ok minutes_1) (A1 (.ok ordered_1) (A1 (.ok .non) A0))))))) ((B1 m_require (A1 (vAnd (B1 (f1 D.all) (A1 (L1 ((B1 D.items (.ok hours_1)) >>= fun ds => compL (fElt noT (fun pair_1 => (C2 D.eq (B1 (f1 D.len) (A1 (.ok pair_1) A0)) (.ok (.int 2))))) ds)) A0)) (B1 m_are_hours (A1 (.ok hours_1) (A1 (B1 (D.attrC ["Map"] "day") (.ok self_1)) A0)))) A0)) >>= fun _ => (B1 D.mkTup (A1 (.ok name_1) (A1 (.ok start_1) (A1 (.ok end_1) (A1 (.ok minutes_1) (A1 (.ok ordered_1) (A1 (B1 (f1 D.toTup) (A1 (L1 ((B1 D.items (.ok hours_1)) >>= fun ds => compL (fElt noT (fun pair_2 => (B1 (f1 D.toTup) (A1 (.ok pair_2) A0)))) ds)) A0)) A0))))))))))))))
def m_Map_checked : List D → M (D) := a2 g_Map_checked
theorem e_Map_checked (self_1 road_1 : D) : m_Map_checked [self_1, road_1] = g_Map_checked self_1 road_1 := a2_ g_Map_checked self_1 road_1
theorem sc_Map_checked : FnScope ["self", "road", "name", "start", "end", "minutes", "kinds", "hours", "ordered", "kind", "pair"] ["self", "road"] (d_Map_checked).scope := ⟨rfl, rfl, rfl, by decide +kernel, rfl, by decide +kernel, by decide +kernel⟩
theorem ok_Map_checked {P : Program} {w : World} {K : PySem.W.Frag} {mg : Str → Option Value} {base : Heap} (L : Lw K mg) {fd : FuncData} (F : DefOk K d_Map_checked fd) : FnOk P w K mg base (L2.CX P w) 2 (He.fAd K d_Map_checked.at_) fd ["self", "road"] (spD K [true, false] m_Map_checked) := by
  obtain ⟨fd_require, F_require⟩ := L.c.def_ 12 (d := d_require) rfl
  have k_require := ok_require (P := P) (w := w) (base := base) L F_require
  have b_require : Binds K fd_require ["holds"] [] := F_require.bindsN fun _ _ _ _ _ _ us hl => match us, hl with | [_], _ => rfl
  obtain ⟨fd_is_name, F_is_name⟩ := L.c.def_ 15 (d := d_is_name) rfl
  have k_is_name := ok_is_name (P := P) (w := w) (base := base) L F_is_name
  have b_is_name : Binds K fd_is_name ["text"] [] := F_is_name.bindsN fun _ _ _ _ _ _ us hl => match us, hl with | [_], _ => rfl
  obtain ⟨fd_are_different, F_are_different⟩ := L.c.def_ 14 (d := d_are_different) rfl
  have k_are_different := ok_are_different (P := P) (w := w) (base := base) L F_are_different
  have b_are_different : Binds K fd_are_different ["parts"] [] := F_are_different.bindsN fun _ _ _ _ _ _ us hl => match us, hl with | [_], _ => rfl
  obtain ⟨fd_are_hours, F_are_hours⟩ := L.c.def_ 16 (d := d_are_hours) rfl
  have k_are_hours := ok_are_hours (P := P) (w := w) (base := base) L F_are_hours
  have b_are_hours : Binds K fd_are_hours ["hours", "day"] [] := F_are_hours.bindsN fun _ _ _ _ _ _ us hl => match us, hl with | [_, _], _ => rfl
  refine fn_def F sc_Map_checked rfl (fun cdv A outer s H E hr ds hl => ?_)
  match ds, hl with
  | [self_1, road_1], _ =>
    exact db_G [.bor self_1, .val road_1, .un, .un, .un, .un, .un, .un, .un, .un, .un] rfl <| db_step (fun _ => [.bor self_1, .val road_1, .un, .un, .un, .un, .un, .un, .un, .un, .un]) (ds_expr (de_call ctx_def k_require (hr.mono (by decide)) rfl (L.glo (fa_25)) F_require.kp b_require (dam_bor (DR.of (de_cmp (op_eqD hr.u64) cmp_eq (DR.of (de_callB lenR len_op rfl (L.free (fa_3)) boot_len_ (dra_cons (dr_val (i := 1) rfl (pv 1)) dra_nil))) (DR.of (de_gintE rfl (L.int (fa_24)))) (nomark _))) dam_nil)) (fun pe => ps_expr pe)) (fun _ => rfl) fun _ => db_un6' [2, 3, 4, 5, 6, 7] (fun name_1 start_1 end_1 minutes_1 kinds_1 hours_1 => [.bor self_1, .val road_1, .val name_1, .val start_1, .val end_1, .val minutes_1, .val kinds_1, .val hours_1, .un, .un, .un]) (de_val (i := 1) rfl (pv 1)) rfl (pg_seq rfl (pgs_cons (pg_name (i := 2) sc_Map_checked.nd rfl (Or.inl rfl)) (pgs_cons (pg_name (i := 3) sc_Map_checked.nd rfl (Or.inl rfl)) (pgs_cons (pg_name (i := 4) sc_Map_checked.nd rfl (Or.inl rfl)) (pgs_cons (pg_name (i := 5) sc_Map_checked.nd rfl (Or.inl rfl)) (pgs_cons (pg_name (i := 6) sc_Map_checked.nd rfl (Or.inr rfl)) (pgs_cons (pg_name (i := 7) sc_Map_checked.nd rfl (Or.inl rfl)) pgs_nil))))))) rfl rfl rfl (fun _ _ _ _ _ _ => rfl) fun name_1 start_1 end_1 minutes_1 kinds_1 hours_1 => db_step (fun _ => [.bor self_1, .val road_1, .val name_1, .val start_1, .val end_1, .val minutes_1, .val kinds_1, .val hours_1, .un, .un, .un]) (ds_expr (de_call ctx_def k_require (hr.mono (by decide)) rfl (L.glo (fa_25)) F_require.kp b_require (dam_bor (DR.of (de_and (de_call ctx_def k_is_name (hr.mono (by decide)) rfl (L.glo (fa_28)) F_is_name.kp b_is_name (dam_bor (dr_val (i := 2) rfl (pv 2)) dam_nil)) (de_and (de_cmp (op_inAll hr.u70) cmp_in (dr_val (i := 3) rfl (pv 3)) (DR.of (de_attr (cs := ["Map"]) (f := "places") (by first | exact L.ats (f := "places") ⟨L.cls (fa_18), L.noat (fa_27), True.intro⟩) (dr_bor (i := 0) rfl (pv 0)))) rfl) (de_and (de_cmp (op_inAll hr.u70) cmp_in (dr_val (i := 4) rfl (pv 4)) (DR.of (de_attr (cs := ["Map"]) (f := "places") (by first | exact L.ats (f := "places") ⟨L.cls (fa_18), L.noat (fa_27), True.intro⟩) (dr_bor (i := 0) rfl (pv 0)))) rfl) (de_one (de_chain op_le op_le cmp_le cmp_le (DR.of de_int) (dr_val (i := 5) rfl (pv 5)) (DR.of (de_gintE rfl (L.int (fa_26)))))))))) dam_nil)) (fun pe => ps_expr pe)) (fun _ => rfl) fun _ => db_step (fun _ => [.bor self_1, .val road_1, .val name_1, .val start_1, .val end_1, .val minutes_1, .val kinds_1, .val hours_1, .un, .un, .un]) (ds_expr (de_call ctx_def k_require (hr.mono (by decide)) rfl (L.glo (fa_25)) F_require.kp b_require (dam_bor (DR.of (de_and (de_call ctx_def k_are_different (hr.mono (by decide)) rfl (L.glo (fa_30)) F_are_different.kp b_are_different (dam_frz (de_val (i := 6) rfl (pv 6)) dam_nil)) (de_one (de_callB (cr_all (CtxOk.calm ctx_def)) all_op rfl (L.free (fa_22)) boot_all_ (dra_cons (DR.of (DNL.de (dn_lc1 (own := [("kind", 9)]) (i := 9) (me := fun kind_1 => (C2 D.mem (.ok kind_1) (B1 (D.attrC ["Map"] "kinds") (.ok self_1)))) (CtxOk.calm ctx_def) sc_Map_checked.nd (dir_seq (dr_val (i := 6) rfl (pv 6))) (blkOk_by (by kernel_rfl)) rfl (fun _ _ _ _ _ => pg_name (i := 9) sc_Map_checked.nd rfl (Or.inl rfl)) (fun _ _ _ _ _ kind_1 => (de_cmp (op_inAll hr.u70) cmp_in (dr_val (i := 9) rfl (pv 9)) (DR.of (de_attr (cs := ["Map"]) (f := "kinds") (by first | exact L.ats (f := "kinds") ⟨L.cls (fa_18), L.noat (fa_29), True.intro⟩) (dr_bor (i := 0) rfl (pv 0)))) rfl))))) dra_nil))))) dam_nil)) (fun pe => ps_expr pe)) (fun _ => rfl) fun _ => db_step (fun ordered_1 => [.bor self_1, .val road_1, .val name_1, .val start_1, .val end_1, .val minutes_1, .val kinds_1, .val hours_1, .val ordered_1, .un, .un]) (ds_set (de_callTy call_tuple_ofP tup_op rfl (L.free (fa_8)) boot_tuple_ (dra_cons (DR.of (DNL.de (dn_lc2 (own := [("kind", 9)]) (i := 9) (mt := fun kind_2 => (B2 D.mem (.ok kind_2) (.ok kinds_1))) (me := fun kind_2 => (.ok kind_2)) (CtxOk.calm ctx_def) sc_Map_checked.nd (dir_seq (DR.of (de_attr (cs := ["Map"]) (f := "kinds") (by first | exact L.ats (f := "kinds") ⟨L.cls (fa_18), L.noat (fa_29), True.intro⟩) (dr_bor (i := 0) rfl (pv 0))))) (blkOk_by (by kernel_rfl)) rfl (fun _ _ _ _ _ => pg_name (i := 9) sc_Map_checked.nd rfl (Or.inl rfl)) (fun _ _ _ _ _ kind_2 => (dt_cmp (op_inAll hr.u70) cmp_in (dr_val (i := 9) rfl (pv 9)) (dr_val (i := 6) rfl (pv 6)) rfl)) (fun _ _ _ _ _ kind_2 => (de_val (i := 9) rfl (pv 9)))))) dra_nil)) (fun pe => ps_set (i := 8) sc_Map_checked.nd rfl (Or.inl rfl) pe)) (fun _ => rfl) fun ordered_1 => db_ifr (dt_cmp op_isN cmp_isN (dr_val (i := 7) rfl (pv 7)) (DR.of de_non) (nomark _)) (db_last (ds_ret (de_tup (da_cons (de_val (i := 2) rfl (pv 2)) (da_cons (de_val (i := 3) rfl (pv 3)) (da_cons (de_val (i := 4) rfl (pv 4)) (da_cons (de_val (i := 5) rfl (pv 5)) (da_cons (de_val (i := 8) rfl (pv 8)) (da_cons de_non da_nil))))))))) (db_step (fun _ => [.bor self_1, .val road_1, .val name_1, .val start_1, .val end_1, .val minutes_1, .val kinds_1, .val hours_1, .val ordered_1, .un, .un]) (ds_expr (de_call ctx_def k_require (hr.mono (by decide)) rfl (L.glo (fa_25)) F_require.kp b_require (dam_bor (DR.of (de_and (de_callB (cr_all (CtxOk.calm ctx_def)) all_op rfl (L.free (fa_22)) boot_all_ (dra_cons (DR.of (DNL.de (dn_lc1 (own := [("pair", 10)]) (i := 10) (me := fun pair_1 => (C2 D.eq (B1 (f1 D.len) (A1 (.ok pair_1) A0)) (.ok (.int 2)))) (CtxOk.calm ctx_def) sc_Map_checked.nd (dir_seq (dr_val (i := 7) rfl (pv 7))) (blkOk_by (by kernel_rfl)) rfl (fun _ _ _ _ _ => pg_name (i := 10) sc_Map_checked.nd rfl (Or.inl rfl)) (fun _ _ _ _ _ pair_1 => (de_cmp (op_eqD hr.u64) cmp_eq (DR.of (de_callB lenR len_op rfl (L.free (fa_3)) boot_len_ (dra_cons (dr_val (i := 10) rfl (pv 10)) dra_nil))) (DR.of de_int) (nomark _)))))) dra_nil)) (de_one (de_call ctx_def k_are_hours (hr.mono (by decide)) rfl (L.glo (fa_32)) F_are_hours.kp b_are_hours (dam_frz (de_val (i := 7) rfl (pv 7)) (dam_bor (DR.of (de_attr (cs := ["Map"]) (f := "day") (by first | exact L.ats (f := "day") ⟨L.cls (fa_18), L.noat (fa_31), True.intro⟩) (dr_bor (i := 0) rfl (pv 0)))) dam_nil)))))) dam_nil)) (fun pe => ps_expr pe)) (fun _ => rfl) fun _ => db_last (ds_ret (de_tup (da_cons (de_val (i := 2) rfl (pv 2)) (da_cons (de_val (i := 3) rfl (pv 3)) (da_cons (de_val (i := 4) rfl (pv 4)) (da_cons (de_val (i := 5) rfl (pv 5)) (da_cons (de_val (i := 8) rfl (pv 8)) (da_cons (de_callTy call_tuple_ofP tup_op rfl (L.free (fa_8)) boot_tuple_ (dra_cons (DR.of (DNL.de (dn_lc1 (own := [("pair", 10)]) (i := 10) (me := fun pair_2 => (B1 (f1 D.toTup) (A1 (.ok pair_2) A0))) (CtxOk.calm ctx_def) sc_Map_checked.nd (dir_seq (dr_val (i := 7) rfl (pv 7))) (blkOk_by (by kernel_rfl)) rfl (fun _ _ _ _ _ => pg_name (i := 10) sc_Map_checked.nd rfl (Or.inl rfl)) (fun _ _ _ _ _ pair_2 => (de_callTy call_tuple_ofP tup_op rfl (L.free (fa_8)) boot_tuple_ (dra_cons (dr_val (i := 10) rfl (pv 10)) dra_nil)))))) dra_nil)) da_nil)))))))))
def m_Map_road_l1 (name_1 : D) : (Unit) → D → M (Rs (Unit)) := fun _ road_1 => (mIf (B2 D.eq (B2 D.ix (.ok road_1) (.ok (.int 0))) (.ok name_1)) ((.ok road_1) >>= fun d => .ok (.rt d)) (.ok (.go ())))
def g_Map_road : D → D → M (D) := fun self_1 name_1 => (((B1 D.items (B1 (D.attrC ["Map"] "roads") (.ok self_1))) >>= fun ds => loopR (m_Map_road_l1 name_1) ds ()) >>= fun r => sFin r (fun _ => stuck))
def m_Map_road : List D → M (D) := a2 g_Map_road
theorem e_Map_road (self_1 name_1 : D) : m_Map_road [self_1, name_1] = g_Map_road self_1 name_1 := a2_ g_Map_road self_1 name_1
theorem sc_Map_road : FnScope ["self", "name", "road"] ["self", "name"] (d_Map_road).scope := ⟨rfl, rfl, rfl, by decide +kernel, rfl, by decide +kernel, by decide +kernel⟩
theorem ok_Map_road {P : Program} {w : World} {K : PySem.W.Frag} {mg : Str → Option Value} {base : Heap} (L : Lw K mg) {fd : FuncData} (F : DefOk K d_Map_road fd) : FnOk P w K mg base (L2.CX P w) 1 (He.fAd K d_Map_road.at_) fd ["self", "name"] (spD K [true, false] m_Map_road) := by
  refine fn_def F sc_Map_road rfl (fun cdv A outer s H E hr ds hl => ?_)
  match ds, hl with
  | [self_1, name_1], _ =>
    exact db_G [.bor self_1, .val name_1, .un] rfl <| db_any 2 <| db_sumF (ds_for1R (i := 2) (S := Unit) (Γ := (fun (s : Unit) => [.bor self_1, .val name_1, .any])) (f := (m_Map_road_l1 name_1)) () rfl ctx_def (di_seq (de_attr (cs := ["Map"]) (f := "roads") (by first | exact L.ats (f := "roads") ⟨L.cls (fa_18), L.noat (fa_19), True.intro⟩) (dr_bor (i := 0) rfl (pv 0)))) (pg_name (i := 2) sc_Map_road.nd rfl (Or.inl rfl)) (fun _ road_1 => db_G [.bor self_1, .val name_1, .val road_1] rfl <| db_last (ds_if (dt_cmp (op_eqD hr.u64) cmp_eq (DR.of (de_ix hr.u70 (dr_val (i := 2) rfl (pv 2)) (DR.of de_int))) (dr_val (i := 1) rfl (pv 1)) (nomark _)) (db_map Rx.rt (db_last (ds_ret (de_val (i := 2) rfl (pv 2)))) (fun _ => rfl)) (db_any 2 <| db_nil rfl)))) (fun _ => db_G [.bor self_1, .val name_1, .any] rfl <| db_stuck)
def g_Map_checked_bar : D → D → M (D) := fun self_1 bar_1 => ((B1 m_require (A1 (vAnd (C2 D.eq (B1 (f1 D.len) (A1 (.ok bar_1) A0)) (.ok (.int 2))) (vAnd (C2 D.mem (B2 D.ix (.ok bar_1) (.ok (.int 0))) (mProp "Map" m_Map_road_names (.ok self_1))) (C2 D.mem (B2 D.ix (.ok bar_1) (.ok (.int 1))) (mProp "Map" m_Map_road_names (.ok self_1))))) A0)) >>= fun _ => ((B1 m_require (A1 (C2 D.eq (B2 D.ix (mMeth "Map" "road" m_Map_road (.ok self_1) (A1 (B2 D.ix (.ok bar_1) (.ok (.int 0))) A0)) (.ok (.int 2))) (B2 D.ix (mMeth "Map" "road" m_Map_road (.ok self_1) (A1 (B2 D.ix (.ok bar_1) (.ok (.int 1))) A0)) (.ok (.int 1)))) A0)) >>= fun _ => (B1 (f1 D.toTup) (A1 (.ok bar_1) A0))))
def m_Map_checked_bar : List D → M (D) := a2 g_Map_checked_bar
theorem e_Map_checked_bar (self_1 bar_1 : D) : m_Map_checked_bar [self_1, bar_1] = g_Map_checked_bar self_1 bar_1 := a2_ g_Map_checked_bar self_1 bar_1
theorem sc_Map_checked_bar : FnScope ["self", "bar"] ["self", "bar"] (d_Map_checked_bar).scope := ⟨rfl, rfl, rfl, by decide +kernel, rfl, by decide +kernel, by decide +kernel⟩
theorem ok_Map_checked_bar {P : Program} {w : World} {K : PySem.W.Frag} {mg : Str → Option Value} {base : Heap} (L : Lw K mg) {fd : FuncData} (F : DefOk K d_Map_checked_bar fd) : FnOk P w K mg base (L2.CX P w) 3 (He.fAd K d_Map_checked_bar.at_) fd ["self", "bar"] (spD K [true, true] m_Map_checked_bar) := by
  obtain ⟨fd_require, F_require⟩ := L.c.def_ 12 (d := d_require) rfl
  have k_require := ok_require (P := P) (w := w) (base := base) L F_require
  have b_require : Binds K fd_require ["holds"] [] := F_require.bindsN fun _ _ _ _ _ _ us hl => match us, hl with | [_], _ => rfl
  obtain ⟨fd_Map_road_names, F_Map_road_names⟩ := L.s.get 0 (d := d_Map_road_names) rfl
  have k_Map_road_names := ok_Map_road_names (P := P) (w := w) (base := base) L F_Map_road_names
  have b_Map_road_names : Binds K fd_Map_road_names ["self"] [] := F_Map_road_names.bindsN fun _ _ _ _ _ _ us hl => match us, hl with | [_], _ => rfl
  obtain ⟨fd_Map_road, F_Map_road⟩ := L.c.def_ 18 (d := d_Map_road) rfl
  have k_Map_road := ok_Map_road (P := P) (w := w) (base := base) L F_Map_road
  have b_Map_road : Binds K fd_Map_road ["self", "name"] [] := F_Map_road.bindsN fun _ _ _ _ _ _ us hl => match us, hl with | [_, _], _ => rfl
  refine fn_def F sc_Map_checked_bar rfl (fun cdv A outer s H E hr ds hl => ?_)
  match ds, hl with
  | [self_1, bar_1], _ =>
    exact db_G [.bor self_1, .bor bar_1] rfl <| db_step (fun _ => [.bor self_1, .bor bar_1]) (ds_expr (de_call ctx_def k_require (hr.mono (by decide)) rfl (L.glo (fa_25)) F_require.kp b_require (dam_bor (DR.of (de_and (de_cmp (op_eqD hr.u64) cmp_eq (DR.of (de_callB lenR len_op rfl (L.free (fa_3)) boot_len_ (dra_cons (dr_bor (i := 1) rfl (pv 1)) dra_nil))) (DR.of de_int) (nomark _)) (de_and (de_cmp (op_inAll hr.u70) cmp_in (DR.of (de_ix hr.u70 (dr_bor (i := 1) rfl (pv 1)) (DR.of de_int))) (DR.of (de_propX (c := "Map") (f := "road_names") (L.cls (fa_18)) (L.prop (c := "Map") (f := "road_names") (by decide)) k_Map_road_names (hr.mono (by decide)) b_Map_road_names (dr_bor (i := 0) rfl (pv 0)))) rfl) (de_one (de_cmp (op_inAll hr.u70) cmp_in (DR.of (de_ix hr.u70 (dr_bor (i := 1) rfl (pv 1)) (DR.of de_int))) (DR.of (de_propX (c := "Map") (f := "road_names") (L.cls (fa_18)) (L.prop (c := "Map") (f := "road_names") (by decide)) k_Map_road_names (hr.mono (by decide)) b_Map_road_names (dr_bor (i := 0) rfl (pv 0)))) rfl))))) dam_nil)) (fun pe => ps_expr pe)) (fun _ => rfl) fun _ => db_step (fun _ => [.bor self_1, .bor bar_1]) (ds_expr (de_call ctx_def k_require (hr.mono (by decide)) rfl (L.glo (fa_25)) F_require.kp b_require (dam_bor (DR.of (de_cmp (op_eqD hr.u64) cmp_eq (DR.of (de_ix hr.u70 (DR.of (de_meth (c := "Map") (mn := "road") ctx_def (L.cls (fa_18)) (L.meth (fa_33)) k_Map_road (hr.mono (by decide)) b_Map_road (dr_bor (i := 0) rfl (pv 0)) (dam_frz (de_ix hr.u70 (dr_bor (i := 1) rfl (pv 1)) (DR.of de_int)) dam_nil))) (DR.of de_int))) (DR.of (de_ix hr.u70 (DR.of (de_meth (c := "Map") (mn := "road") ctx_def (L.cls (fa_18)) (L.meth (fa_33)) k_Map_road (hr.mono (by decide)) b_Map_road (dr_bor (i := 0) rfl (pv 0)) (dam_frz (de_ix hr.u70 (dr_bor (i := 1) rfl (pv 1)) (DR.of de_int)) dam_nil))) (DR.of de_int))) (nomark _))) dam_nil)) (fun pe => ps_expr pe)) (fun _ => rfl) fun _ => db_last (ds_ret (de_callTy call_tuple_ofP tup_op rfl (L.free (fa_8)) boot_tuple_ (dra_cons (dr_bor (i := 1) rfl (pv 1)) dra_nil)))
def g_Map_init : D → D → D → D → D → M (List (String × D)) := fun day_1 kinds_1 places_1 roads_1 bars_1 => ((B1 m_require (A1 (C3 D.le D.le (.ok (.int 1)) (.ok day_1) (.ok (.int 1440))) A0)) >>= fun _ => ((B1 m_require (A1 (vAnd (C2 D.le (B1 (f1 D.len) (A1 (.ok places_1) A0)) (.ok (.int 30))) (vAnd (B1 m_are_different (A1 (.ok places_1) A0)) (B1 (f1 D.all) (A1 (L1 ((B1 D.items (.ok places_1)) >>= fun ds => compL (fElt noT (fun place_1 => (B1 m_is_name (A1 (.ok place_1) A0)))) ds)) A0)))) A0)) >>= fun _ => ((B1 m_require (A1 (vAnd (C3 D.le D.le (.ok (.int 1)) (B1 (f1 D.len) (A1 (.ok kinds_1) A0)) (.ok (.int 4))) (vAnd (B1 m_are_different (A1 (.ok kinds_1) A0)) (B1 (f1 D.all) (A1 (L1 ((B1 D.items (.ok kinds_1)) >>= fun ds => compL (fElt noT (fun kind_1 => (B1 m_is_name (A1 (.ok kind_1) A0)))) ds)) A0)))) A0)) >>= fun _ => (mField "day" [] (.ok day_1) >>= fun flds_1 => (mField "places" flds_1 (B1 (f1 D.toTup) (A1 (B1 (f1 D.sorted) (A1 (.ok places_1) A0)) A0)) >>= fun flds_2 => (mField "kinds" flds_2 (B1 (f1 D.toTup) (A1 (B1 (f1 D.sorted) (A1 (.ok kinds_1) A0)) A0)) >>= fun flds_3 => ((B1 m_require (A1 (C2 D.le (B1 (f1 D.len) (A1 (.ok roads_1) A0)) (.ok (.int 60))) A0)) >>= fun _ => (mField "roads" flds_3 (B1 (f1 D.toTup) (A1 (B1 D.sortedK0 (L1 ((B1 D.items (.ok roads_1)) >>= fun ds => compL (fElt noT (fun road_1 => (mMeth "Map" "checked" m_Map_checked (.ok (.ins "Map" flds_3)) (A1 (.ok road_1) A0)))) ds))) A0)) >>= fun flds_4 => ((B1 m_require (A1 (B1 m_are_different (A1 (mProp "Map" m_Map_road_names (.ok (.ins "Map" flds_4))) A0)) A0)) >>= fun _ => ((B1 m_require (A1 (C2 D.le (B1 (f1 D.len) (A1 (.ok bars_1) A0)) (.ok (.int 40))) A0)) >>= fun _ => (mField "bars" flds_4 (B1 (f1 D.toTup) (A1 (B1 (f1 D.sorted) (A1 (L1 ((B1 D.items (.ok bars_1)) >>= fun ds => compL (fElt noT (fun bar_1 => (mMeth "Map" "checked_bar" m_Map_checked_bar (.ok (.ins "Map" flds_4)) (A1 (.ok bar_1) A0)))) ds)) A0)) A0)) >>= fun flds_5 => ((B1 m_require (A1 (B1 m_are_different (A1 (B1 (D.attrC ["Map"] "bars") (.ok (.ins "Map" flds_5))) A0)) A0)) >>= fun _ => (.ok flds_5)))))))))))))
def m_Map_init : List D → M (List (String × D)) := a5 g_Map_init
theorem e_Map_init (day_1 kinds_1 places_1 roads_1 bars_1 : D) : m_Map_init [day_1, kinds_1, places_1, roads_1, bars_1] = g_Map_init day_1 kinds_1 places_1 roads_1 bars_1 := a5_ g_Map_init day_1 kinds_1 places_1 roads_1 bars_1
theorem sc_Map_init : FnScope ["self", "day", "kinds", "places", "roads", "bars", "road", "bar", "place", "kind"] ["self", "day", "kinds", "places", "roads", "bars"] (d_Map_init).scope := ⟨rfl, rfl, rfl, by decide +kernel, rfl, by decide +kernel, by decide +kernel⟩
theorem ok_Map_init {P : Program} {w : World} {K : PySem.W.Frag} {mg : Str → Option Value} {base : Heap} (L : Lw K mg) {fd : FuncData} (F : DefOk K d_Map_init fd) : FnOk P w K mg base (L2.CX P w) 4 (He.fAd K d_Map_init.at_) fd ["self", "day", "kinds", "places", "roads", "bars"] (spI K "Map" [false, false, false, true, true] m_Map_init) := by
  obtain ⟨fd_require, F_require⟩ := L.c.def_ 12 (d := d_require) rfl
  have k_require := ok_require (P := P) (w := w) (base := base) L F_require
  have b_require : Binds K fd_require ["holds"] [] := F_require.bindsN fun _ _ _ _ _ _ us hl => match us, hl with | [_], _ => rfl
  obtain ⟨fd_is_name, F_is_name⟩ := L.c.def_ 15 (d := d_is_name) rfl
  have k_is_name := ok_is_name (P := P) (w := w) (base := base) L F_is_name
  have b_is_name : Binds K fd_is_name ["text"] [] := F_is_name.bindsN fun _ _ _ _ _ _ us hl => match us, hl with | [_], _ => rfl
  obtain ⟨fd_are_different, F_are_different⟩ := L.c.def_ 14 (d := d_are_different) rfl
  have k_are_different := ok_are_different (P := P) (w := w) (base := base) L F_are_different
  have b_are_different : Binds K fd_are_different ["parts"] [] := F_are_different.bindsN fun _ _ _ _ _ _ us hl => match us, hl with | [_], _ => rfl
  obtain ⟨fd_name_of, F_name_of⟩ := L.c.def_ 13 (d := d_name_of) rfl
  have k_name_of := ok_name_of (P := P) (w := w) (base := base) L F_name_of
  have b_name_of : Binds K fd_name_of ["road"] [] := F_name_of.bindsN fun _ _ _ _ _ _ us hl => match us, hl with | [_], _ => rfl
  obtain ⟨fd_Map_checked, F_Map_checked⟩ := L.c.def_ 17 (d := d_Map_checked) rfl
  have k_Map_checked := ok_Map_checked (P := P) (w := w) (base := base) L F_Map_checked
  have b_Map_checked : Binds K fd_Map_checked ["self", "road"] [] := F_Map_checked.bindsN fun _ _ _ _ _ _ us hl => match us, hl with | [_, _], _ => rfl
  obtain ⟨fd_Map_road_names, F_Map_road_names⟩ := L.s.get 0 (d := d_Map_road_names) rfl
  have k_Map_road_names := ok_Map_road_names (P := P) (w := w) (base := base) L F_Map_road_names
  have b_Map_road_names : Binds K fd_Map_road_names ["self"] [] := F_Map_road_names.bindsN fun _ _ _ _ _ _ us hl => match us, hl with | [_], _ => rfl
  obtain ⟨fd_Map_checked_bar, F_Map_checked_bar⟩ := L.c.def_ 19 (d := d_Map_checked_bar) rfl
  have k_Map_checked_bar := ok_Map_checked_bar (P := P) (w := w) (base := base) L F_Map_checked_bar
  have b_Map_checked_bar : Binds K fd_Map_checked_bar ["self", "bar"] [] := F_Map_checked_bar.bindsN fun _ _ _ _ _ _ us hl => match us, hl with | [_, _], _ => rfl
  refine fn_init (c := "Map") F sc_Map_init rfl (by decide) (fun cdv A outer s H E hr sf ds hl => ?_)
  match ds, hl with
  | [day_1, kinds_1, places_1, roads_1, bars_1], _ =>
    exact db_G [.obj sf "Map" [], .val day_1, .val kinds_1, .val places_1, .bor roads_1, .bor bars_1, .un, .un, .un, .un] rfl <| db_step (fun _ => [.obj sf "Map" [], .val day_1, .val kinds_1, .val places_1, .bor roads_1, .bor bars_1, .un, .un, .un, .un]) (ds_expr (de_call ctx_def k_require (hr.mono (by decide)) rfl (L.glo (fa_25)) F_require.kp b_require (dam_bor (DR.of (de_chain op_le op_le cmp_le cmp_le (DR.of de_int) (dr_val (i := 1) rfl (pv 1)) (DR.of (de_gintE rfl (L.int (fa_34)))))) dam_nil)) (fun pe => ps_expr pe)) (fun _ => rfl) fun _ => db_step (fun _ => [.obj sf "Map" [], .val day_1, .val kinds_1, .val places_1, .bor roads_1, .bor bars_1, .un, .un, .un, .un]) (ds_expr (de_call ctx_def k_require (hr.mono (by decide)) rfl (L.glo (fa_25)) F_require.kp b_require (dam_bor (DR.of (de_and (de_cmp op_le cmp_le (DR.of (de_callB lenR len_op rfl (L.free (fa_3)) boot_len_ (dra_cons (dr_val (i := 3) rfl (pv 3)) dra_nil))) (DR.of (de_gintE rfl (L.int (fa_35)))) (nomark _)) (de_and (de_call ctx_def k_are_different (hr.mono (by decide)) rfl (L.glo (fa_30)) F_are_different.kp b_are_different (dam_frz (de_val (i := 3) rfl (pv 3)) dam_nil)) (de_one (de_callB (cr_all (CtxOk.calm ctx_def)) all_op rfl (L.free (fa_22)) boot_all_ (dra_cons (DR.of (DNL.de (dn_lc1 (own := [("place", 8)]) (i := 8) (me := fun place_1 => (B1 m_is_name (A1 (.ok place_1) A0))) (CtxOk.calm ctx_def) sc_Map_init.nd (dir_seq (dr_val (i := 3) rfl (pv 3))) (blkOk_by (by kernel_rfl)) rfl (fun _ _ _ _ _ => pg_name (i := 8) sc_Map_init.nd rfl (Or.inl rfl)) (fun _ _ _ _ _ place_1 => (de_call (CtxOk.blk ctx_def) k_is_name (hr.mono (by decide)) rfl (L.glo (fa_28)) F_is_name.kp b_is_name (dam_bor (dr_val (i := 8) rfl (pv 8)) dam_nil)))))) dra_nil)))))) dam_nil)) (fun pe => ps_expr pe)) (fun _ => rfl) fun _ => db_step (fun _ => [.obj sf "Map" [], .val day_1, .val kinds_1, .val places_1, .bor roads_1, .bor bars_1, .un, .un, .un, .un]) (ds_expr (de_call ctx_def k_require (hr.mono (by decide)) rfl (L.glo (fa_25)) F_require.kp b_require (dam_bor (DR.of (de_and (de_chain op_le op_le cmp_le cmp_le (DR.of de_int) (DR.of (de_callB lenR len_op rfl (L.free (fa_3)) boot_len_ (dra_cons (dr_val (i := 2) rfl (pv 2)) dra_nil))) (DR.of (de_gintE rfl (L.int (fa_36))))) (de_and (de_call ctx_def k_are_different (hr.mono (by decide)) rfl (L.glo (fa_30)) F_are_different.kp b_are_different (dam_frz (de_val (i := 2) rfl (pv 2)) dam_nil)) (de_one (de_callB (cr_all (CtxOk.calm ctx_def)) all_op rfl (L.free (fa_22)) boot_all_ (dra_cons (DR.of (DNL.de (dn_lc1 (own := [("kind", 9)]) (i := 9) (me := fun kind_1 => (B1 m_is_name (A1 (.ok kind_1) A0))) (CtxOk.calm ctx_def) sc_Map_init.nd (dir_seq (dr_val (i := 2) rfl (pv 2))) (blkOk_by (by kernel_rfl)) rfl (fun _ _ _ _ _ => pg_name (i := 9) sc_Map_init.nd rfl (Or.inl rfl)) (fun _ _ _ _ _ kind_1 => (de_call (CtxOk.blk ctx_def) k_is_name (hr.mono (by decide)) rfl (L.glo (fa_28)) F_is_name.kp b_is_name (dam_bor (dr_val (i := 9) rfl (pv 9)) dam_nil)))))) dra_nil)))))) dam_nil)) (fun pe => ps_expr pe)) (fun _ => rfl) fun _ => db_step (fun flds_1 => [.obj sf "Map" flds_1, .val day_1, .val kinds_1, .val places_1, .bor roads_1, .bor bars_1, .un, .un, .un, .un]) (ds_fieldO (f := "day") (i := 0) rfl (pv 0) ⟨L.cls (fa_18), L.noat (fa_31)⟩ (de_val (i := 1) rfl (pv 1)) rfl) (fun _ => rfl) fun flds_1 => db_step (fun flds_2 => [.obj sf "Map" flds_2, .val day_1, .val kinds_1, .val places_1, .bor roads_1, .bor bars_1, .un, .un, .un, .un]) (ds_fieldO (f := "places") (i := 0) rfl (pv 0) ⟨L.cls (fa_18), L.noat (fa_27)⟩ (de_callTy call_tuple_ofP tup_op rfl (L.free (fa_8)) boot_tuple_ (dra_cons (DR.of (de_callB (cr_sortD hr.u70) sorted_op rfl (L.free (fa_7)) boot_sorted_ (dra_cons (dr_val (i := 3) rfl (pv 3)) dra_nil))) dra_nil)) rfl) (fun _ => rfl) fun flds_2 => db_step (fun flds_3 => [.obj sf "Map" flds_3, .val day_1, .val kinds_1, .val places_1, .bor roads_1, .bor bars_1, .un, .un, .un, .un]) (ds_fieldO (f := "kinds") (i := 0) rfl (pv 0) ⟨L.cls (fa_18), L.noat (fa_29)⟩ (de_callTy call_tuple_ofP tup_op rfl (L.free (fa_8)) boot_tuple_ (dra_cons (DR.of (de_callB (cr_sortD hr.u70) sorted_op rfl (L.free (fa_7)) boot_sorted_ (dra_cons (dr_val (i := 2) rfl (pv 2)) dra_nil))) dra_nil)) rfl) (fun _ => rfl) fun flds_3 => db_step (fun _ => [.obj sf "Map" flds_3, .val day_1, .val kinds_1, .val places_1, .bor roads_1, .bor bars_1, .un, .un, .un, .un]) (ds_expr (de_call ctx_def k_require (hr.mono (by decide)) rfl (L.glo (fa_25)) F_require.kp b_require (dam_bor (DR.of (de_cmp op_le cmp_le (DR.of (de_callB lenR len_op rfl (L.free (fa_3)) boot_len_ (dra_cons (dr_bor (i := 4) rfl (pv 4)) dra_nil))) (DR.of (de_gintE rfl (L.int (fa_37)))) (nomark _))) dam_nil)) (fun pe => ps_expr pe)) (fun _ => rfl) fun _ => db_step (fun flds_4 => [.obj sf "Map" flds_4, .val day_1, .val kinds_1, .val places_1, .bor roads_1, .bor bars_1, .un, .un, .un, .un]) (ds_fieldO (f := "roads") (i := 0) rfl (pv 0) ⟨L.cls (fa_18), L.noat (fa_19)⟩ (de_callTy call_tuple_ofP tup_op rfl (L.free (fa_8)) boot_tuple_ (dra_cons (DR.of (de_sortK0 (cr_sortK0 F_name_of sc_name_of (by decide +kernel) (by decide) b_name_of hr.depth hr.u70) rfl (L.free (fa_7)) (pe_cls_ rfl (L.glo (fa_39))) (DR.of (DNL.de (dn_lc1 (own := [("road", 6)]) (i := 6) (me := fun road_1 => (mMeth "Map" "checked" m_Map_checked (.ok (.ins "Map" flds_3)) (A1 (.ok road_1) A0))) (CtxOk.calm ctx_def) sc_Map_init.nd (dir_seq (dr_bor (i := 4) rfl (pv 4))) (blkOk_by (by kernel_rfl)) rfl (fun _ _ _ _ _ => pg_name (i := 6) sc_Map_init.nd rfl (Or.inl rfl)) (fun _ _ _ _ _ road_1 => (de_meth (c := "Map") (mn := "checked") (CtxOk.blk ctx_def) (L.cls (fa_18)) (L.meth (fa_38)) k_Map_checked (hr.mono (by decide)) b_Map_checked (dr_obj (i := 0) rfl (pv 0)) (dam_frz (de_val (i := 6) rfl (pv 6)) dam_nil)))))))) dra_nil)) rfl) (fun _ => rfl) fun flds_4 => db_step (fun _ => [.obj sf "Map" flds_4, .val day_1, .val kinds_1, .val places_1, .bor roads_1, .bor bars_1, .un, .un, .un, .un]) (ds_expr (de_call ctx_def k_require (hr.mono (by decide)) rfl (L.glo (fa_25)) F_require.kp b_require (dam_bor (DR.of (de_call ctx_def k_are_different (hr.mono (by decide)) rfl (L.glo (fa_30)) F_are_different.kp b_are_different (dam_frz (de_propX (c := "Map") (f := "road_names") (L.cls (fa_18)) (L.prop (c := "Map") (f := "road_names") (by decide)) k_Map_road_names (hr.mono (by decide)) b_Map_road_names (dr_obj (i := 0) rfl (pv 0))) dam_nil))) dam_nil)) (fun pe => ps_expr pe)) (fun _ => rfl) fun _ => db_step (fun _ => [.obj sf "Map" flds_4, .val day_1, .val kinds_1, .val places_1, .bor roads_1, .bor bars_1, .un, .un, .un, .un]) (ds_expr (de_call ctx_def k_require (hr.mono (by decide)) rfl (L.glo (fa_25)) F_require.kp b_require (dam_bor (DR.of (de_cmp op_le cmp_le (DR.of (de_callB lenR len_op rfl (L.free (fa_3)) boot_len_ (dra_cons (dr_bor (i := 5) rfl (pv 5)) dra_nil))) (DR.of (de_gintE rfl (L.int (fa_40)))) (nomark _))) dam_nil)) (fun pe => ps_expr pe)) (fun _ => rfl) fun _ => db_step (fun flds_5 => [.obj sf "Map" flds_5, .val day_1, .val kinds_1, .val places_1, .bor roads_1, .bor bars_1, .un, .un, .un, .un]) (ds_fieldO (f := "bars") (i := 0) rfl (pv 0) ⟨L.cls (fa_18), L.noat (fa_42)⟩ (de_callTy call_tuple_ofP tup_op rfl (L.free (fa_8)) boot_tuple_ (dra_cons (DR.of (de_callB (cr_sortD hr.u70) sorted_op rfl (L.free (fa_7)) boot_sorted_ (dra_cons (DR.of (DNL.de (dn_lc1 (own := [("bar", 7)]) (i := 7) (me := fun bar_1 => (mMeth "Map" "checked_bar" m_Map_checked_bar (.ok (.ins "Map" flds_4)) (A1 (.ok bar_1) A0))) (CtxOk.calm ctx_def) sc_Map_init.nd (dir_seq (dr_bor (i := 5) rfl (pv 5))) (blkOk_by (by kernel_rfl)) rfl (fun _ _ _ _ _ => pg_name (i := 7) sc_Map_init.nd rfl (Or.inl rfl)) (fun _ _ _ _ _ bar_1 => (de_meth (c := "Map") (mn := "checked_bar") (CtxOk.blk ctx_def) (L.cls (fa_18)) (L.meth (fa_41)) k_Map_checked_bar (hr.mono (by decide)) b_Map_checked_bar (dr_obj (i := 0) rfl (pv 0)) (dam_bor (dr_val (i := 7) rfl (pv 7)) dam_nil)))))) dra_nil))) dra_nil)) rfl) (fun _ => rfl) fun flds_5 => db_step (fun _ => [.obj sf "Map" flds_5, .val day_1, .val kinds_1, .val places_1, .bor roads_1, .bor bars_1, .un, .un, .un, .un]) (ds_expr (de_call ctx_def k_require (hr.mono (by decide)) rfl (L.glo (fa_25)) F_require.kp b_require (dam_bor (DR.of (de_call ctx_def k_are_different (hr.mono (by decide)) rfl (L.glo (fa_30)) F_are_different.kp b_are_different (dam_frz (de_attr (cs := ["Map"]) (f := "bars") (by first | exact L.ats (f := "bars") ⟨L.cls (fa_18), L.noat (fa_42), True.intro⟩) (dr_obj (i := 0) rfl (pv 0))) dam_nil))) dam_nil)) (fun pe => ps_expr pe)) (fun _ => rfl) fun _ => db_any 1 <| db_any 2 <| db_any 3 <| db_any 4 <| db_any 5 <| db_any 6 <| db_any 7 <| db_any 8 <| db_any 9 <| db_nil rfl
def g_law_made : D → M (D) := fun parts_here_1 => (mkInsK "Map" m_Map_init (fun ws => pick ws 0 ++ (pick ws 1 ++ (pick ws 2 ++ (pick ws 3 ++ (pick ws 4 ++ ([])))))) (A1 (B2 D.ix (.ok parts_here_1) (.ok (.int 0))) (A1 (B2 D.ix (.ok parts_here_1) (.ok (.int 1))) (A1 (B2 D.ix (.ok parts_here_1) (.ok (.int 2))) (A1 (B2 D.ix (.ok parts_here_1) (.ok (.int 3))) (A1 (B2 D.ix (.ok parts_here_1) (.ok (.int 4))) A0))))))
def m_law_made : List D → M (D) := a1 g_law_made
theorem e_law_made (parts_here_1 : D) : m_law_made [parts_here_1] = g_law_made parts_here_1 := a1_ g_law_made parts_here_1
theorem sc_law_made : FnScope ["_law_parts_here"] ["_law_parts_here"] (d_law_made).scope := ⟨rfl, rfl, rfl, by decide +kernel, rfl, by decide +kernel, by decide +kernel⟩
theorem ok_law_made {P : Program} {w : World} {K : PySem.W.Frag} {mg : Str → Option Value} {base : Heap} (L : Lw K mg) {fd : FuncData} (F : DefOk K d_law_made fd) : FnOk P w K mg base (L2.CX P w) 6 (He.fAd K d_law_made.at_) fd ["_law_parts_here"] (spD K [true] m_law_made) := by
  obtain ⟨fd_Map_init, F_Map_init⟩ := L.c.def_ 20 (d := d_Map_init) rfl
  have k_Map_init := ok_Map_init (P := P) (w := w) (base := base) L F_Map_init
  obtain ⟨mv_kb0, kb0⟩ := F_Map_init.kbinds0 (ps := ["self", "day", "kinds", "places", "roads", "bars"]) 1 ["day", "kinds", "places", "roads", "bars"] [] (fun us mv ws => us ++ (pick ws 0 ++ (pick ws 1 ++ (pick ws 2 ++ (pick ws 3 ++ (pick ws 4 ++ [])))))) (fun z => by cases z) (fun q hq => by cases hq) (fun r1 r2 r3 => r1.append ((vals_pick r3 0).append ((vals_pick r3 1).append ((vals_pick r3 2).append ((vals_pick r3 3).append ((vals_pick r3 4).append (.nil)))))))
    (fun D doc pm an cdv ct us mv ws h1 h2 h3 => match us, mv, ws, h1, h2, h3 with | [_], [], [_, _, _, _, _], _, _, _ => (by show _ = _; rfl))
  refine fn_def F sc_law_made rfl (fun cdv A outer s H E hr ds hl => ?_)
  match ds, hl with
  | [parts_here_1], _ =>
    exact db_G [.bor parts_here_1] rfl <| db_last (ds_ret (de_makeK (c := "Map") (bc := [false, false, false, true, true]) (gd := fun ws => pick ws 0 ++ (pick ws 1 ++ (pick ws 2 ++ (pick ws 3 ++ (pick ws 4 ++ ([])))))) ctx_def (L.mkr (fa_43)) k_Map_init (hr.mono (by decide)) rfl (L.glo (fa_44)) kb0 (fun _ _ _ => rfl) rfl (fun F H vs ds h => (rpa_pick 0 rfl h (rpa_pick 1 rfl h (rpa_pick 2 rfl h (rpa_pick 3 rfl h (rpa_pick 4 rfl h .nil)))))) (dak_frz (de_ix hr.u70 (dr_bor (i := 0) rfl (pv 0)) (DR.of de_int)) (dak_frz (de_ix hr.u70 (dr_bor (i := 0) rfl (pv 0)) (DR.of de_int)) (dak_frz (de_ix hr.u70 (dr_bor (i := 0) rfl (pv 0)) (DR.of de_int)) (dak_bor (DR.of (de_ix hr.u70 (dr_bor (i := 0) rfl (pv 0)) (DR.of de_int))) (dak_bor (DR.of (de_ix hr.u70 (dr_bor (i := 0) rfl (pv 0)) (DR.of de_int))) dak_nil)))))))
def g_Map_check_place : D → D → M (Option D) := fun self_1 place_1 => (mIf (B2 D.nmem (.ok place_1) (B1 (D.attrC ["Map"] "places") (.ok self_1))) stuck (.ok none))
def m_Map_check_place : List D → M D := fun ds => orNon (a2 g_Map_check_place ds)
theorem sc_Map_check_place : FnScope ["self", "place"] ["self", "place"] (d_Map_check_place).scope := ⟨rfl, rfl, rfl, by decide +kernel, rfl, by decide +kernel, by decide +kernel⟩
theorem ok_Map_check_place {P : Program} {w : World} {K : PySem.W.Frag} {mg : Str → Option Value} {base : Heap} (L : Lw K mg) {fd : FuncData} (F : DefOk K d_Map_check_place fd) : FnOk P w K mg base (L2.CX P w) 1 (He.fAd K d_Map_check_place.at_) fd ["self", "place"] (spD K [true, false] m_Map_check_place) := by
  refine fn_defN F sc_Map_check_place rfl (fun cdv A outer s H E hr ds hl => ?_)
  match ds, hl with
  | [self_1, place_1], _ =>
    exact db_G [.bor self_1, .val place_1] rfl <| db_last (ds_if (dt_cmp (rNinAll_op hr.u70) cmp_nin (dr_val (i := 1) rfl (pv 1)) (DR.of (de_attr (cs := ["Map"]) (f := "places") (by first | exact L.ats (f := "places") ⟨L.cls (fa_18), L.noat (fa_27), True.intro⟩) (dr_bor (i := 0) rfl (pv 0)))) rfl) (db_stuck) (db_end rfl))
def g_check_ends : D → D → D → D → M (Option D) := fun chart_1 kind_1 start_1 goal_1 => (mIf (B2 D.nmem (.ok kind_1) (B1 (D.attrC ["Map"] "kinds") (.ok chart_1))) stuck ((mMeth "Map" "check_place" m_Map_check_place (.ok chart_1) (A1 (.ok start_1) A0)) >>= fun _ => ((mMeth "Map" "check_place" m_Map_check_place (.ok chart_1) (A1 (.ok goal_1) A0)) >>= fun _ => (mIf (B2 D.eq (.ok start_1) (.ok goal_1)) stuck (.ok none)))))
def m_check_ends : List D → M D := fun ds => orNon (a4 g_check_ends ds)
theorem sc_check_ends : FnScope ["chart", "kind", "start", "goal"] ["chart", "kind", "start", "goal"] (d_check_ends).scope := ⟨rfl, rfl, rfl, by decide +kernel, rfl, by decide +kernel, by decide +kernel⟩
theorem ok_check_ends {P : Program} {w : World} {K : PySem.W.Frag} {mg : Str → Option Value} {base : Heap} (L : Lw K mg) {fd : FuncData} (F : DefOk K d_check_ends fd) : FnOk P w K mg base (L2.CX P w) 2 (He.fAd K d_check_ends.at_) fd ["chart", "kind", "start", "goal"] (spD K [true, false, false, false] m_check_ends) := by
  obtain ⟨fd_Map_check_place, F_Map_check_place⟩ := L.c.def_ 22 (d := d_Map_check_place) rfl
  have k_Map_check_place := ok_Map_check_place (P := P) (w := w) (base := base) L F_Map_check_place
  have b_Map_check_place : Binds K fd_Map_check_place ["self", "place"] [] := F_Map_check_place.bindsN fun _ _ _ _ _ _ us hl => match us, hl with | [_, _], _ => rfl
  refine fn_defN F sc_check_ends rfl (fun cdv A outer s H E hr ds hl => ?_)
  match ds, hl with
  | [chart_1, kind_1, start_1, goal_1], _ =>
    exact db_G [.bor chart_1, .val kind_1, .val start_1, .val goal_1] rfl <| db_ifSt (dt_cmp (rNinAll_op hr.u70) cmp_nin (dr_val (i := 1) rfl (pv 1)) (DR.of (de_attr (cs := ["Map"]) (f := "kinds") (by first | exact L.ats (f := "kinds") ⟨L.cls (fa_18), L.noat (fa_29), True.intro⟩) (dr_bor (i := 0) rfl (pv 0)))) rfl) (db_step (fun _ => [.bor chart_1, .val kind_1, .val start_1, .val goal_1]) (ds_expr (de_meth (c := "Map") (mn := "check_place") ctx_def (L.cls (fa_18)) (L.meth (fa_45)) k_Map_check_place (hr.mono (by decide)) b_Map_check_place (dr_bor (i := 0) rfl (pv 0)) (dam_frz (de_val (i := 2) rfl (pv 2)) dam_nil)) (fun pe => ps_expr pe)) (fun _ => rfl) fun _ => db_step (fun _ => [.bor chart_1, .val kind_1, .val start_1, .val goal_1]) (ds_expr (de_meth (c := "Map") (mn := "check_place") ctx_def (L.cls (fa_18)) (L.meth (fa_45)) k_Map_check_place (hr.mono (by decide)) b_Map_check_place (dr_bor (i := 0) rfl (pv 0)) (dam_frz (de_val (i := 3) rfl (pv 3)) dam_nil)) (fun pe => ps_expr pe)) (fun _ => rfl) fun _ => db_last (ds_if (dt_cmp (op_eqD hr.u64) cmp_eq (dr_val (i := 2) rfl (pv 2)) (dr_val (i := 3) rfl (pv 3)) (nomark _)) (db_stuck) (db_end rfl)))
def g_Map_roads_from : D → D → M (D) := fun self_1 place_1 => ((mMeth "Map" "check_place" m_Map_check_place (.ok self_1) (A1 (.ok place_1) A0)) >>= fun _ => (L1 ((B1 D.items (B1 (D.attrC ["Map"] "roads") (.ok self_1))) >>= fun ds => compL (fElt (fun road_1 => (B2 D.eq (B2 D.ix (.ok road_1) (.ok (.int 1))) (.ok place_1))) (fun road_1 => (B2 D.ix (.ok road_1) (.ok (.int 0))))) ds)))
def m_Map_roads_from : List D → M (D) := a2 g_Map_roads_from
theorem e_Map_roads_from (self_1 place_1 : D) : m_Map_roads_from [self_1, place_1] = g_Map_roads_from self_1 place_1 := a2_ g_Map_roads_from self_1 place_1
theorem sc_Map_roads_from : FnScope ["self", "place", "road"] ["self", "place"] (d_Map_roads_from).scope := ⟨rfl, rfl, rfl, by decide +kernel, rfl, by decide +kernel, by decide +kernel⟩
theorem ok_Map_roads_from {P : Program} {w : World} {K : PySem.W.Frag} {mg : Str → Option Value} {base : Heap} (L : Lw K mg) {fd : FuncData} (F : DefOk K d_Map_roads_from fd) : FnOk P w K mg base (L2.CX P w) 2 (He.fAd K d_Map_roads_from.at_) fd ["self", "place"] (spD K [true, false] m_Map_roads_from) := by
  obtain ⟨fd_Map_check_place, F_Map_check_place⟩ := L.c.def_ 22 (d := d_Map_check_place) rfl
  have k_Map_check_place := ok_Map_check_place (P := P) (w := w) (base := base) L F_Map_check_place
  have b_Map_check_place : Binds K fd_Map_check_place ["self", "place"] [] := F_Map_check_place.bindsN fun _ _ _ _ _ _ us hl => match us, hl with | [_, _], _ => rfl
  refine fn_def F sc_Map_roads_from rfl (fun cdv A outer s H E hr ds hl => ?_)
  match ds, hl with
  | [self_1, place_1], _ =>
    exact db_G [.bor self_1, .val place_1, .un] rfl <| db_step (fun _ => [.bor self_1, .val place_1, .un]) (ds_expr (de_meth (c := "Map") (mn := "check_place") ctx_def (L.cls (fa_18)) (L.meth (fa_45)) k_Map_check_place (hr.mono (by decide)) b_Map_check_place (dr_bor (i := 0) rfl (pv 0)) (dam_frz (de_val (i := 1) rfl (pv 1)) dam_nil)) (fun pe => ps_expr pe)) (fun _ => rfl) fun _ => db_last (ds_ret (DNL.de (dn_lc2 (own := [("road", 2)]) (i := 2) (mt := fun road_1 => (B2 D.eq (B2 D.ix (.ok road_1) (.ok (.int 1))) (.ok place_1))) (me := fun road_1 => (B2 D.ix (.ok road_1) (.ok (.int 0)))) (CtxOk.calm ctx_def) sc_Map_roads_from.nd (dir_seq (DR.of (de_attr (cs := ["Map"]) (f := "roads") (by first | exact L.ats (f := "roads") ⟨L.cls (fa_18), L.noat (fa_19), True.intro⟩) (dr_bor (i := 0) rfl (pv 0))))) (blkOk_by (by kernel_rfl)) rfl (fun _ _ _ _ _ => pg_name (i := 2) sc_Map_roads_from.nd rfl (Or.inl rfl)) (fun _ _ _ _ _ road_1 => (dt_cmp (op_eqD hr.u64) cmp_eq (DR.of (de_ix hr.u70 (dr_val (i := 2) rfl (pv 2)) (DR.of de_int))) (dr_val (i := 1) rfl (pv 1)) (nomark _))) (fun _ _ _ _ _ road_1 => (de_ix hr.u70 (dr_val (i := 2) rfl (pv 2)) (DR.of de_int))))))
def g_Map_followers : D → D → M (D) := fun self_1 name_1 => ((B2 D.ix (mMeth "Map" "road" m_Map_road (.ok self_1) (A1 (.ok name_1) A0)) (.ok (.int 2))) >>= fun end_1 => (L1 ((B1 D.items (mMeth "Map" "roads_from" m_Map_roads_from (.ok self_1) (A1 (.ok end_1) A0))) >>= fun ds => compL (fElt (fun other_1 => (B2 D.nmem (B1 D.mkTup (A1 (.ok name_1) (A1 (.ok other_1) A0))) (B1 (D.attrC ["Map"] "bars") (.ok self_1)))) (fun other_1 => (.ok other_1))) ds)))
def m_Map_followers : List D → M (D) := a2 g_Map_followers
theorem e_Map_followers (self_1 name_1 : D) : m_Map_followers [self_1, name_1] = g_Map_followers self_1 name_1 := a2_ g_Map_followers self_1 name_1
theorem sc_Map_followers : FnScope ["self", "name", "end", "other"] ["self", "name"] (d_Map_followers).scope := ⟨rfl, rfl, rfl, by decide +kernel, rfl, by decide +kernel, by decide +kernel⟩
theorem ok_Map_followers {P : Program} {w : World} {K : PySem.W.Frag} {mg : Str → Option Value} {base : Heap} (L : Lw K mg) {fd : FuncData} (F : DefOk K d_Map_followers fd) : FnOk P w K mg base (L2.CX P w) 3 (He.fAd K d_Map_followers.at_) fd ["self", "name"] (spD K [true, false] m_Map_followers) := by
  obtain ⟨fd_Map_road, F_Map_road⟩ := L.c.def_ 18 (d := d_Map_road) rfl
  have k_Map_road := ok_Map_road (P := P) (w := w) (base := base) L F_Map_road
  have b_Map_road : Binds K fd_Map_road ["self", "name"] [] := F_Map_road.bindsN fun _ _ _ _ _ _ us hl => match us, hl with | [_, _], _ => rfl
  obtain ⟨fd_Map_roads_from, F_Map_roads_from⟩ := L.c.def_ 24 (d := d_Map_roads_from) rfl
  have k_Map_roads_from := ok_Map_roads_from (P := P) (w := w) (base := base) L F_Map_roads_from
  have b_Map_roads_from : Binds K fd_Map_roads_from ["self", "place"] [] := F_Map_roads_from.bindsN fun _ _ _ _ _ _ us hl => match us, hl with | [_, _], _ => rfl
  refine fn_def F sc_Map_followers rfl (fun cdv A outer s H E hr ds hl => ?_)
  match ds, hl with
  | [self_1, name_1], _ =>
    exact db_G [.bor self_1, .val name_1, .un, .un] rfl <| db_step (fun end_1 => [.bor self_1, .val name_1, .val end_1, .un]) (ds_set (de_ix hr.u70 (DR.of (de_meth (c := "Map") (mn := "road") ctx_def (L.cls (fa_18)) (L.meth (fa_33)) k_Map_road (hr.mono (by decide)) b_Map_road (dr_bor (i := 0) rfl (pv 0)) (dam_frz (de_val (i := 1) rfl (pv 1)) dam_nil))) (DR.of de_int)) (fun pe => ps_set (i := 2) sc_Map_followers.nd rfl (Or.inl rfl) pe)) (fun _ => rfl) fun end_1 => db_last (ds_ret (DNL.de (dn_lc2 (own := [("other", 3)]) (i := 3) (mt := fun other_1 => (B2 D.nmem (B1 D.mkTup (A1 (.ok name_1) (A1 (.ok other_1) A0))) (B1 (D.attrC ["Map"] "bars") (.ok self_1)))) (me := fun other_1 => (.ok other_1)) (CtxOk.calm ctx_def) sc_Map_followers.nd (dir_seq (DR.of (de_meth (c := "Map") (mn := "roads_from") ctx_def (L.cls (fa_18)) (L.meth (fa_46)) k_Map_roads_from (hr.mono (by decide)) b_Map_roads_from (dr_bor (i := 0) rfl (pv 0)) (dam_frz (de_val (i := 2) rfl (pv 2)) dam_nil)))) (blkOk_by (by kernel_rfl)) rfl (fun _ _ _ _ _ => pg_name (i := 3) sc_Map_followers.nd rfl (Or.inl rfl)) (fun _ _ _ _ _ other_1 => (dt_cmp (rNinAll_op hr.u70) cmp_nin (DR.of (de_tup (da_cons (de_val (i := 1) rfl (pv 1)) (da_cons (de_val (i := 3) rfl (pv 3)) da_nil)))) (DR.of (de_attr (cs := ["Map"]) (f := "bars") (by first | exact L.ats (f := "bars") ⟨L.cls (fa_18), L.noat (fa_42), True.intro⟩) (dr_bor (i := 0) rfl (pv 0)))) rfl)) (fun _ _ _ _ _ other_1 => (de_val (i := 3) rfl (pv 3))))))
def g_is_open : D → D → D → M (D) := fun chart_1 kind_1 name_1 => ((mMeth "Map" "road" m_Map_road (.ok chart_1) (A1 (.ok name_1) A0)) >>= fun road_1 => (vAnd (C2 D.mem (.ok kind_1) (B2 D.ix (.ok road_1) (.ok (.int 4)))) (C2 D.ne (B2 D.ix (.ok road_1) (.ok (.int 5))) (B1 D.mkTup A0))))
def m_is_open : List D → M (D) := a3 g_is_open
theorem e_is_open (chart_1 kind_1 name_1 : D) : m_is_open [chart_1, kind_1, name_1] = g_is_open chart_1 kind_1 name_1 := a3_ g_is_open chart_1 kind_1 name_1
theorem sc_is_open : FnScope ["chart", "kind", "name", "road"] ["chart", "kind", "name"] (d_is_open).scope := ⟨rfl, rfl, rfl, by decide +kernel, rfl, by decide +kernel, by decide +kernel⟩
theorem ok_is_open {P : Program} {w : World} {K : PySem.W.Frag} {mg : Str → Option Value} {base : Heap} (L : Lw K mg) {fd : FuncData} (F : DefOk K d_is_open fd) : FnOk P w K mg base (L2.CX P w) 2 (He.fAd K d_is_open.at_) fd ["chart", "kind", "name"] (spD K [true, true, false] m_is_open) := by
  obtain ⟨fd_Map_road, F_Map_road⟩ := L.c.def_ 18 (d := d_Map_road) rfl
  have k_Map_road := ok_Map_road (P := P) (w := w) (base := base) L F_Map_road
  have b_Map_road : Binds K fd_Map_road ["self", "name"] [] := F_Map_road.bindsN fun _ _ _ _ _ _ us hl => match us, hl with | [_, _], _ => rfl
  refine fn_def F sc_is_open rfl (fun cdv A outer s H E hr ds hl => ?_)
  match ds, hl with
  | [chart_1, kind_1, name_1], _ =>
    exact db_G [.bor chart_1, .bor kind_1, .val name_1, .un] rfl <| db_step (fun road_1 => [.bor chart_1, .bor kind_1, .val name_1, .val road_1]) (ds_set (de_meth (c := "Map") (mn := "road") ctx_def (L.cls (fa_18)) (L.meth (fa_33)) k_Map_road (hr.mono (by decide)) b_Map_road (dr_bor (i := 0) rfl (pv 0)) (dam_frz (de_val (i := 2) rfl (pv 2)) dam_nil)) (fun pe => ps_set (i := 3) sc_is_open.nd rfl (Or.inl rfl) pe)) (fun _ => rfl) fun road_1 => db_last (ds_ret (de_and (de_cmp (op_inAll hr.u70) cmp_in (dr_bor (i := 1) rfl (pv 1)) (DR.of (de_ix hr.u70 (dr_val (i := 3) rfl (pv 3)) (DR.of de_int))) rfl) (de_one (de_cmp (op_neD hr.u64) cmp_ne (DR.of (de_ix hr.u70 (dr_val (i := 3) rfl (pv 3)) (DR.of de_int))) (DR.of (de_tup da_nil)) (nomark _)))))
def g_usable : D → D → M (D) := fun chart_1 kind_1 => (L1 ((B1 D.items (mProp "Map" m_Map_road_names (.ok chart_1))) >>= fun ds => compL (fElt (fun name_1 => (B1 D.tru (B1 m_is_open (A1 (.ok chart_1) (A1 (.ok kind_1) (A1 (.ok name_1) A0)))))) (fun name_1 => (.ok name_1))) ds))
def m_usable : List D → M (D) := a2 g_usable
theorem e_usable (chart_1 kind_1 : D) : m_usable [chart_1, kind_1] = g_usable chart_1 kind_1 := a2_ g_usable chart_1 kind_1
theorem sc_usable : FnScope ["chart", "kind", "name"] ["chart", "kind"] (d_usable).scope := ⟨rfl, rfl, rfl, by decide +kernel, rfl, by decide +kernel, by decide +kernel⟩
theorem ok_usable {P : Program} {w : World} {K : PySem.W.Frag} {mg : Str → Option Value} {base : Heap} (L : Lw K mg) {fd : FuncData} (F : DefOk K d_usable fd) : FnOk P w K mg base (L2.CX P w) 3 (He.fAd K d_usable.at_) fd ["chart", "kind"] (spD K [true, true] m_usable) := by
  obtain ⟨fd_Map_road_names, F_Map_road_names⟩ := L.s.get 0 (d := d_Map_road_names) rfl
  have k_Map_road_names := ok_Map_road_names (P := P) (w := w) (base := base) L F_Map_road_names
  have b_Map_road_names : Binds K fd_Map_road_names ["self"] [] := F_Map_road_names.bindsN fun _ _ _ _ _ _ us hl => match us, hl with | [_], _ => rfl
  obtain ⟨fd_is_open, F_is_open⟩ := L.c.def_ 26 (d := d_is_open) rfl
  have k_is_open := ok_is_open (P := P) (w := w) (base := base) L F_is_open
  have b_is_open : Binds K fd_is_open ["chart", "kind", "name"] [] := F_is_open.bindsN fun _ _ _ _ _ _ us hl => match us, hl with | [_, _, _], _ => rfl
  refine fn_def F sc_usable rfl (fun cdv A outer s H E hr ds hl => ?_)
  match ds, hl with
  | [chart_1, kind_1], _ =>
    exact db_G [.bor chart_1, .bor kind_1, .un] rfl <| db_last (ds_ret (DNL.de (dn_lc2 (own := [("name", 2)]) (i := 2) (mt := fun name_1 => (B1 D.tru (B1 m_is_open (A1 (.ok chart_1) (A1 (.ok kind_1) (A1 (.ok name_1) A0)))))) (me := fun name_1 => (.ok name_1)) (CtxOk.calm ctx_def) sc_usable.nd (dir_seq (DR.of (de_propX (c := "Map") (f := "road_names") (L.cls (fa_18)) (L.prop (c := "Map") (f := "road_names") (by decide)) k_Map_road_names (hr.mono (by decide)) b_Map_road_names (dr_bor (i := 0) rfl (pv 0))))) (blkOk_by (by kernel_rfl)) rfl (fun _ _ _ _ _ => pg_name (i := 2) sc_usable.nd rfl (Or.inl rfl)) (fun _ _ _ _ _ name_1 => (dt_val (DR.of (de_call (CtxOk.blk ctx_def) k_is_open (hr.mono (by decide)) rfl (L.glo (fa_47)) F_is_open.kp b_is_open (dam_bor (dr_bor (i := 0) rfl (pv 0)) (dam_bor (dr_bor (i := 1) rfl (pv 1)) (dam_frz (de_val (i := 2) rfl (pv 2)) dam_nil))))))) (fun _ _ _ _ _ name_1 => (de_val (i := 2) rfl (pv 2))))))
def m_is_way_l1 (names_1 : D) : (List D) → D → M (List D) := fun rows_3 other_1 => (mIf (mAnd (B2 D.mem (.ok other_1) (.ok names_1)) (B2 D.nmem (.ok other_1) (.ok (.lst rows_3)))) (mPush rows_3 (.ok other_1) >>= fun rows_4 => (.ok rows_4)) (.ok rows_3))
def m_is_way_l2_c : (List D × D) → M Bool := fun s => match s with | (rows_2, at_2) => (B2 D.lt (.ok at_2) (B1 (f1 D.len) (A1 (.ok (.lst rows_2)) A0)))
def m_is_way_l2 (chart_1 : D) (goal_1 : D) (names_1 : D) : (List D × D) → M (Rs (List D × D)) := fun s => match s with | (rows_2, at_2) => (mIf (B2 D.eq (B2 D.ix (mMeth "Map" "road" m_Map_road (.ok chart_1) (A1 (B2 D.ix (.ok (.lst rows_2)) (.ok at_2)) A0)) (.ok (.int 2))) (.ok goal_1)) ((.ok (.bl true)) >>= fun d => .ok (.rt d)) (((B1 D.items (mMeth "Map" "followers" m_Map_followers (.ok chart_1) (A1 (B2 D.ix (.ok (.lst rows_2)) (.ok at_2)) A0))) >>= fun ds => loopF (m_is_way_l1 names_1) ds rows_2) >>= fun rows_5 => (((.ok (.int 1)) >>= fun y => augI (fun i j => i + j) at_2 y) >>= fun at_3 => (.ok (.go (rows_5, at_3))))))
def g_is_way : D → D → D → D → D → M (D) := fun chart_1 kind_1 start_1 goal_1 without_1 => ((L1 ((B1 D.items (B1 m_usable (A1 (.ok chart_1) (A1 (.ok kind_1) A0)))) >>= fun ds => compL (fElt (fun name_1 => (B2 D.nmem (.ok name_1) (.ok without_1))) (fun name_1 => (.ok name_1))) ds)) >>= fun names_1 => (((B1 D.items (.ok names_1)) >>= fun ds => compL (fElt (fun name_2 => (B2 D.eq (B2 D.ix (mMeth "Map" "road" m_Map_road (.ok chart_1) (A1 (.ok name_2) A0)) (.ok (.int 1))) (.ok start_1))) (fun name_2 => (.ok name_2))) ds) >>= fun rows_1 => ((.ok (.int 0)) >>= fun at_1 => ((whileR m_is_way_l2_c (m_is_way_l2 chart_1 goal_1 names_1) 100000 (rows_1, at_1)) >>= fun r => sFin r (fun s => match s with | (rows_6, at_4) => (.ok (.bl false)))))))
def m_is_way : List D → M (D) := a5 g_is_way
theorem e_is_way (chart_1 kind_1 start_1 goal_1 without_1 : D) : m_is_way [chart_1, kind_1, start_1, goal_1, without_1] = g_is_way chart_1 kind_1 start_1 goal_1 without_1 := a5_ g_is_way chart_1 kind_1 start_1 goal_1 without_1
theorem sc_is_way : FnScope ["chart", "kind", "start", "goal", "without", "names", "rows", "at", "other", "name"] ["chart", "kind", "start", "goal", "without"] (d_is_way).scope := ⟨rfl, rfl, rfl, by decide +kernel, rfl, by decide +kernel, by decide +kernel⟩
theorem ok_is_way {P : Program} {w : World} {K : PySem.W.Frag} {mg : Str → Option Value} {base : Heap} (L : Lw K mg) {fd : FuncData} (F : DefOk K d_is_way fd) : FnOk P w K mg base (L2.CX P w) 4 (He.fAd K d_is_way.at_) fd ["chart", "kind", "start", "goal", "without"] (spD K [true, true, true, true, true] m_is_way) := by
  obtain ⟨fd_usable, F_usable⟩ := L.c.def_ 27 (d := d_usable) rfl
  have k_usable := ok_usable (P := P) (w := w) (base := base) L F_usable
  have b_usable : Binds K fd_usable ["chart", "kind"] [] := F_usable.bindsN fun _ _ _ _ _ _ us hl => match us, hl with | [_, _], _ => rfl
  obtain ⟨fd_Map_road, F_Map_road⟩ := L.c.def_ 18 (d := d_Map_road) rfl
  have k_Map_road := ok_Map_road (P := P) (w := w) (base := base) L F_Map_road
  have b_Map_road : Binds K fd_Map_road ["self", "name"] [] := F_Map_road.bindsN fun _ _ _ _ _ _ us hl => match us, hl with | [_, _], _ => rfl
  obtain ⟨fd_Map_followers, F_Map_followers⟩ := L.c.def_ 25 (d := d_Map_followers) rfl
  have k_Map_followers := ok_Map_followers (P := P) (w := w) (base := base) L F_Map_followers
  have b_Map_followers : Binds K fd_Map_followers ["self", "name"] [] := F_Map_followers.bindsN fun _ _ _ _ _ _ us hl => match us, hl with | [_, _], _ => rfl
  refine fn_def F sc_is_way rfl (fun cdv A outer s H E hr ds hl => ?_)
  match ds, hl with
  | [chart_1, kind_1, start_1, goal_1, without_1], _ =>
    exact db_G [.bor chart_1, .bor kind_1, .bor start_1, .bor goal_1, .bor without_1, .un, .un, .un, .un, .un] rfl <| db_step (fun names_1 => [.bor chart_1, .bor kind_1, .bor start_1, .bor goal_1, .bor without_1, .val names_1, .un, .un, .un, .un]) (ds_setLc (i := 5) (dn_lc2 (own := [("name", 9)]) (i := 9) (mt := fun name_1 => (B2 D.nmem (.ok name_1) (.ok without_1))) (me := fun name_1 => (.ok name_1)) (CtxOk.calm ctx_def) sc_is_way.nd (dir_seq (DR.of (de_call ctx_def k_usable (hr.mono (by decide)) rfl (L.glo (fa_48)) F_usable.kp b_usable (dam_bor (dr_bor (i := 0) rfl (pv 0)) (dam_bor (dr_bor (i := 1) rfl (pv 1)) dam_nil))))) (blkOk_by (by kernel_rfl)) rfl (fun _ _ _ _ _ => pg_name (i := 9) sc_is_way.nd rfl (Or.inl rfl)) (fun _ _ _ _ _ name_1 => (dt_cmp (rNinAll_op hr.u70) cmp_nin (dr_val (i := 9) rfl (pv 9)) (dr_bor (i := 4) rfl (pv 4)) rfl)) (fun _ _ _ _ _ name_1 => (de_val (i := 9) rfl (pv 9)))) rfl rfl rfl) (fun _ => rfl) fun names_1 => db_step (fun rows_1 => [.bor chart_1, .bor kind_1, .bor start_1, .bor goal_1, .bor without_1, .val names_1, .own rows_1, .un, .un, .un]) (ds_setLcN (i := 6) (dn_lc2 (own := [("name", 9)]) (i := 9) (mt := fun name_2 => (B2 D.eq (B2 D.ix (mMeth "Map" "road" m_Map_road (.ok chart_1) (A1 (.ok name_2) A0)) (.ok (.int 1))) (.ok start_1))) (me := fun name_2 => (.ok name_2)) (CtxOk.calm ctx_def) sc_is_way.nd (dir_seq (dr_val (i := 5) rfl (pv 5))) (blkOk_by (by kernel_rfl)) rfl (fun _ _ _ _ _ => pg_name (i := 9) sc_is_way.nd rfl (Or.inl rfl)) (fun _ _ _ _ _ name_2 => (dt_cmp (op_eqD hr.u64) cmp_eq (DR.of (de_ix hr.u70 (DR.of (de_meth (c := "Map") (mn := "road") (CtxOk.blk ctx_def) (L.cls (fa_18)) (L.meth (fa_33)) k_Map_road (hr.mono (by decide)) b_Map_road (dr_bor (i := 0) rfl (pv 0)) (dam_frz (de_val (i := 9) rfl (pv 9)) dam_nil))) (DR.of de_int))) (dr_bor (i := 2) rfl (pv 2)) (nomark _))) (fun _ _ _ _ _ name_2 => (de_val (i := 9) rfl (pv 9)))) rfl rfl rfl) (fun _ => rfl) fun rows_1 => db_step (fun at_1 => [.bor chart_1, .bor kind_1, .bor start_1, .bor goal_1, .bor without_1, .val names_1, .own rows_1, .val at_1, .un, .un]) (ds_set de_int (fun pe => ps_set (i := 7) sc_is_way.nd rfl (Or.inl rfl) pe)) (fun _ => rfl) fun at_1 => db_any 8 <| db_sumF (ds_whileR (S := List D × D) (Γ := (fun (s : List D × D) => [.bor chart_1, .bor kind_1, .bor start_1, .bor goal_1, .bor without_1, .val names_1, .own s.1, .val s.2, .any, .un])) (mc := m_is_way_l2_c) (f := (m_is_way_l2 chart_1 goal_1 names_1)) 100000 (rows_1, at_1) rfl (CtxOk.own ctx_def) (fun s => match s with | (rows_2, at_2) => dt_G [.bor chart_1, .bor kind_1, .bor start_1, .bor goal_1, .bor without_1, .val names_1, .own rows_2, .val at_2, .any, .un] rfl <| (dt_cmp (op_lt.or op_lt_str) cmp_lt (dr_val (i := 7) rfl (pv 7)) (DR.of (de_callB lenR len_op rfl (L.free (fa_3)) boot_len_ (dra_cons (dr_own (i := 6) rfl (pv 6)) dra_nil))) (nomark _))) (fun s => match s with | (rows_2, at_2) => db_G [.bor chart_1, .bor kind_1, .bor start_1, .bor goal_1, .bor without_1, .val names_1, .own rows_2, .val at_2, .any, .un] rfl <| db_ifRt (dt_cmp (op_eqD hr.u64) cmp_eq (DR.of (de_ix hr.u70 (DR.of (de_meth (c := "Map") (mn := "road") ctx_def (L.cls (fa_18)) (L.meth (fa_33)) k_Map_road (hr.mono (by decide)) b_Map_road (dr_bor (i := 0) rfl (pv 0)) (dam_frz (de_ix hr.u70 (dr_own (i := 6) rfl (pv 6)) (dr_val (i := 7) rfl (pv 7))) dam_nil))) (DR.of de_int))) (dr_bor (i := 3) rfl (pv 3)) (nomark _)) (db_last (ds_ret de_bl)) (db_step (fun (s : List D) => [.bor chart_1, .bor kind_1, .bor start_1, .bor goal_1, .bor without_1, .val names_1, .own s, .val at_2, .any, .un]) (ds_for1 (i := 8) (S := List D) (Γ := (fun (s : List D) => [.bor chart_1, .bor kind_1, .bor start_1, .bor goal_1, .bor without_1, .val names_1, .own s, .val at_2, .any, .un])) (f := (m_is_way_l1 names_1)) rows_2 rfl ctx_def (di_seq (de_meth (c := "Map") (mn := "followers") ctx_def (L.cls (fa_18)) (L.meth (fa_49)) k_Map_followers (hr.mono (by decide)) b_Map_followers (dr_bor (i := 0) rfl (pv 0)) (dam_frz (de_ix hr.u70 (dr_own (i := 6) rfl (pv 6)) (dr_val (i := 7) rfl (pv 7))) dam_nil))) (pg_name (i := 8) sc_is_way.nd rfl (Or.inl rfl)) (fun rows_3 other_1 => db_G [.bor chart_1, .bor kind_1, .bor start_1, .bor goal_1, .bor without_1, .val names_1, .own rows_3, .val at_2, .val other_1, .un] rfl <| db_last (ds_if (DW.dt (dw_and (dt_cmp (op_inAll hr.u70) cmp_in (dr_val (i := 8) rfl (pv 8)) (dr_val (i := 5) rfl (pv 5)) rfl) (dw_and1 (dt_cmp (rNinAll_op hr.u70) cmp_nin (dr_val (i := 8) rfl (pv 8)) (dr_own (i := 6) rfl (pv 6)) rfl)))) (db_step (fun rows_4 => [.bor chart_1, .bor kind_1, .bor start_1, .bor goal_1, .bor without_1, .val names_1, .own rows_4, .val at_2, .val other_1, .un]) (ds_pushO (i := 6) rfl (pv 6) (de_val (i := 8) rfl (pv 8))) (fun _ => rfl) fun rows_4 => db_any 8 <| db_nil rfl) (db_any 8 <| db_nil rfl)))) (fun _ => rfl) (fun rows_5 => db_G [.bor chart_1, .bor kind_1, .bor start_1, .bor goal_1, .bor without_1, .val names_1, .own rows_5, .val at_2, .any, .un] rfl <| db_step (fun at_3 => [.bor chart_1, .bor kind_1, .bor start_1, .bor goal_1, .bor without_1, .val names_1, .own rows_5, .val at_3, .any, .un]) (ds_aug (i := 7) sc_is_way.nd rfl (Or.inl rfl) ip_add rfl de_int) (fun _ => rfl) fun at_3 => db_nil rfl)))) (fun s => match s with | (rows_6, at_4) => db_G [.bor chart_1, .bor kind_1, .bor start_1, .bor goal_1, .bor without_1, .val names_1, .own rows_6, .val at_4, .any, .un] rfl <| db_last (ds_ret de_bl))
def g_vital_roads : D → D → D → D → M (Option (List D)) := fun chart_1 kind_1 start_1 goal_1 => ((B1 m_check_ends (A1 (.ok chart_1) (A1 (.ok kind_1) (A1 (.ok start_1) (A1 (.ok goal_1) A0))))) >>= fun _ => (mIf (mNot (B1 D.tru (mCallK m_is_way (fun ws => [(D.tup [])] ++ ([])) (A1 (.ok chart_1) (A1 (.ok kind_1) (A1 (.ok start_1) (A1 (.ok goal_1) A0)))) A0))) ((.ok none : M (Option (List D))) >>= fun d => .ok (id d)) (((B1 D.items (B1 m_usable (A1 (.ok chart_1) (A1 (.ok kind_1) A0)))) >>= fun ds => compL (fElt (fun name_1 => (mNot (B1 D.tru (mCallK m_is_way (fun ws => pick ws 0 ++ ([])) (A1 (.ok chart_1) (A1 (.ok kind_1) (A1 (.ok start_1) (A1 (.ok goal_1) A0)))) (A1 (B1 D.mkLst (A1 (.ok name_1) A0)) A0))))) (fun name_1 => (.ok name_1))) ds) >>= fun d => .ok (some d))))
def m_vital_roads : List D → M (Option (List D)) := a4 g_vital_roads
theorem e_vital_roads (chart_1 kind_1 start_1 goal_1 : D) : m_vital_roads [chart_1, kind_1, start_1, goal_1] = g_vital_roads chart_1 kind_1 start_1 goal_1 := a4_ g_vital_roads chart_1 kind_1 start_1 goal_1
theorem sc_vital_roads : FnScope ["chart", "kind", "start", "goal", "name"] ["chart", "kind", "start", "goal"] (d_vital_roads).scope := ⟨rfl, rfl, rfl, by decide +kernel, rfl, by decide +kernel, by decide +kernel⟩
theorem ok_vital_roads {P : Program} {w : World} {K : PySem.W.Frag} {mg : Str → Option Value} {base : Heap} (L : Lw K mg) {fd : FuncData} (F : DefOk K d_vital_roads fd) : FnOk P w K mg base (L2.CX P w) 5 (He.fAd K d_vital_roads.at_) fd ["chart", "kind", "start", "goal"] (spOl K [true, false, false, false] m_vital_roads) := by
  obtain ⟨fd_check_ends, F_check_ends⟩ := L.c.def_ 23 (d := d_check_ends) rfl
  have k_check_ends := ok_check_ends (P := P) (w := w) (base := base) L F_check_ends
  have b_check_ends : Binds K fd_check_ends ["chart", "kind", "start", "goal"] [] := F_check_ends.bindsN fun _ _ _ _ _ _ us hl => match us, hl with | [_, _, _, _], _ => rfl
  obtain ⟨fd_is_way, F_is_way⟩ := L.c.def_ 28 (d := d_is_way) rfl
  have k_is_way := ok_is_way (P := P) (w := w) (base := base) L F_is_way
  obtain ⟨fd_usable, F_usable⟩ := L.c.def_ 27 (d := d_usable) rfl
  have k_usable := ok_usable (P := P) (w := w) (base := base) L F_usable
  have b_usable : Binds K fd_usable ["chart", "kind"] [] := F_usable.bindsN fun _ _ _ _ _ _ us hl => match us, hl with | [_, _], _ => rfl
  obtain ⟨mv_kb0, kb0⟩ := F_is_way.kbinds0 (ps := ["chart", "kind", "start", "goal", "without"]) 4 [] [("without", .ref (kwdAt ("is_way", none) "without" K))] (fun us mv ws => us ++ (pick mv 0 ++ [])) (fun z => by cases z) (fun q hq => by
        rcases List.mem_cons.mp hq with rfl | hq
        · exact List.Mem.head _
        cases hq) (fun r1 r2 r3 => r1.append ((vals_pick r2 0).append (.nil)))
    (fun D doc pm an cdv ct us mv ws h1 h2 h3 => match us, mv, ws, h1, h2, h3 with | [_, _, _, _], [_], [], _, _, _ => ⟨_, _, _, _, _, _, rfl, rfl, (by show _ = _; rfl)⟩)
  obtain ⟨mv_kb1, kb1⟩ := F_is_way.kbinds0 (ps := ["chart", "kind", "start", "goal", "without"]) 4 ["without"] [] (fun us mv ws => us ++ (pick ws 0 ++ [])) (fun z => by cases z) (fun q hq => by cases hq) (fun r1 r2 r3 => r1.append ((vals_pick r3 0).append (.nil)))
    (fun D doc pm an cdv ct us mv ws h1 h2 h3 => match us, mv, ws, h1, h2, h3 with | [_, _, _, _], [], [_], _, _, _ => (by show _ = _; rfl))
  refine fn_defOl F sc_vital_roads rfl (fun cdv A outer s H E hr ds hl => ?_)
  match ds, hl with
  | [chart_1, kind_1, start_1, goal_1], _ =>
    exact db_G [.bor chart_1, .val kind_1, .val start_1, .val goal_1, .un] rfl <| db_step (fun _ => [.bor chart_1, .val kind_1, .val start_1, .val goal_1, .un]) (ds_expr (de_call ctx_def k_check_ends (hr.mono (by decide)) rfl (L.glo (fa_50)) F_check_ends.kp b_check_ends (dam_bor (dr_bor (i := 0) rfl (pv 0)) (dam_frz (de_val (i := 1) rfl (pv 1)) (dam_frz (de_val (i := 2) rfl (pv 2)) (dam_frz (de_val (i := 3) rfl (pv 3)) dam_nil))))) (fun pe => ps_expr pe)) (fun _ => rfl) fun _ => db_ift id (dt_not (dt_val (DR.of (de_callK (ba := [true, true, true, true]) (bc := []) (bk := [true]) (gd := fun ws => [(D.tup [])] ++ ([])) ctx_def k_is_way (hr.mono (by decide)) rfl (L.glo (fa_51)) F_is_way.kp kb0 (fun _ _ _ _ => rfl) rfl (fun F H vs ds h => (rpa_dfl (L.tup0 (p := ("is_way", none)) (x := "without") (by decide) _) .nil)) (dam_bor (dr_bor (i := 0) rfl (pv 0)) (dam_bor (dr_val (i := 1) rfl (pv 1)) (dam_bor (dr_val (i := 2) rfl (pv 2)) (dam_bor (dr_val (i := 3) rfl (pv 3)) dam_nil)))) dak_nil)))) (db_last (ds_retOlN de_non)) (fun a _ e => by cases a <;> cases e) (fun _ => rfl) (db_map some (db_last (ds_retO (DNL.dn (dn_lc2 (own := [("name", 4)]) (i := 4) (mt := fun name_1 => (mNot (B1 D.tru (mCallK m_is_way (fun ws => pick ws 0 ++ ([])) (A1 (.ok chart_1) (A1 (.ok kind_1) (A1 (.ok start_1) (A1 (.ok goal_1) A0)))) (A1 (B1 D.mkLst (A1 (.ok name_1) A0)) A0))))) (me := fun name_1 => (.ok name_1)) (CtxOk.calm ctx_def) sc_vital_roads.nd (dir_seq (DR.of (de_call ctx_def k_usable (hr.mono (by decide)) rfl (L.glo (fa_48)) F_usable.kp b_usable (dam_bor (dr_bor (i := 0) rfl (pv 0)) (dam_bor (dr_val (i := 1) rfl (pv 1)) dam_nil))))) (blkOk_by (by kernel_rfl)) rfl (fun _ _ _ _ _ => pg_name (i := 4) sc_vital_roads.nd rfl (Or.inl rfl)) (fun _ _ _ _ _ name_1 => (dt_not (dt_val (DR.of (de_callK (ba := [true, true, true, true]) (bc := [true]) (bk := [true]) (gd := fun ws => pick ws 0 ++ ([])) (CtxOk.blk ctx_def) k_is_way (hr.mono (by decide)) rfl (L.glo (fa_51)) F_is_way.kp kb1 (fun _ _ _ _ => rfl) rfl (fun F H vs ds h => (rpa_pick 0 rfl h .nil)) (dam_bor (dr_bor (i := 0) rfl (pv 0)) (dam_bor (dr_val (i := 1) rfl (pv 1)) (dam_bor (dr_val (i := 2) rfl (pv 2)) (dam_bor (dr_val (i := 3) rfl (pv 3)) dam_nil)))) (dak_bor (DR.of (de_lst (da_cons (de_val (i := 4) rfl (pv 4)) da_nil))) dak_nil)))))) (fun _ _ _ _ _ name_1 => (de_val (i := 4) rfl (pv 4))))))) (fun _ => rfl))
def g_law : D → M (D) := fun script_1 => ((B1 m_law_numbers (A1 (.ok script_1) (A1 (.ok (.int 160)) A0))) >>= fun numbers_here_1 => ((B1 m_law_parts (A1 (.ok numbers_here_1) (A1 (.ok (.int 0)) A0))) >>= fun parts_here_1 => ((mIf (B2 D.eq (B2 D.mod (B1 (f1 D.toInt) (A1 (B2 D.ix (.ok numbers_here_1) (.ok (.int 110))) A0)) (.ok (.int 8))) (.ok (.int 1))) ((L1 ((B1 D.items (B2 D.ix (.ok (.lst parts_here_1)) (.ok (.int 3)))) >>= fun ds => compL (fElt noT (fun road_here_1 => (B2 D.ix (.ok road_here_1) (.ok (.int 0))))) ds)) >>= fun names_here_1 => ((L1 ((B1 D.items (B1 D.mkLst (A1 (.ok (.str "m1")) (A1 (.ok (.str "m2")) (A1 (.ok (.str "m3")) (A1 (.ok (.str "m4")) (A1 (.ok (.str "m5")) A0))))))) >>= fun ds => compL (fElt (fun name_1 => (B2 D.nmem (.ok name_1) (.ok names_here_1))) (fun name_1 => (.ok name_1))) ds)) >>= fun fresh_1 => ((L1 ((B1 D.range1 (A1 (.ok (.int 4)) A0)) >>= fun ds => compL (fElt noT (fun k_1 => (B1 m_law_road (A1 (.ok numbers_here_1) (A1 (B2 D.add (.ok (.int 112)) (B2 D.mul (.ok (.int 10)) (.ok k_1))) (A1 (B2 D.ix (.ok fresh_1) (.ok k_1)) (A1 (B2 D.ix (.ok (.lst parts_here_1)) (.ok (.int 0))) (A1 (B2 D.ix (.ok (.lst parts_here_1)) (.ok (.int 1))) (A1 (B2 D.ix (.ok (.lst parts_here_1)) (.ok (.int 2))) A0))))))))) ds)) >>= fun roads_1 => (mSetI parts_here_1 (B1 (f1 D.toTup) (A1 (B1 (f1 D.sorted2) (A1 (B2 D.add (B1 (f1 D.toList) (A1 (B2 D.ix (.ok (.lst parts_here_1)) (.ok (.int 3))) A0)) (.ok roads_1)) A0)) A0)) (.ok (.int 3)) >>= fun parts_here_2 => (.ok parts_here_2))))) (.ok parts_here_1) : M (List D)) >>= fun parts_here_3 => ((B1 m_law_apart_trip (A1 (.ok numbers_here_1) (A1 (.ok (.int 100)) (A1 (.ok (.lst parts_here_3)) A0)))) >>= un3 fun kind_1 start_1 goal_1 => ((.ok .non) >>= fun expected_1 => ((mIf (B1 D.tru (B1 m_law_is_way (A1 (.ok (.lst parts_here_3)) (A1 (.ok kind_1) (A1 (.ok start_1) (A1 (.ok goal_1) (A1 (B1 D.mkLst A0) A0))))))) ((L1 ((B1 D.items (B2 D.ix (.ok (.lst parts_here_3)) (.ok (.int 3)))) >>= fun ds => compL (fElt (fun road_here_2 => (mNot (B1 D.tru (B1 m_law_is_way (A1 (.ok (.lst parts_here_3)) (A1 (.ok kind_1) (A1 (.ok start_1) (A1 (.ok goal_1) (A1 (B1 D.mkLst (A1 (B2 D.ix (.ok road_here_2) (.ok (.int 0))) A0)) A0))))))))) (fun road_here_2 => (B2 D.ix (.ok road_here_2) (.ok (.int 0))))) ds)) >>= fun expected_2 => (.ok expected_2)) (.ok expected_1) : M (D)) >>= fun expected_3 => ((B1 m_law_made (A1 (.ok (.lst parts_here_3)) A0)) >>= fun chart_1 => ((B1 m_vital_roads (A1 (.ok chart_1) (A1 (.ok kind_1) (A1 (.ok start_1) (A1 (.ok goal_1) A0))))) >>= fun actual_1 => (mIf (B2 D.ne (B1 (f1 D.repr) (A1 ((Sl.ol actual_1)).rd A0)) (B1 (f1 D.repr) (A1 (.ok expected_3) A0))) (.ok (.bl false)) ((mIf (B2 D.notN ((Sl.ol actual_1)).rd (.ok .non)) (((Sl.ol actual_1)).push (.ok (.str "x")) >>= fun actual_2 => (.ok ())) (.ok ()) : M (Unit)) >>= fun _ => (C2 D.eq ((B1 m_vital_roads (A1 (.ok chart_1) (A1 (.ok kind_1) (A1 (.ok start_1) (A1 (.ok goal_1) A0))))) >>= fun r => .ok (olD r)) (.ok expected_3))))))))))))
def m_law : List D → M (D) := a1 g_law
theorem e_law (script_1 : D) : m_law [script_1] = g_law script_1 := a1_ g_law script_1
theorem sc_law : FnScope ["_law_script", "_law_numbers_here", "_law_parts_here", "_law_names_here", "_law_fresh", "_law_roads", "_law_kind", "_law_start", "_law_goal", "_law_expected", "_law_chart", "_law_actual", "_law_road_here", "_law_name", "_law_k"] ["_law_script"] (d_law).scope := ⟨rfl, rfl, rfl, by decide +kernel, rfl, by decide +kernel, by decide +kernel⟩
theorem ok_law {P : Program} {w : World} {K : PySem.W.Frag} {mg : Str → Option Value} {base : Heap} (L : Lw K mg) {fd : FuncData} (F : DefOk K d_law fd) : FnG P w K mg base (L2.CX P w) 7 (He.fAd K d_law.at_) fd ["_law_script"] (spD K [true] m_law) := by
  obtain ⟨fd_law_numbers, F_law_numbers⟩ := L.c.def_ 1 (d := d_law_numbers) rfl
  have k_law_numbers := ok_law_numbers (P := P) (w := w) (base := base) L F_law_numbers
  have b_law_numbers : Binds K fd_law_numbers ["_law_script", "_law_many"] [] := F_law_numbers.bindsN fun _ _ _ _ _ _ us hl => match us, hl with | [_, _], _ => rfl
  obtain ⟨fd_law_parts, F_law_parts⟩ := L.c.def_ 6 (d := d_law_parts) rfl
  have k_law_parts := ok_law_parts (P := P) (w := w) (base := base) L F_law_parts
  have b_law_parts : Binds K fd_law_parts ["_law_numbers_here", "_law_at"] [] := F_law_parts.bindsN fun _ _ _ _ _ _ us hl => match us, hl with | [_, _], _ => rfl
  obtain ⟨fd_law_road, F_law_road⟩ := L.c.def_ 5 (d := d_law_road) rfl
  have k_law_road := ok_law_road (P := P) (w := w) (base := base) L F_law_road
  have b_law_road : Binds K fd_law_road ["_law_numbers_here", "_law_at", "_law_name", "_law_day", "_law_kinds", "_law_places"] [] := F_law_road.bindsN fun _ _ _ _ _ _ us hl => match us, hl with | [_, _, _, _, _, _], _ => rfl
  obtain ⟨fd_law_apart_trip, F_law_apart_trip⟩ := L.c.def_ 8 (d := d_law_apart_trip) rfl
  have k_law_apart_trip := ok_law_apart_trip (P := P) (w := w) (base := base) L F_law_apart_trip
  have b_law_apart_trip : Binds K fd_law_apart_trip ["_law_numbers_here", "_law_at", "_law_parts_here"] [] := F_law_apart_trip.bindsN fun _ _ _ _ _ _ us hl => match us, hl with | [_, _, _], _ => rfl
  obtain ⟨fd_law_is_way, F_law_is_way⟩ := L.c.def_ 11 (d := d_law_is_way) rfl
  have k_law_is_way := ok_law_is_way (P := P) (w := w) (base := base) L F_law_is_way
  have b_law_is_way : Binds K fd_law_is_way ["_law_parts_here", "_law_kind", "_law_start", "_law_goal", "_law_names_here"] [] := F_law_is_way.bindsN fun _ _ _ _ _ _ us hl => match us, hl with | [_, _, _, _, _], _ => rfl
  obtain ⟨fd_law_made, F_law_made⟩ := L.c.def_ 21 (d := d_law_made) rfl
  have k_law_made := ok_law_made (P := P) (w := w) (base := base) L F_law_made
  have b_law_made : Binds K fd_law_made ["_law_parts_here"] [] := F_law_made.bindsN fun _ _ _ _ _ _ us hl => match us, hl with | [_], _ => rfl
  obtain ⟨fd_vital_roads, F_vital_roads⟩ := L.c.def_ 29 (d := d_vital_roads) rfl
  have k_vital_roads := ok_vital_roads (P := P) (w := w) (base := base) L F_vital_roads
  have b_vital_roads : Binds K fd_vital_roads ["chart", "kind", "start", "goal"] [] := F_vital_roads.bindsN fun _ _ _ _ _ _ us hl => match us, hl with | [_, _, _, _], _ => rfl
  refine fn_defG F sc_law rfl (fun cdv A outer s H E hgd hr ds hl => ?_)
  match ds, hl with
  | [script_1], _ =>
    exact db_G [.bor script_1, .un, .un, .un, .un, .un, .un, .un, .un, .un, .un, .un, .un, .un, .un] rfl <| db_step (fun numbers_here_1 => [.bor script_1, .val numbers_here_1, .un, .un, .un, .un, .un, .un, .un, .un, .un, .un, .un, .un, .un]) (ds_set (de_call ctx_def k_law_numbers (hr.mono (by decide)) rfl (L.glo (fa_52)) F_law_numbers.kp b_law_numbers (dam_bor (dr_bor (i := 0) rfl (pv 0)) (dam_bor (DR.of de_int) dam_nil))) (fun pe => ps_set (i := 1) sc_law.nd rfl (Or.inr rfl) pe)) (fun _ => rfl) fun numbers_here_1 => db_step (fun parts_here_1 => [.bor script_1, .val numbers_here_1, .own parts_here_1, .un, .un, .un, .un, .un, .un, .un, .un, .un, .un, .un, .un]) (ds_setN (dn_callO ctx_def k_law_parts (hr.mono (by decide)) rfl (L.glo (fa_53)) F_law_parts.kp b_law_parts (dam_bor (dr_val (i := 1) rfl (pv 1)) (dam_bor (DR.of de_int) dam_nil))) (fun pe => ps_set (i := 2) sc_law.nd rfl (Or.inr rfl) pe)) (fun _ => rfl) fun parts_here_1 => db_step (fun (s : List D) => [.bor script_1, .val numbers_here_1, .own s, .any, .any, .any, .un, .un, .un, .un, .un, .un, .un, .un, .un]) (ds_if (dt_cmp (op_eqD hr.u64) cmp_eq (DR.of (de_mod (DR.of (de_callTy int_R int_op rfl (L.free (fa_1)) boot_int_ (dra_cons (DR.of (de_ix hr.u70 (dr_val (i := 1) rfl (pv 1)) (DR.of de_int))) dra_nil))) (DR.of de_int))) (DR.of de_int) (nomark _)) (db_step (fun names_here_1 => [.bor script_1, .val numbers_here_1, .own parts_here_1, .val names_here_1, .un, .un, .un, .un, .un, .un, .un, .un, .un, .un, .un]) (ds_set (DNL.de (dn_lc1 (own := [("_law_road_here", 12)]) (i := 12) (me := fun road_here_1 => (B2 D.ix (.ok road_here_1) (.ok (.int 0)))) (CtxOk.calm ctx_def) sc_law.nd (dir_seq (DR.of (de_ix hr.u70 (dr_own (i := 2) rfl (pv 2)) (DR.of de_int)))) (blkOk_by (by kernel_rfl)) rfl (fun _ _ _ _ _ => pg_name (i := 12) sc_law.nd rfl (Or.inl rfl)) (fun _ _ _ _ _ road_here_1 => (de_ix hr.u70 (dr_val (i := 12) rfl (pv 12)) (DR.of de_int))))) (fun pe => ps_set (i := 3) sc_law.nd rfl (Or.inr rfl) pe)) (fun _ => rfl) fun names_here_1 => db_step (fun fresh_1 => [.bor script_1, .val numbers_here_1, .own parts_here_1, .val names_here_1, .val fresh_1, .un, .un, .un, .un, .un, .un, .un, .un, .un, .un]) (ds_set (DNL.de (dn_lc2 (own := [("_law_name", 13)]) (i := 13) (mt := fun name_1 => (B2 D.nmem (.ok name_1) (.ok names_here_1))) (me := fun name_1 => (.ok name_1)) (CtxOk.calm ctx_def) sc_law.nd (dir_seq (DR.of (de_lst (da_cons (de_str (by decide +kernel)) (da_cons (de_str (by decide +kernel)) (da_cons (de_str (by decide +kernel)) (da_cons (de_str (by decide +kernel)) (da_cons (de_str (by decide +kernel)) da_nil)))))))) (blkOk_by (by kernel_rfl)) rfl (fun _ _ _ _ _ => pg_name (i := 13) sc_law.nd rfl (Or.inl rfl)) (fun _ _ _ _ _ name_1 => (dt_cmp (rNinAll_op hr.u70) cmp_nin (dr_val (i := 13) rfl (pv 13)) (dr_val (i := 3) rfl (pv 3)) rfl)) (fun _ _ _ _ _ name_1 => (de_val (i := 13) rfl (pv 13))))) (fun pe => ps_set (i := 4) sc_law.nd rfl (Or.inr rfl) pe)) (fun _ => rfl) fun fresh_1 => db_step (fun roads_1 => [.bor script_1, .val numbers_here_1, .own parts_here_1, .val names_here_1, .val fresh_1, .val roads_1, .un, .un, .un, .un, .un, .un, .un, .un, .un]) (ds_setLc (i := 5) (dn_lc1 (own := [("_law_k", 14)]) (i := 14) (me := fun k_1 => (B1 m_law_road (A1 (.ok numbers_here_1) (A1 (B2 D.add (.ok (.int 112)) (B2 D.mul (.ok (.int 10)) (.ok k_1))) (A1 (B2 D.ix (.ok fresh_1) (.ok k_1)) (A1 (B2 D.ix (.ok (.lst parts_here_1)) (.ok (.int 0))) (A1 (B2 D.ix (.ok (.lst parts_here_1)) (.ok (.int 1))) (A1 (B2 D.ix (.ok (.lst parts_here_1)) (.ok (.int 2))) A0)))))))) (CtxOk.calm ctx_def) sc_law.nd (DIR.of (di_range1 rfl (L.free (fa_2)) (dra_cons (DR.of de_int) dra_nil))) (blkOk_by (by kernel_rfl)) rfl (fun _ _ _ _ _ => pg_name (i := 14) sc_law.nd rfl (Or.inl rfl)) (fun _ _ _ _ _ k_1 => (de_call (CtxOk.blk ctx_def) k_law_road (hr.mono (by decide)) rfl (L.glo (fa_11)) F_law_road.kp b_law_road (dam_bor (dr_val (i := 1) rfl (pv 1)) (dam_bor (DR.of (de_add (DR.of de_int) (DR.of (de_mul (DR.of de_int) (dr_val (i := 14) rfl (pv 14)))))) (dam_frz (de_ix hr.u70 (dr_val (i := 4) rfl (pv 4)) (dr_val (i := 14) rfl (pv 14))) (dam_bor (DR.of (de_ix hr.u70 (dr_own (i := 2) rfl (pv 2)) (DR.of de_int))) (dam_bor (DR.of (de_ix hr.u70 (dr_own (i := 2) rfl (pv 2)) (DR.of de_int))) (dam_bor (DR.of (de_ix hr.u70 (dr_own (i := 2) rfl (pv 2)) (DR.of de_int))) dam_nil))))))))) rfl rfl rfl) (fun _ => rfl) fun roads_1 => db_step (fun parts_here_2 => [.bor script_1, .val numbers_here_1, .own parts_here_2, .val names_here_1, .val fresh_1, .val roads_1, .un, .un, .un, .un, .un, .un, .un, .un, .un]) (ds_setI (i := 2) rfl (pv 2) (de_callTy call_tuple_ofP tup_op rfl (L.free (fa_8)) boot_tuple_ (dra_cons (DR.of (de_callB cr_sortF sortF_op rfl (L.free (fa_7)) boot_sorted_ (dra_cons (DR.of (de_add (DR.of (de_callTy call_list_of list_op rfl (L.free (fa_54)) boot_list_ (dra_cons (DR.of (de_ix hr.u70 (dr_own (i := 2) rfl (pv 2)) (DR.of de_int))) dra_nil))) (dr_val (i := 5) rfl (pv 5)))) dra_nil))) dra_nil)) (DR.of de_int) rfl rfl rfl) (fun _ => rfl) fun parts_here_2 => db_any 3 <| db_any 4 <| db_any 5 <| db_nil rfl) (db_any 3 <| db_any 4 <| db_any 5 <| db_nil rfl)) (fun _ => rfl) (fun parts_here_3 => db_G [.bor script_1, .val numbers_here_1, .own parts_here_3, .any, .any, .any, .un, .un, .un, .un, .un, .un, .un, .un, .un] rfl <| db_un3' [6, 7, 8] (fun kind_1 start_1 goal_1 => [.bor script_1, .val numbers_here_1, .own parts_here_3, .any, .any, .any, .val kind_1, .val start_1, .val goal_1, .un, .un, .un, .un, .un, .un]) (de_call ctx_def k_law_apart_trip (hr.mono (by decide)) rfl (L.glo (fa_55)) F_law_apart_trip.kp b_law_apart_trip (dam_bor (dr_val (i := 1) rfl (pv 1)) (dam_bor (DR.of de_int) (dam_bor (dr_own (i := 2) rfl (pv 2)) dam_nil)))) rfl (pg_seq rfl (pgs_cons (pg_name (i := 6) sc_law.nd rfl (Or.inr rfl)) (pgs_cons (pg_name (i := 7) sc_law.nd rfl (Or.inr rfl)) (pgs_cons (pg_name (i := 8) sc_law.nd rfl (Or.inr rfl)) pgs_nil)))) rfl rfl rfl (fun _ _ _ => rfl) fun kind_1 start_1 goal_1 => db_step (fun expected_1 => [.bor script_1, .val numbers_here_1, .own parts_here_3, .any, .any, .any, .val kind_1, .val start_1, .val goal_1, .val expected_1, .un, .un, .un, .un, .un]) (ds_set de_non (fun pe => ps_set (i := 9) sc_law.nd rfl (Or.inl rfl) pe)) (fun _ => rfl) fun expected_1 => db_step (fun (s : D) => [.bor script_1, .val numbers_here_1, .own parts_here_3, .any, .any, .any, .val kind_1, .val start_1, .val goal_1, .val s, .un, .un, .un, .un, .un]) (ds_if (dt_val (DR.of (de_call ctx_def k_law_is_way (hr.mono (by decide)) rfl (L.glo (fa_56)) F_law_is_way.kp b_law_is_way (dam_bor (dr_own (i := 2) rfl (pv 2)) (dam_bor (dr_val (i := 6) rfl (pv 6)) (dam_bor (dr_val (i := 7) rfl (pv 7)) (dam_bor (dr_val (i := 8) rfl (pv 8)) (dam_bor (DR.of (de_lst da_nil)) dam_nil)))))))) (db_step (fun expected_2 => [.bor script_1, .val numbers_here_1, .own parts_here_3, .any, .any, .any, .val kind_1, .val start_1, .val goal_1, .val expected_2, .un, .un, .un, .un, .un]) (ds_setLc (i := 9) (dn_lc2 (own := [("_law_road_here", 12)]) (i := 12) (mt := fun road_here_2 => (mNot (B1 D.tru (B1 m_law_is_way (A1 (.ok (.lst parts_here_3)) (A1 (.ok kind_1) (A1 (.ok start_1) (A1 (.ok goal_1) (A1 (B1 D.mkLst (A1 (B2 D.ix (.ok road_here_2) (.ok (.int 0))) A0)) A0))))))))) (me := fun road_here_2 => (B2 D.ix (.ok road_here_2) (.ok (.int 0)))) (CtxOk.calm ctx_def) sc_law.nd (dir_seq (DR.of (de_ix hr.u70 (dr_own (i := 2) rfl (pv 2)) (DR.of de_int)))) (blkOk_by (by kernel_rfl)) rfl (fun _ _ _ _ _ => pg_name (i := 12) sc_law.nd rfl (Or.inl rfl)) (fun _ _ _ _ _ road_here_2 => (dt_not (dt_val (DR.of (de_call (CtxOk.blk ctx_def) k_law_is_way (hr.mono (by decide)) rfl (L.glo (fa_56)) F_law_is_way.kp b_law_is_way (dam_bor (dr_own (i := 2) rfl (pv 2)) (dam_bor (dr_val (i := 6) rfl (pv 6)) (dam_bor (dr_val (i := 7) rfl (pv 7)) (dam_bor (dr_val (i := 8) rfl (pv 8)) (dam_bor (DR.of (de_lst (da_cons (de_ix hr.u70 (dr_val (i := 12) rfl (pv 12)) (DR.of de_int)) da_nil))) dam_nil)))))))))) (fun _ _ _ _ _ road_here_2 => (de_ix hr.u70 (dr_val (i := 12) rfl (pv 12)) (DR.of de_int)))) rfl rfl rfl) (fun _ => rfl) fun expected_2 => db_nil rfl) (db_nil rfl)) (fun _ => rfl) (fun expected_3 => db_G [.bor script_1, .val numbers_here_1, .own parts_here_3, .any, .any, .any, .val kind_1, .val start_1, .val goal_1, .val expected_3, .un, .un, .un, .un, .un] rfl <| db_step (fun chart_1 => [.bor script_1, .val numbers_here_1, .own parts_here_3, .any, .any, .any, .val kind_1, .val start_1, .val goal_1, .val expected_3, .val chart_1, .un, .un, .un, .un]) (ds_set (de_call ctx_def k_law_made (hr.mono (by decide)) rfl (L.glo (fa_57)) F_law_made.kp b_law_made (dam_bor (dr_own (i := 2) rfl (pv 2)) dam_nil)) (fun pe => ps_set (i := 10) sc_law.nd rfl (Or.inl rfl) pe)) (fun _ => rfl) fun chart_1 => db_step (fun actual_1 => [.bor script_1, .val numbers_here_1, .own parts_here_3, .any, .any, .any, .val kind_1, .val start_1, .val goal_1, .val expected_3, .val chart_1, (Sl.ol actual_1), .un, .un, .un]) (ds_setOl (dno_call ctx_def k_vital_roads (hr.mono (by decide)) rfl (L.glo (fa_58)) F_vital_roads.kp b_vital_roads (dam_bor (dr_val (i := 10) rfl (pv 10)) (dam_frz (de_val (i := 6) rfl (pv 6)) (dam_frz (de_val (i := 7) rfl (pv 7)) (dam_frz (de_val (i := 8) rfl (pv 8)) dam_nil))))) (fun pe => ps_set (i := 11) sc_law.nd rfl (Or.inl rfl) pe)) (fun _ => rfl) fun actual_1 => db_ifr (dt_cmp (op_neD hr.u64) cmp_ne (DR.of (de_callB (cr_repr hr.u70 hgd) repr_op rfl (L.free (fa_59)) boot_repr_ (dra_cons (dr_var (i := 11) (s := (Sl.ol actual_1)) rfl (pv 11)) dra_nil))) (DR.of (de_callB (cr_repr hr.u70 hgd) repr_op rfl (L.free (fa_59)) boot_repr_ (dra_cons (dr_val (i := 9) rfl (pv 9)) dra_nil))) (nomark _)) (db_last (ds_ret de_bl)) (db_step (fun (s : Unit) => [.bor script_1, .val numbers_here_1, .own parts_here_3, .any, .any, .any, .val kind_1, .val start_1, .val goal_1, .val expected_3, .val chart_1, .any, .un, .un, .un]) (ds_if (dt_cmp op_notN cmp_notN (dr_var (i := 11) (s := (Sl.ol actual_1)) rfl (pv 11)) (DR.of de_non) (nomark _)) (db_step (fun actual_2 => [.bor script_1, .val numbers_here_1, .own parts_here_3, .any, .any, .any, .val kind_1, .val start_1, .val goal_1, .val expected_3, .val chart_1, actual_2, .un, .un, .un]) (ds_push (i := 11) (s := (Sl.ol actual_1)) rfl (pv 11) (de_str (by decide +kernel))) (fun _ => rfl) fun actual_2 => db_any 11 <| db_nil rfl) (db_any 11 <| db_nil rfl)) (fun _ => rfl) (fun _ => db_G [.bor script_1, .val numbers_here_1, .own parts_here_3, .any, .any, .any, .val kind_1, .val start_1, .val goal_1, .val expected_3, .val chart_1, .any, .un, .un, .un] rfl <| db_last (ds_ret (de_cmp (op_eqD hr.u64) cmp_eq (DR.of (de_callOl ctx_def k_vital_roads (hr.mono (by decide)) rfl (L.glo (fa_58)) F_vital_roads.kp b_vital_roads (dam_bor (dr_val (i := 10) rfl (pv 10)) (dam_frz (de_val (i := 6) rfl (pv 6)) (dam_frz (de_val (i := 7) rfl (pv 7)) (dam_frz (de_val (i := 8) rfl (pv 8)) dam_nil)))))) (dr_val (i := 9) rfl (pv 9)) (nomark _)))))))
end LawWalk

set_option Elab.async false
set_option linter.all false
set_option maxRecDepth 100000
set_option maxHeartbeats 4000000
namespace LawMath
open PySem DL LawWalk
def nums (l : List Int) : List D := l.map D.int
theorem nums_len (l : List Int) : (nums l).length = l.length := by simp [nums]
theorem nums_app (l m : List Int) : nums (l ++ m) = nums l ++ nums m := by simp [nums]
def Sm (l : List Int) : Prop := ∀ x ∈ l, 0 ≤ x ∧ x < 1009
theorem Sm.app {l m : List Int} (h : Sm l) (h2 : Sm m) : Sm (l ++ m) := fun x hx => by
  rcases List.mem_append.mp hx with h1 | h1
  · exact h x h1
  · exact h2 x h1
theorem Sm.one {x : Int} (h : 0 ≤ x ∧ x < 1009) : Sm [x] := fun y hy => by
  rw [List.mem_singleton.mp hy]
  exact h
theorem row_ok (c n : Int) (h0 : 0 ≤ n) (h1 : n < 100000) : ∃ l : List Int, m_law_row [.int c, .int n] = .ok (.lst (nums l)) ∧ l.length = n.toNat ∧ Sm l := by
  rw [e_law_row]
  unfold g_law_row
  have hr : smallI n = true := small_of (by omega) (by omega)
  obtain ⟨s', e, hI⟩ := loopF_inv (f := m_law_row_l1 (.int c)) (fun k s => ∃ (l : List Int) (r m : Int), s = (nums l, .int r, .int m) ∧ l.length = k ∧ Sm l ∧ 0 ≤ m) (rangeL 0 n.toNat) 0 ([], .int (if c < 0 then -c else c), .int (((if c < 0 then -c else c) * 48271 + 69621) % 2147483647))
    ⟨[], _, _, rfl, rfl, (fun x hx => by cases hx), by omega⟩ (fun i d s hd hi => by
      obtain ⟨l, r, m, rfl, hl, hs, hm⟩ := hi
      obtain ⟨rfl, hin⟩ := rangeL_get hd
      have hlt : l.length < sizeLine := by
        rw [PySem.sizeLine_eq]
        omega
      unfold m_law_row_l1
      by_cases hc : (10 : Int) ^ 18 ≤ (if c < 0 then -c else c)
      · refine ⟨(nums (l ++ [r % 1009]), .int (r / 1009), .int ((m * 16807 + 271 * (0 + (i : Int) + 3)) % 2147483629)), ?_, _, _, _, rfl, by simp [hl], hs.app (.one (by omega)), by omega⟩
        have hc' : decide ((10 : Int) ^ 18 ≤ (if c < 0 then -c else c)) = true := decide_eq_true hc
        simp at hc'
        simp [hlt, nums_app, nums, hc']
      · refine ⟨(nums (l ++ [(m * 16807 + 271 * (0 + (i : Int) + 3)) % 2147483629 / 7 % 1009]), .int r, .int ((m * 16807 + 271 * (0 + (i : Int) + 3)) % 2147483629)), ?_, _, _, _, rfl, by simp [hl], hs.app (.one (by omega)), by omega⟩
        have hc' : ¬ ((10 : Int) ^ 18 ≤ (if c < 0 then -c else c)) := hc
        simp at hc'
        simp [hlt, nums_app, nums, Int.not_le.mpr hc'])
  obtain ⟨l, r, m, rfl, hl, hs, _⟩ := hI
  refine ⟨l, ?_, by rw [hl, rangeL_len]; omega, hs⟩
  simp [hr, e]
theorem push1_ok (l : List D) (d : D) (h : l.length < 16777216) : m_law_numbers_l1 l d = .ok (l ++ [d]) := by
  unfold m_law_numbers_l1
  have : l.length < sizeLine := by rw [PySem.sizeLine_eq]; exact h
  simp [this]
theorem push3_ok (l : List D) (h : l.length < 16777216) : m_law_numbers_l3 l = .ok (l ++ [.int 0]) := by
  unfold m_law_numbers_l3
  have : l.length < sizeLine := by rw [PySem.sizeLine_eq]; exact h
  simp [this]
theorem pushAll (ds l : List D) (h : l.length + ds.length ≤ 16777216) : loopF m_law_numbers_l1 ds l = .ok (l ++ ds) := by
  obtain ⟨s', e, hI⟩ := loopF_inv (f := m_law_numbers_l1) (fun k s => s = l ++ ds.take k) ds 0 l (by simp) (fun i d s hd hi => by
    subst hi
    have hi := (List.getElem?_eq_some_iff.mp hd).1
    refine ⟨_, push1_ok _ _ (by rw [List.length_append, List.length_take]; omega), ?_⟩
    rw [List.append_assoc]
    congr 1
    have : 0 + i + 1 = i + 1 := by omega
    rw [this, Nat.zero_add, List.take_add_one, hd]
    rfl)
  rw [e, hI]
  simp
theorem numbers_ok (l : List Int) (h : l.length ≤ 63) (n : Int) (h0 : 0 ≤ n) (h1 : n ≤ 1000) : ∃ ns : List Int, m_law_numbers [.scr l, .int n] = .ok (.lst (nums ns)) ∧ ns.length = n.toNat ∧ Sm ns := by
  rw [e_law_numbers]
  have hc : (cutL l none (some 63)).length ≤ 63 := by
    rw [cut_take l (by omega), List.length_take]
    omega
  generalize hcs : cutL l none (some 63) = cs at hc
  have hm : ∀ c : Nat, (0 : Int) < (if (1 : Int) < (c : Int) then (c : Int) else 1) ∧ (c ≤ 63 → (if (1 : Int) < (c : Int) then (c : Int) else 1) < 1073741824) := fun c => by
    split <;> omega
  obtain ⟨hm1, hm2⟩ := hm cs.length
  have hm2 := hm2 hc
  generalize hmm : (if (1 : Int) < (cs.length : Int) then (cs.length : Int) else 1) = mm at hm1 hm2
  have hq0 : 0 ≤ n / mm := Int.ediv_nonneg h0 (by omega)
  have hq1 : n / mm ≤ n := Int.ediv_le_self _ h0
  generalize hq : n / mm = q at hq0 hq1
  obtain ⟨s1, e1, l1, rfl, hl1, hs1⟩ := loopF_inv (f := m_law_numbers_l2 (.int (1 + q))) (fun k s => ∃ ns : List Int, s = nums ns ∧ ns.length = k * (1 + q).toNat ∧ Sm ns) (nums cs) 0 [] ⟨[], rfl, by simp, fun x hx => by cases hx⟩ (fun i d s hd hi => by
    obtain ⟨ns, rfl, hl, hs⟩ := hi
    have hi := (List.getElem?_eq_some_iff.mp hd).1
    rw [nums_len] at hi
    have hd' : ∃ c, d = .int c := by
      unfold nums at hd
      rw [List.getElem?_map] at hd
      cases e : cs[i]? with
      | none => rw [e] at hd; cases hd
      | some c =>
        rw [e] at hd
        cases hd
        exact ⟨c, rfl⟩
    obtain ⟨c, rfl⟩ := hd'
    obtain ⟨r, er, hr, hrs⟩ := row_ok c (1 + q) (by omega) (by omega)
    have hb : i * (1 + q).toNat ≤ 63 * 1001 := Nat.mul_le_mul (by omega) (by omega)
    refine ⟨nums (ns ++ r), ?_, ns ++ r, rfl, ?_, hs.app hrs⟩
    · unfold m_law_numbers_l2
      simp only [B1, A1, A0, okb]
      rw [er]
      simp only [okb, items_l]
      rw [pushAll _ _ (by
        rw [nums_len, nums_len, hl, hr]
        have : (0 + i) * (1 + q).toNat = i * (1 + q).toNat := by rw [Nat.zero_add]
        omega), nums_app]
      rfl
    · rw [List.length_append, hl, hr, Nat.zero_add, Nat.succ_mul])
  have hb : cs.length * (1 + q).toNat ≤ 63 * 1001 := Nat.mul_le_mul (by omega) (by omega)
  rw [nums_len, Nat.zero_add] at hl1
  obtain ⟨s2, e2, ⟨l2, rfl, hl2, hs2⟩, hf⟩ := whileF_inv (c := m_law_numbers_l3_c (.int n)) (f := m_law_numbers_l3) (fun s => ∃ ns : List Int, s = nums ns ∧ ns.length ≤ 100000 ∧ Sm ns) (fun s => n.toNat - s.length) (fun s hs => by
    obtain ⟨ns, rfl, hl, hs⟩ := hs
    refine ⟨decide ((ns.length : Int) < n), ?_, fun hb => ?_⟩
    · unfold m_law_numbers_l3_c
      simp [nums_len]
    · have hb := of_decide_eq_true hb
      refine ⟨nums (ns ++ [0]), ?_, ⟨_, rfl, by simp; omega, hs.app (.one (by omega))⟩, ?_⟩
      · rw [push3_ok _ (by rw [nums_len]; omega), nums_app]
        rfl
      · rw [nums_len, nums_len, List.length_append, List.length_singleton]
        omega) 100000 (nums l1) ⟨l1, rfl, by omega, hs1⟩ (by rw [nums_len]; omega)
  have hge : n ≤ (l2.length : Int) := by
    unfold m_law_numbers_l3_c at hf
    simp [nums_len] at hf
    exact hf
  refine ⟨l2.take n.toNat, ?_, by rw [List.length_take]; omega, fun x hx => hs2 x (List.mem_of_mem_take hx)⟩
  have hcl : (cs.map D.int) = nums cs := rfl
  unfold g_law_numbers
  simp [hcs, hmm, hm1, hm2, hq]
  rw [hcl, e1]
  simp [e2, cut_take _ h0]
  simp [nums]
end LawMath

set_option Elab.async false
set_option linter.all false
set_option maxRecDepth 100000
set_option maxHeartbeats 4000000
namespace LawMath
open PySem DL LawWalk
def letS : Str := "abcdefghijklmnopqrstuvwxyz0123456789"
def lets : List Nat := tl letS
def digs : List Nat := tl "0123456789"
theorem lets_eq : lets = [97, 98, 99, 100, 101, 102, 103, 104, 105, 106, 107, 108, 109, 110, 111, 112, 113, 114, 115, 116, 117, 118, 119, 120, 121, 122, 48, 49, 50, 51, 52, 53, 54, 55, 56, 57] := by decide +kernel
theorem digs_eq : digs = [48, 49, 50, 51, 52, 53, 54, 55, 56, 57] := by decide +kernel
def isNm (l : List Nat) : Bool := match l with
  | [] => false
  | c :: r => decide (r.length < 12) && (!decide (c ∈ digs) && (c :: r).all fun c => decide (c ∈ lets))
def Nm (x : Str) : Prop := isNm (tl x) = true
theorem is_name_eq (l : List Nat) (h : l.length ≤ 16777216) : m_is_name [.str (mk l)] = .ok (.bl (isNm l)) := by
  rw [e_is_name]
  unfold g_is_name
  have hs' : ("abcdefghijklmnopqrstuvwxyz0123456789" : Str) = letS := rfl
  rw [hs']
  cases l with
  | nil => simp [len_mk, isNm]
  | cons c r =>
    have hs : r.length + 1 ≤ sizeLine := by rw [PySem.sizeLine_eq]; exact h
    have hc : compL (fElt noT fun char_1 => bD (D.mem char_1 (.str letS))) (D.str (mk [c]) :: r.map fun c => D.str (mk [c])) = .ok (D.bl (decide (c ∈ lets)) :: r.map fun c => D.bl (decide (c ∈ lets))) := compL_mapA (l := c :: r) (k := fun c => D.str (mk [c])) (g := fun c => D.bl (decide (c ∈ lets))) h fun a _ => by
      simp [mem_char', lets]
    have ha : D.all (.lst (D.bl (decide (c ∈ lets)) :: r.map fun c => D.bl (decide (c ∈ lets)))) = .ok (.bl ((c :: r).all fun c => decide (c ∈ lets))) := all_map (c :: r)
    have hi : D.ix (.str (mk (c :: r))) (.int 0) = .ok (.str (mk [c])) := ix_str (n := 0) (by rw [len_mk]; exact h) rfl rfl
    have h1 : (1 : Int) ≤ (r.length : Int) + 1 := by omega
    have hx : ((r.length : Int) + 1 ≤ 12) ↔ r.length < 12 := by omega
    by_cases h12 : r.length < 12
    · by_cases hd : c ∈ digs
      · have hd' : c ∈ tl "0123456789" := hd
        simp [len_mk, hs, h1, hx, h12, hi, mem_char', isNm, hd, hd']
      · have hd' : ¬ c ∈ tl "0123456789" := hd
        have hi2 : D.items (.str (mk (c :: r))) = .ok ((c :: r).map fun c => D.str (mk [c])) := items_mk _
        simp [len_mk, hs, h1, hx, h12, hi, mem_char', isNm, hd, hd', hi2, hc, ha]
    · simp [len_mk, hs, h1, hx, h12, isNm]
end LawMath

set_option Elab.async false
set_option linter.all false
set_option maxRecDepth 100000
set_option maxHeartbeats 4000000
namespace LawMath
open PySem DL LawWalk L2
structure Rd where
  nm : Str
  st : Str
  en : Str
  mi : Int
  ks : List Str
  hs : Option (List (Int × Int))
  deriving DecidableEq
def prI (p : Int × Int) : D := .tup [.int p.1, .int p.2]
def tupD {α : Type} (e : α → D) (l : List α) : D := .tup (l.map e)
def hsD : Option (List (Int × Int)) → D := optD (tupD prI)
def Rd.d (r : Rd) : D := .tup [.str r.nm, .str r.st, .str r.en, .int r.mi, tupD D.str r.ks, hsD r.hs]
structure Ch where
  day : Int
  pl : List Str
  ki : List Str
  ro : List Rd
  ba : List (Str × Str)
def Ch.f3 (c : Ch) : List (String × D) := [("day", .int c.day), ("places", tupD D.str c.pl), ("kinds", tupD D.str c.ki)]
def Ch.f4 (c : Ch) : List (String × D) := [("day", .int c.day), ("places", tupD D.str c.pl), ("kinds", tupD D.str c.ki), ("roads", tupD Rd.d c.ro)]
def Ch.f5 (c : Ch) : List (String × D) := [("day", .int c.day), ("places", tupD D.str c.pl), ("kinds", tupD D.str c.ki), ("roads", tupD Rd.d c.ro), ("bars", tupD prS c.ba)]
def Ch.d (c : Ch) : D := .ins "Map" c.f5
theorem en_prI : En 1 prI := en_pair (n := 0) en_int en_int
theorem en_hs : En 2 hsD := en_opt (e := tupD prI) (en_tup en_prI) (fun _ => rfl)
theorem en_rd : En 3 Rd.d := ⟨fun x y => by
  obtain ⟨a1, a2, a3, a4, a5, a6⟩ := x
  obtain ⟨b1, b2, b3, b4, b5, b6⟩ := y
  have h5 : D.beq (tupD D.str a5) (tupD D.str b5) = decide (a5 = b5) := (en_tup (n := 0) en_str).beq a5 b5
  have h6 : D.beq (hsD a6) (hsD b6) = decide (a6 = b6) := en_hs.beq a6 b6
  simp only [Rd.d, D.beq, D.beqL, h5, h6]
  by_cases e1 : a1 = b1 <;> by_cases e2 : a2 = b2 <;> by_cases e3 : a3 = b3 <;> by_cases e4 : a4 = b4 <;> by_cases e5 : a5 = b5 <;> by_cases e6 : a6 = b6 <;> simp [e1, e2, e3, e4, e5, e6], fun x => shp_tup fun d hd => by
  have h5 : (tupD D.str x.ks).shp 2 = true := shp_le ((en_tup (n := 0) en_str).shp x.ks) (by omega)
  have h6 : (hsD x.hs).shp 2 = true := en_hs.shp x.hs
  simp only [List.mem_cons, List.not_mem_nil, or_false] at hd
  rcases hd with rfl | rfl | rfl | rfl | rfl | rfl
  · exact shp_str
  · exact shp_str
  · exact shp_str
  · exact shp_int
  · exact h5
  · exact h6⟩
theorem e_s : En 15 D.str := en_str
theorem e_p : En 15 prS := en_prS.le (by omega)
theorem e_r : En 15 Rd.d := en_rd.le (by omega)
section
variable {cs : List String} {c : Ch}
theorem att {f c : String} {l : List (String × D)} {d : D} (h : cs.contains c = true) (e : l.lookup f = some d) : D.attrC cs f (.ins c l) = .ok d := by
  show (need (cs.contains c) >>= fun _ => match l.lookup f with | some d => (.ok d : M D) | none => stuck) = _
  rw [h, e]
  rfl
theorem at3_day (h : cs.contains "Map" = true) : D.attrC cs "day" (.ins "Map" c.f3) = .ok (.int c.day) := att h rfl
theorem at3_pl (h : cs.contains "Map" = true) : D.attrC cs "places" (.ins "Map" c.f3) = .ok (tupD D.str c.pl) := att h rfl
theorem at3_ki (h : cs.contains "Map" = true) : D.attrC cs "kinds" (.ins "Map" c.f3) = .ok (tupD D.str c.ki) := att h rfl
theorem at4_ro (h : cs.contains "Map" = true) : D.attrC cs "roads" (.ins "Map" c.f4) = .ok (tupD Rd.d c.ro) := att h rfl
theorem at_pl (h : cs.contains "Map" = true) : D.attrC cs "places" c.d = .ok (tupD D.str c.pl) := att h rfl
theorem at_ki (h : cs.contains "Map" = true) : D.attrC cs "kinds" c.d = .ok (tupD D.str c.ki) := att h rfl
theorem at_ro (h : cs.contains "Map" = true) : D.attrC cs "roads" c.d = .ok (tupD Rd.d c.ro) := att h rfl
theorem at_ba (h : cs.contains "Map" = true) : D.attrC cs "bars" c.d = .ok (tupD prS c.ba) := att h rfl
end
section
variable {r : Rd}
theorem r0 : D.ix r.d (.int 0) = .ok (.str r.nm) := ix_natT (n := 0) rfl rfl
theorem r1 : D.ix r.d (.int 1) = .ok (.str r.st) := ix_natT (n := 1) rfl rfl
theorem r2 : D.ix r.d (.int 2) = .ok (.str r.en) := ix_natT (n := 2) rfl rfl
theorem r3 : D.ix r.d (.int 3) = .ok (.int r.mi) := ix_natT (n := 3) rfl rfl
theorem r4 : D.ix r.d (.int 4) = .ok (tupD D.str r.ks) := ix_natT (n := 4) rfl rfl
theorem r5 : D.ix r.d (.int 5) = .ok (hsD r.hs) := ix_natT (n := 5) rfl rfl
end
theorem req : m_require [.bl true] = .ok .non := rfl
theorem nm_le {x : Str} (h : Nm x) : (tl x).length ≤ 12 := by
  unfold Nm isNm at h
  cases e : tl x with
  | nil => simp
  | cons c r =>
    rw [e] at h
    simp at h
    simp
    omega
theorem nm_ok {x : Str} (h : Nm x) : m_is_name [.str x] = .ok (.bl true) := by
  have := is_name_eq (tl x) (by have := nm_le h; omega)
  rw [mk_tl] at this
  rw [this, h]
theorem diff_loop {α : Type} [DecidableEq α] {e : α → D} (h : En 15 e) (P : D) (l : List α) (hsl : ∀ i : Nat, ∃ Q, D.sl P none (some (i : Int)) = .ok Q ∧ ∀ x, D.mem (e x) Q = .ok (decide (x ∈ l.take i))) (hn : l.Nodup) : ∀ (suf pre : List α), l = pre ++ suf →
    loopR (fun s => on2 ((m_are_different_l1 P) s)) (enumL (pre.length : Nat) (suf.map e)) () = .ok (.inl ())
  | [], _, _ => rfl
  | x :: suf, pre, hl => by
    obtain ⟨Q, h1, h2⟩ := hsl pre.length
    have hx : ¬ x ∈ l.take pre.length := by
      rw [hl, List.take_left]
      intro hx
      rw [hl] at hn
      exact (List.nodup_append.mp hn).2.2 x hx x (List.mem_cons_self ..) rfl
    have e1 : m_are_different_l1 P () (.int (pre.length : Nat)) (e x) = .ok (.go ()) := by
      unfold m_are_different_l1
      simp [h1, h2, hx]
    show loopR _ (.tup [.int (pre.length : Nat), e x] :: enumL ((pre.length : Nat) + 1) (suf.map e)) () = _
    rw [loopR_go (s' := ()) (by exact e1)]
    have := diff_loop h P l hsl hn suf (pre ++ [x]) (by rw [hl]; simp)
    rw [List.length_append, List.length_singleton] at this
    exact this
theorem diff_t {α : Type} [DecidableEq α] {e : α → D} (h : En 15 e) {l : List α} (hn : l.Nodup) : m_are_different [tupD e l] = .ok (.bl true) := by
  rw [e_are_different]
  have hd := diff_loop h (tupD e l) l (fun i => ⟨tupD e (l.take i), by unfold tupD; rw [sl_t, cut_take _ (by omega), ← List.map_take]; rfl, fun x => h.memT x _⟩) hn l [] rfl
  unfold g_are_different
  have e0 : D.enum1 [tupD e l] = .ok (enumL 0 (l.map e)) := rfl
  have hd : loopR (fun s => on2 ((m_are_different_l1 (tupD e l)) s)) (enumL 0 (l.map e)) () = .ok (.inl ()) := hd
  generalize tupD e l = P at e0 hd
  simp [e0, hd, sFin]
def hOk (day : Int) : Int → List (Int × Int) → Prop
  | _, [] => True
  | b, p :: t => b < p.1 ∧ p.1 < p.2 ∧ p.2 ≤ day ∧ hOk day p.2 t
theorem hours_loop (day : Int) : ∀ (l : List (Int × Int)) (b : Int), hOk day b l → ∃ z, loopR (fun s => on2 ((m_are_hours_l1 (.int day)) s)) (l.map prI) (.int b) = .ok (.inl z)
  | [], b, _ => ⟨_, rfl⟩
  | p :: l, b, h => by
    obtain ⟨h1, h2, h3, h4⟩ := h
    obtain ⟨z, hz⟩ := hours_loop day l p.2 h4
    refine ⟨z, ?_⟩
    rw [List.map_cons, loopR_go (s' := .int p.2), hz]
    show m_are_hours_l1 (.int day) (.int b) (.int p.1) (.int p.2) = _
    unfold m_are_hours_l1
    simp [h1, h2, h3]
theorem hours_ok {day : Int} {l : List (Int × Int)} (h : hOk day (-1) l) (hl : l.length ≤ 4) : m_are_hours [tupD prI l, .int day] = .ok (.bl true) := by
  rw [e_are_hours]
  obtain ⟨z, hz⟩ := hours_loop day l (-1) h
  unfold g_are_hours
  have e1 : D.len (tupD prI l) = .ok (.int l.length) := by unfold tupD; simp
  have e2 : D.items (tupD prI l) = .ok (l.map prI) := rfl
  generalize tupD prI l = P at e1 e2
  have hl' : ¬ (4 : Int) < (l.length : Int) := by omega
  simp [e1, e2, hz, sFin, hl']
end LawMath

set_option Elab.async false
set_option linter.all false
set_option maxRecDepth 100000
set_option maxHeartbeats 4000000
namespace LawMath
open PySem DL LawWalk L2
theorem rcv {m : String} {l : List (String × D)} (h : l.lookup m = none) : D.recv "Map" m (.ins "Map" l) = .ok (.ins "Map" l) := by
  show (need (decide ("Map" = "Map") && (l.lookup m).isNone) >>= fun _ => (.ok (.ins "Map" l) : M D)) = _
  rw [h]
  rfl
def roadOf (ro : List Rd) (n : Str) : Option Rd := ro.find? fun r => decide (r.nm = n)
theorem road_loop {n : Str} {r : Rd} : ∀ {ro : List Rd}, roadOf ro n = some r → loopR (m_Map_road_l1 (.str n)) (ro.map Rd.d) () = .ok (.inr r.d)
  | [], h => by cases h
  | a :: ro, h => by
    unfold roadOf at h
    rw [List.find?_cons] at h
    by_cases e : a.nm = n
    · rw [decide_eq_true e] at h
      cases h
      rw [List.map_cons, loopR_rt]
      unfold m_Map_road_l1
      simp [r0, eq_ss, e]
    · rw [decide_eq_false e] at h
      rw [List.map_cons, loopR_go (s' := ()), road_loop h]
      unfold m_Map_road_l1
      simp [r0, eq_ss, e]
theorem road_of {F : D} {ro : List Rd} {n : Str} {r : Rd} (hF : ∀ cs : List String, cs.contains "Map" = true → D.attrC cs "roads" F = .ok (tupD Rd.d ro)) (h : roadOf ro n = some r) : m_Map_road [F, .str n] = .ok r.d := by
  rw [e_Map_road]
  have e1 := road_loop h
  have e2 : D.items (tupD Rd.d ro) = .ok (ro.map Rd.d) := rfl
  unfold g_Map_road
  simp [hF, e2, e1, sFin]
theorem names_of {F : D} {ro : List Rd} (hl : ro.length ≤ 1000) (hF : ∀ cs : List String, cs.contains "Map" = true → D.attrC cs "roads" F = .ok (tupD Rd.d ro)) : m_Map_road_names [F] = .ok (tupD D.str (ro.map (·.nm))) := by
  rw [e_Map_road_names]
  have e2 : D.items (tupD Rd.d ro) = .ok (ro.map Rd.d) := rfl
  have e1 : compL (fElt noT fun road_1 => D.ix road_1 (.int 0)) (ro.map Rd.d) = .ok (ro.map fun r => .str r.nm) := compL_mapA (by omega) fun a _ => r0
  unfold g_Map_road_names
  simp [hF, e2, e1]
  unfold tupD
  rw [List.map_map]
  rfl
def Rd.norm (ki : List Str) (r : Rd) : Rd := { r with ks := ki.filter fun k => decide (k ∈ r.ks) }
structure RdOk (c : Ch) (r : Rd) : Prop where
  nm : Nm r.nm
  st : r.st ∈ c.pl
  en : r.en ∈ c.pl
  mi : 1 ≤ r.mi ∧ r.mi ≤ 1000
  nd : r.ks.Nodup
  ks : ∀ k ∈ r.ks, k ∈ c.ki
  kl : r.ks.length ≤ 1000
  hs : ∀ l, r.hs = some l → hOk c.day (-1) l ∧ l.length ≤ 4
theorem checked_ok {c : Ch} {r : Rd} (h : RdOk c r) (hk : c.ki.length ≤ 1000) : m_Map_checked [.ins "Map" c.f3, r.d] = .ok (r.norm c.ki).d := by
  rw [e_Map_checked]
  obtain ⟨nm, st, en, mi, ks, hs⟩ := r
  have h1 : m_is_name [.str nm] = .ok (.bl true) := nm_ok h.nm
  have h2 : D.mem (.str st) (tupD D.str c.pl) = .ok true := by
    have := e_s.memT st c.pl
    rw [decide_eq_true h.st] at this
    exact this
  have h3 : D.mem (.str en) (tupD D.str c.pl) = .ok true := by
    have := e_s.memT en c.pl
    rw [decide_eq_true h.en] at this
    exact this
  have h4 : m_are_different [tupD D.str ks] = .ok (.bl true) := diff_t e_s h.nd
  have i1 : D.items (tupD D.str ks) = .ok (ks.map D.str) := rfl
  have c1 : compL (fElt noT fun kind_1 => bD (D.mem kind_1 (tupD D.str c.ki))) (ks.map D.str) = .ok (ks.map fun k => D.bl (decide (k ∈ c.ki))) := compL_mapA (by have : ks.length ≤ 1000 := h.kl; omega) fun k _ => by
    have := e_s.memT k c.ki
    show bD (D.mem (.str k) (tupD D.str c.ki)) = _
    unfold tupD
    rw [this]
    rfl
  have a1 : D.all (.lst (ks.map fun k => D.bl (decide (k ∈ c.ki)))) = .ok (.bl true) := by
    rw [all_map]
    have : (ks.all fun k => decide (k ∈ c.ki)) = true := List.all_eq_true.mpr fun k hk => decide_eq_true (h.ks k hk)
    rw [this]
  have i2 : D.items (tupD D.str c.ki) = .ok (c.ki.map D.str) := rfl
  have c2 : compL (fElt (fun kind_2 => D.mem kind_2 (tupD D.str ks)) fun kind_2 => .ok kind_2) (c.ki.map D.str) = .ok ((c.ki.filter fun k => decide (k ∈ ks)).map D.str) := compL_filterA (by omega) (fun k _ => e_s.memT k ks) fun k _ _ => rfl
  have t1 : D.toTup (.lst ((c.ki.filter fun k => decide (k ∈ ks)).map D.str)) = .ok (tupD D.str (c.ki.filter fun k => decide (k ∈ ks))) := rfl
  have hm1 : (1 : Int) ≤ mi := h.mi.1
  have hm2 : mi ≤ 1000 := h.mi.2
  have s6 : (6 : Nat) ≤ sizeLine := by decide
  have q3 := at3_pl (cs := ["Map"]) (c := c) rfl
  have q4 := at3_ki (cs := ["Map"]) (c := c) rfl
  have q5 := at3_day (cs := ["Map"]) (c := c) rfl
  have hh := h.hs
  simp only at hh
  generalize D.ins "Map" c.f3 = F at q3 q4 q5
  unfold g_Map_checked Rd.d Rd.norm
  simp only
  generalize tupD D.str ks = K at h4 i1 c2
  generalize tupD D.str c.pl = PL at h2 h3 q3
  generalize tupD D.str (c.ki.filter fun k => decide (k ∈ ks)) = K2 at t1
  generalize (c.ki.filter fun k => decide (k ∈ ks)).map D.str = K3 at t1 c2
  generalize ks.map D.str = K4 at i1 c1
  generalize (ks.map fun k => D.bl (decide (k ∈ c.ki))) = K5 at c1 a1
  have t1' : D.tup K3 = K2 := Except.ok.inj t1
  subst t1'
  cases hs with
  | none =>
    simp -implicitDefEqProofs [eq_ii, req, h1, h2, h3, h4, q3, q4, q5, i1, i2, c1, a1, c2, t1, hm1, hm2, s6, hsD, optD]
  | some l =>
    obtain ⟨k1, k2⟩ := hh l rfl
    have h5 := hours_ok k1 k2
    have i3 : D.items (tupD prI l) = .ok (l.map prI) := rfl
    have c3 : compL (fElt noT fun pair_1 => D.len pair_1 >>= fun x => bD (D.eq x (.int 2))) (l.map prI) = .ok (l.map fun _ => D.bl true) := compL_mapA (by omega) fun p _ => by
      show (D.len (.tup [.int p.1, .int p.2]) >>= fun x => bD (D.eq x (.int 2))) = _
      simp [eq_ii]
    have a3 : D.all (.lst (l.map fun _ => D.bl true)) = .ok (.bl true) := by
      rw [all_map (p := fun _ => true)]
      simp
    have c4 : compL (fElt noT fun pair_2 => D.toTup pair_2) (l.map prI) = .ok (l.map prI) := compL_mapA (by omega) fun p _ => rfl
    have t2 : D.toTup (.lst (l.map prI)) = .ok (tupD prI l) := rfl
    have n1 : D.isN (tupD prI l) .non = .ok false := rfl
    have hsd : hsD (some l) = tupD prI l := rfl
    rw [hsd]
    generalize tupD prI l = L at h5 i3 t2 n1
    generalize (l.map fun _ => D.bl true) = L2 at c3 a3
    generalize l.map prI = L1 at i3 c3 c4 t2
    have n2 : L.isNon = false := by
      have : D.isN L .non = .ok L.isNon := isN_n
      rw [this] at n1
      exact Except.ok.inj n1
    have t2' : D.tup L1 = L := Except.ok.inj t2
    subst t2'
    simp -implicitDefEqProofs [eq_ii, req, h1, h2, h3, h4, q3, q4, q5, i1, i2, c1, a1, c2, t1, hm1, hm2, s6, h5, i3, c3, a3, c4, n2]
end LawMath

set_option Elab.async false
set_option linter.all false
set_option maxRecDepth 100000
set_option maxHeartbeats 4000000
namespace LawMath
open PySem DL LawWalk L2
theorem nm_strOk {x : Str} (h : Nm x) : PyData.strOk x = true := by
  rw [strOk_mem]
  intro n hn
  have h : isNm x.cps.toList = true := h
  have key : ∀ l : List Nat, isNm l = true → ∀ n ∈ l, n ∈ lets := fun l hl n hn => by
    cases l with
    | nil => cases hn
    | cons a r =>
      have hl : (decide (r.length < 12) && (!decide (a ∈ digs) && (a :: r).all fun c => decide (c ∈ lets))) = true := hl
      exact of_decide_eq_true (List.all_eq_true.mp (and2 (and2 hl).2).2 n hn)
  have := key _ h n hn
  rw [lets_eq] at this
  have small : ∀ m ∈ [97, 98, 99, 100, 101, 102, 103, 104, 105, 106, 107, 108, 109, 110, 111, 112, 113, 114, 115, 116, 117, 118, 119, 120, 121, 122, 48, 49, 50, 51, 52, 53, 54, 55, 56, 57], m < 0x110000 := by decide
  exact small n this
end LawMath

set_option Elab.async false
set_option linter.all false
set_option maxRecDepth 100000
set_option maxHeartbeats 4000000
namespace LawMath
open PySem DL LawWalk L2
def leR (a b : Rd) : Bool := leS a.nm b.nm
def sortR (l : List Rd) : List Rd := l.mergeSort leR
theorem sortR_perm (l : List Rd) : (sortR l).Perm l := List.mergeSort_perm l leR
theorem sortR_pw (l : List Rd) : (sortR l).Pairwise (fun a b => leR a b = true) := List.pairwise_mergeSort (le := leR) (fun a b c h1 h2 => leS_trans _ _ _ h1 h2) (fun a b => leS_total _ _) l
theorem sortK0_ok (l : List Rd) : D.sortedK0 (.lst (l.map Rd.d)) = .ok (.lst ((sortR l).map Rd.d)) := by
  show (need ((l.map Rd.d).all fun d => d.key0.isSome) >>= fun _ => (.ok (.lst (D.sortK0 (l.map Rd.d))) : M D)) = _
  have h1 : ((l.map Rd.d).all fun d => d.key0.isSome) = true := List.all_eq_true.mpr fun d hd => by
    obtain ⟨r, _, rfl⟩ := List.mem_map.mp hd
    rfl
  have h2 : D.sortK0 (l.map Rd.d) = (sortR l).map Rd.d := by
    unfold D.sortK0 sortR
    rw [List.map_mergeSort (s := fun a b => !PySem.W.dataLt (.str ((D.key0 b).getD ⟨#[]⟩)) (.str ((D.key0 a).getD ⟨#[]⟩)))]
    intro a _ b _
    exact (leD_str a.nm b.nm).symm
  rw [h1, h2]
  rfl
theorem find_nm {ro : List Rd} (hn : (ro.map (·.nm)).Nodup) {r : Rd} (h : r ∈ ro) : roadOf ro r.nm = some r := by
  induction ro with
  | nil => cases h
  | cons a ro ih =>
    rw [List.map_cons, List.nodup_cons] at hn
    unfold roadOf
    rw [List.find?_cons]
    rcases List.mem_cons.mp h with rfl | h
    · simp
    · have : ¬ a.nm = r.nm := fun z => hn.1 (List.mem_map.mpr ⟨r, h, z.symm⟩)
      rw [decide_eq_false this]
      exact ih hn.2 h
structure PartsOk (day : Int) (ki pl : List Str) (ro : List Rd) (ba : List (Str × Str)) : Prop where
  day1 : 1 ≤ day
  day2 : day ≤ 1440
  pl1 : pl.length ≤ 30
  pln : pl.Nodup
  plN : ∀ x ∈ pl, Nm x
  ki0 : 1 ≤ ki.length
  ki1 : ki.length ≤ 4
  kin : ki.Nodup
  kiN : ∀ x ∈ ki, Nm x
  ro1 : ro.length ≤ 60
  ron : (ro.map (·.nm)).Nodup
  rok : ∀ r ∈ ro, RdOk ⟨day, pl, ki, [], []⟩ r
  ba1 : ba.length ≤ 40
  ban : ba.Nodup
  bak : ∀ b ∈ ba, ∃ r ∈ ro, ∃ q ∈ ro, r.nm = b.1 ∧ q.nm = b.2 ∧ r.en = q.st
def mkCh (day : Int) (ki pl : List Str) (ro : List Rd) (ba : List (Str × Str)) : Ch := ⟨day, sortS pl, sortS ki, sortR (ro.map (Rd.norm (sortS ki))), sortP ba⟩
theorem bar_ok {c : Ch} (hn : (c.ro.map (·.nm)).Nodup) (hl : c.ro.length ≤ 1000) {b : Str × Str} {r q : Rd} (hr : r ∈ c.ro) (hq : q ∈ c.ro) (e1 : r.nm = b.1) (e2 : q.nm = b.2) (e3 : r.en = q.st) : m_Map_checked_bar [.ins "Map" c.f4, prS b] = .ok (prS b) := by
  rw [e_Map_checked_bar]
  obtain ⟨b1, b2⟩ := b
  simp only at e1 e2
  subst e1 e2
  have hF : ∀ cs : List String, cs.contains "Map" = true → D.attrC cs "roads" (.ins "Map" c.f4) = .ok (tupD Rd.d c.ro) := fun cs h => at4_ro h
  have n1 := names_of hl hF
  have k1 := road_of hF (find_nm hn hr)
  have k2 := road_of hF (find_nm hn hq)
  have m1 : D.mem (.str r.nm) (tupD D.str (c.ro.map (·.nm))) = .ok true := by
    have := e_s.memT r.nm (c.ro.map (·.nm))
    rw [decide_eq_true (List.mem_map.mpr ⟨r, hr, rfl⟩)] at this
    exact this
  have m2 : D.mem (.str q.nm) (tupD D.str (c.ro.map (·.nm))) = .ok true := by
    have := e_s.memT q.nm (c.ro.map (·.nm))
    rw [decide_eq_true (List.mem_map.mpr ⟨q, hq, rfl⟩)] at this
    exact this
  have p0 : D.ix (prS (r.nm, q.nm)) (.int 0) = .ok (.str r.nm) := ix_natT (n := 0) rfl rfl
  have p1 : D.ix (prS (r.nm, q.nm)) (.int 1) = .ok (.str q.nm) := ix_natT (n := 1) rfl rfl
  have pl : D.len (prS (r.nm, q.nm)) = .ok (.int 2) := rfl
  have pt : D.toTup (prS (r.nm, q.nm)) = .ok (prS (r.nm, q.nm)) := rfl
  have rc : D.recv "Map" "road" (.ins "Map" c.f4) = .ok (.ins "Map" c.f4) := rcv rfl
  have ri : D.isIns "Map" (.ins "Map" c.f4) = .ok (.ins "Map" c.f4) := rfl
  generalize tupD D.str (c.ro.map (·.nm)) = NS at n1 m1 m2
  generalize D.ins "Map" c.f4 = F at n1 k1 k2 rc ri
  generalize prS (r.nm, q.nm) = B at p0 p1 pl pt
  unfold g_Map_checked_bar
  simp -implicitDefEqProofs [p0, p1, pl, pt, rc, ri, n1, k1, k2, m1, m2, r1, r2, eq_ii, eq_ss, req, e3]
end LawMath

set_option Elab.async false
set_option linter.all false
set_option maxRecDepth 100000
set_option maxHeartbeats 4000000
namespace LawMath
open PySem DL LawWalk L2
end LawMath

set_option Elab.async false
set_option linter.all false
set_option maxRecDepth 100000
set_option maxHeartbeats 4000000
namespace LawMath
open PySem DL LawWalk L2
theorem init_okD {day : Int} {ki pl : List Str} {ro : List Rd} {ba : List (Str × Str)} (h : PartsOk day ki pl ro ba) : m_Map_init [.int day, .tup (ki.map D.str), .tup (pl.map D.str), .tup (ro.map Rd.d), .tup (ba.map prS)] = .ok (mkCh day ki pl ro ba).f5 := by
  rw [e_Map_init]
  have hd1 := h.day1
  have hd2 := h.day2
  have d1 : m_are_different [.tup (pl.map D.str)] = .ok (.bl true) := diff_t e_s h.pln
  have d2 : m_are_different [.tup (ki.map D.str)] = .ok (.bl true) := diff_t e_s h.kin
  have s1 : D.sorted (.tup (pl.map D.str)) = .ok (.lst ((sortS pl).map D.str)) := sorted_str pl
  have s2 : D.sorted (.tup (ki.map D.str)) = .ok (.lst ((sortS ki).map D.str)) := sorted_str ki
  have lens := h.pl1
  have lenk := h.ki1
  have lenk0 := h.ki0
  have lenr := h.ro1
  have lenb := h.ba1
  have lenSk : (sortS ki).length = ki.length := (sortS_perm ki).length_eq
  have c1 : compL (fElt noT fun place_1 => m_is_name [place_1]) (pl.map D.str) = .ok (pl.map fun _ => D.bl true) := compL_mapA (by omega) fun x hx => nm_ok (h.plN x hx)
  have c2 : compL (fElt noT fun place_1 => m_is_name [place_1]) (ki.map D.str) = .ok (ki.map fun _ => D.bl true) := compL_mapA (by omega) fun x hx => nm_ok (h.kiN x hx)
  have a1 : D.all (.lst (pl.map fun _ => D.bl true)) = .ok (.bl true) := by
    rw [all_map (p := fun _ => true)]
    simp
  have a2 : D.all (.lst (ki.map fun _ => D.bl true)) = .ok (.bl true) := by
    rw [all_map (p := fun _ => true)]
    simp
  have t1 : D.toTup (.lst ((sortS pl).map D.str)) = .ok (tupD D.str (sortS pl)) := rfl
  have t2 : D.toTup (.lst ((sortS ki).map D.str)) = .ok (tupD D.str (sortS ki)) := rfl
  have rc3 : D.recv "Map" "checked" (.ins "Map" (mkCh day ki pl ro ba).f3) = .ok (.ins "Map" (mkCh day ki pl ro ba).f3) := rcv rfl
  have ck : ∀ r ∈ ro, m_Map_checked [.ins "Map" (mkCh day ki pl ro ba).f3, r.d] = .ok (r.norm (sortS ki)).d := fun r hr => by
    have hr := h.rok r hr
    exact checked_ok (c := mkCh day ki pl ro ba) ⟨hr.nm, (sortS_perm pl).mem_iff.mpr hr.st, (sortS_perm pl).mem_iff.mpr hr.en, hr.mi, hr.nd, fun k hk => (sortS_perm ki).mem_iff.mpr (hr.ks k hk), hr.kl, hr.hs⟩ (by show (sortS ki).length ≤ _; omega)
  have c3 : compL (fElt noT fun road_1 => m_Map_checked [.ins "Map" (mkCh day ki pl ro ba).f3, road_1]) (ro.map Rd.d) = .ok ((ro.map (Rd.norm (sortS ki))).map Rd.d) := by
    rw [List.map_map]
    exact compL_mapA (by omega) ck
  have s3 := sortK0_ok (ro.map (Rd.norm (sortS ki)))
  have t3 : D.toTup (.lst ((sortR (ro.map (Rd.norm (sortS ki)))).map Rd.d)) = .ok (tupD Rd.d (mkCh day ki pl ro ba).ro) := rfl
  have lenr2 : (mkCh day ki pl ro ba).ro.length = ro.length := by
    show (sortR _).length = _
    rw [(sortR_perm _).length_eq, List.length_map]
  have nro : ((mkCh day ki pl ro ba).ro.map (·.nm)).Nodup := by
    have e : (ro.map (Rd.norm (sortS ki))).map (·.nm) = ro.map (·.nm) := by
      rw [List.map_map]
      rfl
    exact (((sortR_perm (ro.map (Rd.norm (sortS ki)))).map (·.nm)).nodup_iff).mpr (by rw [e]; exact h.ron)
  have n1 : m_Map_road_names [.ins "Map" (mkCh day ki pl ro ba).f4] = .ok (tupD D.str ((mkCh day ki pl ro ba).ro.map (·.nm))) := names_of (by omega) fun cs h => at4_ro h
  have d3 : m_are_different [tupD D.str ((mkCh day ki pl ro ba).ro.map (·.nm))] = .ok (.bl true) := diff_t e_s nro
  have ri : D.isIns "Map" (.ins "Map" (mkCh day ki pl ro ba).f4) = .ok (.ins "Map" (mkCh day ki pl ro ba).f4) := rfl
  have rc4 : D.recv "Map" "checked_bar" (.ins "Map" (mkCh day ki pl ro ba).f4) = .ok (.ins "Map" (mkCh day ki pl ro ba).f4) := rcv rfl
  have c4 : compL (fElt noT fun bar_1 => m_Map_checked_bar [.ins "Map" (mkCh day ki pl ro ba).f4, bar_1]) (ba.map prS) = .ok (ba.map prS) := compL_mapA (by omega) fun b hb => by
    obtain ⟨r, hr, q, hq, e1, e2, e3⟩ := h.bak b hb
    have m : ∀ z ∈ ro, z.norm (sortS ki) ∈ (mkCh day ki pl ro ba).ro := fun z hz => (sortR_perm _).mem_iff.mpr (List.mem_map.mpr ⟨z, hz, rfl⟩)
    exact bar_ok nro (by omega) (m r hr) (m q hq) e1 e2 e3
  have s4 := sorted_pair ba
  have t4 : D.toTup (.lst ((sortP ba).map prS)) = .ok (tupD prS (mkCh day ki pl ro ba).ba) := rfl
  have at5 : D.attrC ["Map"] "bars" (.ins "Map" (mkCh day ki pl ro ba).f5) = .ok (tupD prS (mkCh day ki pl ro ba).ba) := at_ba rfl
  have d4 : m_are_different [tupD prS (mkCh day ki pl ro ba).ba] = .ok (.bl true) := diff_t e_p (((sortP_perm ba).nodup_iff).mpr h.ban)
  have p1 : putD "day" (D.int day) [] = [("day", .int day)] := rfl
  have p2 : putD "places" (tupD D.str (sortS pl)) [("day", .int day)] = [("day", .int day), ("places", tupD D.str (sortS pl))] := rfl
  have p3 : putD "kinds" (tupD D.str (sortS ki)) [("day", .int day), ("places", tupD D.str (sortS pl))] = (mkCh day ki pl ro ba).f3 := rfl
  have p4 : putD "roads" (tupD Rd.d (mkCh day ki pl ro ba).ro) (mkCh day ki pl ro ba).f3 = (mkCh day ki pl ro ba).f4 := rfl
  have p5 : putD "bars" (tupD prS (mkCh day ki pl ro ba).ba) (mkCh day ki pl ro ba).f4 = (mkCh day ki pl ro ba).f5 := rfl
  have l3 : (mkCh day ki pl ro ba).f3.length = 3 := rfl
  have l4 : (mkCh day ki pl ro ba).f4.length = 4 := rfl
  have kn0 : (1 : Int) ≤ (ki.length : Int) := by omega
  have kn1 : (ki.length : Int) ≤ 4 := by omega
  have pn1 : (pl.length : Int) ≤ 30 := by omega
  have rn1 : (ro.length : Int) ≤ 60 := by omega
  have bn1 : (ba.length : Int) ≤ 40 := by omega
  have le1 : D.len (.tup (ki.map D.str)) = .ok (.int ki.length) := by simp
  have le2 : D.len (.tup (pl.map D.str)) = .ok (.int pl.length) := by simp
  have le3 : D.len (.tup (ro.map Rd.d)) = .ok (.int ro.length) := by simp
  have le4 : D.len (.tup (ba.map prS)) = .ok (.int ba.length) := by simp
  generalize (mkCh day ki pl ro ba).f5 = f5 at *
  generalize (mkCh day ki pl ro ba).f4 = f4 at *
  generalize (mkCh day ki pl ro ba).f3 = f3 at *
  generalize tupD prS (mkCh day ki pl ro ba).ba = A5 at *
  generalize tupD D.str ((mkCh day ki pl ro ba).ro.map (·.nm)) = A6 at *
  generalize tupD Rd.d (mkCh day ki pl ro ba).ro = A4 at *
  generalize (sortP ba).map prS = B1' at *
  generalize (sortR (ro.map (Rd.norm (sortS ki)))).map Rd.d = B2' at *
  generalize (ro.map (Rd.norm (sortS ki))).map Rd.d = B3' at *
  generalize (pl.map fun _ => D.bl true) = B4' at *
  generalize (ki.map fun _ => D.bl true) = B5' at *
  generalize tupD D.str (sortS ki) = A3 at *
  generalize tupD D.str (sortS pl) = A2 at *
  generalize (sortS ki).map D.str = B6' at *
  generalize (sortS pl).map D.str = B7' at *
  generalize ki.map D.str = B8' at *
  generalize pl.map D.str = B9' at *
  generalize ro.map Rd.d = C1' at *
  generalize ba.map prS = C2' at *
  have l0 : ([] : List (String × D)).length = 0 := rfl
  have l1 : [("day", D.int day)].length = 1 := rfl
  have l2 : [("day", D.int day), ("places", A2)].length = 2 := rfl
  have q0 : need (decide (0 < 1000)) = .ok () := rfl
  have q1 : need (decide (1 < 1000)) = .ok () := rfl
  have q2 : need (decide (2 < 1000)) = .ok () := rfl
  have q3 : need (decide (3 < 1000)) = .ok () := rfl
  have q4 : need (decide (4 < 1000)) = .ok () := rfl
  unfold g_Map_init
  simp -implicitDefEqProofs only [B1, B2, A0, A1, C2, C3, mField, L1, mProp, mMeth, vAnd, okb, f1_1, bD_ok, le_ii, tru_b, items_l, items_t, need_t, if_true, Bool.false_eq_true, if_false, req, hd1, hd2, decide_true, le1, le2, le3, le4, kn0, kn1, pn1, rn1, bn1, d1, d2, c1, c2, a1, a2, s1, s2, t1, t2, p1, p2, p3, p4, p5, l3, l4, rc3, c3, s3, t3, n1, d3, ri, noX_ok, rc4, c4, s4, t4, at5, d4, l0, l1, l2, q0, q1, q2, q3, q4]
end LawMath

set_option Elab.async false
set_option linter.all false
set_option maxRecDepth 100000
set_option maxHeartbeats 4000000
namespace LawMath
open PySem DL LawWalk L2
end LawMath

set_option Elab.async false
set_option linter.all false
set_option maxRecDepth 100000
set_option maxHeartbeats 4000000
namespace LawMath
open PySem DL LawWalk L2
structure COk (c : Ch) : Prop where
  day : 1 ≤ c.day ∧ c.day ≤ 1440
  rl : c.ro.length ≤ 60
  rn : (c.ro.map (·.nm)).Nodup
  pn : c.pl.Nodup
  plen : c.pl.length ≤ 30
  pw : c.pl.Pairwise (fun a b => leS a b = true)
  rw : c.ro.Pairwise (fun a b => leR a b = true)
  ends : ∀ r ∈ c.ro, r.st ∈ c.pl ∧ r.en ∈ c.pl
  kl : ∀ r ∈ c.ro, ∀ k ∈ r.ks, k ∈ c.ki
  hs : ∀ r ∈ c.ro, ∀ l, r.hs = some l → hOk c.day (-1) l ∧ l.length ≤ 4
  mi : ∀ r ∈ c.ro, 1 ≤ r.mi ∧ r.mi ≤ 1000
  bl : c.ba.length ≤ 40
theorem cok_of {day : Int} {ki pl : List Str} {ro : List Rd} {ba : List (Str × Str)} (h : PartsOk day ki pl ro ba) : COk (mkCh day ki pl ro ba) := by
  have mem : ∀ r ∈ (mkCh day ki pl ro ba).ro, ∃ q ∈ ro, r = q.norm (sortS ki) := fun r hr => by
    obtain ⟨q, hq, e⟩ := List.mem_map.mp ((sortR_perm _).mem_iff.mp hr)
    exact ⟨q, hq, e.symm⟩
  exact {
    day := ⟨h.day1, h.day2⟩
    rl := by
      show (sortR _).length ≤ _
      rw [(sortR_perm _).length_eq, List.length_map]
      exact h.ro1
    rn := by
      have e : (ro.map (Rd.norm (sortS ki))).map (·.nm) = ro.map (·.nm) := by
        rw [List.map_map]
        rfl
      exact (((sortR_perm (ro.map (Rd.norm (sortS ki)))).map (·.nm)).nodup_iff).mpr (by rw [e]; exact h.ron)
    pn := (sortS_perm pl).nodup_iff.mpr h.pln
    plen := by
      show (sortS pl).length ≤ _
      rw [(sortS_perm pl).length_eq]
      exact h.pl1
    pw := sortS_pw pl
    rw := sortR_pw _
    ends := fun r hr => by
      obtain ⟨q, hq, rfl⟩ := mem r hr
      have := h.rok q hq
      exact ⟨(sortS_perm pl).mem_iff.mpr this.st, (sortS_perm pl).mem_iff.mpr this.en⟩
    kl := fun r hr k hk => by
      obtain ⟨q, hq, rfl⟩ := mem r hr
      exact (List.mem_filter.mp hk).1
    hs := fun r hr => by
      obtain ⟨q, hq, rfl⟩ := mem r hr
      exact (h.rok q hq).hs
    mi := fun r hr => by
      obtain ⟨q, hq, rfl⟩ := mem r hr
      exact (h.rok q hq).mi
    bl := by
      show (sortP ba).length ≤ _
      rw [(sortP_perm ba).length_eq]
      exact h.ba1 }
section
variable {c : Ch} (C : COk c)
theorem rc_road : D.recv "Map" "road" c.d = .ok c.d := rcv rfl
theorem rc_place : D.recv "Map" "check_place" c.d = .ok c.d := rcv rfl
theorem rc_from : D.recv "Map" "roads_from" c.d = .ok c.d := rcv rfl
theorem rc_foll : D.recv "Map" "followers" c.d = .ok c.d := rcv rfl
theorem is_map : D.isIns "Map" c.d = .ok c.d := rfl
include C in
theorem road_ok {r : Rd} (h : r ∈ c.ro) : m_Map_road [c.d, .str r.nm] = .ok r.d := road_of (fun cs h => at_ro h) (find_nm C.rn h)
def foll (c : Ch) (r : Rd) : List Rd := c.ro.filter fun q => decide (q.st = r.en) && !decide ((r.nm, q.nm) ∈ c.ba)
end
def usbl (k : Str) (r : Rd) : Bool := decide (k ∈ r.ks) && !decide (r.hs = some [])
end LawMath

set_option Elab.async false
set_option linter.all false
set_option maxRecDepth 100000
set_option maxHeartbeats 4000000
namespace LawMath
open PySem DL LawWalk L2
section
variable {c : Ch} (C : COk c)
theorem place_ok {k : Str} (h : k ∈ c.pl) : m_Map_check_place [c.d, .str k] = .ok .non := by
  show orNon (g_Map_check_place c.d (.str k)) = _
  have m : D.nmem (.str k) (tupD D.str c.pl) = .ok false := by
    have := e_s.nmemT k c.pl
    rw [decide_eq_true h] at this
    exact this
  have a := at_pl (cs := ["Map"]) (c := c) rfl
  unfold g_Map_check_place
  simp [a, m, orNon]
include C in
theorem from_ok {p : Str} (h : p ∈ c.pl) : m_Map_roads_from [c.d, .str p] = .ok (.lst ((c.ro.filter fun r => decide (r.st = p)).map fun r => D.str r.nm)) := by
  rw [e_Map_roads_from]
  have a := at_ro (cs := ["Map"]) (c := c) rfl
  have a2 := at_ro (cs := ["Route", "Paper", "Map"]) (c := c) rfl
  have a3 := at_ro (cs := ["Route", "Map"]) (c := c) rfl
  have a4 := at_ro (cs := ["Route", "Latest", "Map"]) (c := c) rfl
  have a5 := at_ro (cs := ["Route", "Map", "Paper"]) (c := c) rfl
  have a6 := at_ro (cs := ["Map", "Route", "Paper"]) (c := c) rfl
  have i : D.items (tupD Rd.d c.ro) = .ok (c.ro.map Rd.d) := rfl
  have e : compL (fElt (fun road_1 => D.ix road_1 (.int 1) >>= fun x => D.eq x (.str p)) fun road_1 => D.ix road_1 (.int 0)) (c.ro.map Rd.d) = .ok ((c.ro.filter fun r => decide (r.st = p)).map fun r => D.str r.nm) := compL_filterA (by have := C.rl; omega) (fun r _ => by rw [r1, okb, eq_ss]) fun r _ _ => r0
  unfold g_Map_roads_from
  simp [rc_place, place_ok h, a, a2, a3, a4, a5, a6, i, e]
end
end LawMath

set_option Elab.async false
set_option linter.all false
set_option maxRecDepth 100000
set_option maxHeartbeats 4000000
namespace LawMath
open PySem DL LawWalk L2
section
variable {c : Ch} (C : COk c)
include C in
theorem names_okC : m_Map_road_names [c.d] = .ok (tupD D.str (c.ro.map (·.nm))) := names_of (by have := C.rl; omega) fun cs h => at_ro h
include C in
theorem foll_ok {r : Rd} (h : r ∈ c.ro) : m_Map_followers [c.d, .str r.nm] = .ok (.lst ((foll c r).map fun q => D.str q.nm)) := by
  rw [e_Map_followers]
  have a := at_ba (cs := ["Map"]) (c := c) rfl
  have f := from_ok C (C.ends r h).2
  have lf : (c.ro.filter fun q => decide (q.st = r.en)).length ≤ 60 := Nat.le_trans (List.length_filter_le _ _) C.rl
  have e : compL (fElt (fun other_1 => D.mkTup [.str r.nm, other_1] >>= fun x => D.nmem x (tupD prS c.ba)) fun other_1 => .ok other_1) ((c.ro.filter fun q => decide (q.st = r.en)).map fun q => D.str q.nm) = .ok ((foll c r).map fun q => D.str q.nm) := by
    have e1 := compL_filterA (t := fun other_1 => D.mkTup [.str r.nm, other_1] >>= fun x => D.nmem x (tupD prS c.ba)) (f := fun other_1 => .ok other_1) (k := fun q : Rd => D.str q.nm) (p := fun q => !decide ((r.nm, q.nm) ∈ c.ba)) (g := fun q => D.str q.nm) (l := c.ro.filter fun q => decide (q.st = r.en)) (by omega) (fun q _ => e_p.nmemT (r.nm, q.nm) c.ba) fun q _ _ => rfl
    rw [e1, List.filter_filter]
    unfold foll
    congr 4
    funext q
    rw [Bool.and_comm]
  unfold g_Map_followers
  simp -implicitDefEqProofs only [B1, B2, A0, A1, L1, mMeth, okb, rc_road, rc_from, road_ok C h, r2, f, items_l, a, e]
end
end LawMath

set_option Elab.async false
set_option linter.all false
set_option maxRecDepth 100000
set_option maxHeartbeats 4000000
namespace LawMath
open PySem DL LawWalk L2
structure Pt where
  day : Int
  ki : List Str
  pl : List Str
  ro : List Rd
  ba : List (Str × Str)
def Pt.d (p : Pt) : D := .lst [.int p.day, tupD D.str p.ki, tupD D.str p.pl, tupD Rd.d p.ro, tupD prS p.ba]
def Pt.ok (p : Pt) : Prop := PartsOk p.day p.ki p.pl p.ro p.ba
def Pt.ch (p : Pt) : Ch := mkCh p.day p.ki p.pl p.ro p.ba
def Pt.srt (p : Pt) : Prop := p.ch = ⟨p.day, p.pl, p.ki, p.ro, p.ba⟩
section
variable {p : Pt}
theorem p0 : D.ix p.d (.int 0) = .ok (.int p.day) := ix_nat (n := 0) rfl rfl
theorem p1 : D.ix p.d (.int 1) = .ok (tupD D.str p.ki) := ix_nat (n := 1) rfl rfl
theorem p2 : D.ix p.d (.int 2) = .ok (tupD D.str p.pl) := ix_nat (n := 2) rfl rfl
theorem p3 : D.ix p.d (.int 3) = .ok (tupD Rd.d p.ro) := ix_nat (n := 3) rfl rfl
theorem p4 : D.ix p.d (.int 4) = .ok (tupD prS p.ba) := ix_nat (n := 4) rfl rfl
end
theorem ms_id {α : Type} {le : α → α → Bool} {l : List α} (h : l.Pairwise fun a b => le a b = true) : l.mergeSort le = l := List.mergeSort_of_pairwise h
theorem sortS_id {l : List Str} (h : l.Pairwise fun a b => leS a b = true) : sortS l = l := ms_id h
theorem sortP_id {l : List (Str × Str)} (h : l.Pairwise fun a b => leP a b = true) : sortP l = l := ms_id h
theorem sortR_id {l : List Rd} (h : l.Pairwise fun a b => leR a b = true) : sortR l = l := ms_id h
structure SrtP (pl ki : List Str) (ro : List Rd) (ba : List (Str × Str)) : Prop where
  spl : pl.Pairwise fun a b => leS a b = true
  ski : ki.Pairwise fun a b => leS a b = true
  sro : ro.Pairwise fun a b => leR a b = true
  sba : ba.Pairwise fun a b => leP a b = true
  snm : ∀ r ∈ ro, r.norm ki = r
theorem srt_mk {day : Int} {pl ki : List Str} {ro : List Rd} {ba : List (Str × Str)} (h : SrtP pl ki ro ba) : mkCh day ki pl ro ba = ⟨day, pl, ki, ro, ba⟩ := by
  have e : ro.map (Rd.norm ki) = ro := by
    conv => rhs; rw [← List.map_id ro]
    exact List.map_congr_left fun r hr => h.snm r hr
  unfold mkCh
  rw [sortS_id h.spl, sortS_id h.ski, sortP_id h.sba, e, sortR_id h.sro]
theorem srt_of {p : Pt} (h : SrtP p.pl p.ki p.ro p.ba) : p.srt := srt_mk h
theorem norm_norm (ki : List Str) (r : Rd) : (r.norm ki).norm ki = r.norm ki := by
  unfold Rd.norm
  have : (ki.filter fun k => decide (k ∈ ki.filter fun k => decide (k ∈ r.ks))) = ki.filter fun k => decide (k ∈ r.ks) := List.filter_congr fun k hk => by
    simp [hk]
  simp only [this]
theorem ch_srt (p : Pt) : SrtP p.ch.pl p.ch.ki p.ch.ro p.ch.ba where
  spl := sortS_pw _
  ski := sortS_pw _
  sro := sortR_pw _
  sba := sortP_pw _
  snm := fun r hr => by
    obtain ⟨q, _, rfl⟩ := List.mem_map.mp ((sortR_perm _).mem_iff.mp hr)
    exact norm_norm _ q
theorem Pt.srt.S {p : Pt} (h : p.srt) : SrtP p.pl p.ki p.ro p.ba := by
  have := ch_srt p
  rw [show p.ch = _ from h] at this
  exact this
theorem sorted2_ok {l : List Rd} (hn : (l.map (·.nm)).Nodup) : D.sorted2 (.lst (l.map Rd.d)) = .ok (.lst ((sortR l).map Rd.d)) := by
  have h1 : D.sortF (l.map Rd.d) = true := by
    unfold D.sortF
    rw [Bool.and_eq_true]
    refine ⟨List.all_eq_true.mpr fun d hd => ?_, decide_eq_true ?_⟩
    · obtain ⟨r, _, rfl⟩ := List.mem_map.mp hd
      rfl
    · rw [List.map_map]
      exact hn
  have h2 : (l.map Rd.d).mergeSort D.leF = (sortR l).map Rd.d := by
    unfold sortR
    rw [List.map_mergeSort (s := D.leF)]
    intro a _ b _
    show leS a.nm b.nm = !SrtF.ltS b.nm a.nm
    unfold leS SrtF.ltS
    show decide (tl a.nm ≤ tl b.nm) = !decide (tl b.nm < tl a.nm)
    by_cases h : tl b.nm < tl a.nm
    · rw [decide_eq_true h, decide_eq_false (List.not_le.mpr h)]
      rfl
    · rw [decide_eq_false h, decide_eq_true (List.not_lt.mp h)]
      rfl
  show (need (D.sortF (l.map Rd.d)) >>= fun _ => (.ok (.lst ((l.map Rd.d).mergeSort D.leF)) : M D)) = _
  rw [h1, h2]
  rfl
end LawMath

set_option Elab.async false
set_option linter.all false
set_option maxRecDepth 100000
set_option maxHeartbeats 4000000
namespace LawMath
open PySem DL LawWalk L2
theorem lmade_okD {p : Pt} (P : p.ok) : m_law_made [p.d] = .ok p.ch.d := by
  rw [e_law_made]
  have i : m_Map_init [.int p.day, tupD D.str p.ki, tupD D.str p.pl, tupD Rd.d p.ro, tupD prS p.ba] = .ok (mkCh p.day p.ki p.pl p.ro p.ba).f5 := init_okD P
  unfold g_law_made
  simp -implicitDefEqProofs only [B1, B2, A0, A1, mkInsK, f1_1, okb, p0, p1, p2, p3, p4, pick_0, pick_s, List.nil_append, List.cons_append, i]
  rfl
end LawMath

set_option Elab.async false
set_option linter.all false
set_option maxRecDepth 100000
set_option maxHeartbeats 4000000
namespace LawMath
open PySem DL LawWalk L2
theorem lets_len : lets.length = 36 := by rw [lets_eq]; rfl
def lt (i : Int) : Nat := lets.getD i.toNat 0
theorem lt_mem {i : Int} (h1 : i < 36) : lt i ∈ lets := by
  have : i.toNat < lets.length := by rw [lets_len]; omega
  unfold lt
  rw [List.getD_eq_getElem?_getD, List.getElem?_eq_getElem this]
  exact List.getElem_mem this
theorem lt_nd {i : Int} (h1 : i < 26) : ¬ lt i ∈ digs := by
  have q : ∀ k : Fin 26, ¬ lets.getD k.val 0 ∈ digs := by rw [lets_eq, digs_eq]; decide
  exact q ⟨i.toNat, by omega⟩
theorem lt_inj {i j : Int} (h0 : 0 ≤ i) (h1 : i < 36) (g0 : 0 ≤ j) (g1 : j < 36) (e : lt i = lt j) : i = j := by
  have q : ∀ a b : Fin 36, lets.getD a.val 0 = lets.getD b.val 0 → a = b := by rw [lets_eq]; decide +kernel
  have := q ⟨i.toNat, by omega⟩ ⟨j.toNat, by omega⟩ e
  have h2 : i.toNat = j.toNat := congrArg Fin.val this
  omega
theorem let_ix {i : Int} (h0 : 0 ≤ i) (h1 : i < 36) : D.ix (.str letS) (.int i) = .ok (.str (mk [lt i])) := by
  have hl : i.toNat < lets.length := by rw [lets_len]; omega
  refine ix_str (n := i.toNat) (by decide +kernel) ?_ (by omega)
  have h2 : lets[i.toNat]? = some (lt i) := by
    unfold lt
    rw [List.getD_eq_getElem?_getD, List.getElem?_eq_getElem hl]
    rfl
  exact h2
def Al (l : List Nat) : Prop := ∀ c ∈ l, c ∈ lets
theorem nm_of {a b : Nat} {l : List Nat} {k : Nat} (ha : a ∈ lets) (hd : ¬ a ∈ digs) (hb : b ∈ lets) (hl : Al l) (h : l.length ≤ 10) : isNm ([a] ++ l.take k ++ [b] ++ l.drop k) = true := by
  have e : [a] ++ l.take k ++ [b] ++ l.drop k = a :: (l.take k ++ ([b] ++ l.drop k)) := by simp
  rw [e]
  unfold isNm
  have h1 : (l.take k ++ ([b] ++ l.drop k)).length < 12 := by simp; omega
  have h2 : (a :: (l.take k ++ ([b] ++ l.drop k))).all (fun c => decide (c ∈ lets)) = true := by
    apply List.all_eq_true.mpr
    intro x hx
    apply decide_eq_true
    rcases List.mem_cons.mp hx with rfl | hx
    · exact ha
    · rcases List.mem_append.mp hx with hx | hx
      · exact hl x (List.mem_of_mem_take hx)
      · rcases List.mem_append.mp hx with hx | hx
        · rw [List.mem_singleton.mp hx]
          exact hb
        · exact hl x (List.mem_of_mem_drop hx)
  show (decide ((l.take k ++ ([b] ++ l.drop k)).length < 12) && (!decide (a ∈ digs) && (a :: (l.take k ++ ([b] ++ l.drop k))).all (fun c => decide (c ∈ lets)))) = true
  rw [decide_eq_true h1, decide_eq_false hd, h2]
  rfl
theorem flat1 : ∀ cs : List Nat, (cs.map fun c => [c]).flatten = cs
  | [] => rfl
  | c :: cs => by rw [List.map_cons, List.flatten_cons, flat1 cs]; rfl
theorem join1 (cs : List Nat) (h : cs.length ≤ 1000) : D.join (.str "") (.lst ((cs.map fun c => mk [c]).map D.str)) = .ok (.str (mk cs)) := by
  have e1 : (((cs.map fun c => mk [c]).map (·.length)).sum) = cs.length := by
    rw [List.map_map]
    clear h
    induction cs with
    | nil => rfl
    | cons c cs ih =>
      rw [List.map_cons, List.sum_cons, ih, List.length_cons]
      have : (Str.length ∘ fun c => mk [c]) c = 1 := len_mk [c]
      rw [this]
      omega
  have e0 : ("" : Str).length = 0 := by decide +kernel
  rw [join_ok (by rw [e1, e0]; omega), join0]
  have e2 : (cs.map fun c => mk [c]).map tl = cs.map fun c => [c] := by
    rw [List.map_map]
    exact List.map_congr_left fun x _ => tl_mk _
  rw [e2, flat1]
def ltL (f : Nat → Int) (n : Nat) : List Nat := (List.range n).map fun k => lt (f k)
theorem ltL_al {f : Nat → Int} {n : Nat} (h : ∀ k, k < n → f k < 36) : Al (ltL f n) := fun c hc => by
  obtain ⟨k, hk, rfl⟩ := List.mem_map.mp hc
  exact lt_mem (h k (List.mem_range.mp hk))
theorem ltL_len (f : Nat → Int) (n : Nat) : (ltL f n).length = n := by
  unfold ltL
  rw [List.length_map, List.length_range]
theorem ltL_comp {f : Nat → Int} {n : Nat} {g : D → M D} (hn : n ≤ 1000) (h : ∀ k, k < n → g (.int (0 + (k : Int))) = .ok (.str (mk [lt (f k)]))) : compL (fElt noT g) (rangeL 0 n) = .ok (((ltL f n).map fun c => mk [c]).map D.str) := by
  unfold ltL
  rw [List.map_map, List.map_map]
  exact compL_mapA (by rw [List.length_range]; omega) fun k hk => h k (List.mem_range.mp hk)
def nmL (a b : Nat) (l : List Nat) (k : Nat) : List Nat := [a] ++ l.take k ++ [b] ++ l.drop k
theorem nodup_map_range {α : Type} {f : Nat → α} : ∀ {n : Nat}, (∀ i j, i < n → j < n → f i = f j → i = j) → ((List.range n).map f).Nodup := fun {n} h => by
  rw [List.nodup_iff_pairwise_ne] <;> rw [List.pairwise_map]
  refine List.Pairwise.imp_of_mem ?_ (List.nodup_range (n := n))
  intro i j hi hj hij e
  exact hij (h i j (List.mem_range.mp hi) (List.mem_range.mp hj) e)
end LawMath

set_option Elab.async false
set_option linter.all false
set_option maxRecDepth 100000
set_option maxHeartbeats 4000000
namespace LawMath
open PySem DL LawWalk L2
def ownB (n : Int) (cs : List Nat) (k : Nat) : List Nat := if (n / 121 + k) % 3 = 0 then cs.drop 1 else cs
def stB (n : Int) : Int := if n / 363 % 2 = 1 then 31 else 5
def spB (pl : Int) (own : List Nat) : Int := if (own.length : Int) < pl then own.length else pl
def bName (n : Int) (cs : List Nat) (pl : Int) (k : Nat) : Str := mk (nmL (lt ((n + 3 * (k : Int)) % 26)) (lt ((n + stB n * (k : Int)) % 36)) (ownB n cs k) (spB pl (ownB n cs k)).toNat)
theorem ownB_len {n : Int} {cs : List Nat} (h : cs.length ≤ 10) (k : Nat) : (ownB n cs k).length ≤ 10 := by
  unfold ownB
  split
  · rw [List.length_drop]; omega
  · exact h
theorem bname_turn {n : Int} (h0 : 0 ≤ n) {cs : List Nat} (hcs : cs.length ≤ 10) {pl : Int} (hp : 0 ≤ pl) {k : Nat} (hk : k < 100) (xs : List D) (hx : xs.length < 1000) :
    m_law_names_l1 (.int n) (.str letS) (.str (mk cs)) (.int pl) xs (.int (0 + (k : Int))) = .ok (xs ++ [.str (bName n cs pl k)]) := by
  rw [Int.zero_add]
  have hs1 : need (decide (xs.length < sizeLine)) = .ok () := need_p (by rw [PySem.sizeLine_eq]; omega)
  have ol := ownB_len (n := n) hcs k
  have f1' : D.fdiv (.int n) (.int 121) = .ok (.int (n / 121)) := rfl
  have m3 : D.mod (.int (n / 121 + (k : Int))) (.int 3) = .ok (.int ((n / 121 + (k : Int)) % 3)) := mod_ok (by omega)
  have f2' : D.fdiv (.int n) (.int 363) = .ok (.int (n / 363)) := rfl
  have m4 : D.mod (.int (n / 363)) (.int 2) = .ok (.int (n / 363 % 2)) := mod_ok (by omega)
  have b1 : D.bnd (.int 1) = .ok (some 1) := rfl
  have sl1 : D.sl (.str (mk cs)) (some 1) none = .ok (.str (mk (cs.drop 1))) := by
    rw [sl_s, need_p (by rw [PySem.sizeLine_eq, len_mk]; omega), okb, cutS_mk, cut_drop _ (by omega)]
    rfl
  have ow : (if decide ((n / 121 + (k : Int)) % 3 = 0) = true then (D.sl (.str (mk cs)) (some 1) none >>= fun own_2 => (.ok own_2 : M D)) else .ok (.str (mk cs))) = .ok (.str (mk (ownB n cs k))) := by
    unfold ownB
    by_cases h : (n / 121 + (k : Int)) % 3 = 0
    · rw [decide_eq_true h, if_pos rfl, if_pos h, sl1, okb]
    · rw [decide_eq_false h, if_neg Bool.false_ne_true, if_neg h]
  have sx : (if decide (n / 363 % 2 = 1) = true then (.ok (.int 31) : M D) else .ok (.int 5)) = .ok (.int (stB n)) := by
    unfold stB
    by_cases h : n / 363 % 2 = 1
    · rw [decide_eq_true h, if_pos rfl, if_pos h]
    · rw [decide_eq_false h, if_neg Bool.false_ne_true, if_neg h]
  have st1 : 0 ≤ stB n ∧ stB n ≤ 31 := by
    unfold stB
    split <;> omega
  have nn : 0 ≤ stB n * (k : Int) := Int.mul_nonneg st1.1 (by omega)
  unfold bName
  generalize ownB n cs k = own at ow ol
  generalize stB n = st at sx st1 nn
  have ln : D.len (.str (mk own)) = .ok (.int (own.length : Nat)) := by
    have := len_mk own
    rw [len_s, need_p (by rw [PySem.sizeLine_eq, this]; omega), okb, this]
  have mn : D.min2 (.int pl) (.int (own.length : Nat)) = .ok (.int (spB pl own)) := min_ii
  have sp0 : 0 ≤ spB pl own := by
    unfold spB
    split <;> omega
  generalize spB pl own = sp at mn sp0
  have i1 := let_ix (i := (n + 3 * (k : Int)) % 26) (by omega) (by omega)
  have i2 := let_ix (i := (n + st * (k : Int)) % 36) (Int.emod_nonneg _ (by omega)) (Int.emod_lt_of_pos _ (by omega))
  have mu : D.mul (.int 3) (.int (k : Int)) = .ok (.int (3 * (k : Int))) := mul_okl (by omega) (by omega)
  have mu2 : D.mul (.int st) (.int (k : Int)) = .ok (.int (st * (k : Int))) := mul_okl (by omega) (by omega)
  have m1 : D.mod (.int (n + 3 * (k : Int))) (.int 26) = .ok (.int ((n + 3 * (k : Int)) % 26)) := mod_ok (by omega)
  have m2 : D.mod (.int (n + st * (k : Int))) (.int 36) = .ok (.int ((n + st * (k : Int)) % 36)) := mod_ok (by omega)
  have c1 : D.sl (.str (mk own)) none (some sp) = .ok (.str (mk (own.take sp.toNat))) := by
    rw [sl_s, need_p (by rw [PySem.sizeLine_eq, len_mk]; omega), okb, cutS_mk, cut_take _ sp0]
  have c2 : D.sl (.str (mk own)) (some sp) none = .ok (.str (mk (own.drop sp.toNat))) := by
    rw [sl_s, need_p (by rw [PySem.sizeLine_eq, len_mk]; omega), okb, cutS_mk, cut_drop _ sp0]
  have lt1 : (own.take sp.toNat).length ≤ 10 := by rw [List.length_take]; omega
  have lt2 : (own.drop sp.toNat).length ≤ 10 := by rw [List.length_drop]; omega
  have ap : ∀ a b : List Nat, a.length ≤ 100 → b.length ≤ 100 → D.add (.str (mk a)) (.str (mk b)) = .ok (.str (mk (a ++ b))) := fun a b h1 h2 => by
    rw [add_ss, need_p (by rw [PySem.sizeLine_eq, len_mk, len_mk]; omega), okb, mk_app]
  have a1 := ap [lt ((n + 3 * (k : Int)) % 26)] (own.take sp.toNat) (by simp) (by omega)
  have a2 := ap ([lt ((n + 3 * (k : Int)) % 26)] ++ own.take sp.toNat) [lt ((n + st * (k : Int)) % 36)] (by simp; omega) (by simp)
  have a3 := ap ([lt ((n + 3 * (k : Int)) % 26)] ++ own.take sp.toNat ++ [lt ((n + st * (k : Int)) % 36)]) (own.drop sp.toNat) (by simp; omega) (by omega)
  unfold m_law_names_l1 nmL
  simp -implicitDefEqProofs only [B1, B2, A0, A1, S3, mIf, mPush, oN, okb, f1', f1_1, f2_2, toInt_i, add_ii, m3, eq_ii, b1, ow, ln, mn, f2', m4, sx, mu, m1, i1, bnd_i, c1, a1, mu2, m2, i2, a2, c2, a3, hs1]
theorem bnames_okH {n m : Int} (h0 : 0 ≤ n) (hm0 : 0 ≤ m) (hm : m ≤ 9) : ∃ xs : List Str, m_law_names [.int n, .int m] = .ok (.lst (xs.map D.str)) ∧ xs.length = m.toNat ∧ (∀ x ∈ xs, 2 ≤ (tl x).length) ∧ (∀ x ∈ xs, Nm x) ∧ xs.Nodup ∧ ∀ x ∈ xs, ∀ y ∈ xs, (tl x).head? = (tl y).head? → x = y := by
  rw [e_law_names]
  let f : Nat → Int := fun k => (n + 7 * (k : Int) * (k : Int)) % 36
  have hf : ∀ k, 0 ≤ f k ∧ f k < 36 := fun k => by
    show 0 ≤ (n + 7 * (k : Int) * (k : Int)) % 36 ∧ (n + 7 * (k : Int) * (k : Int)) % 36 < 36
    omega
  have co : compL (fElt noT (fun k_1 => (B2 D.ix (.ok (.str letS)) (B2 D.mod (B1 (f1 D.toInt) (A1 (B2 D.add (.ok (.int n)) (B2 D.mul (B2 D.mul (.ok (.int 7)) (.ok k_1)) (.ok k_1))) A0)) (.ok (.int 36)))))) (rangeL 0 (n % 11).toNat) = .ok (((ltL f (n % 11).toNat).map fun c => mk [c]).map D.str) := ltL_comp (by omega) fun k hk => by
    have m1 : (D.int 7).mul (.int (k : Int)) = .ok (.int (7 * (k : Int))) := mul_okl (by omega) (by omega)
    have m2 : (D.int (7 * (k : Int))).mul (.int (k : Int)) = .ok (.int (7 * (k : Int) * (k : Int))) := mul_okl (by omega) (by omega)
    have m3 : (D.int (n + 7 * (k : Int) * (k : Int))).mod (.int 36) = .ok (.int (f k)) := mod_ok (by omega)
    have i1 := let_ix (hf k).1 (hf k).2
    rw [Int.zero_add]
    simp -implicitDefEqProofs only [B1, B2, A0, A1, okb, m1, m2, add_ii, f1_1, toInt_i, m3, i1]
  have hal : Al (ltL f (n % 11).toNat) := ltL_al fun k _ => (hf k).2
  have hln : (ltL f (n % 11).toNat).length = (n % 11).toNat := ltL_len _ _
  have hj := join1 (ltL f (n % 11).toNat) (by omega)
  generalize ltL f (n % 11).toNat = cs at co hal hln hj
  have hp0 : 0 ≤ n / 11 % (n % 11 + 1) := Int.emod_nonneg _ (by omega)
  have hlo : ∀ (j : Nat), j ≤ m.toNat → loopF (m_law_names_l1 (.int n) (.str letS) (.str (mk cs)) (.int (n / 11 % (n % 11 + 1)))) (rangeL 0 j) [] = .ok (((List.range j).map fun k => bName n cs (n / 11 % (n % 11 + 1)) k).map D.str) := by
    intro j
    induction j with
    | zero => intro _; rfl
    | succ j ih =>
      intro hj
      have e : rangeL 0 (j + 1) = rangeL 0 j ++ [.int (0 + (j : Int))] := by
        unfold rangeL
        rw [List.range_succ, List.map_append]
        rfl
      rw [e, loopF_snoc, ih (by omega), okb, bname_turn h0 (by omega) hp0 (by omega) _ (by rw [List.length_map, List.length_map, List.length_range]; omega), List.range_succ]
      simp
  have hl := hlo m.toNat (Nat.le_refl _)
  have alo : ∀ k, Al (ownB n cs k) := fun k => by
    unfold ownB
    split
    · exact fun c hc => hal c (List.mem_of_mem_drop hc)
    · exact hal
  refine ⟨(List.range m.toNat).map fun k => bName n cs (n / 11 % (n % 11 + 1)) k, ?_, by rw [List.length_map, List.length_range], fun x hx => ?_, fun x hx => ?_, ?_⟩
  · have hs' : ("abcdefghijklmnopqrstuvwxyz0123456789" : Str) = letS := rfl
    have r1 : D.range1 [.int (n % 11)] = .ok (rangeL 0 (n % 11).toNat) := by
      rw [range1_i, small_of (by omega) (by omega)]
      rfl
    have r2 : D.range1 [.int m] = .ok (rangeL 0 m.toNat) := by
      rw [range1_i, small_of (by omega) (by omega)]
      rfl
    have md1 : D.mod (.int n) (.int 11) = .ok (.int (n % 11)) := mod_ok (by omega)
    have md2 : D.mod (.int (n / 11)) (.int (n % 11 + 1)) = .ok (.int (n / 11 % (n % 11 + 1))) := mod_ok (by omega)
    have f1' : D.fdiv (.int n) (.int 11) = .ok (.int (n / 11)) := rfl
    have z0 : need (decide (([] : List D).length ≤ sizeLine)) = .ok () := rfl
    have ms : ∀ l : List D, meth D.isStr (.ok (.str "")) (.ok [.lst l]) (m1 D.join) = D.join (.str "") (.lst l) := fun l => rfl
    unfold g_law_names
    rw [hs']
    simp -implicitDefEqProofs only [B1, B2, A0, A1, L1, nLst, okb, f1_1, toInt_i, md1, r1] at co ⊢
    rw [co]
    simp -implicitDefEqProofs only [okb, ms, hj, f1_1, f1', toInt_i, add_ii, md2, z0, r2, hl]
  · obtain ⟨k, hk, rfl⟩ := List.mem_map.mp hx
    unfold bName nmL
    rw [tl_mk]
    simp
    omega
  · obtain ⟨k, hk, rfl⟩ := List.mem_map.mp hx
    exact nm_of (lt_mem (by omega)) (lt_nd (by omega)) (lt_mem (Int.emod_lt_of_pos _ (by omega))) (alo k) (ownB_len (by omega) k)
  · refine ⟨nodup_map_range fun i j hi hj e => ?_, fun x hx y hy e => ?_⟩
    · have e2 := mk_inj.mp e
      unfold nmL at e2
      have e3 : lt ((n + 3 * (i : Int)) % 26) = lt ((n + 3 * (j : Int)) % 26) := by
        have := congrArg (fun l => l[0]?) e2
        simpa using this
      have e4 := lt_inj (by omega) (by omega) (by omega) (by omega) e3
      omega
    · obtain ⟨i, hi, rfl⟩ := List.mem_map.mp hx
      obtain ⟨j, hj, rfl⟩ := List.mem_map.mp hy
      rw [List.mem_range] at hi hj
      unfold bName at e
      rw [tl_mk, tl_mk] at e
      unfold nmL at e
      have e3 : lt ((n + 3 * (i : Int)) % 26) = lt ((n + 3 * (j : Int)) % 26) := by simpa using e
      have e4 := lt_inj (by omega) (by omega) (by omega) (by omega) e3
      have : i = j := by omega
      rw [this]
theorem bnames_ok {n m : Int} (h0 : 0 ≤ n) (hm0 : 0 ≤ m) (hm : m ≤ 9) : ∃ xs : List Str, m_law_names [.int n, .int m] = .ok (.lst (xs.map D.str)) ∧ xs.length = m.toNat ∧ (∀ x ∈ xs, 2 ≤ (tl x).length) ∧ (∀ x ∈ xs, Nm x) ∧ xs.Nodup := by
  obtain ⟨xs, h1, h2, h3, h4, h5, _⟩ := bnames_okH h0 hm0 hm
  exact ⟨xs, h1, h2, h3, h4, h5⟩
end LawMath

set_option Elab.async false
set_option linter.all false
set_option maxRecDepth 100000
set_option maxHeartbeats 4000000
namespace LawMath
open PySem DL LawWalk L2
theorem num_ix {ns : List Int} {i : Int} {j : Nat} (hi : i = (j : Int)) (h : j < ns.length) : D.ix (.lst (nums ns)) (.int i) = .ok (.int (ns.getD j 0)) :=
  ix_nat (n := j) (by
    unfold nums
    rw [List.getElem?_map, List.getElem?_eq_getElem h, List.getD_eq_getElem?_getD, List.getElem?_eq_getElem h]
    rfl) hi
theorem num_sm {ns : List Int} (hs : Sm ns) (j : Nat) : 0 ≤ ns.getD j 0 ∧ ns.getD j 0 < 1009 := by
  rw [List.getD_eq_getElem?_getD]
  cases e : ns[j]? with
  | none => simp
  | some x => exact hs x (List.mem_of_getElem? e)
def lastE : Int → List (Int × Int) → Int
  | b, [] => b
  | _, q :: l => lastE q.2 l
theorem hOk_snoc {day : Int} : ∀ {b : Int} {l : List (Int × Int)} {q : Int × Int}, hOk day b l → lastE b l < q.1 → q.1 < q.2 → q.2 ≤ day → hOk day b (l ++ [q]) ∧ lastE b (l ++ [q]) = q.2
  | b, [], q, _, h1, h2, h3 => ⟨⟨h1, h2, h3, trivial⟩, rfl⟩
  | b, p :: l, q, h, h1, h2, h3 => by
    obtain ⟨g1, g2, g3, g4⟩ := h
    obtain ⟨e1, e2⟩ := hOk_snoc (b := p.2) (l := l) (q := q) g4 h1 h2 h3
    exact ⟨⟨g1, g2, g3, e1⟩, e2⟩
theorem str_ix {l : List Str} {i : Int} {j : Nat} (hi : i = (j : Int)) (h : j < l.length) : ∃ x ∈ l, D.ix (.lst (l.map D.str)) (.int i) = .ok (.str x) :=
  ⟨l[j], List.getElem_mem h, ix_nat (n := j) (by rw [List.getElem?_map, List.getElem?_eq_getElem h]; rfl) hi⟩
theorem str_ixm {l : List Str} {i : Int} (h : 0 < l.length) : ∃ x ∈ l, D.ix (.lst (l.map D.str)) (.int (i % (l.length : Nat))) = .ok (.str x) := by
  have q1 : 0 ≤ i % (l.length : Int) := Int.emod_nonneg _ (by omega)
  have q2 : i % (l.length : Int) < l.length := Int.emod_lt_of_pos _ (by omega)
  exact str_ix (j := (i % (l.length : Int)).toNat) (by omega) (by omega)
end LawMath

set_option Elab.async false
set_option linter.all false
set_option maxRecDepth 100000
set_option maxHeartbeats 4000000
namespace LawMath
open PySem DL LawWalk L2
theorem pick_ix {l : List Str} {t : D → M Bool} {f : D → M D} (hl : l.length ≤ 1000) {b : Nat → Bool} (ht : ∀ k, k < l.length → t (.int (0 + (k : Int))) = .ok (b k)) (hf : ∀ k (h : k < l.length), f (.int (0 + (k : Int))) = .ok (.str l[k])) : ∃ us : List Str, us.Sublist l ∧ compL (fElt t f) (rangeL 0 l.length) = .ok (us.map D.str) := by
  refine ⟨((List.range l.length).filter b).map (fun k => l.getD k ""), ?_, ?_⟩
  · have e : (List.range l.length).map (fun k => l.getD k "") = l := by
      apply List.ext_getElem
      · simp
      · intro i h1 h2
        rw [List.getElem_map, List.getElem_range, List.getD_eq_getElem?_getD, List.getElem?_eq_getElem h2]
        rfl
    conv => rhs; rw [← e]
    exact List.filter_sublist.map _
  · rw [List.map_map]
    exact compL_filterA (k := fun k : Nat => D.int (0 + (k : Int))) (by rw [List.length_range]; omega) (fun k hk => ht k (List.mem_range.mp hk)) fun k hk _ => by
      have hk := List.mem_range.mp hk
      rw [hf k hk]
      show (Except.ok (D.str l[k]) : M D) = .ok (.str (l.getD k ""))
      rw [List.getD_eq_getElem?_getD, List.getElem?_eq_getElem hk]
      rfl
section
variable {ns : List Int} (hs : Sm ns) {day : Int} (hd : 1 ≤ day)
include hs hd
theorem hours_turnD {a : Nat} {k : Nat} (hl : a + 1 + k < ns.length) {l : List (Int × Int)} (hk : l.length ≤ 100) (h : hOk day (-1) l) : ∃ l' : List (Int × Int), m_law_hours_l1 (.lst (nums ns)) (.int (a : Nat)) (.int day) (l.map prI, .int (lastE (-1) l)) (.int (0 + (k : Int))) = .ok (l'.map prI, .int (lastE (-1) l')) ∧ hOk day (-1) l' ∧ l'.length ≤ l.length + 1 := by
  rw [Int.zero_add]
  have ix := num_ix (ns := ns) (i := (a : Nat) + 1 + (k : Int)) (j := a + 1 + k) (by omega) hl
  have n0 := num_sm hs (a + 1 + k)
  generalize ns.getD (a + 1 + k) 0 = n at ix n0
  have d4 : D.fdiv (.int n) (.int 4) = .ok (.int (n / 4)) := rfl
  have ma : D.mod (.int n) (.int 4) = .ok (.int (n % 4)) := mod_ok (by omega)
  have mb : D.mod (.int (n / 4)) (.int 6) = .ok (.int (n / 4 % 6)) := mod_ok (by omega)
  have ga : 0 ≤ n % 4 := Int.emod_nonneg _ (by omega)
  have gb : 0 ≤ n / 4 % 6 := Int.emod_nonneg _ (by omega)
  generalize n % 4 = x at ma ga
  generalize n / 4 % 6 = y at mb gb
  have le : D.le (.int (lastE (-1) l + 1 + x + 1 + y)) (.int day) = .ok (decide (lastE (-1) l + 1 + x + 1 + y ≤ day)) := rfl
  have mk : D.mkTup [.int (lastE (-1) l + 1 + x), .int (lastE (-1) l + 1 + x + 1 + y)] = .ok (prI (lastE (-1) l + 1 + x, lastE (-1) l + 1 + x + 1 + y)) := rfl
  have sx : need (decide ((l.map prI).length < sizeLine)) = .ok () := need_p (by rw [PySem.sizeLine_eq, List.length_map]; omega)
  by_cases hc : lastE (-1) l + 1 + x + 1 + y ≤ day
  · obtain ⟨e1, e2⟩ := hOk_snoc (q := (lastE (-1) l + 1 + x, lastE (-1) l + 1 + x + 1 + y)) h (by show lastE (-1) l < lastE (-1) l + 1 + x; omega) (by show lastE (-1) l + 1 + x < lastE (-1) l + 1 + x + 1 + y; omega) hc
    refine ⟨l ++ [(lastE (-1) l + 1 + x, lastE (-1) l + 1 + x + 1 + y)], ?_, e1, by rw [List.length_append]; exact Nat.le_refl _⟩
    rw [e2]
    unfold m_law_hours_l1
    dsimp only
    simp -implicitDefEqProofs only [B1, B2, A0, A1, mIf, mPush, okb, add_ii, ix, d4, f1_1, toInt_i, ma, mb, le, decide_eq_true hc, if_true, mk, sx, List.map_append]
    rfl
  · refine ⟨l, ?_, h, by omega⟩
    unfold m_law_hours_l1
    dsimp only
    simp -implicitDefEqProofs only [B1, B2, A0, A1, mIf, okb, add_ii, ix, d4, f1_1, toInt_i, ma, mb, le, decide_eq_false hc, Bool.false_eq_true, if_false]
theorem hours_loopD {a : Nat} : ∀ k : Nat, k ≤ 3 → a + 1 + k ≤ ns.length → ∃ l : List (Int × Int), loopF (m_law_hours_l1 (.lst (nums ns)) (.int (a : Nat)) (.int day)) (rangeL 0 k) ([], .int (-1)) = .ok (l.map prI, .int (lastE (-1) l)) ∧ hOk day (-1) l ∧ l.length ≤ k
  | 0, _, _ => ⟨[], rfl, trivial, Nat.le_refl _⟩
  | k + 1, h, hl => by
    obtain ⟨l, e, h1, h2⟩ := hours_loopD (a := a) k (by omega) (by omega)
    obtain ⟨l', e', h1', h2'⟩ := hours_turnD hs hd (a := a) (k := k) (by omega) (l := l) (by omega) h1
    refine ⟨l', ?_, h1', by omega⟩
    have e2 : rangeL 0 (k + 1) = rangeL 0 k ++ [.int (0 + (k : Int))] := by
      unfold rangeL
      rw [List.range_succ, List.map_append]
      rfl
    rw [e2, loopF_snoc, e, okb, e']
theorem hours_drawnD {a : Nat} (hl : a + 4 ≤ ns.length) : ∃ hh : Option (List (Int × Int)), m_law_hours [.lst (nums ns), .int (a : Nat), .int day] = .ok (hsD hh) ∧ ∀ l, hh = some l → hOk day (-1) l ∧ l.length ≤ 3 := by
  rw [e_law_hours]
  have i0 := num_ix (ns := ns) (i := (a : Nat)) (j := a) rfl (by omega)
  have m3 : D.mod (.int (ns.getD a 0)) (.int 3) = .ok (.int (ns.getD a 0 % 3)) := mod_ok (by omega)
  have m4 : D.mod (.int (ns.getD a 0)) (.int 4) = .ok (.int (ns.getD a 0 % 4)) := mod_ok (by omega)
  have g4 : 0 ≤ ns.getD a 0 % 4 := Int.emod_nonneg _ (by omega)
  have g4' : ns.getD a 0 % 4 < 4 := Int.emod_lt_of_pos _ (by omega)
  generalize ns.getD a 0 % 3 = x at m3
  generalize ns.getD a 0 % 4 = y at m4 g4 g4'
  have z0 : need (decide (([] : List D).length ≤ sizeLine)) = .ok () := rfl
  have ng : D.neg (.int 1) = .ok (.int (-1)) := rfl
  have rg : D.range1 [.int y] = .ok (rangeL 0 y.toNat) := by
    rw [range1_i, small_of (by omega) (by omega)]
    rfl
  obtain ⟨l, el, h1, h2⟩ := hours_loopD hs hd (a := a) y.toNat (by omega) (by omega)
  have tt : D.toTup (.lst (l.map prI)) = .ok (hsD (some l)) := rfl
  unfold g_law_hours
  by_cases c1 : x = 0
  · refine ⟨none, ?_, fun l h => nomatch h⟩
    simp -implicitDefEqProofs only [B1, B2, A0, A1, mIf, okb, i0, f1_1, toInt_i, m3, eq_ii, decide_eq_true c1, if_true]
    rfl
  · refine ⟨some l, ?_, fun l' h => by cases h; exact ⟨h1, by omega⟩⟩
    simp -implicitDefEqProofs only [B1, B2, A0, A1, nLst, mIf, okb, i0, f1_1, toInt_i, m3, eq_ii, decide_eq_false c1, Bool.false_eq_true, if_false, z0, ng, m4, rg, el, tt]
end
end LawMath

set_option Elab.async false
set_option linter.all false
set_option maxRecDepth 100000
set_option maxHeartbeats 4000000
namespace LawMath
open PySem DL LawWalk L2
section
variable {ns : List Int} (hs : Sm ns) {day : Int} (hd : 1 ≤ day)
include hs hd
theorem road_drawnD {a : Nat} (hl : a + 9 ≤ ns.length) {ki pl : List Str} (hki2 : ki.length ≤ 4) (hkn : ki.Nodup) (hpl : 0 < pl.length) (hpl2 : pl.length ≤ 30) {x : Str} (hx : Nm x) :
    ∃ r : Rd, m_law_road [.lst (nums ns), .int (a : Nat), .str x, .int day, tupD D.str ki, tupD D.str pl] = .ok r.d ∧ r.nm = x ∧ r.mi ≤ 40 ∧ r.ks.Sublist ki ∧ RdOk ⟨day, pl, ki, [], []⟩ r := by
  rw [e_law_road]
  have i0 := num_ix (ns := ns) (i := (a : Nat)) (j := a) rfl (by omega)
  have i1 := num_ix (ns := ns) (i := (a : Nat) + 1) (j := a + 1) (by omega) (by omega)
  have i2 := num_ix (ns := ns) (i := (a : Nat) + 2) (j := a + 2) (by omega) (by omega)
  have i3 := num_ix (ns := ns) (i := (a : Nat) + 3) (j := a + 3) (by omega) (by omega)
  have i4 := num_ix (ns := ns) (i := (a : Nat) + 4) (j := a + 4) (by omega) (by omega)
  have n2 := num_sm hs (a + 2)
  have n3 := num_sm hs (a + 3)
  obtain ⟨hh, eh, hok⟩ := hours_drawnD hs hd (a := a + 5) (by omega)
  have ea : ((a + 5 : Nat) : Int) = (a : Nat) + 5 := by omega
  rw [ea] at eh
  generalize ns.getD a 0 = b0 at i0
  generalize ns.getD (a + 1) 0 = b1 at i1
  generalize ns.getD (a + 2) 0 = b2 at i2 n2
  generalize ns.getD (a + 3) 0 = b3 at i3 n3
  generalize ns.getD (a + 4) 0 = b4 at i4
  have le : D.len (tupD D.str pl) = .ok (.int (pl.length : Int)) := by unfold tupD; simp
  have lk : D.len (tupD D.str ki) = .ok (.int (ki.length : Int)) := by unfold tupD; simp
  have ma : D.mod (.int b0) (.int (pl.length : Int)) = .ok (.int (b0 % (pl.length : Int))) := mod_ok (by omega)
  have mb : D.mod (.int b1) (.int (pl.length : Int)) = .ok (.int (b1 % (pl.length : Int))) := mod_ok (by omega)
  obtain ⟨st, hst, est⟩ := str_ixm (l := pl) (i := b0) hpl
  obtain ⟨en, hen, een⟩ := str_ixm (l := pl) (i := b1) hpl
  have est : D.ix (tupD D.str pl) (.int (b0 % (pl.length : Int))) = .ok (.str st) := est
  have een : D.ix (tupD D.str pl) (.int (b1 % (pl.length : Int))) = .ok (.str en) := een
  have m3 : D.mod (.int b3) (.int 3) = .ok (.int (b3 % 3)) := mod_ok (by omega)
  have mk3 : D.mkTup [.int 9, .int 9, .int 40] = .ok (.tup [.int 9, .int 9, .int 40]) := rfl
  obtain ⟨w, hw, ew⟩ : ∃ w : Int, (1 ≤ w ∧ w ≤ 40) ∧ D.ix (.tup [.int 9, .int 9, .int 40]) (.int (b3 % 3)) = .ok (.int w) := by
    have : b3 % 3 = 0 ∨ b3 % 3 = 1 ∨ b3 % 3 = 2 := by omega
    rcases this with h | h | h <;> rw [h] <;> exact ⟨_, by decide, rfl⟩
  have mw : D.mod (.int b2) (.int w) = .ok (.int (b2 % w)) := mod_ok (by omega)
  have w1 : 0 ≤ b2 % w := Int.emod_nonneg _ (by omega)
  have w2 : b2 % w < w := Int.emod_lt_of_pos _ (by omega)
  have rg : D.range1 [.int (ki.length : Int)] = .ok (rangeL 0 ki.length) := by
    rw [range1_i, small_of (by omega) (by omega)]
    rfl
  have mk6 : ∀ x1 x2 x3 x4 x5 x6 : D, D.mkTup [x1, x2, x3, x4, x5, x6] = .ok (.tup [x1, x2, x3, x4, x5, x6]) := fun _ _ _ _ _ _ => rfl
  obtain ⟨us, hus, cu⟩ := pick_ix (l := ki) (t := fun k_1 => (B2 D.gt (B2 D.mod (B1 (f1 D.toInt) (A1 (B2 D.add (B2 D.ix (.ok (.lst (nums ns))) (B2 D.add (.ok (.int (a : Nat))) (.ok (.int 4)))) (.ok k_1)) A0)) (.ok (.int 4))) (.ok (.int 0)))) (f := fun k_1 => (B2 D.ix (.ok (tupD D.str ki)) (.ok k_1))) (by omega) (b := fun k => decide (0 < (b4 + (0 + (k : Int))) % 4)) (fun k hk => by
    have m4 : D.mod (.int (b4 + (0 + (k : Int)))) (.int 4) = .ok (.int ((b4 + (0 + (k : Int))) % 4)) := mod_ok (by omega)
    simp -implicitDefEqProofs only [B1, B2, A0, A1, okb, add_ii, i4, f1_1, toInt_i, m4, gt_ii]) fun k hk => by
    have e : D.ix (tupD D.str ki) (.int (0 + (k : Int))) = .ok (.str ki[k]) := ix_natT (n := k) (by rw [List.getElem?_map, List.getElem?_eq_getElem hk]; rfl) (by omega)
    simp -implicitDefEqProofs only [B2, okb, e]
  simp -implicitDefEqProofs only [B1, B2, A0, A1, okb, add_ii, i4, f1_1, toInt_i] at cu
  have tt : D.toTup (.lst (us.map D.str)) = .ok (tupD D.str us) := rfl
  refine ⟨⟨x, st, en, 1 + b2 % w, us, hh⟩, ?_, rfl, by show 1 + b2 % w ≤ 40; omega, hus, ⟨hx, hst, hen, by show 1 ≤ 1 + b2 % w ∧ 1 + b2 % w ≤ 1000; omega, hus.nodup hkn, fun x hx => hus.subset hx, by have := hus.length_le; show us.length ≤ 1000; omega, fun l h => by
    obtain ⟨h1, h2⟩ := hok l h
    exact ⟨h1, by omega⟩⟩⟩
  unfold g_law_road Rd.d
  simp -implicitDefEqProofs only [B1, B2, A0, A1, L1, okb, add_ii, i0, i1, i2, i3, f1_1, toInt_i, le, lk, ma, mb, est, een, mk3, m3, ew, mw, rg, i4, cu, tt, eh, mk6]
end
end LawMath

set_option Elab.async false
set_option linter.all false
set_option maxRecDepth 100000
set_option maxHeartbeats 4000000
namespace LawMath
open PySem DL LawWalk L2
theorem roads_drawnD {ns : List Int} (hs : Sm ns) (hl : 97 ≤ ns.length) {day : Int} (hd : 1 ≤ day) {ki pl nm : List Str} (hki2 : ki.length ≤ 4) (hkn : ki.Nodup) (hpl : 0 < pl.length) (hpl2 : pl.length ≤ 30) (hnm : nm.length = 8) (hN : ∀ x ∈ nm, Nm x) :
    ∀ j, j ≤ 8 → ∃ rs : List Rd, loopF (m_law_parts_l1 (.lst (nums ns)) (.int 0) (.int day) (tupD D.str ki) (tupD D.str pl) (.lst (nm.map D.str))) (rangeL 0 j) [] = .ok (rs.map Rd.d) ∧ rs.map (·.nm) = nm.take j ∧ (∀ r ∈ rs, r.mi ≤ 40) ∧ (∀ r ∈ rs, r.ks.Sublist ki) ∧ ∀ r ∈ rs, RdOk ⟨day, pl, ki, [], []⟩ r
  | 0, _ => ⟨[], rfl, rfl, (fun r hr => nomatch hr), (fun r hr => nomatch hr), fun r hr => nomatch hr⟩
  | j + 1, hj => by
    obtain ⟨rs, e1, e2, e4, e5, e3⟩ := roads_drawnD hs hl hd hki2 hkn hpl hpl2 hnm hN j (by omega)
    have lr : rs.length ≤ 9 := by
      have := congrArg List.length e2
      rw [List.length_map, List.length_take] at this
      omega
    have hjl : j < nm.length := by omega
    obtain ⟨r, f1, f2, f4, f5, f3⟩ := road_drawnD hs hd (a := 8 + 10 * j) (by omega) hki2 hkn hpl hpl2 (hN _ (List.getElem_mem hjl))
    have inm : D.ix (.lst (nm.map D.str)) (.int (j : Int)) = .ok (.str nm[j]) := ix_nat (n := j) (by rw [List.getElem?_map, List.getElem?_eq_getElem hjl]; rfl) rfl
    have ea : ((8 + 10 * j : Nat) : Int) = 0 + 8 + 10 * (j : Int) := by omega
    rw [ea] at f1
    have mk10 : D.mul (.int 10) (.int (j : Int)) = .ok (.int (10 * (j : Int))) := mul_okl (by omega) (by omega)
    have sx : need (decide ((rs.map Rd.d).length < sizeLine)) = .ok () := need_p (by rw [PySem.sizeLine_eq, List.length_map]; omega)
    have t : m_law_parts_l1 (.lst (nums ns)) (.int 0) (.int day) (tupD D.str ki) (tupD D.str pl) (.lst (nm.map D.str)) (rs.map Rd.d) (.int (0 + (j : Int))) = .ok (rs.map Rd.d ++ [r.d]) := by
      rw [Int.zero_add]
      unfold m_law_parts_l1
      simp -implicitDefEqProofs only [B1, B2, A0, A1, mPush, okb, add_ii, mk10, inm, f1, sx]
    refine ⟨rs ++ [r], ?_, ?_, fun x hx => ?_, fun x hx => ?_, fun x hx => ?_⟩
    · have e : rangeL 0 (j + 1) = rangeL 0 j ++ [.int (0 + (j : Int))] := by
        unfold rangeL
        rw [List.range_succ, List.map_append]
        rfl
      rw [e, loopF_snoc, e1, okb, t, List.map_append]
      rfl
    · rw [List.map_append, e2, List.take_add_one, List.getElem?_eq_getElem hjl, ← f2]
      rfl
    · rcases List.mem_append.mp hx with hx | hx
      · exact e4 x hx
      · rw [List.mem_singleton.mp hx]
        exact f4
    · rcases List.mem_append.mp hx with hx | hx
      · exact e5 x hx
      · rw [List.mem_singleton.mp hx]
        exact f5
    · rcases List.mem_append.mp hx with hx | hx
      · exact e3 x hx
      · rw [List.mem_singleton.mp hx]
        exact f3
def prsOf (ro : List Rd) (f : Rd) : List (Str × Str) := (ro.filter fun q => decide (f.en = q.st)).map fun q => (f.nm, q.nm)
theorem pairs_loop {ro : List Rd} (hr : ro.length ≤ 100) : ∀ (fs : List Rd) (xs : List (Str × Str)), xs.length + fs.length * 100 ≤ 1000000 → loopF (m_law_bars_l1 (tupD Rd.d ro)) (fs.map Rd.d) (.lst (xs.map prS)) = .ok (.lst ((xs ++ (fs.map (prsOf ro)).flatten).map prS))
  | [], xs, _ => by rw [List.map_nil, List.map_nil, List.flatten_nil, List.append_nil]; rfl
  | f :: fs, xs, hx => by
    rw [List.length_cons] at hx
    have lf : (prsOf ro f).length ≤ 100 := by
      unfold prsOf
      rw [List.length_map]
      exact Nat.le_trans (List.length_filter_le _ _) hr
    have c : compL (fElt (fun other_1 => (B2 D.eq (B2 D.ix (.ok f.d) (.ok (.int 2))) (B2 D.ix (.ok other_1) (.ok (.int 1))))) (fun other_1 => (B1 D.mkTup (A1 (B2 D.ix (.ok f.d) (.ok (.int 0))) (A1 (B2 D.ix (.ok other_1) (.ok (.int 0))) A0))))) (ro.map Rd.d) = .ok ((prsOf ro f).map prS) := by
      unfold prsOf
      rw [List.map_map]
      exact compL_filterA (by omega) (fun q _ => by simp -implicitDefEqProofs only [B2, okb, r1, r2, eq_ss]) fun q _ _ => by
        simp -implicitDefEqProofs only [B1, B2, A0, A1, okb, r0]
        rfl
    have it : D.items (tupD Rd.d ro) = .ok (ro.map Rd.d) := rfl
    have t : m_law_bars_l1 (tupD Rd.d ro) (.lst (xs.map prS)) f.d = .ok (.lst ((xs ++ prsOf ro f).map prS)) := by
      have ad : D.add (.lst (xs.map prS)) (.lst ((prsOf ro f).map prS)) = .ok (.lst ((xs ++ prsOf ro f).map prS)) := by
        rw [add_ll, need_p (by rw [PySem.sizeLine_eq, List.length_map, List.length_map]; omega), okb, List.map_append]
      unfold m_law_bars_l1
      generalize (prsOf ro f).map prS = Z at c ad
      generalize ro.map Rd.d = Y at c it
      simp -implicitDefEqProofs only [B1, B2, L1, okb, it] at c ⊢
      rw [c]
      simp -implicitDefEqProofs only [okb, ad]
    rw [List.map_cons, loopF_cons, t, okb, pairs_loop hr fs _ (by rw [List.length_append]; omega), List.map_cons, List.flatten_cons, List.append_assoc]
theorem prsOf_nodup {ro : List Rd} (hn : (ro.map (·.nm)).Nodup) : ∀ (fs : List Rd), (fs.map (·.nm)).Nodup → ((fs.map (prsOf ro)).flatten).Nodup
  | [], _ => List.nodup_nil
  | f :: fs, h => by
    rw [List.map_cons, List.nodup_cons] at h
    rw [List.map_cons, List.flatten_cons]
    refine List.nodup_append.mpr ⟨?_, prsOf_nodup hn fs h.2, fun a ha b hb e => ?_⟩
    · have e1 : ((ro.filter fun q => decide (f.en = q.st)).map (·.nm)).Nodup := (List.filter_sublist.map _).nodup hn
      have e2 : prsOf ro f = ((ro.filter fun q => decide (f.en = q.st)).map (·.nm)).map fun x => (f.nm, x) := by
        unfold prsOf
        rw [List.map_map]
        rfl
      rw [e2]
      exact List.Pairwise.map _ (fun a b hab e => hab (Prod.mk.inj e).2) e1
    · subst e
      obtain ⟨q, _, rfl⟩ := List.mem_map.mp ha
      obtain ⟨l, hl, hb⟩ := List.mem_flatten.mp hb
      obtain ⟨f', hf', rfl⟩ := List.mem_map.mp hl
      obtain ⟨q', _, e⟩ := List.mem_map.mp hb
      exact h.1 (List.mem_map.mpr ⟨f', hf', (Prod.mk.inj e).1⟩)
theorem prsOf_mem {ro fs : List Rd} {b : Str × Str} (h : b ∈ (fs.map (prsOf ro)).flatten) : ∃ f ∈ fs, ∃ q ∈ ro, f.nm = b.1 ∧ q.nm = b.2 ∧ f.en = q.st := by
  obtain ⟨l, hl, hb⟩ := List.mem_flatten.mp h
  obtain ⟨f, hf, rfl⟩ := List.mem_map.mp hl
  obtain ⟨q, hq, rfl⟩ := List.mem_map.mp hb
  obtain ⟨h1, h2⟩ := List.mem_filter.mp hq
  exact ⟨f, hf, q, h1, rfl, rfl, of_decide_eq_true h2⟩
theorem chosen_loop {ns : List Int} {a : Nat} (hl : a + 7 ≤ ns.length) {pr : List (Str × Str)} (hp : pr.length ≤ 10000) : ∀ j : Nat, j ≤ pr.length → ∃ us : List (Str × Str), us.Sublist (pr.take j) ∧ us.length ≤ 40 ∧ loopF (m_law_bars_l2 (.lst (nums ns)) (.int (a : Nat)) (.lst (pr.map prS))) (rangeL 0 j) [] = .ok (us.map prS)
  | 0, _ => ⟨[], List.nil_sublist _, by simp, rfl⟩
  | j + 1, hj => by
    obtain ⟨us, h1, h2, h3⟩ := chosen_loop hl hp j (by omega)
    have hjl : j < pr.length := by omega
    have e : rangeL 0 (j + 1) = rangeL 0 j ++ [.int (0 + (j : Int))] := by
      unfold rangeL
      rw [List.range_succ, List.map_append]
      rfl
    have m7 : D.mod (.int (j : Int)) (.int 7) = .ok (.int ((j : Int) % 7)) := mod_ok (by omega)
    have ix := num_ix (ns := ns) (i := (a : Nat) + (j : Int) % 7) (j := a + j % 7) (by omega) (by omega)
    generalize ns.getD (a + j % 7) 0 = n at ix
    have mu : D.mul (.int 5) (.int (j : Int)) = .ok (.int (5 * (j : Int))) := mul_okl (by omega) (by omega)
    have m6 : D.mod (.int (n + 5 * (j : Int))) (.int 6) = .ok (.int ((n + 5 * (j : Int)) % 6)) := mod_ok (by omega)
    have ip : D.ix (.lst (pr.map prS)) (.int (j : Int)) = .ok (prS pr[j]) := ix_nat (n := j) (by rw [List.getElem?_map, List.getElem?_eq_getElem hjl]; rfl) rfl
    have ln : D.len (.lst (us.map prS)) = .ok (.int (us.length : Int)) := by simp
    have ll : D.lt (.int (us.length : Int)) (.int 40) = .ok (decide ((us.length : Int) < 40)) := rfl
    have sx : need (decide ((us.map prS).length < sizeLine)) = .ok () := need_p (by rw [PySem.sizeLine_eq, List.length_map]; omega)
    have tk : pr.take (j + 1) = pr.take j ++ [pr[j]] := by
      rw [List.take_add_one, List.getElem?_eq_getElem hjl]
      rfl
    by_cases c : (n + 5 * (j : Int)) % 6 = 0 ∧ (us.length : Int) < 40
    · refine ⟨us ++ [pr[j]], ?_, by rw [List.length_append, List.length_singleton]; omega, ?_⟩
      · rw [tk]
        exact List.Sublist.append h1 (List.Sublist.refl _)
      · rw [e, loopF_snoc, h3, okb, Int.zero_add]
        unfold m_law_bars_l2
        simp -implicitDefEqProofs only [B1, B2, A0, A1, mIf, mAnd, mPush, okb, m7, add_ii, ix, mu, f1_1, toInt_i, m6, eq_ii, decide_eq_true c.1, if_true, ln, ll, decide_eq_true c.2, ip, sx, List.map_append]
        rfl
    · refine ⟨us, ?_, h2, ?_⟩
      · rw [tk]
        exact h1.trans (List.sublist_append_left _ _)
      · rw [e, loopF_snoc, h3, okb, Int.zero_add]
        unfold m_law_bars_l2
        by_cases c1 : (n + 5 * (j : Int)) % 6 = 0
        · have c2 : ¬ (us.length : Int) < 40 := fun h => c ⟨c1, h⟩
          simp -implicitDefEqProofs only [B1, B2, A0, A1, mIf, mAnd, okb, m7, add_ii, ix, mu, f1_1, toInt_i, m6, eq_ii, decide_eq_true c1, if_true, ln, ll, decide_eq_false c2, Bool.false_eq_true, if_false]
        · simp -implicitDefEqProofs only [B1, B2, A0, A1, mIf, mAnd, okb, m7, add_ii, ix, mu, f1_1, toInt_i, m6, eq_ii, decide_eq_false c1, Bool.false_eq_true, if_false]
theorem bars_drawnD {ns : List Int} {a : Nat} (hl : a + 7 ≤ ns.length) {ro : List Rd} (hn : (ro.map (·.nm)).Nodup) (hr : ro.length ≤ 60) : ∃ bs : List (Str × Str), m_law_bars [.lst (nums ns), .int (a : Nat), tupD Rd.d ro] = .ok (tupD prS bs) ∧ bs.length ≤ 40 ∧ bs.Nodup ∧ bs.Pairwise (fun a b => leP a b = true) ∧ ∀ b ∈ bs, ∃ r ∈ ro, ∃ q ∈ ro, r.nm = b.1 ∧ q.nm = b.2 ∧ r.en = q.st := by
  rw [e_law_bars]
  have e1 := pairs_loop (ro := ro) (by omega) ro [] (by simp; omega)
  have nd := prsOf_nodup hn ro hn
  have mm : ∀ b ∈ (ro.map (prsOf ro)).flatten, _ := fun b hb => prsOf_mem hb
  have ln : ((ro.map (prsOf ro)).flatten).length ≤ 10000 := by
    have : ∀ fs : List Rd, ((fs.map (prsOf ro)).flatten).length ≤ fs.length * 60 := fun fs => by
      induction fs with
      | nil => simp
      | cons f fs ih =>
        rw [List.map_cons, List.flatten_cons, List.length_append, List.length_cons]
        have lf : (prsOf ro f).length ≤ 60 := by
          unfold prsOf
          rw [List.length_map]
          exact Nat.le_trans (List.length_filter_le _ _) hr
        omega
    have := this ro
    omega
  rw [List.nil_append] at e1
  generalize (ro.map (prsOf ro)).flatten = pr at e1 nd mm ln
  obtain ⟨us, h1, h2, h3⟩ := chosen_loop (ns := ns) (a := a) hl (pr := pr) ln pr.length (Nat.le_refl _)
  rw [List.take_length] at h1
  refine ⟨sortP us, ?_, by rw [(sortP_perm us).length_eq]; exact h2, (sortP_perm us).nodup_iff.mpr (h1.nodup nd), sortP_pw us, fun b hb => mm b (h1.subset ((sortP_perm us).mem_iff.mp hb))⟩
  have z0 : need (decide (([] : List D).length ≤ sizeLine)) = .ok () := rfl
  have k0 : D.mkLst [] = .ok (.lst []) := rfl
  have it : D.items (tupD Rd.d ro) = .ok (ro.map Rd.d) := rfl
  have lp : D.len (.lst (pr.map prS)) = .ok (.int (pr.length : Int)) := by simp
  have rg : D.range1 [.int (pr.length : Int)] = .ok (rangeL 0 pr.length) := by
    rw [range1_i, small_of (by omega) (by omega)]
    rfl
  have so := sorted_pair us
  have tt : D.toTup (.lst ((sortP us).map prS)) = .ok (tupD prS (sortP us)) := rfl
  have e1 : loopF (m_law_bars_l1 (tupD Rd.d ro)) (ro.map Rd.d) (.lst []) = .ok (.lst (pr.map prS)) := e1
  unfold g_law_bars
  simp -implicitDefEqProofs only [B1, A0, A1, nLst, okb, k0, it, e1, z0, f1_1, lp, rg, h3, so, tt]
theorem sub_filter {α : Type} [DecidableEq α] : ∀ {us l : List α}, us.Sublist l → l.Nodup → l.filter (fun k => decide (k ∈ us)) = us
  | _, _, .slnil, _ => rfl
  | us, a :: l, .cons _ h, hn => by
    rw [List.nodup_cons] at hn
    rw [List.filter_cons, if_neg (by simpa using fun z => hn.1 (h.subset z))]
    exact sub_filter h hn.2
  | a :: us, _ :: l, .cons_cons _ h, hn => by
    rw [List.nodup_cons] at hn
    rw [List.filter_cons, if_pos (by simp)]
    congr 1
    have e : l.filter (fun k => decide (k ∈ a :: us)) = l.filter fun k => decide (k ∈ us) := List.filter_congr fun k hk => by
      have : k ≠ a := fun z => hn.1 (z ▸ hk)
      simp [this]
    rw [e]
    exact sub_filter h hn.2
end LawMath

set_option Elab.async false
set_option linter.all false
set_option maxRecDepth 100000
set_option maxHeartbeats 4000000
namespace LawMath
open PySem DL LawWalk L2
def Pt.dl (p : Pt) : List D := [.int p.day, tupD D.str p.ki, tupD D.str p.pl, tupD Rd.d p.ro, tupD prS p.ba]
theorem dparts_drawnH {ns : List Int} (hs : Sm ns) (hl : 97 ≤ ns.length) : ∃ p : Pt, m_law_parts [.lst (nums ns), .int 0] = .ok p.dl ∧ p.ok ∧ p.srt ∧ 1 ≤ p.ro.length ∧ p.ro.length ≤ 8 ∧ 2 ≤ p.pl.length ∧ p.pl.length ≤ 5 ∧ p.ki.length ≤ 2 ∧ (∀ x ∈ p.ki, 2 ≤ (tl x).length) ∧ (∀ x ∈ p.pl, 2 ≤ (tl x).length) ∧ (∀ r ∈ p.ro, 2 ≤ (tl r.nm).length) ∧ ∀ a ∈ p.ro, ∀ b ∈ p.ro, (tl a.nm).head? = (tl b.nm).head? → a.nm = b.nm := by
  rw [e_law_parts]
  have i0 := num_ix (ns := ns) (i := 0) (j := 0) rfl (by omega)
  have i1 := num_ix (ns := ns) (i := 0 + 1) (j := 1) rfl (by omega)
  have i2 := num_ix (ns := ns) (i := 0 + 2) (j := 2) rfl (by omega)
  have i3 := num_ix (ns := ns) (i := 0 + 3) (j := 3) rfl (by omega)
  have i4 := num_ix (ns := ns) (i := 0 + 4) (j := 4) rfl (by omega)
  have i5 := num_ix (ns := ns) (i := 0 + 5) (j := 5) rfl (by omega)
  have i6 := num_ix (ns := ns) (i := 0 + 6) (j := 6) rfl (by omega)
  have i7 := num_ix (ns := ns) (i := 0 + 7) (j := 7) rfl (by omega)
  have s2 := num_sm hs 2
  have s4 := num_sm hs 4
  have s6 := num_sm hs 6
  have m24 : D.mod (.int (ns.getD 0 0)) (.int 24) = .ok (.int (ns.getD 0 0 % 24)) := mod_ok (by omega)
  have m4 : D.mod (.int (ns.getD 1 0)) (.int 4) = .ok (.int (ns.getD 1 0 % 4)) := mod_ok (by omega)
  have m2 : D.mod (.int (ns.getD 3 0)) (.int 2) = .ok (.int (ns.getD 3 0 % 2)) := mod_ok (by omega)
  have m4' : D.mod (.int (ns.getD 5 0)) (.int 4) = .ok (.int (ns.getD 5 0 % 4)) := mod_ok (by omega)
  have m8 : D.mod (.int (ns.getD 7 0)) (.int 8) = .ok (.int (ns.getD 7 0 % 8)) := mod_ok (by omega)
  have mk4 : ∀ a b c d : D, D.mkTup [a, b, c, d] = .ok (.tup [a, b, c, d]) := fun _ _ _ _ => rfl
  obtain ⟨day, ⟨d1, d2⟩, ed⟩ : ∃ d : Int, (1 ≤ d ∧ d ≤ 1440) ∧ D.ix (.tup [.int (1 + ns.getD 0 0 % 24), .int 24, .int 1440, .int (1 + ns.getD 0 0 % 24)]) (.int (ns.getD 1 0 % 4)) = .ok (.int d) := by
    have : ns.getD 1 0 % 4 = 0 ∨ ns.getD 1 0 % 4 = 1 ∨ ns.getD 1 0 % 4 = 2 ∨ ns.getD 1 0 % 4 = 3 := by omega
    rcases this with h | h | h | h <;> rw [h] <;> exact ⟨_, by omega, rfl⟩
  obtain ⟨ki, eki, lki, Lki, Nki, ndki⟩ := bnames_ok (n := ns.getD 2 0) (m := 1 + ns.getD 3 0 % 2) s2.1 (by omega) (by omega)
  obtain ⟨pl, epl, lpl, Lpl, Npl, ndpl⟩ := bnames_ok (n := ns.getD 4 0) (m := 2 + ns.getD 5 0 % 4) s4.1 (by omega) (by omega)
  obtain ⟨nm, enm, lnm, Lnm, Nnm, ndnm, hdnm⟩ := bnames_okH (n := ns.getD 6 0) (m := 8) s6.1 (by omega) (by omega)
  have pki := sortS_perm ki
  have ppl := sortS_perm pl
  have lki' := pki.length_eq
  have lpl' := ppl.length_eq
  obtain ⟨ro, ero, nro, rmi, rks, rok⟩ := roads_drawnD hs hl (day := day) d1 (ki := sortS ki) (pl := sortS pl) (nm := nm) (by omega) (pki.nodup_iff.mpr ndki) (by omega) (by omega) (by omega) Nnm (1 + ns.getD 7 0 % 8).toNat (by omega)
  have lro : ro.length = (1 + ns.getD 7 0 % 8).toNat := by
    have := congrArg List.length nro
    rw [List.length_map, List.length_take, lnm] at this
    omega
  have ndro : (ro.map (·.nm)).Nodup := by
    rw [nro]
    exact (List.take_sublist _ _).nodup ndnm
  have pro := sortR_perm ro
  have lro' := pro.length_eq
  have ndro' : ((sortR ro).map (·.nm)).Nodup := ((pro.map (·.nm)).nodup_iff).mpr ndro
  obtain ⟨bs, eb, lb, ndb, sb, hb⟩ := bars_drawnD (ns := ns) (a := 90) (by omega) ndro' (by omega)
  refine ⟨⟨day, sortS ki, sortS pl, sortR ro, bs⟩, ?_, ?_, srt_of ⟨sortS_pw _, sortS_pw _, sortR_pw _, sb, fun r hr => ?_⟩, by show 1 ≤ (sortR ro).length; omega, by show (sortR ro).length ≤ 8; omega, by show 2 ≤ (sortS pl).length; omega, by show (sortS pl).length ≤ 5; omega, by show (sortS ki).length ≤ 2; omega, fun x hx => Lki x (pki.mem_iff.mp hx), fun x hx => Lpl x (ppl.mem_iff.mp hx), fun r hr => Lnm _ ?_, fun a ha b hb e => hdnm _ ?_ _ ?_ e⟩
  · have z0 : need (decide (([] : List D).length ≤ sizeLine)) = .ok () := rfl
    have rg : D.range1 [.int (1 + ns.getD 7 0 % 8)] = .ok (rangeL 0 (1 + ns.getD 7 0 % 8).toNat) := by
      rw [range1_i, small_of (by omega) (by omega)]
      rfl
    have mk5 : ∀ a b c d e : D, need (decide (([a, b, c, d, e] : List D).length ≤ sizeLine)) = .ok () := fun _ _ _ _ _ => rfl
    have so1 := sorted_str ki
    have so2 := sorted_str pl
    have so3 := sorted2_ok ndro
    have t1 : D.toTup (.lst ((sortS ki).map D.str)) = .ok (tupD D.str (sortS ki)) := rfl
    have t2 : D.toTup (.lst ((sortS pl).map D.str)) = .ok (tupD D.str (sortS pl)) := rfl
    have t3 : D.toTup (.lst ((sortR ro).map Rd.d)) = .ok (tupD Rd.d (sortR ro)) := rfl
    have eb : m_law_bars [.lst (nums ns), .int (0 + 90), tupD Rd.d (sortR ro)] = .ok (tupD prS bs) := eb
    unfold g_law_parts Pt.dl
    simp -implicitDefEqProofs only [B1, B2, A0, A1, nLst, okb, mk4, i0, f1_1, toInt_i, m24, add_ii, i1, m4, ed, i2, i3, m2, eki, so1, t1, i4, i5, m4', epl, so2, t2, i6, enm, z0, i7, m8, rg, ero, so3, t3, eb, mk5]
  · exact ⟨d1, d2, by show (sortS pl).length ≤ 30; omega, ppl.nodup_iff.mpr ndpl, fun x hx => Npl x (ppl.mem_iff.mp hx), by show 1 ≤ (sortS ki).length; omega, by show (sortS ki).length ≤ 4; omega, pki.nodup_iff.mpr ndki, fun x hx => Nki x (pki.mem_iff.mp hx), by show (sortR ro).length ≤ 60; omega, ndro', fun r hr => rok r (pro.mem_iff.mp hr), by show bs.length ≤ 40; omega, ndb, fun b h => hb b h⟩
  · have hr' := pro.mem_iff.mp hr
    have sub := rks r hr'
    have ks : (sortS ki).filter (fun k => decide (k ∈ r.ks)) = r.ks := sub_filter sub (pki.nodup_iff.mpr ndki)
    unfold Rd.norm
    rw [ks]
  · have : r.nm ∈ ro.map (·.nm) := List.mem_map.mpr ⟨r, pro.mem_iff.mp hr, rfl⟩
    rw [nro] at this
    exact List.mem_of_mem_take this
  · have : a.nm ∈ ro.map (·.nm) := List.mem_map.mpr ⟨a, pro.mem_iff.mp ha, rfl⟩
    rw [nro] at this
    exact List.mem_of_mem_take this
  · have : b.nm ∈ ro.map (·.nm) := List.mem_map.mpr ⟨b, pro.mem_iff.mp hb, rfl⟩
    rw [nro] at this
    exact List.mem_of_mem_take this
end LawMath

set_option Elab.async false
set_option linter.all false
set_option maxRecDepth 100000
set_option maxHeartbeats 4000000
namespace LawMath
open PySem DL LawWalk L2
def flw (ba : List (Str × Str)) (r q : Rd) : Bool := decide (q.st = r.en) && !decide ((r.nm, q.nm) ∈ ba)
inductive Rch (ro : List Rd) (ba : List (Str × Str)) (k : Str) (S : Rd → Prop) : Rd → Prop
  | base {r : Rd} : r ∈ ro → S r → usbl k r = true → Rch ro ba k S r
  | step {r q : Rd} : Rch ro ba k S r → q ∈ ro → flw ba r q = true → usbl k q = true → Rch ro ba k S q
theorem Rch.mem {ro : List Rd} {ba : List (Str × Str)} {k : Str} {S : Rd → Prop} {r : Rd} (h : Rch ro ba k S r) : r ∈ ro ∧ usbl k r = true := by
  cases h with
  | base h1 _ h2 => exact ⟨h1, h2⟩
  | step _ h1 _ h2 => exact ⟨h1, h2⟩
section
variable {ro : List Rd} (hn : (ro.map (·.nm)).Nodup)
include hn
theorem nm_inj {a b : Rd} (ha : a ∈ ro) (hb : b ∈ ro) (e : a.nm = b.nm) : a = b := by
  have h1 := find_nm hn ha
  have h2 := find_nm hn hb
  rw [e, h2] at h1
  exact (Option.some.inj h1).symm
end
end LawMath

set_option Elab.async false
set_option linter.all false
set_option maxRecDepth 100000
set_option maxHeartbeats 4000000
namespace LawMath
open PySem DL LawWalk L2
theorem nodup_map {α β : Type} {f : α → β} {l : List α} (h : (l.map f).Nodup) : l.Nodup := List.Pairwise.of_map f (fun a b hab e => hab (by rw [e])) h
section
variable {p : Pt} (P : p.ok)
theorem ch_pl (x : Str) : x ∈ p.ch.pl ↔ x ∈ p.pl := (sortS_perm p.pl).mem_iff
theorem ch_ki (x : Str) : x ∈ p.ch.ki ↔ x ∈ p.ki := (sortS_perm p.ki).mem_iff
end
end LawMath

set_option Elab.async false
set_option linter.all false
set_option maxRecDepth 100000
set_option maxHeartbeats 4000000
namespace LawMath
open PySem DL LawWalk L2
section
variable {p : Pt} (P : p.ok) {k s : Str}
abbrev opn (p : Pt) (k : Str) : List Rd := p.ro.filter (usbl k)
theorem opn_ro {r : Rd} (h : r ∈ opn p k) : r ∈ p.ro := (List.mem_filter.mp h).1
theorem opn_us {r : Rd} (h : r ∈ opn p k) : usbl k r = true := (List.mem_filter.mp h).2
include P
theorem opn_nd : ((opn p k).map (·.nm)).Nodup := (List.filter_sublist.map _).nodup P.ron
theorem opn_len : (opn p k).length ≤ 60 := Nat.le_trans (List.length_filter_le _ _) P.ro1
theorem lopen_ok : m_law_open [p.d, .str k] = .ok (.lst ((p.ro.filter (usbl k)).map Rd.d)) := by
  rw [e_law_open]
  have it : D.items (tupD Rd.d p.ro) = .ok (p.ro.map Rd.d) := rfl
  have c : compL (fElt (fun road_here_1 => (mAnd (B2 D.mem (.ok (.str k)) (B2 D.ix (.ok road_here_1) (.ok (.int 4)))) (B2 D.ne (B2 D.ix (.ok road_here_1) (.ok (.int 5))) (B1 D.mkTup A0)))) (fun road_here_1 => (.ok road_here_1))) (p.ro.map Rd.d) = .ok ((p.ro.filter (usbl k)).map Rd.d) := by
    refine compL_filterA (by have := P.ro1; omega) (fun r _ => ?_) fun r _ _ => rfl
    have x4 := r4 (r := r)
    have x5 := r5 (r := r)
    have mm : D.mem (.str k) (tupD D.str r.ks) = .ok (decide (k ∈ r.ks)) := e_s.memT k r.ks
    have t0 : D.mkTup [] = .ok (hsD (some [])) := rfl
    have eh : D.ne (hsD r.hs) (hsD (some [])) = .ok (!decide (r.hs = some [])) := (en_hs.le (m := 15) (by omega)).ne r.hs (some [])
    unfold usbl
    cases h : decide (k ∈ r.ks) with
    | true =>
      rw [h] at mm
      simp -implicitDefEqProofs only [B1, B2, A0, mAnd, okb, x4, mm, if_true, x5, t0, eh, Bool.true_and]
    | false =>
      rw [h] at mm
      simp -implicitDefEqProofs only [B1, B2, A0, mAnd, okb, x4, mm, Bool.false_eq_true, if_false, Bool.false_and]
  unfold g_law_open
  generalize (p.ro.filter (usbl k)).map Rd.d = Z at c
  generalize p.ro.map Rd.d = Y at c it
  simp -implicitDefEqProofs only [B1, B2, A0, mAnd, L1, okb, p3, it] at c ⊢
  rw [c]
  rfl
omit P in
theorem lfollows_ok (f r : Rd) : m_law_follows [p.d, f.d, r.d] = .ok (.bl (flw p.ba f r)) := by
  rw [e_law_follows]
  have nm : D.nmem (prS (f.nm, r.nm)) (tupD prS p.ba) = .ok (!decide ((f.nm, r.nm) ∈ p.ba)) := e_p.nmemT _ p.ba
  have mk : D.mkTup [.str f.nm, .str r.nm] = .ok (prS (f.nm, r.nm)) := rfl
  have e : decide (f.en = r.st) = decide (r.st = f.en) := decide_eq_decide.mpr eq_comm
  have eq : D.eq (.str f.en) (.str r.st) = .ok (decide (r.st = f.en)) := by rw [eq_ss, e]
  unfold g_law_follows flw
  cases h : decide (r.st = f.en) with
  | true =>
    rw [h] at eq
    simp -implicitDefEqProofs only [B1, B2, C2, A0, A1, vAnd, okb, r0, r1, r2, eq, bD_ok, tru_b, if_true, mk, p4, nm, Bool.true_and]
  | false =>
    rw [h] at eq
    simp -implicitDefEqProofs only [B1, B2, C2, A0, A1, vAnd, okb, r0, r1, r2, eq, bD_ok, tru_b, Bool.false_eq_true, if_false, Bool.false_and]
end
end LawMath

set_option Elab.async false
set_option linter.all false
set_option maxRecDepth 100000
set_option maxHeartbeats 4000000
namespace LawMath
open PySem DL LawWalk L2
theorem and_tt {a b : Bool} (h : (a && b) = true) : a = true ∧ b = true := by cases a <;> cases b <;> simp_all
abbrev lft (p : Pt) (k : Str) (ws : List Str) : List Rd := (opn p k).filter fun r => !decide (r.nm ∈ ws)
def Way (p : Pt) (k s z : Str) (ws : List Str) : Prop := ∃ r, Rch (lft p k ws) p.ba k (fun r => r.st = s) r ∧ r.en = z
theorem way_closed {p : Pt} {k s : Str} {ws : List Str} {L : List Rd} (h0 : ∀ r ∈ lft p k ws, r.st = s → r ∈ L) (h1 : ∀ a ∈ L, ∀ r ∈ lft p k ws, flw p.ba a r = true → r ∈ L) {r : Rd} (h : Rch (lft p k ws) p.ba k (fun r => r.st = s) r) : r ∈ L := by
  induction h with
  | base a b c => exact h0 _ a b
  | step _ a b c ih => exact h1 _ ih _ a b
theorem lft_opn {p : Pt} {k : Str} {ws : List Str} {r : Rd} (h : r ∈ lft p k ws) : r ∈ opn p k := (List.mem_filter.mp h).1
def moreW (ba : List (Str × Str)) (rs fs : List Rd) : List Rd := rs.filter fun r => !decide (r ∈ fs) && fs.any fun o => flw ba o r
def rndW (ba : List (Str × Str)) (rs : List Rd) : Nat → List Rd → List Rd
  | 0, fs => fs
  | n + 1, fs => rndW ba rs n (fs ++ moreW ba rs fs)
section
variable {p : Pt} {k s : Str} {ws : List Str}
structure Wi (p : Pt) (k s : Str) (ws : List Str) (fs : List Rd) : Prop where
  nd : fs.Nodup
  sub : ∀ r ∈ fs, r ∈ lft p k ws
  rch : ∀ r ∈ fs, Rch (lft p k ws) p.ba k (fun r => r.st = s) r
  st : ∀ r ∈ lft p k ws, r.st = s → r ∈ fs
theorem wi_more {fs : List Rd} (hn : (lft p k ws).Nodup) (h : Wi p k s ws fs) : Wi p k s ws (fs ++ moreW p.ba (lft p k ws) fs) := by
  have mm : ∀ r ∈ moreW p.ba (lft p k ws) fs, r ∈ lft p k ws ∧ ¬ r ∈ fs ∧ ∃ o ∈ fs, flw p.ba o r = true := fun r hr => by
    obtain ⟨h1, h2⟩ := List.mem_filter.mp hr
    obtain ⟨h3, h4⟩ := and_tt h2
    obtain ⟨o, ho, hw⟩ := List.any_eq_true.mp h4
    exact ⟨h1, by simpa using h3, o, ho, hw⟩
  refine ⟨List.nodup_append.mpr ⟨h.nd, hn.filter _, fun a ha b hb e => (mm b hb).2.1 (e ▸ ha)⟩, fun r hr => ?_, fun r hr => ?_, fun r hr hs => List.mem_append.mpr (.inl (h.st r hr hs))⟩
  · rcases List.mem_append.mp hr with hr | hr
    · exact h.sub r hr
    · exact (mm r hr).1
  · rcases List.mem_append.mp hr with hr | hr
    · exact h.rch r hr
    · obtain ⟨h1, _, o, ho, hw⟩ := mm r hr
      exact .step (h.rch o ho) h1 hw (opn_us (lft_opn h1))
def Clo (p : Pt) (k : Str) (ws : List Str) (fs : List Rd) : Prop := ∀ a ∈ fs, ∀ r ∈ lft p k ws, flw p.ba a r = true → r ∈ fs
theorem clo_more {fs : List Rd} (h : Clo p k ws fs) : moreW p.ba (lft p k ws) fs = [] := List.filter_eq_nil_iff.mpr fun r hr z => by
  obtain ⟨h3, h4⟩ := and_tt z
  obtain ⟨o, ho, hw⟩ := List.any_eq_true.mp h4
  have := h o ho r hr hw
  simp [this] at h3
theorem more_clo {fs : List Rd} (h : moreW p.ba (lft p k ws) fs = []) : Clo p k ws fs := fun a ha r hr hw => by
  refine Decidable.byContradiction fun hn => ?_
  have : r ∈ moreW p.ba (lft p k ws) fs := List.mem_filter.mpr ⟨hr, by rw [decide_eq_false hn, Bool.not_false, Bool.true_and]; exact List.any_eq_true.mpr ⟨a, ha, hw⟩⟩
  rw [h] at this
  cases this
theorem rnd_ok (hn : (lft p k ws).Nodup) : ∀ (n : Nat) (fs : List Rd), Wi p k s ws fs → (lft p k ws).length ≤ n + fs.length ∨ Clo p k ws fs → Wi p k s ws (rndW p.ba (lft p k ws) n fs) ∧ Clo p k ws (rndW p.ba (lft p k ws) n fs)
  | 0, fs, h, hl => ⟨h, by
    rcases hl with hl | hl
    · have all := nodup_all h.nd h.sub (by omega)
      exact fun a _ r hr _ => all r hr
    · exact hl⟩
  | n + 1, fs, h, hl => by
    refine rnd_ok hn n _ (wi_more hn h) ?_
    rcases hl with hl | hl
    · by_cases c : moreW p.ba (lft p k ws) fs = []
      · right
        rw [c, List.append_nil]
        exact more_clo c
      · left
        have : 0 < (moreW p.ba (lft p k ws) fs).length := List.length_pos_iff.mpr c
        rw [List.length_append]
        omega
    · right
      rw [clo_more hl, List.append_nil]
      exact hl
end
section
variable {p : Pt} (P : p.ok) {k s : Str} {ws : List Str}
include P
theorem lft_len : (lft p k ws).length ≤ 60 := Nat.le_trans (List.length_filter_le _ _) (opn_len P)
theorem lft_nd : (lft p k ws).Nodup := nodup_map (f := (·.nm)) ((List.filter_sublist.map _).nodup (opn_nd P))
theorem way_turn {fs : List Rd} (hf : fs.length ≤ 60) (d : D) : m_law_is_way_l2 p.d (.lst ((lft p k ws).map Rd.d)) (.lst (fs.map Rd.d)) d = .ok (.lst ((fs ++ moreW p.ba (lft p k ws) fs).map Rd.d)) := by
  have inner : ∀ (rs xs : List Rd), xs.length + rs.length ≤ 1000 → loopF (m_law_is_way_l1 p.d (.lst (fs.map Rd.d))) (rs.map Rd.d) (xs.map Rd.d) = .ok ((xs ++ moreW p.ba rs fs).map Rd.d) := fun rs => by
    induction rs with
    | nil => intro xs _; rw [show moreW p.ba [] fs = [] from rfl, List.append_nil]; rfl
    | cons r rs ih =>
      intro xs hx
      rw [List.length_cons] at hx
      have nm : D.nmem r.d (.lst (fs.map Rd.d)) = .ok (!decide (r ∈ fs)) := e_r.nmem r fs
      have sx : need (decide ((xs.map Rd.d).length < sizeLine)) = .ok () := need_p (by rw [PySem.sizeLine_eq, List.length_map]; omega)
      have c : compL (fElt noT (fun one_1 => (B1 m_law_follows (A1 (.ok p.d) (A1 (.ok one_1) (A1 (.ok r.d) A0)))))) (fs.map Rd.d) = .ok (fs.map fun o => D.bl (flw p.ba o r)) := compL_mapA (by omega) fun o _ => lfollows_ok o r
      have an : D.any (.lst (fs.map fun o => D.bl (flw p.ba o r))) = .ok (.bl (fs.any fun o => flw p.ba o r)) := any_map fs
      have t : m_law_is_way_l1 p.d (.lst (fs.map Rd.d)) (xs.map Rd.d) r.d = .ok ((xs ++ if (!decide (r ∈ fs) && fs.any fun o => flw p.ba o r) = true then [r] else []).map Rd.d) := by
        unfold m_law_is_way_l1
        generalize (fs.map fun o => D.bl (flw p.ba o r)) = Y at c an
        have it : D.items (.lst (fs.map Rd.d)) = .ok (fs.map Rd.d) := rfl
        generalize fs.map Rd.d = Z at nm c it
        cases h1 : decide (r ∈ fs) with
        | true =>
          rw [h1] at nm
          simp -implicitDefEqProofs only [B1, B2, mIf, mAnd, okb, nm, Bool.not_true, Bool.false_eq_true, if_false, Bool.false_and, List.append_nil]
        | false =>
          rw [h1] at nm
          simp -implicitDefEqProofs only [B1, B2, A0, A1, L1, okb] at c
          cases h2 : fs.any fun o => flw p.ba o r with
          | true =>
            rw [h2] at an
            simp -implicitDefEqProofs only [B1, B2, A0, A1, L1, mIf, mAnd, mPush, okb, nm, Bool.not_false, if_true, it, c, f1_1, an, tru_b, sx, Bool.true_and, List.map_append]
            rfl
          | false =>
            rw [h2] at an
            simp -implicitDefEqProofs only [B1, B2, A0, A1, L1, mIf, mAnd, mPush, okb, nm, Bool.not_false, if_true, it, c, f1_1, an, tru_b, Bool.true_and, Bool.false_eq_true, if_false, List.append_nil]
      rw [List.map_cons, loopF_cons, t, okb, ih _ (by
        rw [List.length_append]
        have : (if (!decide (r ∈ fs) && fs.any fun o => flw p.ba o r) = true then [r] else []).length ≤ 1 := by split <;> simp
        omega), List.append_assoc]
      congr 3
      unfold moreW
      rw [List.filter_cons]
      split <;> rfl
  have le := lft_len P (k := k) (ws := ws)
  have i := inner (lft p k ws) [] (by rw [List.length_nil]; omega)
  have i : loopF (m_law_is_way_l1 p.d (.lst (fs.map Rd.d))) ((lft p k ws).map Rd.d) [] = .ok ((moreW p.ba (lft p k ws) fs).map Rd.d) := i
  have lm : (moreW p.ba (lft p k ws) fs).length ≤ 60 := Nat.le_trans (List.length_filter_le _ _) le
  have ad : D.add (.lst (fs.map Rd.d)) (.lst ((moreW p.ba (lft p k ws) fs).map Rd.d)) = .ok (.lst ((fs ++ moreW p.ba (lft p k ws) fs).map Rd.d)) := by
    rw [add_ll, need_p (by rw [PySem.sizeLine_eq, List.length_map, List.length_map]; omega), okb, List.map_append]
  have z0 : need (decide (([] : List D).length ≤ sizeLine)) = .ok () := rfl
  unfold m_law_is_way_l2
  simp -implicitDefEqProofs only [B1, B2, nLst, A0, okb, z0, items_l, i, ad]
theorem lway_ok (z : Str) : ∃ b : Bool, m_law_is_way [p.d, .str k, .str s, .str z, .lst (ws.map D.str)] = .ok (.bl b) ∧ (b = true ↔ Way p k s z ws) := by
  have le := lft_len P (k := k) (ws := ws)
  have nd := lft_nd P (k := k) (ws := ws)
  let f0 := (lft p k ws).filter fun r => decide (r.st = s)
  have w0 : Wi p k s ws f0 := ⟨nd.filter _, fun r hr => (List.mem_filter.mp hr).1, fun r hr => .base (List.mem_filter.mp hr).1 (of_decide_eq_true (List.mem_filter.mp hr).2) (opn_us (lft_opn (List.mem_filter.mp hr).1)), fun r hr hs => List.mem_filter.mpr ⟨hr, decide_eq_true hs⟩⟩
  have loop : ∀ (n : Nat) (ds : List D) (fs : List Rd), ds.length = n → Wi p k s ws fs → loopF (m_law_is_way_l2 p.d (.lst ((lft p k ws).map Rd.d))) ds (.lst (fs.map Rd.d)) = .ok (.lst ((rndW p.ba (lft p k ws) n fs).map Rd.d)) := fun n => by
    induction n with
    | zero =>
      intro ds fs hl _
      rw [List.length_eq_zero_iff.mp hl]
      rfl
    | succ n ih =>
      intro ds fs hl w
      cases ds with
      | nil => simp at hl
      | cons d ds =>
        have lf : fs.length ≤ 60 := Nat.le_trans (nodup_len w.nd w.sub) le
        rw [loopF_cons, way_turn P lf, okb, ih ds _ (by simpa using hl) (wi_more nd w)]
        rfl
  obtain ⟨W, Cl⟩ := rnd_ok nd (lft p k ws).length f0 w0 (.inl (by omega))
  have lo := loop _ (rangeL 0 (lft p k ws).length) f0 (rangeL_len _ _) w0
  have lf : (rndW p.ba (lft p k ws) (lft p k ws).length f0).length ≤ 60 := Nat.le_trans (nodup_len W.nd W.sub) le
  generalize rndW p.ba (lft p k ws) (lft p k ws).length f0 = fs at W Cl lo lf
  refine ⟨fs.any fun r => decide (r.en = z), ?_, ?_⟩
  · have op := lopen_ok P (k := k)
    have c1 : compL (fElt (fun road_here_1 => (B2 D.nmem (B2 D.ix (.ok road_here_1) (.ok (.int 0))) (.ok (.lst (ws.map D.str))))) (fun road_here_1 => (.ok road_here_1))) ((opn p k).map Rd.d) = .ok ((lft p k ws).map Rd.d) :=
      compL_filterA (by have := opn_len (k := k) P; omega) (fun r _ => by
        have nm : D.nmem (.str r.nm) (.lst (ws.map D.str)) = .ok (!decide (r.nm ∈ ws)) := e_s.nmem r.nm ws
        simp -implicitDefEqProofs only [B2, okb, r0, nm]) fun _ _ _ => rfl
    have c2 : compL (fElt (fun road_here_2 => (B2 D.eq (B2 D.ix (.ok road_here_2) (.ok (.int 1))) (.ok (.str s)))) (fun road_here_2 => (.ok road_here_2))) ((lft p k ws).map Rd.d) = .ok (f0.map Rd.d) :=
      compL_filterA (by omega) (fun r _ => by simp -implicitDefEqProofs only [B2, okb, r1, eq_ss]) fun _ _ _ => rfl
    have c3 : compL (fElt noT (fun road_here_4 => (C2 D.eq (B2 D.ix (.ok road_here_4) (.ok (.int 2))) (.ok (.str z))))) (fs.map Rd.d) = .ok (fs.map fun r => D.bl (decide (r.en = z))) :=
      compL_mapA (by omega) fun r _ => by simp -implicitDefEqProofs only [B2, C2, okb, r2, eq_ss, bD_ok]
    have an : D.any (.lst (fs.map fun r => D.bl (decide (r.en = z)))) = .ok (.bl (fs.any fun r => decide (r.en = z))) := any_map fs
    have ln : D.len (.lst ((lft p k ws).map Rd.d)) = .ok (.int ((lft p k ws).length : Int)) := by simp
    have rg : D.range1 [.int ((lft p k ws).length : Int)] = .ok (rangeL 0 (lft p k ws).length) := by
      rw [range1_i, small_of (by omega) (by omega)]
      rfl
    rw [e_law_is_way]
    unfold g_law_is_way
    generalize (fs.map fun r => D.bl (decide (r.en = z))) = Y1 at c3 an
    generalize fs.map Rd.d = Y2 at c3 lo
    generalize f0.map Rd.d = Y3 at c2 lo
    generalize (lft p k ws).length = N at *
    generalize (lft p k ws).map Rd.d = Y4 at *
    generalize (opn p k).map Rd.d = Y5 at *
    simp -implicitDefEqProofs only [B1, B2, C2, A0, A1, L1, okb, op, items_l] at c1 c2 c3 ⊢
    rw [c1]
    simp -implicitDefEqProofs only [okb, items_l]
    rw [c2]
    simp -implicitDefEqProofs only [okb, f1_1, ln, rg, lo, items_l]
    rw [c3]
    simp -implicitDefEqProofs only [okb, f1_1, an]
  · rw [List.any_eq_true]
    constructor
    · rintro ⟨r, hr, e⟩
      exact ⟨r, W.rch r hr, of_decide_eq_true e⟩
    · rintro ⟨r, h, e⟩
      exact ⟨r, way_closed W.st Cl h, decide_eq_true e⟩
end
end LawMath

set_option Elab.async false
set_option linter.all false
set_option maxRecDepth 100000
set_option maxHeartbeats 4000000
namespace LawMath
open PySem DL LawWalk L2
noncomputable def wayB (p : Pt) (k s z : Str) (ws : List Str) : Bool := @decide (Way p k s z ws) (Classical.propDecidable _)
theorem wayB_iff {p : Pt} {k s z : Str} {ws : List Str} : wayB p k s z ws = true ↔ Way p k s z ws := by
  unfold wayB
  exact @decide_eq_true_iff _ (Classical.propDecidable _)
theorem wayB_of {p : Pt} {k s z : Str} {ws : List Str} {b : Bool} (h : b = true ↔ Way p k s z ws) : b = wayB p k s z ws := by
  have := wayB_iff (p := p) (k := k) (s := s) (z := z) (ws := ws)
  cases b <;> cases hw : wayB p k s z ws <;> simp_all
abbrev nmd (r : Rd) : D := .str r.nm
section
variable {p : Pt} (P : p.ok)
include P
theorem nm_memL {A : List Rd} (hA : ∀ a ∈ A, a ∈ p.ro) {q : Rd} (hq : q ∈ p.ro) : D.mem (.str q.nm) (.lst (A.map nmd)) = .ok (decide (q ∈ A)) := by
  have e := e_s.mem q.nm (A.map (·.nm))
  rw [List.map_map] at e
  have e2 : decide (q.nm ∈ A.map (·.nm)) = decide (q ∈ A) := decide_eq_decide.mpr ⟨fun h => by
    obtain ⟨a, ha, ea⟩ := List.mem_map.mp h
    rw [← nm_inj P.ron (hA a ha) hq ea]
    exact ha, fun h => List.mem_map.mpr ⟨q, h, rfl⟩⟩
  rw [← e2]
  exact e
theorem nm_nmemL {A : List Rd} (hA : ∀ a ∈ A, a ∈ p.ro) {q : Rd} (hq : q ∈ p.ro) : D.nmem (.str q.nm) (.lst (A.map nmd)) = .ok (!decide (q ∈ A)) := by
  unfold D.nmem
  rw [nm_memL P hA hq]
  rfl
variable (S : p.srt) {k : Str}
include S
theorem is_open_ok {r : Rd} (h : r ∈ p.ro) : m_is_open [p.ch.d, .str k, .str r.nm] = .ok (.bl (usbl k r)) := by
  have C : COk p.ch := cok_of P
  have hr : r ∈ p.ch.ro := by rw [show p.ch = _ from S]; exact h
  have ro := road_ok C hr
  rw [e_is_open]
  have mm : D.mem (.str k) (tupD D.str r.ks) = .ok (decide (k ∈ r.ks)) := e_s.memT k r.ks
  have t0 : D.mkTup [] = .ok (hsD (some [])) := rfl
  have eh : D.ne (hsD r.hs) (hsD (some [])) = .ok (!decide (r.hs = some [])) := (en_hs.le (m := 15) (by omega)).ne r.hs (some [])
  have x4 := r4 (r := r)
  have x5 := r5 (r := r)
  unfold g_is_open usbl
  cases h : decide (k ∈ r.ks) with
  | true =>
    rw [h] at mm
    simp -implicitDefEqProofs only [B1, B2, C2, A0, A1, vAnd, mMeth, okb, rc_road, ro, x4, x5, mm, bD_ok, tru_b, if_true, t0, eh, Bool.true_and]
  | false =>
    rw [h] at mm
    simp -implicitDefEqProofs only [B1, B2, C2, A0, A1, vAnd, mMeth, okb, rc_road, ro, x4, mm, bD_ok, tru_b, Bool.false_eq_true, if_false, Bool.false_and]
theorem usable_ok : m_usable [p.ch.d, .str k] = .ok (.lst ((opn p k).map nmd)) := by
  have C : COk p.ch := cok_of P
  have ero : p.ch.ro = p.ro := by rw [show p.ch = _ from S]
  rw [e_usable]
  have nm := names_okC C
  rw [ero] at nm
  have rcN : D.recv "Map" "road_names" p.ch.d = .ok p.ch.d := rcv rfl
  have isM : D.isIns "Map" p.ch.d = .ok p.ch.d := is_map
  have it : D.items (tupD D.str (p.ro.map (·.nm))) = .ok (p.ro.map nmd) := by
    show Except.ok ((p.ro.map (·.nm)).map D.str) = _
    rw [List.map_map]
    rfl
  have c : compL (fElt (fun name_1 => (B1 D.tru (B1 m_is_open (A1 (.ok p.ch.d) (A1 (.ok (.str k)) (A1 (.ok name_1) A0)))))) (fun name_1 => (.ok name_1))) (p.ro.map nmd) = .ok ((opn p k).map nmd) :=
    compL_filterA (by have := P.ro1; omega) (fun r hr => by
      simp -implicitDefEqProofs only [B1, A0, A1, okb, is_open_ok P S hr, tru_b]) fun _ _ _ => rfl
  unfold g_usable
  simp -implicitDefEqProofs only [B1, A0, A1, L1, mProp, okb, rcN, isM, noX_ok, nm, it] at c ⊢
  rw [c]
  rfl
variable {s z : Str} {ws : List Str}
theorem way_in : ∀ (qs fs : List Rd), (∀ q ∈ qs, q ∈ p.ro ∧ ∃ a ∈ fs, flw p.ba a q = true) → Wi p k s ws fs → fs.length + qs.length ≤ 1000 →
    ∃ gs, loopF (m_is_way_l1 (.lst ((lft p k ws).map nmd))) (qs.map nmd) (fs.map nmd) = .ok ((fs ++ gs).map nmd) ∧ Wi p k s ws (fs ++ gs) ∧ ∀ q ∈ qs, q ∈ lft p k ws → q ∈ fs ++ gs
  | [], fs, _, w, _ => ⟨[], by rw [List.append_nil]; rfl, by rw [List.append_nil]; exact w, fun q hq => nomatch hq⟩
  | q :: qs, fs, h, w, hl => by
    rw [List.length_cons] at hl
    obtain ⟨hq, a, ha, hw⟩ := h q (List.mem_cons_self ..)
    have lr : ∀ a ∈ lft p k ws, a ∈ p.ro := fun a ha => opn_ro (lft_opn ha)
    have m1' := nm_memL P lr hq
    have m2' := nm_nmemL P (fun a ha => lr a (w.sub a ha)) hq
    have sx : need (decide ((fs.map nmd).length < sizeLine)) = .ok () := need_p (by rw [PySem.sizeLine_eq, List.length_map]; omega)
    by_cases c : q ∈ lft p k ws ∧ ¬ q ∈ fs
    · have w2 : Wi p k s ws (fs ++ [q]) := {
        nd := nodup_snoc w.nd c.2
        sub := fun r hr => by
          rcases List.mem_append.mp hr with hr | hr
          · exact w.sub r hr
          · rw [List.mem_singleton.mp hr]; exact c.1
        rch := fun r hr => by
          rcases List.mem_append.mp hr with hr | hr
          · exact w.rch r hr
          · rw [List.mem_singleton.mp hr]; exact .step (w.rch a ha) c.1 hw (opn_us (lft_opn c.1))
        st := fun r hr hs => List.mem_append.mpr (.inl (w.st r hr hs)) }
      obtain ⟨gs, e, w3, h3⟩ := way_in qs (fs ++ [q]) (fun x hx => by
        obtain ⟨h1, b, hb, h2⟩ := h x (List.mem_cons_of_mem _ hx)
        exact ⟨h1, b, List.mem_append.mpr (.inl hb), h2⟩) w2 (by rw [List.length_append, List.length_singleton]; omega)
      rw [List.append_assoc] at e w3 h3
      refine ⟨[q] ++ gs, ?_, w3, fun x hx hx2 => ?_⟩
      · have t : m_is_way_l1 (.lst ((lft p k ws).map nmd)) (fs.map nmd) (nmd q) = .ok ((fs ++ [q]).map nmd) := by
          rw [decide_eq_true c.1] at m1'
          rw [decide_eq_false c.2] at m2'
          unfold m_is_way_l1
          simp -implicitDefEqProofs only [B2, mIf, mAnd, mPush, okb, m1', m2', if_true, Bool.not_false, sx, List.map_append]
          rfl
        rw [List.map_cons, loopF_cons, t, okb, e]
      · rcases List.mem_cons.mp hx with rfl | hx
        · simp
        · exact h3 x hx hx2
    · obtain ⟨gs, e, w3, h3⟩ := way_in qs fs (fun x hx => h x (List.mem_cons_of_mem _ hx)) w (by omega)
      refine ⟨gs, ?_, w3, fun x hx hx2 => ?_⟩
      · have t : m_is_way_l1 (.lst ((lft p k ws).map nmd)) (fs.map nmd) (nmd q) = .ok (fs.map nmd) := by
          unfold m_is_way_l1
          by_cases c1 : q ∈ lft p k ws
          · have c2 : q ∈ fs := Decidable.byContradiction fun z => c ⟨c1, z⟩
            rw [decide_eq_true c1] at m1'
            rw [decide_eq_true c2] at m2'
            simp -implicitDefEqProofs only [B2, mIf, mAnd, okb, m1', m2', if_true, Bool.not_true, Bool.false_eq_true, if_false]
          · rw [decide_eq_false c1] at m1'
            simp -implicitDefEqProofs only [B2, mIf, mAnd, okb, m1', Bool.false_eq_true, if_false]
        rw [List.map_cons, loopF_cons, t, okb, e]
      · rcases List.mem_cons.mp hx with rfl | hx
        · have : x ∈ fs := Decidable.byContradiction fun z => c ⟨hx2, z⟩
          exact List.mem_append.mpr (.inl this)
        · exact h3 x hx hx2
theorem way_whl : ∀ (n : Nat) (xs ys : List Rd), Wi p k s ws (xs ++ ys) → (∀ a ∈ xs, a.en ≠ z ∧ ∀ r ∈ lft p k ws, flw p.ba a r = true → r ∈ xs ++ ys) → 61 ≤ n + xs.length →
    (whileR m_is_way_l2_c (m_is_way_l2 p.ch.d (.str z) (.lst ((lft p k ws).map nmd))) n ((xs ++ ys).map nmd, .int (xs.length : Nat)) = .ok (.inr (.bl true)) ∧ Way p k s z ws) ∨
    (∃ q, whileR m_is_way_l2_c (m_is_way_l2 p.ch.d (.str z) (.lst ((lft p k ws).map nmd))) n ((xs ++ ys).map nmd, .int (xs.length : Nat)) = .ok (.inl q) ∧ ¬ Way p k s z ws)
  | n, xs, ys, w, h, hn => by
    have le := lft_len P (k := k) (ws := ws)
    have lx : (xs ++ ys).length ≤ 60 := Nat.le_trans (nodup_len w.nd w.sub) le
    rw [List.length_append] at lx
    cases n with
    | zero => omega
    | succ n =>
      have ln : D.len (.lst ((xs ++ ys).map nmd)) = .ok (.int ((xs ++ ys).length : Int)) := by simp
      have c : m_is_way_l2_c ((xs ++ ys).map nmd, .int (xs.length : Nat)) = .ok (decide ((xs.length : Int) < ((xs ++ ys).length : Int))) := by
        unfold m_is_way_l2_c
        generalize (xs ++ ys).map nmd = Y at ln ⊢
        simp -implicitDefEqProofs only [B1, B2, A0, A1, okb, f1_1, ln]
        rfl
      rw [List.length_append] at c
      rw [whileR, c, okb]
      cases ys with
      | nil =>
        right
        rw [decide_eq_false (by simp), if_neg Bool.false_ne_true]
        refine ⟨_, rfl, ?_⟩
        rw [List.append_nil] at w h
        rintro ⟨r, hr, er⟩
        have := way_closed w.st (fun a ha r hr hf => (h a ha).2 r hr hf) hr
        exact (h r this).1 er
      | cons y ys =>
        rw [decide_eq_true (by simp; omega), if_pos rfl]
        have hy : y ∈ xs ++ y :: ys := by simp
        have hy2 := opn_ro (lft_opn (w.sub y hy))
        have C : COk p.ch := cok_of P
        have hr : y ∈ p.ch.ro := by rw [show p.ch = _ from S]; exact hy2
        have ro := road_ok C hr
        have fo := foll_ok C hr
        have efo : foll p.ch y = p.ro.filter fun q => flw p.ba y q := by rw [show p.ch = _ from S]; rfl
        rw [efo] at fo
        have ix : D.ix (.lst ((xs ++ y :: ys).map nmd)) (.int (xs.length : Nat)) = .ok (.str y.nm) := ix_nat (n := xs.length) (by rw [List.getElem?_map, List.getElem?_append_right (Nat.le_refl _)]; simp) rfl
        by_cases e : y.en = z
        · left
          have t : m_is_way_l2 p.ch.d (.str z) (.lst ((lft p k ws).map nmd)) ((xs ++ y :: ys).map nmd, .int (xs.length : Nat)) = .ok (.rt (.bl true)) := by
            have eq : D.eq (.str y.en) (.str z) = .ok true := by rw [eq_ss, decide_eq_true e]
            unfold m_is_way_l2
            generalize (xs ++ y :: ys).map nmd = Y at ix ⊢
            simp -implicitDefEqProofs only [B1, B2, A0, A1, mIf, mMeth, okb, ix, rc_road, ro, r2, eq, if_true]
          rw [t, okb]
          exact ⟨rfl, y, w.rch y hy, e⟩
        · have lf : (p.ro.filter fun q => flw p.ba y q).length ≤ 60 := Nat.le_trans (List.length_filter_le _ _) P.ro1
          obtain ⟨gs, e1, w1, h1⟩ := way_in P S (p.ro.filter fun q => flw p.ba y q) (xs ++ y :: ys) (fun q hq => ⟨(List.mem_filter.mp hq).1, y, hy, (List.mem_filter.mp hq).2⟩) w (by rw [List.length_append]; omega)
          have t : m_is_way_l2 p.ch.d (.str z) (.lst ((lft p k ws).map nmd)) ((xs ++ y :: ys).map nmd, .int (xs.length : Nat)) = .ok (.go (((xs ++ y :: ys) ++ gs).map nmd, .int ((xs.length : Nat) + 1 : Int))) := by
            have eq : D.eq (.str y.en) (.str z) = .ok false := by rw [eq_ss, decide_eq_false e]
            have ag : augI (fun i j => i + j) (.int (xs.length : Nat)) (.int 1) = .ok (.int ((xs.length : Nat) + 1 : Int)) := rfl
            have it : D.items (.lst ((p.ro.filter fun q => flw p.ba y q).map nmd)) = .ok ((p.ro.filter fun q => flw p.ba y q).map nmd) := rfl
            have fo : m_Map_followers [p.ch.d, .str y.nm] = .ok (.lst ((p.ro.filter fun q => flw p.ba y q).map nmd)) := fo
            unfold m_is_way_l2
            generalize (p.ro.filter fun q => flw p.ba y q).map nmd = Z at fo it e1
            generalize (xs ++ y :: ys).map nmd = Y at ix e1 ⊢
            simp -implicitDefEqProofs only [B1, B2, A0, A1, mIf, mMeth, okb, ix, rc_road, rc_foll, ro, r2, eq, Bool.false_eq_true, if_false, fo, it, e1, ag]
          rw [t, okb]
          have ea : (xs ++ y :: ys) ++ gs = (xs ++ [y]) ++ (ys ++ gs) := by simp
          have el : ((xs.length : Nat) + 1 : Int) = (((xs ++ [y]).length : Nat) : Int) := by simp
          rw [ea] at w1 h1 ⊢
          rw [el]
          refine way_whl n (xs ++ [y]) (ys ++ gs) w1 (fun a ha => ?_) (by rw [List.length_append, List.length_singleton]; omega)
          rcases List.mem_append.mp ha with ha | ha
          · refine ⟨(h a ha).1, fun r hr hf => ?_⟩
            have := (h a ha).2 r hr hf
            rw [← ea]
            exact List.mem_append.mpr (.inl this)
          · rw [List.mem_singleton.mp ha]
            exact ⟨e, fun r hr hf => h1 r (List.mem_filter.mpr ⟨opn_ro (lft_opn hr), hf⟩) hr⟩
theorem is_way_ok {wsd : D} (hw : ∀ q ∈ p.ro, D.nmem (.str q.nm) wsd = .ok (!decide (q.nm ∈ ws))) : m_is_way [p.ch.d, .str k, .str s, .str z, wsd] = .ok (.bl (wayB p k s z ws)) := by
  have C : COk p.ch := cok_of P
  have le := lft_len P (k := k) (ws := ws)
  have nd := lft_nd P (k := k) (ws := ws)
  let f0 := (lft p k ws).filter fun r => decide (r.st = s)
  have w0 : Wi p k s ws f0 := ⟨nd.filter _, fun r hr => (List.mem_filter.mp hr).1, fun r hr => .base (List.mem_filter.mp hr).1 (of_decide_eq_true (List.mem_filter.mp hr).2) (opn_us (lft_opn (List.mem_filter.mp hr).1)), fun r hr hs => List.mem_filter.mpr ⟨hr, decide_eq_true hs⟩⟩
  have us := usable_ok P S (k := k)
  have c1 : compL (fElt (fun name_1 => (B2 D.nmem (.ok name_1) (.ok wsd))) (fun name_1 => (.ok name_1))) ((opn p k).map nmd) = .ok ((lft p k ws).map nmd) :=
    compL_filterA (by have := opn_len (k := k) P; omega) (fun r hr => by
      simp -implicitDefEqProofs only [B2, okb, hw r (opn_ro hr)]) fun _ _ _ => rfl
  have c2 : compL (fElt (fun name_2 => (B2 D.eq (B2 D.ix (mMeth "Map" "road" m_Map_road (.ok p.ch.d) (A1 (.ok name_2) A0)) (.ok (.int 1))) (.ok (.str s)))) (fun name_2 => (.ok name_2))) ((lft p k ws).map nmd) = .ok (f0.map nmd) :=
    compL_filterA (by omega) (fun r hr => by
      have hr : r ∈ p.ch.ro := by rw [show p.ch = _ from S]; exact opn_ro (lft_opn hr)
      simp -implicitDefEqProofs only [B2, A0, A1, mMeth, okb, rc_road, road_ok C hr, r1, eq_ss]) fun _ _ _ => rfl
  have it1 : D.items (.lst ((opn p k).map nmd)) = .ok ((opn p k).map nmd) := rfl
  have it2 : D.items (.lst ((lft p k ws).map nmd)) = .ok ((lft p k ws).map nmd) := rfl
  have lo := way_whl P S (s := s) (z := z) 100000 [] f0 w0 (fun a ha => nomatch ha) (by omega)
  rw [List.nil_append] at lo
  have lo : (whileR m_is_way_l2_c (m_is_way_l2 p.ch.d (.str z) (.lst ((lft p k ws).map nmd))) 100000 (f0.map nmd, .int 0) = .ok (.inr (.bl true)) ∧ Way p k s z ws) ∨
    (∃ q, whileR m_is_way_l2_c (m_is_way_l2 p.ch.d (.str z) (.lst ((lft p k ws).map nmd))) 100000 (f0.map nmd, .int 0) = .ok (.inl q) ∧ ¬ Way p k s z ws) := lo
  rw [e_is_way]
  unfold g_is_way
  generalize f0.map nmd = Y3 at c2 lo
  generalize (lft p k ws).map nmd = Y4 at *
  generalize (opn p k).map nmd = Y5 at *
  rcases lo with ⟨lo, hW⟩ | ⟨q, lo, hW⟩
  · rw [wayB_iff.mpr hW]
    simp -implicitDefEqProofs only [B1, B2, A0, A1, L1, mMeth, okb, us, it1, it2] at c1 c2 ⊢
    rw [c1]
    simp -implicitDefEqProofs only [okb, it2]
    rw [c2]
    simp -implicitDefEqProofs only [okb, lo, sFin]
  · have : wayB p k s z ws = false := by
      cases h : wayB p k s z ws with
      | false => rfl
      | true => exact absurd (wayB_iff.mp h) hW
    rw [this]
    simp -implicitDefEqProofs only [B1, B2, A0, A1, L1, mMeth, okb, us, it1, it2] at c1 c2 ⊢
    rw [c1]
    simp -implicitDefEqProofs only [okb, it2]
    rw [c2]
    simp -implicitDefEqProofs only [okb, lo, sFin]
end
end LawMath

set_option Elab.async false
set_option linter.all false
set_option maxRecDepth 100000
set_option maxHeartbeats 4000000
namespace LawMath
open PySem DL LawWalk L2
theorem str_ixmT {l : List Str} {i : Int} (h : 0 < l.length) : ∃ x ∈ l, D.ix (tupD D.str l) (.int (i % (l.length : Nat))) = .ok (.str x) := str_ixm h
section
variable {p : Pt} (P : p.ok)
include P
theorem trip_drawnD {ns : List Int} (hs : Sm ns) {a : Nat} (hl : a + 4 < ns.length) (hp : 1 ≤ p.pl.length) : ∃ k ∈ p.ki, ∃ s ∈ p.pl, ∃ z ∈ p.pl, ∃ m : Int, 0 ≤ m ∧ m < 100000 ∧ m_law_trip [.lst (nums ns), .int (a : Nat), p.d] = .ok (.tup [.str k, .str s, .str z, .int m]) := by
  rw [e_law_trip]
  have i0 := num_ix (ns := ns) (i := (a : Nat)) (j := a) rfl (by omega)
  have i1 := num_ix (ns := ns) (i := (a : Nat) + 1) (j := a + 1) (by omega) (by omega)
  have i2 := num_ix (ns := ns) (i := (a : Nat) + 2) (j := a + 2) (by omega) (by omega)
  have i3 := num_ix (ns := ns) (i := (a : Nat) + 3) (j := a + 3) (by omega) (by omega)
  have i4 := num_ix (ns := ns) (i := (a : Nat) + 4) (j := a + 4) (by omega) (by omega)
  have s3 := num_sm hs (a + 3)
  have k0 := P.ki0
  generalize ns.getD a 0 = b0 at i0
  generalize ns.getD (a + 1) 0 = b1 at i1
  generalize ns.getD (a + 2) 0 = b2 at i2
  generalize ns.getD (a + 3) 0 = b3 at i3 s3
  generalize ns.getD (a + 4) 0 = b4 at i4
  have lk : D.len (tupD D.str p.ki) = .ok (.int (p.ki.length : Int)) := by unfold tupD; simp
  have lp : D.len (tupD D.str p.pl) = .ok (.int (p.pl.length : Int)) := by unfold tupD; simp
  have mk : D.mod (.int b0) (.int (p.ki.length : Nat)) = .ok (.int (b0 % (p.ki.length : Nat))) := mod_ok (by omega)
  have mp1 : D.mod (.int b1) (.int (p.pl.length : Nat)) = .ok (.int (b1 % (p.pl.length : Nat))) := mod_ok (by omega)
  have mp2 : D.mod (.int b2) (.int (p.pl.length : Nat)) = .ok (.int (b2 % (p.pl.length : Nat))) := mod_ok (by omega)
  obtain ⟨k, hk, ek⟩ := str_ixmT (l := p.ki) (i := b0) (by omega)
  obtain ⟨s, hs', es⟩ := str_ixmT (l := p.pl) (i := b1) (by omega)
  obtain ⟨z, hz', ez⟩ := str_ixmT (l := p.pl) (i := b2) (by omega)
  have m4 : D.mod (.int b4) (.int 4) = .ok (.int (b4 % 4)) := mod_ok (by omega)
  have mk4 : D.mkLst [.int 0, .int 1, .int 1, .int 99] = .ok (.lst [.int 0, .int 1, .int 1, .int 99]) := rfl
  obtain ⟨w, hw, ew⟩ : ∃ w : Int, (0 ≤ w ∧ w ≤ 99) ∧ D.ix (.lst [.int 0, .int 1, .int 1, .int 99]) (.int (b4 % 4)) = .ok (.int w) := by
    have : b4 % 4 = 0 ∨ b4 % 4 = 1 ∨ b4 % 4 = 2 ∨ b4 % 4 = 3 := by omega
    rcases this with h | h | h | h <;> rw [h] <;> exact ⟨_, by decide, rfl⟩
  have mu : D.mul (.int b3) (.int w) = .ok (.int (b3 * w)) := mul_okl (by omega) (by omega)
  refine ⟨k, hk, s, hs', z, hz', b3 * w, Int.mul_nonneg s3.1 hw.1, ?_, ?_⟩
  · have := Int.mul_le_mul (show b3 ≤ 1008 by omega) hw.2 hw.1 (by omega)
    omega
  · have mkt : ∀ a b c d : D, D.mkTup [a, b, c, d] = .ok (.tup [a, b, c, d]) := fun _ _ _ _ => rfl
    unfold g_law_trip
    simp -implicitDefEqProofs only [B1, B2, A0, A1, okb, add_ii, i0, i1, i2, i3, i4, f1_1, toInt_i, p1, p2, lk, lp, mk, mp1, mp2, ek, es, ez, m4, mk4, ew, mu, mkt]
end
end LawMath

set_option Elab.async false
set_option linter.all false
set_option maxRecDepth 100000
set_option maxHeartbeats 4000000
namespace LawMath
open PySem DL LawWalk L2
def Tx (n : Nat) (s : Str) : Prop := s.length ≤ n ∧ PyData.strOk s = true
theorem Tx.app {a b : Nat} {s t : Str} (h : Tx a s) (h' : Tx b t) : Tx (a + b) (s ++ t) := ⟨by rw [strLen_append]; exact Nat.add_le_add h.1 h'.1, strOk_app h.2 h'.2⟩
theorem Tx.le {a b : Nat} {s : Str} (h : Tx a s) (hb : a ≤ b) : Tx b s := ⟨Nat.le_trans h.1 hb, h.2⟩
theorem tx_from {c : Nat} : ∀ (ts : List Str) (k : Nat) (acc : Str) (n : Nat), Tx n acc → (∀ t ∈ ts, Tx c t) → Tx (n + ts.length * (c + 2)) (textFrom k acc ts)
  | [], k, acc, n, h, _ => h.le (by simp)
  | t :: ts, k, acc, n, h, ht => by
    have sep : Tx 2 (if k > 0 then ", " else "" : String) := by
      split
      · exact ⟨by decide +kernel, by decide +kernel⟩
      · exact ⟨by decide +kernel, by decide +kernel⟩
    have h2 := (h.app sep).app (ht t (List.mem_cons_self ..))
    have ih := tx_from ts (k + 1) _ _ h2 fun x hx => ht x (List.mem_cons_of_mem _ hx)
    refine Tx.le ih ?_
    rw [List.length_cons, Nat.add_mul, Nat.one_mul]
    omega
theorem tx_list {c : Nat} {ts : List Str} (h : ∀ t ∈ ts, Tx c t) : Tx (2 + ts.length * (c + 2)) (listText ts) := by
  have h0 : Tx 1 ("[" : Str) := ⟨by decide +kernel, by decide +kernel⟩
  have h1 : Tx 1 ("]" : Str) := ⟨by decide +kernel, by decide +kernel⟩
  exact ((tx_from ts 0 "[" 1 h0 h).app h1).le (by omega)
theorem fold_repr {q : Nat} : ∀ (l : List Nat) (acc : Array Nat), (∀ c ∈ l, PySem.Builtin.Str.reprChar q c = [c]) → (l.foldl (fun out c => out ++ (PySem.Builtin.Str.reprChar q c).toArray) acc).toList = acc.toList ++ l
  | [], acc, _ => by simp
  | c :: l, acc, h => by
    rw [List.foldl_cons, fold_repr l _ fun x hx => h x (List.mem_cons_of_mem _ hx), h c (List.mem_cons_self ..)]
    simp
theorem tx_name {x : Str} (h : Nm x) : Tx 14 (reprText x) := by
  have small : ∀ q ∈ [34, 39], ∀ m ∈ [97, 98, 99, 100, 101, 102, 103, 104, 105, 106, 107, 108, 109, 110, 111, 112, 113, 114, 115, 116, 117, 118, 119, 120, 121, 122, 48, 49, 50, 51, 52, 53, 54, 55, 56, 57], PySem.Builtin.Str.reprChar q m = [m] := by decide +kernel
  have ok := nm_strOk h
  have h : isNm x.cps.toList = true := h
  have key : ∀ l : List Nat, isNm l = true → l.length ≤ 12 ∧ ∀ n ∈ l, n ∈ lets := fun l hl => by
    cases l with
    | nil => exact ⟨by simp, fun n hn => nomatch hn⟩
    | cons a r =>
      have hl : (decide (r.length < 12) && (!decide (a ∈ digs) && (a :: r).all fun c => decide (c ∈ lets))) = true := hl
      refine ⟨?_, fun n hn => of_decide_eq_true (List.all_eq_true.mp (and2 (and2 hl).2).2 n hn)⟩
      have := of_decide_eq_true (and2 hl).1
      rw [List.length_cons]
      omega
  obtain ⟨k1, k2⟩ := key _ h
  have hq : reprQuote x ∈ [34, 39] := by
    unfold reprQuote
    split
    · exact List.mem_cons_self ..
    · exact List.mem_cons_of_mem _ (List.mem_cons_self ..)
  have e : (reprText x).cps.toList = reprQuote x :: x.cps.toList ++ [reprQuote x] := by
    unfold reprText
    simp only [Array.toList_push]
    rw [← Array.foldl_toList, fold_repr x.cps.toList _ fun c hc => small _ hq c (by
      have := k2 c hc
      rw [lets_eq] at this
      exact this)]
    rfl
  refine ⟨?_, ?_⟩
  · have : (reprText x).length = (reprText x).cps.toList.length := by simp [Str.length]
    rw [this, e]
    simp
    have : x.cps.toList.length = x.cps.size := by simp
    omega
  · rw [strOk_mem, e]
    rw [strOk_mem] at ok
    intro c hc
    have q0 : reprQuote x < 0x110000 := by
      rcases List.mem_cons.mp hq with h | h
      · omega
      · have := List.mem_singleton.mp h
        omega
    rcases List.mem_append.mp hc with hc | hc
    · rcases List.mem_cons.mp hc with rfl | hc
      · exact q0
      · exact ok c hc
    · rw [List.mem_singleton.mp hc]
      exact q0
theorem rep_non : ∃ s : Str, D.repr .non = .ok (.str s) := by
  have ok : D.repOk .non = true := by decide +kernel
  refine ⟨D.non.py.shown, ?_⟩
  show (need (D.repOk .non) >>= fun _ => (.ok (.str D.non.py.shown) : M D)) = _
  rw [ok]
  rfl
end LawMath

set_option Elab.async false
set_option linter.all false
set_option maxRecDepth 100000
set_option maxHeartbeats 4000000
namespace LawMath
open PySem DL LawWalk L2
theorem names_show : ∀ {W : List Str}, (∀ q ∈ W, Nm q) → PyData.showableAll (D.pyL (W.map D.str)) = true ∧ ∀ t ∈ PyData.shownAll (D.pyL (W.map D.str)), Tx 14 t
  | [], _ => ⟨rfl, fun t ht => by simp [D.pyL, PyData.shownAll] at ht⟩
  | q :: W, h => by
    obtain ⟨b1, b2⟩ := names_show (W := W) fun x hx => h x (List.mem_cons_of_mem _ hx)
    have a := tx_name (h q (List.mem_cons_self ..))
    rw [List.map_cons]
    simp only [D.pyL, D.py, PyData.showableAll, PyData.shownAll, PyData.showable, PyData.shown]
    refine ⟨by rw [b1]; rfl, fun t ht => ?_⟩
    rcases List.mem_cons.mp ht with rfl | ht
    · exact a
    · exact b2 t ht
theorem names_len : ∀ W : List Str, (PyData.shownAll (D.pyL (W.map D.str))).length = W.length
  | [] => rfl
  | q :: W => by
    rw [List.map_cons]
    simp only [D.pyL, PyData.shownAll, List.length_cons]
    rw [names_len W]
theorem rep_names {W : List Str} (hl : W.length ≤ 1000) (h : ∀ q ∈ W, Nm q) : ∃ s : Str, D.repr (.lst (W.map D.str)) = .ok (.str s) := by
  obtain ⟨a1, a2⟩ := names_show h
  have t := tx_list a2
  rw [names_len] at t
  have py : (D.lst (W.map D.str)).py = .list (D.pyL (W.map D.str)) := by simp only [D.py]
  have sh : (D.lst (W.map D.str)).shp 20 = true := shp_lst (n := 19) fun d hd => by
    obtain ⟨q, _, rfl⟩ := List.mem_map.mp hd
    exact shp_str
  have e1 : (D.lst (W.map D.str)).py.showable = true := by
    rw [py]
    simp only [PyData.showable]
    exact a1
  have e2 : Tx (2 + W.length * (14 + 2)) (D.lst (W.map D.str)).py.shown := by
    rw [py]
    simp only [PyData.shown]
    exact t
  have ok : D.repOk (.lst (W.map D.str)) = true := by
    unfold D.repOk
    rw [sh, e1, e2.2, decide_eq_true (show (D.lst (W.map D.str)).py.shown.length ≤ sizeLine by rw [PySem.sizeLine_eq]; have := e2.1; omega)]
    rfl
  refine ⟨(D.lst (W.map D.str)).py.shown, ?_⟩
  show (need (D.repOk (.lst (W.map D.str))) >>= fun _ => (.ok (.str (D.lst (W.map D.str)).py.shown) : M D)) = _
  rw [ok]
  rfl
section
variable {p : Pt} (P : p.ok) (S : p.srt) {k s z : Str} (hk : k ∈ p.ki) (hs : s ∈ p.pl) (hz : z ∈ p.pl) (ne : s ≠ z)
include P S hk hs hz ne
theorem ends_ok : m_check_ends [p.ch.d, .str k, .str s, .str z] = .ok .non := by
  show orNon (g_check_ends p.ch.d (.str k) (.str s) (.str z)) = _
  have a := at_ki (cs := ["Map"]) (c := p.ch) rfl
  have nm : D.nmem (.str k) (tupD D.str p.ch.ki) = .ok false := by
    have := e_s.nmemT k p.ch.ki
    rw [decide_eq_true ((ch_ki k).mpr hk)] at this
    exact this
  have ps := place_ok (c := p.ch) ((ch_pl s).mpr hs)
  have pz := place_ok (c := p.ch) ((ch_pl z).mpr hz)
  have eq : D.eq (.str s) (.str z) = .ok false := by rw [eq_ss, decide_eq_false ne]
  unfold g_check_ends
  simp -implicitDefEqProofs only [B1, B2, A0, A1, mIf, mMeth, okb, a, nm, rc_place, ps, pz, eq, Bool.false_eq_true, if_false, orNon]
  rfl
theorem vital_ok : m_vital_roads [p.ch.d, .str k, .str s, .str z] = .ok (if wayB p k s z [] = true then some (((opn p k).filter fun r => !wayB p k s z [r.nm]).map nmd) else none) := by
  have en := ends_ok P S hk hs hz ne
  have us := usable_ok P S (k := k)
  have it1 : D.items (.lst ((opn p k).map nmd)) = .ok ((opn p k).map nmd) := rfl
  have w0 : m_is_way [p.ch.d, .str k, .str s, .str z, .tup []] = .ok (.bl (wayB p k s z [])) := is_way_ok P S fun q _ => e_s.nmemT q.nm []
  have c : compL (fElt (fun name_1 => (mNot (B1 D.tru (mCallK m_is_way (fun ws => pick ws 0 ++ ([])) (A1 (.ok p.ch.d) (A1 (.ok (.str k)) (A1 (.ok (.str s)) (A1 (.ok (.str z)) A0)))) (A1 (B1 D.mkLst (A1 (.ok name_1) A0)) A0))))) (fun name_1 => (.ok name_1))) ((opn p k).map nmd) = .ok (((opn p k).filter fun r => !wayB p k s z [r.nm]).map nmd) :=
    compL_filterA (by have := opn_len (k := k) P; omega) (fun r hr => by
      have w1 : m_is_way [p.ch.d, .str k, .str s, .str z, .lst [.str r.nm]] = .ok (.bl (wayB p k s z [r.nm])) := is_way_ok P S fun q _ => e_s.nmem q.nm [r.nm]
      have mk1 : D.mkLst [.str r.nm] = .ok (.lst [.str r.nm]) := rfl
      simp -implicitDefEqProofs only [B1, A0, A1, mCallK, mNot, okb, mk1, pick_0, List.cons_append, List.nil_append, w1, tru_b]) fun _ _ _ => rfl
  rw [e_vital_roads]
  unfold g_vital_roads
  generalize (((opn p k).filter fun r => !wayB p k s z [r.nm]).map nmd) = Y at c ⊢
  generalize (opn p k).map nmd = X at us it1 c
  cases h : wayB p k s z [] with
  | false =>
    rw [h] at w0
    simp -implicitDefEqProofs only [B1, A0, A1, mCallK, mIf, mNot, okb, en, List.cons_append, List.nil_append, w0, tru_b, Bool.not_false, if_true, Bool.false_eq_true, if_false, id]
  | true =>
    rw [h] at w0
    simp -implicitDefEqProofs only [B1, A0, A1, mCallK, mIf, mNot, okb, en, List.cons_append, List.nil_append, w0, tru_b, Bool.not_true, if_true, Bool.false_eq_true, if_false, id, us, it1] at c ⊢
    rw [c]
    rfl
end
section
variable {p : Pt} (P : p.ok) {k s z : Str}
include P
theorem way_closedR {r : Rd} (hr : r ∈ p.ro) (h : ¬ usbl k r = true) : lft p k [r.nm] = lft p k [] := by
  refine List.filter_congr fun q hq => ?_
  have : ¬ q.nm = r.nm := fun e => by
    have := nm_inj P.ron (opn_ro hq) hr e
    subst this
    exact h (opn_us hq)
  simp [this]
theorem vital_eq (h : wayB p k s z [] = true) : (p.ro.filter fun r => !wayB p k s z [r.nm]) = (opn p k).filter fun r => !wayB p k s z [r.nm] := by
  rw [List.filter_filter]
  refine List.filter_congr fun r hr => ?_
  by_cases c : usbl k r = true
  · rw [c, Bool.and_true]
  · have e : wayB p k s z [r.nm] = wayB p k s z [] := by
      unfold wayB Way
      rw [way_closedR P hr c]
    rw [e, h]
    rfl
end
theorem find_ix {l : List Str} {x : Str} (h : x ∈ l) : ∃ j, l.findIdx? (fun w => decide (w = x)) = some j ∧ ∃ hj : j < l.length, l[j] = x := by
  cases e : l.findIdx? (fun w => decide (w = x)) with
  | none =>
    have := List.findIdx?_eq_none_iff.mp e x h
    simp at this
  | some j =>
    obtain ⟨hj, h1, _⟩ := List.findIdx?_eq_some_iff_getElem.mp e
    exact ⟨j, rfl, hj, of_decide_eq_true h1⟩
theorem indexT_ok {l : List Str} {x : Str} (h : x ∈ l) : ∃ j, D.indexT (tupD D.str l) (.str x) = .ok (.int (j : Nat)) ∧ ∃ hj : j < l.length, l[j] = x := by
  obtain ⟨j, h1, h2⟩ := find_ix h
  refine ⟨j, ?_, h2⟩
  show (match D.strs (l.map D.str) with
    | some ys => (match ys.findIdx? (fun w => decide (w = x)) with
      | some j => .ok (.int (j : Nat))
      | none => stuck)
    | none => stuck : M D) = _
  rw [strs_map]
  dsimp only
  rw [h1]
section
variable {p : Pt} (P : p.ok)
include P
theorem apart_drawn {ns : List Int} (hs : Sm ns) {a : Nat} (hl : a + 4 < ns.length) (hp : 2 ≤ p.pl.length) : ∃ k ∈ p.ki, ∃ s ∈ p.pl, ∃ z ∈ p.pl, s ≠ z ∧ m_law_apart_trip [.lst (nums ns), .int (a : Nat), p.d] = .ok (.tup [.str k, .str s, .str z]) := by
  obtain ⟨k, hk, s, hs', z, hz, m, hm0, hm1, et⟩ := trip_drawnD P hs hl (by omega)
  have u4 : ∀ (f : D → D → D → D → M D), un4 f (.tup [.str k, .str s, .str z, .int m]) = f (.str k) (.str s) (.str z) (.int m) := fun _ => rfl
  have mk3 : ∀ x y w : D, D.mkTup [x, y, w] = .ok (.tup [x, y, w]) := fun _ _ _ => rfl
  by_cases e : s = z
  · obtain ⟨j, e1, hj, e2⟩ := indexT_ok hs'
    have lp : D.len (tupD D.str p.pl) = .ok (.int (p.pl.length : Int)) := by unfold tupD; simp
    have md : D.mod (.int ((j : Int) + 1)) (.int (p.pl.length : Int)) = .ok (.int (((j : Int) + 1) % (p.pl.length : Int))) := mod_ok (by omega)
    obtain ⟨i, hi, hi2, hne⟩ : ∃ i : Nat, ((j : Int) + 1) % (p.pl.length : Int) = (i : Int) ∧ i < p.pl.length ∧ i ≠ j := by
      by_cases c : j + 1 = p.pl.length
      · refine ⟨0, ?_, by omega, by omega⟩
        have : ((j : Int) + 1) = (p.pl.length : Int) := by omega
        rw [this, Int.emod_self]
        rfl
      · refine ⟨j + 1, ?_, by omega, by omega⟩
        rw [Int.emod_eq_of_lt (by omega) (by omega)]
        omega
    have ig : D.ix (tupD D.str p.pl) (.int (i : Int)) = .ok (.str p.pl[i]) := ix_natT (n := i) (by rw [List.getElem?_map, List.getElem?_eq_getElem hi2]; rfl) rfl
    refine ⟨k, hk, s, hs', p.pl[i], List.getElem_mem _, fun z' => ?_, ?_⟩
    · have : p.pl[j] = p.pl[i] := by rw [e2]; exact z'
      rcases Nat.lt_or_gt_of_ne hne with lt | gt
      · exact absurd this.symm (List.pairwise_iff_getElem.mp P.pln i j hi2 hj lt)
      · exact absurd this (List.pairwise_iff_getElem.mp P.pln j i hj hi2 gt)
    · rw [e_law_apart_trip]
      have q : D.eq (.str s) (.str z) = .ok true := by rw [eq_ss, decide_eq_true e]
      have mt : meth D.isTup (.ok (tupD D.str p.pl)) (.ok [.str s]) (m1 D.indexT) = .ok (.int (j : Nat)) := e1
      unfold g_law_apart_trip
      simp -implicitDefEqProofs only [B1, B2, A0, A1, mIf, okb, et, u4, q, if_true, p2, mt, add_ii, f1_1, lp, md, hi, ig, mk3]
  · refine ⟨k, hk, s, hs', z, hz, e, ?_⟩
    rw [e_law_apart_trip]
    have q : D.eq (.str s) (.str z) = .ok false := by rw [eq_ss, decide_eq_false e]
    unfold g_law_apart_trip
    simp -implicitDefEqProofs only [B1, B2, A0, A1, mIf, okb, et, u4, q, Bool.false_eq_true, if_false, mk3]
end
theorem few_filter {α : Type} [DecidableEq α] {F N : List α} (hF : F.Nodup) (h : ∀ x ∈ F, ∀ y ∈ F, x ∈ N → y ∈ N → x = y) : F.length ≤ (F.filter fun x => !decide (x ∈ N)).length + 1 := by
  have e : F.length = (F.filter fun x => decide (x ∈ N)).length + (F.filter fun x => !decide (x ∈ N)).length := by
    clear h hF
    induction F with
    | nil => rfl
    | cons a F ih =>
      rw [List.length_cons, ih, List.filter_cons, List.filter_cons]
      cases decide (a ∈ N) <;> simp <;> omega
  have l1 : (F.filter fun x => decide (x ∈ N)).length ≤ 1 := by
    cases e2 : F.filter fun x => decide (x ∈ N) with
    | nil => simp
    | cons a T =>
      cases T with
      | nil => simp
      | cons b T =>
        exfalso
        have nd : (F.filter fun x => decide (x ∈ N)).Nodup := hF.filter _
        have ma : a ∈ F.filter fun x => decide (x ∈ N) := by rw [e2]; simp
        have mb : b ∈ F.filter fun x => decide (x ∈ N) := by rw [e2]; simp
        rw [e2] at nd
        have := h a (List.mem_filter.mp ma).1 b (List.mem_filter.mp mb).1 (of_decide_eq_true (List.mem_filter.mp ma).2) (of_decide_eq_true (List.mem_filter.mp mb).2)
        subst this
        simp at nd
  omega
theorem rdok_of {day : Int} {ki pl : List Str} {r : Rd} {c : Ch} (h : RdOk ⟨day, pl, ki, [], []⟩ r) (h1 : c.day = day) (h2 : c.pl = pl) (h3 : c.ki = ki) : RdOk c r := by
  obtain ⟨cd, cp, ck, cr, cb⟩ := c
  cases h1; cases h2; cases h3
  exact ⟨h.nm, h.st, h.en, h.mi, h.nd, h.ks, h.kl, h.hs⟩
theorem law_tail {ns : List Int} (hs : Sm ns) (hl : 105 < ns.length) {p : Pt} (P : p.ok) (S : p.srt) (hp : 2 ≤ p.pl.length) :
  ((B1 m_law_apart_trip (A1 (.ok (.lst (nums ns))) (A1 (.ok (.int 100)) (A1 (.ok (.lst p.dl)) A0)))) >>= un3 fun kind_1 start_1 goal_1 => ((.ok .non) >>= fun expected_1 => ((mIf (B1 D.tru (B1 m_law_is_way (A1 (.ok (.lst p.dl)) (A1 (.ok kind_1) (A1 (.ok start_1) (A1 (.ok goal_1) (A1 (B1 D.mkLst A0) A0))))))) ((L1 ((B1 D.items (B2 D.ix (.ok (.lst p.dl)) (.ok (.int 3)))) >>= fun ds => compL (fElt (fun road_here_2 => (mNot (B1 D.tru (B1 m_law_is_way (A1 (.ok (.lst p.dl)) (A1 (.ok kind_1) (A1 (.ok start_1) (A1 (.ok goal_1) (A1 (B1 D.mkLst (A1 (B2 D.ix (.ok road_here_2) (.ok (.int 0))) A0)) A0))))))))) (fun road_here_2 => (B2 D.ix (.ok road_here_2) (.ok (.int 0))))) ds)) >>= fun expected_2 => (.ok expected_2)) (.ok expected_1) : M (D)) >>= fun expected_3 => ((B1 m_law_made (A1 (.ok (.lst p.dl)) A0)) >>= fun chart_1 => ((B1 m_vital_roads (A1 (.ok chart_1) (A1 (.ok kind_1) (A1 (.ok start_1) (A1 (.ok goal_1) A0))))) >>= fun actual_1 => (mIf (B2 D.ne (B1 (f1 D.repr) (A1 ((Sl.ol actual_1)).rd A0)) (B1 (f1 D.repr) (A1 (.ok expected_3) A0))) (.ok (.bl false)) ((mIf (B2 D.notN ((Sl.ol actual_1)).rd (.ok .non)) (((Sl.ol actual_1)).push (.ok (.str "x")) >>= fun actual_2 => (.ok ())) (.ok ()) : M (Unit)) >>= fun _ => (C2 D.eq ((B1 m_vital_roads (A1 (.ok chart_1) (A1 (.ok kind_1) (A1 (.ok start_1) (A1 (.ok goal_1) A0))))) >>= fun r => .ok (olD r)) (.ok expected_3))))))))) = .ok (.bl true) := by
  obtain ⟨k, hk, s, hs', z, hz, ne, et⟩ := apart_drawn P hs (a := 100) (by omega) hp
  have ed : (D.lst p.dl) = p.d := rfl
  rw [ed]
  have et : m_law_apart_trip [.lst (nums ns), .int 100, p.d] = .ok (.tup [.str k, .str s, .str z]) := et
  have u3 : ∀ (f : D → D → D → M D), un3 f (.tup [.str k, .str s, .str z]) = f (.str k) (.str s) (.str z) := fun _ => rfl
  have lw : ∀ ws : List Str, m_law_is_way [p.d, .str k, .str s, .str z, .lst (ws.map D.str)] = .ok (.bl (wayB p k s z ws)) := fun ws => by
    obtain ⟨b, e1, e2⟩ := lway_ok P (k := k) (s := s) (ws := ws) z
    rw [e1, wayB_of e2]
  have lw0 : m_law_is_way [p.d, .str k, .str s, .str z, .lst []] = .ok (.bl (wayB p k s z [])) := lw []
  have mk0 : D.mkLst [] = .ok (.lst []) := rfl
  have lm := lmade_okD P
  have vi := vital_ok P S hk hs' hz ne
  have i3 : D.items (tupD Rd.d p.ro) = .ok (p.ro.map Rd.d) := rfl
  cases hw : wayB p k s z [] with
  | false =>
    rw [hw] at lw0
    have vi : m_vital_roads [p.ch.d, .str k, .str s, .str z] = .ok none := by rw [vi, hw]; rfl
    have n0 : D.notN .non .non = .ok false := rfl
    have rd1 : (Sl.ol none).rd = .ok .non := rfl
    have od : olD none = .non := rfl
    obtain ⟨t, et'⟩ := rep_non
    have q : D.ne (.str t) (.str t) = .ok false := by rw [ne_ss, decide_eq_true rfl]; rfl
    have q2 : D.eq .non .non = .ok true := rfl
    simp -implicitDefEqProofs only [B1, B2, C2, A0, A1, mIf, okb, et, u3, mk0, lw0, tru_b, Bool.false_eq_true, if_false, lm, vi, rd1, f1_1, et', q, n0, od, q2, bD_ok]
  | true =>
    rw [hw] at lw0
    rw [hw, if_pos rfl, ← vital_eq P hw] at vi
    have c : compL (fElt (fun road_here_2 => (mNot (B1 D.tru (B1 m_law_is_way (A1 (.ok p.d) (A1 (.ok (.str k)) (A1 (.ok (.str s)) (A1 (.ok (.str z)) (A1 (B1 D.mkLst (A1 (B2 D.ix (.ok road_here_2) (.ok (.int 0))) A0)) A0))))))))) (fun road_here_2 => (B2 D.ix (.ok road_here_2) (.ok (.int 0))))) (p.ro.map Rd.d) = .ok ((p.ro.filter fun r => !wayB p k s z [r.nm]).map nmd) :=
      compL_filterA (by have := P.ro1; omega) (fun r _ => by
        have w1 : m_law_is_way [p.d, .str k, .str s, .str z, .lst [.str r.nm]] = .ok (.bl (wayB p k s z [r.nm])) := lw [r.nm]
        have mk1 : D.mkLst [.str r.nm] = .ok (.lst [.str r.nm]) := rfl
        simp -implicitDefEqProofs only [B1, B2, A0, A1, mNot, okb, r0, mk1, w1, tru_b]) fun r _ _ => by
        simp -implicitDefEqProofs only [B2, okb, r0]
    have lf : (p.ro.filter fun r => !wayB p k s z [r.nm]).length ≤ 60 := Nat.le_trans (List.length_filter_le _ _) P.ro1
    have rokn : ∀ q ∈ (p.ro.filter fun r => !wayB p k s z [r.nm]).map (·.nm), Nm q := fun q hq => by
      obtain ⟨r, hr, rfl⟩ := List.mem_map.mp hq
      exact (P.rok r (List.mem_filter.mp hr).1).nm
    have em : (p.ro.filter fun r => !wayB p k s z [r.nm]).map nmd = ((p.ro.filter fun r => !wayB p k s z [r.nm]).map (·.nm)).map D.str := by rw [List.map_map]; rfl
    rw [em] at c vi
    have lR : ((p.ro.filter fun r => !wayB p k s z [r.nm]).map (·.nm)).length ≤ 60 := by rw [List.length_map]; exact lf
    generalize ((p.ro.filter fun r => !wayB p k s z [r.nm]).map (·.nm)) = R at c vi rokn lR
    obtain ⟨t, et'⟩ := rep_names (by omega) rokn
    have q : D.ne (.str t) (.str t) = .ok false := by rw [ne_ss, decide_eq_true rfl]; rfl
    have q2 : D.eq (.lst (R.map D.str)) (.lst (R.map D.str)) = .ok true := by
      have e := ((en_lst (n := 0) en_str).le (m := 15) (by omega)).eq R R
      rw [decide_eq_true rfl] at e
      exact e
    have rd1 : (Sl.ol (some (R.map D.str))).rd = .ok (.lst (R.map D.str)) := rfl
    have od : olD (some (R.map D.str)) = .lst (R.map D.str) := rfl
    have n1 : D.notN (.lst (R.map D.str)) .non = .ok true := rfl
    have ps : (Sl.ol (some (R.map D.str))).push (.ok (.str "x")) = .ok (.own (R.map D.str ++ [.str "x"])) := by
      show ((.ok (.str "x") : M D) >>= fun d => need (decide ((R.map D.str).length < sizeLine)) >>= fun _ => (.ok (.own (R.map D.str ++ [d])) : M Sl)) = _
      rw [okb, need_p (by rw [PySem.sizeLine_eq, List.length_map]; omega)]
      rfl
    generalize R.map D.str = RR at *
    simp -implicitDefEqProofs only [B1, B2, C2, A0, A1, L1, mIf, okb, et, u3, mk0, lw0, tru_b, if_true, p3, i3, lm, vi, rd1, f1_1, et', q, Bool.false_eq_true, if_false, n1, ps, od, q2, bD_ok] at c ⊢
    rw [c]
    simp -implicitDefEqProofs only [B1, B2, C2, A0, A1, L1, mIf, okb, lm, vi, rd1, f1_1, et', q, Bool.false_eq_true, if_false, if_true, n1, ps, od, q2, bD_ok]
theorem law_true (l : List Int) (h : l.length ≤ 63) : m_law [.scr l] = .ok (.bl true) := by
  obtain ⟨ns, en, ln, hs⟩ := numbers_ok l h 160 (by omega) (by omega)
  have ln : ns.length = 160 := by rw [ln]; rfl
  obtain ⟨p, ep, P, S, hro1, hro8, hpl2, hpl5, hki, _, _, _, hhd⟩ := dparts_drawnH hs (by omega)
  have i110 := num_ix (ns := ns) (i := 110) (j := 110) rfl (by omega)
  have m8 : D.mod (.int (ns.getD 110 0)) (.int 8) = .ok (.int (ns.getD 110 0 % 8)) := mod_ok (by omega)
  rw [e_law]
  unfold g_law
  by_cases c : ns.getD 110 0 % 8 = 1
  · -- four more roads
    have c' : D.eq (.int (ns.getD 110 0 % 8)) (.int 1) = .ok true := by rw [eq_ii, decide_eq_true c]
    have it3 : D.items (tupD Rd.d p.ro) = .ok (p.ro.map Rd.d) := rfl
    have c1 : compL (fElt noT (fun road_here_1 => (B2 D.ix (.ok road_here_1) (.ok (.int 0))))) (p.ro.map Rd.d) = .ok ((p.ro.map (·.nm)).map D.str) := by
      rw [List.map_map]
      exact compL_mapA (by omega) fun r _ => by
        simp -implicitDefEqProofs only [B2, okb, r0]
        rfl
    have mk5 : D.mkLst [.str "m1", .str "m2", .str "m3", .str "m4", .str "m5"] = .ok (.lst ([("m1" : Str), "m2", "m3", "m4", "m5"].map D.str)) := rfl
    have it5 : D.items (.lst ([("m1" : Str), "m2", "m3", "m4", "m5"].map D.str)) = .ok ([("m1" : Str), "m2", "m3", "m4", "m5"].map D.str) := rfl
    have c2 : compL (fElt (fun name_1 => (B2 D.nmem (.ok name_1) (.ok (.lst ((p.ro.map (·.nm)).map D.str))))) (fun name_1 => (.ok name_1))) ([("m1" : Str), "m2", "m3", "m4", "m5"].map D.str) = .ok (([("m1" : Str), "m2", "m3", "m4", "m5"].filter fun x => !decide (x ∈ p.ro.map (·.nm))).map D.str) :=
      compL_filterA (by decide) (fun x _ => by simp -implicitDefEqProofs only [B2, okb]; exact e_s.nmem x (p.ro.map fun r : Rd => r.nm)) fun _ _ _ => rfl
    have few := few_filter (F := [("m1" : Str), "m2", "m3", "m4", "m5"]) (N := p.ro.map (·.nm)) (by decide) (fun x hx y hy hxn hyn => by
      obtain ⟨a, ha, rfl⟩ := List.mem_map.mp hxn
      obtain ⟨b, hb, rfl⟩ := List.mem_map.mp hyn
      have hd : ∀ x ∈ [("m1" : Str), "m2", "m3", "m4", "m5"], (tl x).head? = some 109 := by decide +kernel
      exact hhd a ha b hb (by rw [hd _ hx, hd _ hy]))
    have fN0 : ([("m1" : Str), "m2", "m3", "m4", "m5"].all fun x => isNm x.cps.toList) = true := by decide +kernel
    have fN : ∀ x ∈ [("m1" : Str), "m2", "m3", "m4", "m5"], Nm x := fun x hx => List.all_eq_true.mp fN0 x hx
    have fnd : ([("m1" : Str), "m2", "m3", "m4", "m5"].filter fun x => !decide (x ∈ p.ro.map (·.nm))).Nodup := List.Pairwise.filter _ (by decide)
    have fmem : ∀ x ∈ ([("m1" : Str), "m2", "m3", "m4", "m5"].filter fun x => !decide (x ∈ p.ro.map (·.nm))), Nm x ∧ ¬ x ∈ p.ro.map (·.nm) := fun x hx => by
      obtain ⟨h1, h2⟩ := List.mem_filter.mp hx
      exact ⟨fN x h1, by simpa using h2⟩
    generalize ([("m1" : Str), "m2", "m3", "m4", "m5"].filter fun x => !decide (x ∈ p.ro.map (·.nm))) = fr at c2 few fnd fmem
    have few : 4 ≤ fr.length := by
      have : ([("m1" : Str), "m2", "m3", "m4", "m5"]).length = 5 := rfl
      omega
    have rk : ∀ j : Nat, ∃ r : Rd, j < 4 → m_law_road [.lst (nums ns), .int ((112 + 10 * j : Nat) : Int), .str (fr.getD j "m1"), .int p.day, tupD D.str p.ki, tupD D.str p.pl] = .ok r.d ∧ r.nm = fr.getD j "m1" ∧ r.ks.Sublist p.ki ∧ RdOk ⟨p.day, p.pl, p.ki, [], []⟩ r := fun j => by
      by_cases hj : j < 4
      · have hx : fr.getD j "m1" ∈ fr := by
          rw [List.getD_eq_getElem?_getD, List.getElem?_eq_getElem (by omega)]
          exact List.getElem_mem _
        obtain ⟨r, f1, f2, _, f5, f3⟩ := road_drawnD hs (day := p.day) P.day1 (a := 112 + 10 * j) (by omega) (ki := p.ki) (pl := p.pl) P.ki1 P.kin (by omega) P.pl1 (fmem _ hx).1
        exact ⟨r, fun _ => ⟨f1, f2, f5, f3⟩⟩
      · exact ⟨⟨"", "", "", 0, [], none⟩, fun h => absurd h hj⟩
    obtain ⟨R, hR⟩ := Classical.axiomOfChoice rk
    have rg : D.range1 [.int 4] = .ok ((List.range 4).map fun j : Nat => D.int (0 + (j : Int))) := rfl
    have q0 : D.ix (.lst p.dl) (.int 0) = .ok (.int p.day) := ix_nat (n := 0) rfl rfl
    have q1 : D.ix (.lst p.dl) (.int 1) = .ok (tupD D.str p.ki) := ix_nat (n := 1) rfl rfl
    have q2 : D.ix (.lst p.dl) (.int 2) = .ok (tupD D.str p.pl) := ix_nat (n := 2) rfl rfl
    have q3 : D.ix (.lst p.dl) (.int 3) = .ok (tupD Rd.d p.ro) := ix_nat (n := 3) rfl rfl
    have c3 : compL (fElt noT (fun k_1 => (B1 m_law_road (A1 (.ok (.lst (nums ns))) (A1 (B2 D.add (.ok (.int 112)) (B2 D.mul (.ok (.int 10)) (.ok k_1))) (A1 (B2 D.ix (.ok (.lst (fr.map D.str))) (.ok k_1)) (A1 (B2 D.ix (.ok (.lst p.dl)) (.ok (.int 0))) (A1 (B2 D.ix (.ok (.lst p.dl)) (.ok (.int 1))) (A1 (B2 D.ix (.ok (.lst p.dl)) (.ok (.int 2))) A0))))))))) ((List.range 4).map fun j : Nat => D.int (0 + (j : Int))) = .ok (((List.range 4).map R).map Rd.d) := by
      rw [List.map_map]
      refine compL_mapA (by decide) fun j hj => ?_
      rw [List.mem_range] at hj
      have mu : D.mul (.int 10) (.int (0 + (j : Int))) = .ok (.int (10 * (0 + (j : Int)))) := mul_okl (by omega) (by omega)
      have ix : D.ix (.lst (fr.map D.str)) (.int (0 + (j : Int))) = .ok (.str (fr.getD j "m1")) := ix_nat (n := j) (by rw [List.getElem?_map, List.getD_eq_getElem?_getD, List.getElem?_eq_getElem (by omega)]; rfl) (by omega)
      have e := (hR j hj).1
      have ea : ((112 + 10 * j : Nat) : Int) = 112 + 10 * (0 + (j : Int)) := by omega
      rw [ea] at e
      simp -implicitDefEqProofs only [B1, B2, A0, A1, okb, mu, add_ii, ix, q0, q1, q2, e]
      rfl
    have enm : ((List.range 4).map R).map (·.nm) = (List.range 4).map fun j => fr.getD j "m1" := by
      rw [List.map_map]
      refine List.map_congr_left fun j hj => ?_
      rw [List.mem_range] at hj
      exact (hR j hj).2.1
    have enr : ((List.range 4).map R).map (·.nm) = fr.take 4 := by
      rw [enm]
      refine List.ext_getElem (by simp; omega) fun i h1 h2 => ?_
      rw [List.length_map, List.length_range] at h1
      rw [List.getElem_map, List.getElem_range, List.getElem_take, List.getD_eq_getElem?_getD, List.getElem?_eq_getElem (by omega)]
      rfl
    have esp : ∀ r ∈ (List.range 4).map R, r.ks.Sublist p.ki ∧ RdOk ⟨p.day, p.pl, p.ki, [], []⟩ r ∧ r.nm ∈ fr := fun r hr => by
      have hn : r.nm ∈ fr := by
        have : r.nm ∈ ((List.range 4).map R).map (·.nm) := List.mem_map.mpr ⟨r, hr, rfl⟩
        rw [enr] at this
        exact List.mem_of_mem_take this
      obtain ⟨j, hj, rfl⟩ := List.mem_map.mp hr
      rw [List.mem_range] at hj
      exact ⟨(hR j hj).2.2.1, (hR j hj).2.2.2, hn⟩
    have le4 : ((List.range 4).map R).length = 4 := rfl
    generalize (List.range 4).map R = es at c3 enr esp le4
    have ndx : ((p.ro ++ es).map (·.nm)).Nodup := by
      rw [List.map_append, enr]
      refine List.nodup_append.mpr ⟨P.ron, (List.take_sublist _ _).nodup fnd, fun a ha b hb e => ?_⟩
      subst e
      exact (fmem a (List.mem_of_mem_take hb)).2 ha
    have so := sorted2_ok ndx
    have pm := sortR_perm (p.ro ++ es)
    have t3 : D.toTup (.lst ((sortR (p.ro ++ es)).map Rd.d)) = .ok (tupD Rd.d (sortR (p.ro ++ es))) := rfl
    have tl3 : D.toList (tupD Rd.d p.ro) = .ok (.lst (p.ro.map Rd.d)) := rfl
    have ad : D.add (.lst (p.ro.map Rd.d)) (.lst (es.map Rd.d)) = .ok (.lst ((p.ro ++ es).map Rd.d)) := by
      rw [add_ll, need_p (by rw [PySem.sizeLine_eq, List.length_map, List.length_map]; omega), okb, List.map_append]
    have st : setIx p.dl (.int 3) (tupD Rd.d (sortR (p.ro ++ es))) = .ok (Pt.dl ⟨p.day, p.ki, p.pl, sortR (p.ro ++ es), p.ba⟩) := rfl
    have P' : (⟨p.day, p.ki, p.pl, sortR (p.ro ++ es), p.ba⟩ : Pt).ok := {
      day1 := P.day1, day2 := P.day2, pl1 := P.pl1, pln := P.pln, plN := P.plN, ki0 := P.ki0, ki1 := P.ki1, kin := P.kin, kiN := P.kiN
      ro1 := by
        show (sortR (p.ro ++ es)).length ≤ 60
        rw [pm.length_eq, List.length_append]
        omega
      ron := ((pm.map (·.nm)).nodup_iff).mpr ndx
      rok := fun r hr => by
        rcases List.mem_append.mp (pm.mem_iff.mp hr) with hr | hr
        · exact rdok_of (P.rok r hr) rfl rfl rfl
        · exact rdok_of (esp r hr).2.1 rfl rfl rfl
      ba1 := P.ba1, ban := P.ban
      bak := fun b hb => by
        obtain ⟨r, hr, q, hq, h⟩ := P.bak b hb
        exact ⟨r, pm.mem_iff.mpr (List.mem_append.mpr (.inl hr)), q, pm.mem_iff.mpr (List.mem_append.mpr (.inl hq)), h⟩ }
    have S' : (⟨p.day, p.ki, p.pl, sortR (p.ro ++ es), p.ba⟩ : Pt).srt := srt_of ⟨S.S.spl, S.S.ski, sortR_pw _, S.S.sba, fun r hr => by
      rcases List.mem_append.mp (pm.mem_iff.mp hr) with hr | hr
      · exact S.S.snm r hr
      · have ks : p.ki.filter (fun k => decide (k ∈ r.ks)) = r.ks := sub_filter (esp r hr).1 P.kin
        unfold Rd.norm
        show (⟨r.nm, r.st, r.en, r.mi, p.ki.filter (fun k => decide (k ∈ r.ks)), r.hs⟩ : Rd) = r
        rw [ks]⟩
    have ta := law_tail hs (by omega) P' S' hpl2
    generalize (Pt.dl ⟨p.day, p.ki, p.pl, sortR (p.ro ++ es), p.ba⟩) = pd' at st ta
    generalize tupD Rd.d (sortR (p.ro ++ es)) = T3 at t3 st
    generalize (sortR (p.ro ++ es)).map Rd.d = T4 at so t3
    generalize (p.ro ++ es).map Rd.d = T5 at so ad
    generalize es.map Rd.d = T6 at c3 ad
    generalize fr.map D.str = T7 at c2 c3
    generalize (p.ro.map (·.nm)).map D.str = T8 at c1 c2
    generalize [("m1" : Str), "m2", "m3", "m4", "m5"].map D.str = T9 at mk5 it5 c2
    generalize ((List.range 4).map fun j : Nat => D.int (0 + (j : Int))) = T10 at rg c3
    generalize p.ro.map Rd.d = T11 at *
    generalize tupD Rd.d p.ro = T12 at *
    generalize p.dl = pd at *
    simp -implicitDefEqProofs only [B1, B2, A0, A1, L1, mIf, mSetI, okb, en, ep, i110, f1_1, toInt_i, m8, c', if_true, q3, it3] at c1 c2 c3 ta ⊢
    rw [c1]
    simp -implicitDefEqProofs only [okb, mk5, it5]
    rw [c2]
    simp -implicitDefEqProofs only [okb, rg]
    rw [c3]
    simp -implicitDefEqProofs only [okb, tl3, ad, f1_1, so, t3, st]
    exact ta
  · have c' : D.eq (.int (ns.getD 110 0 % 8)) (.int 1) = .ok false := by rw [eq_ii, decide_eq_false c]
    have ta := law_tail hs (by omega) P S hpl2
    generalize p.dl = pd at *
    simp -implicitDefEqProofs only [B1, B2, A0, A1, L1, mIf, okb, en, ep, i110, f1_1, toInt_i, m8, c', Bool.false_eq_true, if_false] at ta ⊢
    exact ta
end LawMath

set_option Elab.async false
set_option linter.all false
set_option maxRecDepth 100000
set_option maxHeartbeats 0
namespace LawHead
open PySem PySem.Spec PyProof.Rows L2
theorem facts {P : Program} {w : World} {K : PySem.W.Frag} {h : Heap} {mg : Str → Option Value} {f : Addr} (X : K.In h) (G : h.Ns mainGlobals mg) (hfa : mg ("law" : Str) = some (.ref f)) (c : DL.SaysG LawWalk.fa LawWalk.fn LawWalk.gt LawWalk.exW K) :
    ∃ fd : FuncData, (∀ (s : Shared) (v : Value), BindsTo s fd ⟨[v], []⟩ [("_law_script", v)]) ∧ ∀ base : Heap, K.In base → base.Ns mainGlobals mg → DL.FnG P w K mg base (DL.CXA P) 7 f fd ["_law_script"] (DL.spD K [true] LawWalk.m_law) := by
  have L : LawWalk.Lw K mg := ⟨⟨h, X, G⟩, c⟩
  obtain ⟨fd, F⟩ := L.c.def_ 30 (d := LawWalk.d_law) rfl
  have e := hfa.symm.trans (L.glo LawWalk.fa_60)
  cases e
  have b := FunD.bindsA (ps := ["_law_script"]) F fun _ _ _ _ _ _ us hl => match us, hl with | [_], _ => rfl
  exact ⟨fd, fun s v => b s [v] rfl, fun base _ _ => DL.fn_anyG (LawWalk.ok_law L F)⟩
end LawHead
open PySem PySem.W PySem.Calls PyProof.Rows
theorem PySem.Challenge.cw_waypapers_k34_vital_roads_holds : PySem.Challenge.rw_waypapers_k34_vital_roads.Holds := by
  w_on; o_law
  refine HandSHeadRun.head_any (r := OpenLaw.row PySem.Challenge.rw_waypapers_k34_vital_roads) (q := view (OpenLaw.row PySem.Challenge.rw_waypapers_k34_vital_roads).prog [43]) (H := LawHead.hk) (ob := LawHead.ob) (M := 20000) (loose := LawHead.loose) (d := HandSHeadRun.topDef (OpenLaw.row PySem.Challenge.rw_waypapers_k34_vital_roads).prog 43) (kwd := []) LawHead.ob_eq
    (by kernel_rfl) (fun s => by kernel_rfl) LawHead.run (by kernel_rfl) (by kernel_rfl) (by kernel_rfl) (by rfl) (by first | assumption | decide +kernel) (by decide +kernel) ⟨rfl, rfl, rfl, rfl, rfl, by decide +kernel⟩ ?hw ?hc
  case hw => w_witness2
  case hc =>
    refine DL.walk_ofG (lw := PySem.Challenge.rw_waypapers_k34_vital_roads) (n := 63) (k := 7) (x := "_law_script") (CX := DL.CXA (PySem.Challenge.rw_waypapers_k34_vital_roads).prog) rfl (by decide) (by kernel_rfl) ⟨rfl, by decide, by decide⟩ ?F (fun _ _ _ _ z => z.no)
    intro w mg fa h Y G hmg0
    obtain ⟨K, KX, c⟩ := Y
    have hmg : mg ("law" : PySem.Str) = some (.ref fa) := by
      have e : (HandSHeadRun.topDef (OpenLaw.row PySem.Challenge.rw_waypapers_k34_vital_roads).prog 43).name = ("law" : PySem.Str) := by kernel_rfl
      rw [← e]
      exact hmg0
    obtain ⟨fd, hb, hF⟩ := LawHead.facts (P := (PySem.Challenge.rw_waypapers_k34_vital_roads).prog) (w := w) KX G hmg c
    exact ⟨K, fd, DL.spD K [true] LawWalk.m_law, KX, hb, fun H a ns hl _ hS => ⟨H, [.scr ns], L2.Same.refl H, .bor (.of (.scr hS)) .nil, by
      rw [LawMath.law_true ns hl]
      exact fun F' H' v _ r => by cases r; rfl⟩, hF⟩

