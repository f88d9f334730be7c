import PyProof.Rows.All
import Wide.All
import OpenK.AllK
import Wide.FinOn
import HandS.Base
import HandS.Call
import HandS.List
import HandS.Comp
import HandS.Ends
import HandS.Dict
import HandS.Iter
import HandS.Text
import HandS.More
import HandS.Flow
import HandS.Strs
import HandS.TupAny
import HandS.Exc
import HandS.Words
import HandS.WordsExc
import HandS.Defaults
import HandS.HeadHook1
import HandS.HeadHook2
import HandS.Deep
import HandS.FStr
import HandS.IsInst
import HandS.WordsDict
import HandS.Wide
import KE.KUnpack
import HandS.ExcOwn
import HandS.Property
import KE.GoesEnum
import HandS.Codes
import KE.SortData
import HandS.MakeKwOnly
import KE.SortKeyHeap
import HandS.SortKw
import KE.DataMinMax
import HandS.Style
import KE.DataFind
import KE.KExcSuper
import HandS.ExcInit
import HandS.ExcField
import HandS.ExcIs
import HandS.TryOnly
import HandS.TryMany
import KE.KExcIs
import HandS.Zip
import HandS.Rev
import HandS.Conv
import HandS.HeadEnd
import PyProof.ReprRoads
import HandS.SortOrd
import PyProof.Rows.SortKeyStr
import HandS.DictComp
import PyProof.SliceList
import HandS.Star
import HandS.ReplaceLit
import HandS.HeadHook3
import KE.KUnpackStar
import KE.GoesMore
import KE.KStateDown
import Lean
import HandS.Head0
import HandS.Head1
import HandS.Head2
import PySem.Challenge.RW_waypapers_k54_words_of_a_session
set_option Elab.async false
set_option linter.all false
set_option maxRecDepth 100000
set_option maxHeartbeats 2000000
namespace L2
open PySem PySem.Spec
theorem SqT.sqT {K : PySem.W.Frag} {H : Hp} {a : Addr} {xs : List V} (h : SqT K H a xs) : SqT K H a xs := h
end L2
namespace DL
open PySem PySem.Spec L2 PyProof.Rows
def PlT (K : PySem.W.Frag) (H : Hp) (a : Addr) (xs : List V) : Prop := (∃ o, H a = some (.frz o (.tup xs)) ∧ o.cls = .type "tuple" ∧ o.dict = none) ∨
  ∃ (o : Obj) (its : Array Value) (n : Nat), K.lookup a = some o ∧ o.cls = .type "tuple" ∧ o.dict = none ∧ o.data = .seq its n ∧ its.size ≤ sizeLine ∧ Vals xs its.toList
theorem PlT.sqT {K : PySem.W.Frag} {H : Hp} {a : Addr} {xs : List V} (h : PlT K H a xs) : SqT K H a xs := by
  rcases h with ⟨o, e, _⟩ | ⟨o, its, n, h1, h2, _, h3, h4, h5⟩
  · exact .inl (.inr ⟨o, e⟩)
  · exact .inr ⟨o, its, n, h1, h2, h3, h4, h5⟩
theorem PlT.mono {K : PySem.W.Frag} {H H' : Hp} {a : Addr} {xs : List V} (k : ∀ b u, H b = some u → H' b = some u) (h : PlT K H a xs) : PlT K H' a xs := by
  rcases h with ⟨o, e, c⟩ | h
  · exact .inl ⟨o, k _ _ e, c⟩
  · exact .inr h
abbrev NewT (H : Hp) (xs : List V) (Q : VK) : Prop := ∀ p o, H p = none → o.cls = .type "tuple" → o.dict = none → Q (.ref p) (upd H p (.frz o (.tup xs)))
theorem plT_new {K : PySem.W.Frag} {H : Hp} {p : Addr} {o : Obj} {xs : List V} (c : o.cls = .type "tuple") (d : o.dict = none) : PlT K (upd H p (.frz o (.tup xs))) p xs := .inl ⟨o, upd_same, c, d⟩
section
variable {X : Cx} {e : Expr} {es : List Expr} {te : TE} {t : TA} {pos : Pos}
def tTupP (t : TA) : TE := fun σ H Q => t σ H fun xs H1 => xs.length ≤ sizeLine ∧ NewT H1 xs Q
theorem pe_tupP {x1} (h : PA X es t) : PE X (.Tuple es x1 pos) (tTupP t) := by
  refine ⟨fun pins s σ H Q I hq => ?_⟩
  refine wpAny_Tuple_spliced (thn (h.run pos pins s σ H _ I hq) fun us s1 ⟨xs, H1, I1, r, z, q⟩ => ⟨by rw [← r.length]; exact z, ?_⟩)
  have hf : H1 s1.heap.objs.size = none := I1.hok.fresh (Nat.le_refl _)
  exact ⟨.ref s1.heap.objs.size, upd H1 s1.heap.objs.size (.frz { cls := .type "tuple", data := .seq us.toArray } (.tup xs)), I1.laid (t' := s1.toks) (fun b u e => Heap.get?_push_of_some _ e) (Nat.le_refl _) ⟨Heap.get?_push_size _ rfl, z, us, r, ⟨_, Heap.get?_push_size _ rfl, rfl, _, rfl⟩⟩, rfl, q _ _ hf rfl rfl⟩
def rCatP (K : PySem.W.Frag) : R2 := fun x y H Q => ∃ a b xs ys, x = .ref a ∧ y = .ref b ∧ SqT K H a xs ∧ SqT K H b ys ∧ xs.length + ys.length ≤ sizeLine ∧
  (xs = [] → Q (.ref b) H) ∧ (xs ≠ [] → ys = [] → Q (.ref a) H) ∧ (xs ≠ [] → ys ≠ [] → NewT H (xs ++ ys) Q)
theorem op_catP : OpR X (binaryOp .Add) (rCatP X.K) := by
  intro pins s σ H x y v u Q I rx ry h
  obtain ⟨a, b, xs, ys, rfl, rfl, ha, hb, hz, q0, q1, q2⟩ := h
  cases rx
  cases ry
  obtain ⟨its, r1, p1, _⟩ := I.tuple ha
  obtain ⟨its2, r2, p2, _⟩ := I.tuple hb
  by_cases hx : xs = []
  · subst hx
    cases r1
    exact cat_tup0 p1 p2 ⟨.ref b, H, I, rfl, q0 rfl⟩
  · refine HT.cat_tup p1 p2 (fun z => hx (r1.nil_iff.mp z)) (fun z => ⟨.ref a, H, I, rfl, q1 hx (r2.nil_iff.mp z)⟩) (fun z => ?_) (by rw [← r1.length, ← r2.length]; exact hz)
    refine ⟨.ref s.heap.objs.size, _, I.laid (t' := s.toks) (o := .frz _ (.tup (xs ++ ys))) (fun b ob q => Heap.get?_push_of_some _ q) (Nat.le_refl _) ⟨Heap.get?_push_size _ rfl, by rw [List.length_append]; exact hz, _, r1.append r2, IsTup.new _ _⟩, rfl, q2 hx (fun w => z (r2.nil_iff.mpr w)) _ _ (I.hok.fresh (Nat.le_refl _)) rfl rfl⟩
def rSlP (K : PySem.W.Frag) : V → Option Int → Option Int → Hp → VK → Prop := fun x lo hi H Q => ∃ a xs, x = .ref a ∧ SqT K H a xs ∧
  (HT.sIx xs.length 0 lo = 0 ∧ HT.sIx xs.length xs.length hi = xs.length → Q (.ref a) H) ∧ (¬ (HT.sIx xs.length 0 lo = 0 ∧ HT.sIx xs.length xs.length hi = xs.length) → NewT H (cutV xs lo hi) Q)
theorem sl_tupP : SlR X (rSlP X.K) := by
  intro pins s σ H x v vl vu lo hi sl Q I rx hs pl pu h
  obtain ⟨a, xs, rfl, hx, q1, q2⟩ := h
  cases rx
  obtain ⟨its, r, ht, hz⟩ := I.tuple hx
  have hlen : its.toArray.size = xs.length := by rw [List.size_toArray]; exact r.length.symm
  by_cases hw : HT.sIx xs.length 0 lo = 0 ∧ HT.sIx xs.length xs.length hi = xs.length
  · refine ⟨"tuple", _, PyProof.Rows.slot_tuple_getitem.lookup, ht.typeIs, ?_⟩
    exact getItem_tuple_whole ht hs pl pu (by rw [hlen]; exact hw) ⟨.ref a, H, I, rfl, q1 hw⟩
  · refine ⟨"tuple", _, PyProof.Rows.slot_tuple_getitem.lookup, ht.typeIs, ?_⟩
    refine HT.getItem_tuple_cut ht hs pl pu (by rw [hlen]; exact hw) ?_ (by rw [hlen]; exact hz)
    rw [hlen]
    refine ⟨.ref s.heap.objs.size, _, I.laid (t' := s.toks) (o := .frz _ (.tup (cutV xs lo hi))) (fun b ob q => Heap.get?_push_of_some _ q) (Nat.le_refl _) ⟨Heap.get?_push_size _ rfl, Nat.le_trans (cutV_length xs lo hi) hz, _, (r.drop (HT.sIx xs.length 0 lo)).take (HT.sIx xs.length xs.length hi - HT.sIx xs.length 0 lo), IsTup.new _ _⟩, rfl, q2 hw _ _ (I.hok.fresh (Nat.le_refl _)) rfl rfl⟩
theorem plT_is {X : Cx} {pins : List (Addr × Obj)} {σ : L2.St} {H : Hp} {s : Shared} {p : Addr} {xs : List V} (I : Inv X pins σ H s) (h : PlT X.K H p xs) :
    s.TypeIs (.ref p) "tuple" ∧ ∀ a, (Value.ref p) = .ref a → ∃ ob, s.heap.get? a = some ob ∧ ob.dict = none := by
  rcases h with ⟨o, e, c, d⟩ | ⟨o, its, n, e, c, d, _⟩
  · obtain ⟨g, _⟩ := I.hok p _ e
    refine ⟨⟨o, g, c⟩, fun a z => ?_⟩
    cases z
    exact ⟨o, g, d⟩
  · have g := I.kIn p o e
    refine ⟨⟨o, g, c⟩, fun a z => ?_⟩
    cases z
    exact ⟨o, g, d⟩
def tBMP (K : PySem.W.Frag) (r : V → List V → Hp → VK → Prop) (to : TE) (t : TA) : TE := fun σ H Q => to σ H fun x H1 => (∃ p xs, x = .ref p ∧ PlT K H1 p xs) ∧ t σ H1 fun xs H2 => r x xs H2 Q
variable {o : Expr} {to : TE} {name : Str} {apos cpos : Pos} {id : String} {r : V → List V → Hp → VK → Prop}
theorem pe_bmP (pa : PlainAttrs "tuple") (slot : Slot "tuple" name id) (hty : typeOf (.builtin id) = pure (.type "method_descriptor")) (hm : MtR X id r) (ho : PE X o to) (ha : PA X (e :: es) t)
    (hbase : attributeBase o name X.env (eval o X.env) = eval o X.env := by rfl)
    (hfew : ((backTo cpos (starEach (e :: es) X.env)).all (fun x => !x.1) && (backToKw cpos (keywordEach [] X.env)).all (fun x => x.1.isSome)
      && decide ((e :: es).length + ([] : List Keyword).length + (if ([] : List Keyword).isEmpty then 0 else 1) < 30)) = true := by rfl)
    (hline : (apos.endLine == cpos.line) = true := by rfl) (hs : starEach (e :: es) X.env = (false, eval e X.env) :: starEach es X.env := by rfl) (hplain : (backTo cpos (starEach es X.env)).any (·.1) = false := by rfl) :
    PE X (.Call (.Attribute o name apos) (e :: es) [] cpos) (tBMP X.K r to t) := by
  refine ⟨fun pins s σ H Q I h => ?_⟩
  refine wpAny_Call_method_late hbase hfew hline rfl (thn (ho.run pins s σ H _ I h) fun v s1 ⟨x, H1, I1, r1, ty, q1⟩ => ?_)
  obtain ⟨p, xs, rfl, hp⟩ := ty
  cases r1
  obtain ⟨h1, h2⟩ := plT_is I1 hp
  refine ⟨"tuple", id, pa, slot, hty, h1, h2, ?_⟩
  have hA := ha.run cpos pins s1 σ H1 _ I1 q1
  rw [hs] at hA ⊢
  refine Calls.callWith_builtin (by show (false || (backTo cpos (starEach es X.env)).any (·.1)) = false; rw [hplain] <;> rfl) (Calls.evalArgs_plain ?_)
  exact thn hA fun us s2 ⟨vs, H2, I2, r2, q2⟩ => hm pins s2 σ H2 (.ref p) vs (.ref p) us Q I2 rfl r2 q2
end
end DL

set_option Elab.async false
set_option linter.all false
set_option maxRecDepth 100000
set_option maxHeartbeats 400000
namespace DL
open PySem PySem.Spec L2 PyProof.Rows
abbrev prO (u v : Value) : Obj := { cls := .type "tuple", data := .seq #[u, v] }
theorem pair_ok {P : Program} {w : World} {H : Hp} {h : Heap} {a : Addr} {u v : Value} {x y : V} (e : h.get? a = some (prO u v)) (r : RelV x u) (q : RelV y v) : ObjOk P w H h a (.frz (prO u v) (.tup [x, y])) :=
  ⟨e, by show 2 ≤ sizeLine; decide, [u, v], .cons r (.cons q .nil), ⟨_, e, rfl, _, rfl⟩⟩
theorem in5 {c z TI TO i1 i2 : Addr} (h : c ∈ [z, TI, TO, i1, i2]) : c = z ∨ c = TI ∨ c = TO ∨ c = i1 ∨ c = i2 := by simpa using h
theorem out5 {c z TI TO i1 i2 : Addr} (h : c ∉ [z, TI, TO, i1, i2]) : c ≠ z ∧ c ≠ TI ∧ c ≠ TO ∧ c ≠ i1 ∧ c ≠ i2 := by simpa using h
end DL

set_option Elab.async false
set_option linter.all false
set_option maxRecDepth 100000
set_option maxHeartbeats 4000000
namespace DL
open PySem PySem.Spec L2

inductive D where
  | non | bl (b : Bool) | int (i : Int) | str (x : Str)
  | tup (l : List D) | lst (l : List D)
  /-- a dict with int and text keys; one with tuples of these -/
  | dct (l : List (D × D)) | dcu (l : List (D × D))
  | ins (c : String) (l : List (String × D))
  /-- the script -/
  | scr (l : List Int)
  /-- a dict that an object owns (a field's value), an object with such fields -/
  | ow (l : List (D × D))
  | obt (c : String) (l : List (String × D))
  deriving Inhabited

structure Ex where
  cls : String
  args : List (String × D)
inductive Er where
  | stuck
  | exc (x : Ex)
abbrev M := Except Er
abbrev stuck {α : Type} : M α := .error .stuck
def need (b : Bool) : M Unit := if b then .ok () else stuck

def kD : Key → D
  | .inl i => .int i
  | .inr x => .str x

section
variable (K : PySem.W.Frag)
mutual
inductive Rp (F : Hp) : V → D → Prop
  | non : Rp F .non .non
  | bl (b : Bool) : Rp F (.bl b) (.bl b)
  | int (i : Int) : Rp F (.int i) (.int i)
  | str (x : Str) : PyData.strOk x = true → Rp F (.str x) (.str x)
  | tup {a : Addr} {xs : List V} {ds : List D} : PlT K F a xs → RpL F xs ds → Rp F (.ref a) (.tup ds)
  | lst {a : Addr} {xs : List V} {ds : List D} : F a = some (.lst xs) → RpL F xs ds → Rp F (.ref a) (.lst ds)
  | scr {a : Addr} {l : List Int} : SqL K F a (l.map V.int) → Rp F (.ref a) (.scr l)
  | dctK {a : Addr} {kvs : List (Key × V)} {l : List (D × D)} : Rd F a (.dK kvs) → kvs.map (fun q => kD q.1) = l.map (·.1) → RpL F (kvs.map (·.2)) (l.map (·.2)) → Rp F (.ref a) (.dct l)
  | dctT {a : Addr} {kvs : List (List Key × V)} {l : List (D × D)} : F a = some (.dT kvs) → kvs.map (fun q => D.tup (q.1.map kD)) = l.map (·.1) → RpL F (kvs.map (·.2)) (l.map (·.2)) → Rp F (.ref a) (.dcu l)
  | ins {a dx : Addr} {c : String} {fs : List (Str × V)} {l : List (String × D)} : F a = some (.ins (He.ga K (Str.ofString c)) dx fs) → fs.map (·.1) = l.map (fun q => Str.ofString q.1) → RpL F (fs.map (·.2)) (l.map (·.2)) → Rp F (.ref a) (.ins c l)
inductive RpL (F : Hp) : List V → List D → Prop
  | nil : RpL F [] []
  | cons {v : V} {vs : List V} {d : D} {ds : List D} : Rp F v d → RpL F vs ds → RpL F (v :: vs) (d :: ds)
end
end

section
variable {K : PySem.W.Frag} {F F' H H' : Hp}
theorem Same.seqT {H H' : Hp} {a : Addr} {xs : List V} (e : Same H H') (h : SqT K H a xs) : SqT K H' a xs := by
  rcases h with (h | ⟨o, h⟩) | h
  · exact .inl (.inl (e _ _ h))
  · exact .inl (.inr ⟨o, e _ _ h⟩)
  · exact .inr h
theorem rd_same {a : Addr} {u : HO} (e : Same F F') (h : Rd F a u) : Rd F' a u := by
  rcases h with h | ⟨o, h⟩
  · exact .inl (e _ _ h)
  · exact .inr ⟨o, e _ _ h⟩
mutual
theorem Rp.mono (e : Same F F') : ∀ {v : V} {d : D}, Rp K F v d → Rp K F' v d
  | _, _, .non => .non
  | _, _, .bl b => .bl b
  | _, _, .int i => .int i
  | _, _, .str x h => .str x h
  | _, _, .tup h hs => .tup (h.mono e) (RpL.mono e hs)
  | _, _, .lst h hs => .lst (e _ _ h) (RpL.mono e hs)
  | _, _, .scr h => .scr (e.seq h)
  | _, _, .dctK h h2 hs => .dctK (rd_same e h) h2 (RpL.mono e hs)
  | _, _, .dctT h h2 hs => .dctT (e _ _ h) h2 (RpL.mono e hs)
  | _, _, .ins h h2 hs => .ins (e _ _ h) h2 (RpL.mono e hs)
theorem RpL.mono (e : Same F F') : ∀ {v : List V} {d : List D}, RpL K F v d → RpL K F' v d
  | _, _, .nil => .nil
  | _, _, .cons h hs => .cons (Rp.mono e h) (RpL.mono e hs)
end
theorem RpL.length : ∀ {xs : List V} {ds : List D}, RpL K F xs ds → xs.length = ds.length
  | _, _, .nil => rfl
  | _, _, .cons _ h => congrArg Nat.succ h.length
theorem RpL.append : ∀ {xs ys : List V} {ds es : List D}, RpL K F xs ds → RpL K F ys es → RpL K F (xs ++ ys) (ds ++ es)
  | _, _, _, _, .nil, h => h
  | _, _, _, _, .cons h hs, h2 => .cons h (hs.append h2)
theorem RpL.one {v : V} {d : D} (h : Rp K F v d) : RpL K F [v] [d] := .cons h .nil
theorem RpL.get : ∀ {xs : List V} {ds : List D} {i : Nat} {d : D}, RpL K F xs ds → ds[i]? = some d → ∃ x, xs[i]? = some x ∧ Rp K F x d
  | _, _, _, _, .nil, e => by simp at e
  | _, _, 0, _, .cons h _, e => by
    simp at e
    subst e
    exact ⟨_, rfl, h⟩
  | _, _, i + 1, d, .cons _ hs, e => by
    obtain ⟨x, h1, h2⟩ := RpL.get (i := i) (d := d) hs (by simpa using e)
    exact ⟨x, by simpa using h1, h2⟩
theorem RpL.getV : ∀ {xs : List V} {ds : List D} {i : Nat} {x : V}, RpL K F xs ds → xs[i]? = some x → ∃ d, ds[i]? = some d ∧ Rp K F x d
  | _, _, _, _, .nil, e => by simp at e
  | _, _, 0, _, .cons h _, e => by
    simp at e
    subst e
    exact ⟨_, rfl, h⟩
  | _, _, i + 1, d, .cons _ hs, e => by
    obtain ⟨x, h1, h2⟩ := RpL.getV (i := i) (x := d) hs (by simpa using e)
    exact ⟨x, by simpa using h1, h2⟩
theorem RpL.take : ∀ {xs : List V} {ds : List D} (n : Nat), RpL K F xs ds → RpL K F (xs.take n) (ds.take n)
  | _, _, 0, _ => .nil
  | _, _, _ + 1, .nil => .nil
  | _, _, n + 1, .cons h hs => .cons h (hs.take n)
theorem RpL.drop : ∀ {xs : List V} {ds : List D} (n : Nat), RpL K F xs ds → RpL K F (xs.drop n) (ds.drop n)
  | _, _, 0, h => h
  | _, _, _ + 1, .nil => .nil
  | _, _, n + 1, .cons _ hs => RpL.drop n hs
theorem RpL.set {x : V} {d : D} (h : Rp K F x d) : ∀ {xs : List V} {ds : List D} (i : Nat), RpL K F xs ds → RpL K F (xs.set i x) (ds.set i d)
  | _, _, _, .nil => .nil
  | _, _, 0, .cons _ hs => .cons h hs
  | _, _, i + 1, .cons q hs => .cons q (RpL.set h i hs)
theorem RpL.reverse : ∀ {xs : List V} {ds : List D}, RpL K F xs ds → RpL K F xs.reverse ds.reverse
  | _, _, .nil => .nil
  | _, _, .cons h hs => by
    rw [List.reverse_cons, List.reverse_cons]
    exact (RpL.reverse hs).append (.one h)

structure Ext (F H F' H' : Hp) : Prop where
  sF : Same F F'
  sH : Same H H'
  sFH : Same F' H'
  old : ∀ a o, H a = some o → F' a = F a
theorem Ext.refl (h : Same F H) : Ext F H F H := ⟨Same.refl _, Same.refl _, h, fun _ _ _ => rfl⟩
theorem Ext.trans {F1 H1 F2 H2 : Hp} (a : Ext F H F1 H1) (b : Ext F1 H1 F2 H2) : Ext F H F2 H2 :=
  ⟨a.sF.trans b.sF, a.sH.trans b.sH, b.sFH, fun c o h => by rw [b.old c o (a.sH c o h), a.old c o h]⟩
theorem same_new {H : Hp} {p : Addr} {o : HO} (h : H p = none) : Same H (upd H p o) := fun b x e => by
  rw [upd_ne (ne_of_none e h)]
  exact e
theorem Ext.new {p : Addr} {o : HO} (s : Same F H) (h : H p = none) : Ext F H (upd F p o) (upd H p o) where
  sF := same_new (s.free h)
  sH := same_new h
  sFH := fun b x e => by
    by_cases hb : b = p
    · subst hb
      rw [upd_same] at e ⊢
      exact e
    · rw [upd_ne hb] at e ⊢
      exact s _ _ e
  old := fun a x e => upd_ne (ne_of_none e h)
theorem Ext.newH {p : Addr} {o : HO} (s : Same F H) (h : H p = none) : Ext F H F (upd H p o) where
  sF := Same.refl _
  sH := same_new h
  sFH := s.trans (same_new h)
  old := fun a x e => rfl

inductive Sl where
  | un
  | any
  | val (d : D)
  | own (l : List D)
  | ownd (l : List (D × D))
  | ownu (l : List (D × D))
  /-- an instance that is being made -/
  | obj (a : Addr) (c : String) (l : List (String × D))
  /-- lent: to be read, not to be kept -/
  | bor (d : D)
  /-- an object that has dicts of its own, lent -/
  | tre (a : Addr) (c : String) (l : List (String × D))
  /-- a caught exception: its object, its dict, its fields -/
  | exn (a : Addr) (d : Option Addr) (l : List (String × D))
def XAt (K : PySem.W.Frag) (F : Hp) (d : Option Addr) : List (String × D) → Prop
  | [] => d = none
  | [(f, e)] => ∃ a v, d = some a ∧ F a = some (.xd [(Str.ofString f, v)]) ∧ Rp K F v e
  | _ => False
theorem XAt.mono {d : Option Addr} (s : Same F F') : ∀ {l : List (String × D)}, XAt K F d l → XAt K F' d l
  | [], h => h
  | [(f, e)], h => by
    obtain ⟨a, v, h1, h2, h3⟩ := h
    exact ⟨a, v, h1, s _ _ h2, h3.mono s⟩
  | _ :: _ :: _, h => h.elim
def DctAt (K : PySem.W.Frag) (F : Hp) (o : Option HO) (l : List (D × D)) : Prop :=
  ∃ kvs : List (Key × V), o = some (.dK kvs) ∧ kvs.map (fun q => kD q.1) = l.map (·.1) ∧ RpL K F (kvs.map (·.2)) (l.map (·.2))
def DctR (K : PySem.W.Frag) (F H : Hp) (a : Addr) (l : List (D × D)) : Prop :=
  ∃ kvs : List (Key × V), Rd H a (.dK kvs) ∧ kvs.map (fun q => kD q.1) = l.map (·.1) ∧ RpL K F (kvs.map (·.2)) (l.map (·.2))
theorem DctAt.r {K : PySem.W.Frag} {F H : Hp} {a : Addr} {l : List (D × D)} (h : DctAt K F (H a) l) : DctR K F H a l := let ⟨kvs, h1, h2, h3⟩ := h; ⟨kvs, .inl h1, h2, h3⟩
inductive RpOL (K : PySem.W.Frag) (F B : Hp) : List V → List D → Prop
  | nil : RpOL K F B [] []
  | frz {v : V} {vs : List V} {d : D} {fv : List D} : Rp K F v d → RpOL K F B vs fv → RpOL K F B (v :: vs) (d :: fv)
  | dk {p : Addr} {vs : List V} {l : List (D × D)} {fv : List D} : DctR K F B p l → RpOL K F B vs fv → RpOL K F B (.ref p :: vs) (.ow l :: fv)
def DcuAt (K : PySem.W.Frag) (F : Hp) (o : Option HO) (l : List (D × D)) : Prop :=
  ∃ kvs : List (List Key × V), o = some (.dT kvs) ∧ kvs.map (fun q => D.tup (q.1.map kD)) = l.map (·.1) ∧ RpL K F (kvs.map (·.2)) (l.map (·.2))
inductive RpT (K : PySem.W.Frag) (F H : Hp) : V → D → Prop
  | of {v : V} {d : D} : Rp K F v d → RpT K F H v d
  | own {a : Addr} {xs : List V} {l : List D} : H a = some (.lst xs) → RpL K F xs l → RpT K F H (.ref a) (.lst l)
  | ownd {a : Addr} {l : List (D × D)} : DctR K F H a l → RpT K F H (.ref a) (.dct l)
  | ownu {a : Addr} {l : List (D × D)} : DcuAt K F (H a) l → RpT K F H (.ref a) (.dcu l)
  | obj {a dx : Addr} {c : String} {fs : List (Str × V)} {l : List (String × D)} : H a = some (.ins (He.ga K (Str.ofString c)) dx fs) → fs.map (·.1) = l.map (fun q => Str.ofString q.1) → RpL K F (fs.map (·.2)) (l.map (·.2)) → RpT K F H (.ref a) (.ins c l)
  | obt {a dx : Addr} {c : String} {fs : List (Str × V)} {l : List (String × D)} : H a = some (.ins (He.ga K (Str.ofString c)) dx fs) → fs.map (·.1) = l.map (fun q => Str.ofString q.1) → RpOL K F H (fs.map (·.2)) (l.map (·.2)) → RpT K F H (.ref a) (.obt c l)
inductive FvL (K : PySem.W.Frag) (F B : Hp) : List V → List D → List Addr → Prop
  | nil : FvL K F B [] [] []
  | frz {v : V} {vs : List V} {d : D} {fv : List D} {as : List Addr} : Rp K F v d → FvL K F B vs fv as → FvL K F B (v :: vs) (d :: fv) as
  | dk {p : Addr} {vs : List V} {l : List (D × D)} {fv : List D} {as : List Addr} : F p = none → DctAt K F (B p) l → FvL K F B vs fv as → FvL K F B (.ref p :: vs) (.ow l :: fv) (p :: as)
structure TreOk (K : PySem.W.Frag) (F B : Hp) (a : Addr) (c : String) (l : List (String × D)) (as : List Addr) : Prop where
  at_ : ∃ dx fs, B a = some (.ins (He.ga K (Str.ofString c)) dx fs) ∧ fs.map (·.1) = l.map (fun q => Str.ofString q.1) ∧ FvL K F B (fs.map (·.2)) (l.map (·.2)) as
  na : F a = none
  nd : as.Nodup
def SlOk (K : PySem.W.Frag) (B F H : Hp) (o : Option V) : Sl → Prop
  | .un => o = none
  | .any => True
  | .val d => ∃ v, o = some v ∧ Rp K F v d
  | .own l => ∃ a xs, o = some (.ref a) ∧ H a = some (.lst xs) ∧ F a = none ∧ B a = none ∧ RpL K F xs l
  | .ownd l => ∃ a, o = some (.ref a) ∧ DctAt K F (H a) l ∧ F a = none ∧ B a = none
  | .ownu l => ∃ a, o = some (.ref a) ∧ DcuAt K F (H a) l ∧ F a = none ∧ B a = none
  | .obj a c l => ∃ dx fs, o = some (.ref a) ∧ H a = some (.ins (He.ga K (Str.ofString c)) dx fs) ∧ F a = none ∧ B a = none ∧ fs.map (·.1) = l.map (fun q => Str.ofString q.1) ∧ RpL K F (fs.map (·.2)) (l.map (·.2))
  | .bor d => ∃ v, o = some v ∧ RpT K F B v d
  | .tre a c l => o = some (.ref a) ∧ Same B H ∧ ∃ as, TreOk K F B a c l as
  | .exn a d l => o = some (.ref a) ∧ XAt K F d l
def Sl.owns : Sl → Bool
  | .own _ => true
  | .ownd _ => true
  | .ownu _ => true
  | .obj _ _ _ => true
  | _ => false
theorem DctAt.mono {o : Option HO} {l : List (D × D)} (e : Same F F') (h : DctAt K F o l) : DctAt K F' o l :=
  let ⟨kvs, h1, h2, h3⟩ := h; ⟨kvs, h1, h2, h3.mono e⟩
theorem DctAt.some {o : Option HO} {l : List (D × D)} (h : DctAt K F o l) : ∃ u, o = some u := let ⟨_, h1, _, _⟩ := h; ⟨_, h1⟩
theorem DctR.monoF {a : Addr} {l : List (D × D)} (e : Same F F') (h : DctR K F H a l) : DctR K F' H a l := let ⟨kvs, h1, h2, h3⟩ := h; ⟨kvs, h1, h2, h3.mono e⟩
theorem DctR.monoH {a : Addr} {l : List (D × D)} (e : Same H H') (h : DctR K F H a l) : DctR K F H' a l := let ⟨kvs, h1, h2, h3⟩ := h; ⟨kvs, rd_same e h1, h2, h3⟩
theorem RpOL.monoF (e : Same F F') : ∀ {vs : List V} {ds : List D}, RpOL K F H vs ds → RpOL K F' H vs ds
  | _, _, .nil => .nil
  | _, _, .frz r q => .frz (r.mono e) (q.monoF e)
  | _, _, .dk r q => .dk (r.monoF e) (q.monoF e)
theorem RpOL.monoH (e : Same H H') : ∀ {vs : List V} {ds : List D}, RpOL K F H vs ds → RpOL K F H' vs ds
  | _, _, .nil => .nil
  | _, _, .frz r q => .frz r (q.monoH e)
  | _, _, .dk r q => .dk (r.monoH e) (q.monoH e)
theorem DcuAt.mono {o : Option HO} {l : List (D × D)} (e : Same F F') (h : DcuAt K F o l) : DcuAt K F' o l :=
  let ⟨kvs, h1, h2, h3⟩ := h; ⟨kvs, h1, h2, h3.mono e⟩
theorem DcuAt.some {o : Option HO} {l : List (D × D)} (h : DcuAt K F o l) : ∃ u, o = some u := let ⟨_, h1, _, _⟩ := h; ⟨_, h1⟩
theorem RpT.monoF {v : V} {d : D} (e : Same F F') (h : RpT K F H v d) : RpT K F' H v d := by
  cases h with
  | of h => exact .of (h.mono e)
  | own h r => exact .own h (r.mono e)
  | ownd r => exact .ownd (r.monoF e)
  | ownu r => exact .ownu (r.mono e)
  | obj h h2 r => exact .obj h h2 (r.mono e)
  | obt h h2 r => exact .obt h h2 (r.monoF e)
theorem RpT.monoH {v : V} {d : D} (e : Same H H') (h : RpT K F H v d) : RpT K F H' v d := by
  cases h with
  | of h => exact .of h
  | own h r => exact .own (e _ _ h) r
  | ownd r => exact .ownd (r.monoH e)
  | ownu r =>
    obtain ⟨u, hu⟩ := r.some
    refine .ownu ?_
    rw [e _ _ hu, ← hu]
    exact r
  | obj h h2 r => exact .obj (e _ _ h) h2 r
  | obt h h2 r => exact .obt (e _ _ h) h2 (r.monoH e)
theorem FvL.off : ∀ {vs : List V} {fv : List D} {as : List Addr}, FvL K F B vs fv as → ∀ p ∈ as, F p = none ∧ ∃ kvs, B p = some (.dK kvs)
  | _, _, _, .nil, p, h => nomatch h
  | _, _, _, .frz _ h, p, hp => h.off p hp
  | _, _, _, .dk h1 h2 h, p, hp => by
    rcases List.mem_cons.mp hp with rfl | hp
    · obtain ⟨kvs, e, _⟩ := h2
      exact ⟨h1, kvs, e⟩
    · exact h.off p hp
theorem FvL.mono (sF : Same F F') : ∀ {vs : List V} {fv : List D} {as : List Addr}, (∀ p ∈ as, F' p = none) → FvL K F B vs fv as → FvL K F' B vs fv as
  | _, _, _, _, .nil => .nil
  | _, _, _, h, .frz r q => .frz (r.mono sF) (FvL.mono sF h q)
  | _, _, _, h, .dk _ h2 q => .dk (h _ (List.mem_cons_self ..)) (h2.mono sF) (FvL.mono sF (fun p hp => h p (List.mem_cons_of_mem _ hp)) q)
theorem FvL.same {B' : Hp} : ∀ {vs : List V} {fv : List D} {as : List Addr}, (∀ p ∈ as, B' p = B p) → FvL K F B vs fv as → FvL K F B' vs fv as
  | _, _, _, _, .nil => .nil
  | _, _, _, h, .frz r q => .frz r (FvL.same h q)
  | _, _, _, h, .dk h1 h2 q => .dk h1 (by rw [h _ (List.mem_cons_self ..)]; exact h2) (FvL.same (fun p hp => h p (List.mem_cons_of_mem _ hp)) q)
theorem FvL.ol : ∀ {vs : List V} {fv : List D} {as : List Addr}, FvL K F B vs fv as → RpOL K F B vs fv
  | _, _, _, .nil => .nil
  | _, _, _, .frz r q => .frz r q.ol
  | _, _, _, .dk _ h q => .dk h.r q.ol
theorem TreOk.rd {a : Addr} {c : String} {l : List (String × D)} {as : List Addr} (t : TreOk K F B a c l as) : RpT K F B (.ref a) (.obt c l) := by
  obtain ⟨dx, fs, h1, h2, h3⟩ := t.at_
  exact .obt h1 h2 h3.ol
theorem TreOk.mono {a : Addr} {c : String} {l : List (String × D)} {as : List Addr} (sF : Same F F') (old : ∀ b o, B b = some o → F' b = F b) (t : TreOk K F B a c l as) : TreOk K F' B a c l as := by
  obtain ⟨dx, fs, h1, h2, h3⟩ := t.at_
  refine ⟨⟨dx, fs, h1, h2, FvL.mono sF (fun p hp => ?_) h3⟩, ?_, t.nd⟩
  · obtain ⟨n, kvs, e⟩ := h3.off p hp
    rw [old _ _ e]
    exact n
  · rw [old _ _ h1]
    exact t.na
theorem SlOk.ext {B : Hp} {o : Option V} {s : Sl} (x : Ext F H F' H') (h : SlOk K B F H o s) : SlOk K B F' H' o s := by
  cases s with
  | un => exact h
  | any => trivial
  | val d => obtain ⟨v, e, r⟩ := h; exact ⟨v, e, r.mono x.sF⟩
  | own l =>
    obtain ⟨a, xs, e, e2, n, b, r⟩ := h
    exact ⟨a, xs, e, x.sH _ _ e2, by rw [x.old _ _ e2]; exact n, b, r.mono x.sF⟩
  | ownd l =>
    obtain ⟨a, e, d, n, b⟩ := h
    obtain ⟨u, hu⟩ := d.some
    refine ⟨a, e, ?_, by rw [x.old _ _ hu]; exact n, b⟩
    rw [x.sH _ _ hu, ← hu]
    exact d.mono x.sF
  | ownu l =>
    obtain ⟨a, e, d, n, b⟩ := h
    obtain ⟨u, hu⟩ := d.some
    refine ⟨a, e, ?_, by rw [x.old _ _ hu]; exact n, b⟩
    rw [x.sH _ _ hu, ← hu]
    exact d.mono x.sF
  | obj a c l =>
    obtain ⟨dx, fs, e, h1, n, b, h2, r⟩ := h
    exact ⟨dx, fs, e, x.sH _ _ h1, by rw [x.old _ _ h1]; exact n, b, h2, r.mono x.sF⟩
  | bor d =>
    obtain ⟨v, e, r⟩ := h
    exact ⟨v, e, r.monoF x.sF⟩
  | tre a c l =>
    obtain ⟨h1, h2, as, t⟩ := h
    exact ⟨h1, h2.trans x.sH, as, t.mono x.sF fun b o e => x.old _ _ (h2 _ _ e)⟩
  | exn a d l => exact ⟨h.1, h.2.mono x.sF⟩
structure GOk (K : PySem.W.Frag) (B : Hp) (G : List Sl) (σ : St) (F H : Hp) : Prop where
  sB : Same B H
  len : σ.length = G.length
  ok : ∀ (i : Nat) (s : Sl), G[i]? = some s → ∃ o, σ[i]? = some o ∧ SlOk K B F H o s
  dis : ∀ (i j : Nat) (s t : Sl) (a : Addr), G[i]? = some s → G[j]? = some t → s.owns = true → t.owns = true → σ[i]? = some (some (.ref a)) → σ[j]? = some (some (.ref a)) → i = j
theorem GOk.ext {B : Hp} {G : List Sl} {σ : St} (x : Ext F H F' H') (g : GOk K B G σ F H) : GOk K B G σ F' H' :=
  ⟨g.sB.trans x.sH, g.len, fun i s h => let ⟨o, h1, h2⟩ := g.ok i s h; ⟨o, h1, h2.ext x⟩, g.dis⟩

def RpX (K : PySem.W.Frag) (F' H' : Hp) (c : Value) (d : Option Addr) (x : Ex) : Prop :=
  c = .ref (He.ga K (Str.ofString x.cls)) ∧ XAt K F' d x.args

def WpG {α β : Type} (K : PySem.W.Frag) (E : XK) (rel : Hp → Hp → β → α → Prop) (m : M α) (F H : Hp) (Q : β → Hp → Prop) : Prop :=
  match m with
  | .ok d => ∀ F' H' v, Ext F H F' H' → rel F' H' v d → Q v H'
  | .error .stuck => False
  | .error (.exc x) => ∀ F' H' c d, Ext F H F' H' → RpX K F' H' c d x → E c d H'
theorem WpG.ext {α β : Type} {E : XK} {rel : Hp → Hp → β → α → Prop} {m : M α} {Q : β → Hp → Prop} (x : Ext F H F' H') (h : WpG K E rel m F H Q) : WpG K E rel m F' H' Q := by
  cases m with
  | ok d => exact fun F2 H2 v y r => h F2 H2 v (x.trans y) r
  | error e =>
    cases e with
    | stuck => exact h
    | exc e => exact fun F2 H2 c d y r => h F2 H2 c d (x.trans y) r
theorem WpG.bind {α β γ δ : Type} {E : XK} {rel : Hp → Hp → β → α → Prop} {rel2 : Hp → Hp → δ → γ → Prop} {m : M α} {k : α → M γ} {Q : δ → Hp → Prop} {Q1 : β → Hp → Prop}
    (h : WpG K E rel2 (m >>= k) F H Q) (hk : ∀ x F' H' v, Ext F H F' H' → rel F' H' v x → WpG K E rel2 (k x) F' H' Q → Q1 v H') : WpG K E rel m F H Q1 := by
  cases m with
  | ok d => exact fun F2 H2 v y r => hk d F2 H2 v y r (WpG.ext y h)
  | error e =>
    cases e with
    | stuck => exact h
    | exc e => exact fun F2 H2 c d y r => h F2 H2 c d y r
theorem WpG.ok {α β : Type} {E : XK} {rel : Hp → Hp → β → α → Prop} {d : α} {Q : β → Hp → Prop} (h : WpG K E rel (.ok d) F H Q) {F' H' : Hp} {v : β} (x : Ext F H F' H') (r : rel F' H' v d) : Q v H' := h F' H' v x r
theorem WpG.need {α β : Type} {E : XK} {rel : Hp → Hp → β → α → Prop} {b : Bool} {k : Unit → M α} {Q : β → Hp → Prop} (h : WpG K E rel (need b >>= k) F H Q) : b = true ∧ WpG K E rel (k ()) F H Q := by
  cases b with
  | true => exact ⟨rfl, h⟩
  | false => exact h.elim

theorem RpT.ext {v : V} {d : D} (x : Ext F H F' H') (h : RpT K F H v d) : RpT K F' H' v d := (h.monoF x.sF).monoH x.sH
theorem RpT.lst {v : V} {l : List D} (s : Same F H) (h : RpT K F H v (.lst l)) : ∃ a xs, v = .ref a ∧ H a = some (.lst xs) ∧ RpL K F xs l := by
  cases h with
  | of h => cases h with
    | lst h hs => exact ⟨_, _, rfl, s _ _ h, hs⟩
  | own h r => exact ⟨_, _, rfl, h, r⟩
theorem RpT.scr {v : V} {l : List Int} (s : Same F H) (h : RpT K F H v (.scr l)) : ∃ a, v = .ref a ∧ SqL K H a (l.map V.int) := by
  cases h with
  | of h => cases h with
    | scr h => exact ⟨_, rfl, s.seq h⟩
theorem RpT.tup {v : V} {l : List D} (s : Same F H) (h : RpT K F H v (.tup l)) : ∃ a xs, v = .ref a ∧ SqT K H a xs ∧ RpL K F xs l := by
  cases h with
  | of h => cases h with
    | tup h hs => exact ⟨_, _, rfl, Same.seqT s h.sqT, hs⟩
theorem RpT.tupP {v : V} {l : List D} (s : Same F H) (h : RpT K F H v (.tup l)) : ∃ a xs, v = .ref a ∧ PlT K H a xs ∧ RpL K F xs l := by
  cases h with
  | of h => cases h with
    | tup h hs => exact ⟨_, _, rfl, h.mono s, hs⟩
theorem RpT.int {v : V} {i : Int} (h : RpT K F H v (.int i)) : v = .int i := by
  cases h with
  | of h => cases h; rfl
theorem RpT.str {v : V} {i : Str} (h : RpT K F H v (.str i)) : v = .str i ∧ PyData.strOk i = true := by
  cases h with
  | of h => cases h with
    | str _ h => exact ⟨rfl, h⟩
theorem RpT.bl {v : V} {i : Bool} (h : RpT K F H v (.bl i)) : v = .bl i := by
  cases h with
  | of h => cases h; rfl
theorem RpT.non {v : V} (h : RpT K F H v .non) : v = .non := by
  cases h with
  | of h => cases h; rfl
theorem DGet.kr {H : Hp} {a : Addr} {kvs : List (Key × V)} {k : Key} (e : Rd H a (.dK kvs)) : DGet H a (kV k) (valV kvs k) := .inl ⟨kvs, k, e, rfl, rfl⟩
theorem RpT.dct {v : V} {l : List (D × D)} (s : Same F H) (h : RpT K F H v (.dct l)) : ∃ a, v = .ref a ∧ DctR K F H a l := by
  cases h with
  | of h => cases h with
    | dctK h h2 hs => exact ⟨_, rfl, _, rd_same s h, h2, hs⟩
  | ownd r => exact ⟨_, rfl, r⟩
theorem RpT.dcu {v : V} {l : List (D × D)} (s : Same F H) (h : RpT K F H v (.dcu l)) : ∃ a, v = .ref a ∧ DcuAt K F (H a) l := by
  cases h with
  | of h => cases h with
    | dctT h h2 hs => exact ⟨_, rfl, _, s _ _ h, h2, hs⟩
  | ownu r => exact ⟨_, rfl, r⟩
theorem RpT.ins {v : V} {c : String} {l : List (String × D)} (s : Same F H) (h : RpT K F H v (.ins c l)) : ∃ a dx fs, v = .ref a ∧ H a = some (.ins (He.ga K (Str.ofString c)) dx fs) ∧ fs.map (·.1) = l.map (fun q => Str.ofString q.1) ∧ RpL K F (fs.map (·.2)) (l.map (·.2)) := by
  cases h with
  | of h => cases h with
    | ins h h2 hs => exact ⟨_, _, _, rfl, s _ _ h, h2, hs⟩
  | obj h h2 r => exact ⟨_, _, _, rfl, h, h2, r⟩
end

def DE (X : Cx) (E : St → XK) (G : List Sl) (e : Expr) (m : M D) : Prop :=
  ∃ t, PE X e t ∧ ∀ B σ F H Q, Same F H → GOk X.K B G σ F H → WpG X.K (E σ) (fun F' _ v d => Rp X.K F' v d) m F H Q → t σ H Q
def DR (X : Cx) (E : St → XK) (G : List Sl) (e : Expr) (m : M D) : Prop :=
  ∃ t, PE X e t ∧ ∀ B σ F H Q, Same F H → GOk X.K B G σ F H → WpG X.K (E σ) (fun F' H' v d => RpT X.K F' H' v d) m F H Q → t σ H Q
def DT (X : Cx) (E : St → XK) (G : List Sl) (e : Expr) (m : M Bool) : Prop :=
  ∃ t, PT X e t ∧ ∀ B σ F H Q, Same F H → GOk X.K B G σ F H → WpG X.K (E σ) (fun _ _ (v : Bool) d => v = d) m F H Q → t σ H Q
def DW (X : Cx) (E : St → XK) (G : List Sl) (e : Expr) (m : M Bool) : Prop :=
  ∃ t, PW X e t ∧ ∀ B σ F H Q, Same F H → GOk X.K B G σ F H → WpG X.K (E σ) (fun _ _ (v : Bool) d => v = d) m F H Q → t σ H Q
def DA (X : Cx) (E : St → XK) (G : List Sl) (es : List Expr) (m : M (List D)) : Prop :=
  ∃ t, PA X es t ∧ ∀ B σ F H Q, Same F H → GOk X.K B G σ F H → WpG X.K (E σ) (fun F' _ v d => RpL X.K F' v d) m F H Q → t σ H Q
inductive RpTL (K : PySem.W.Frag) (F H : Hp) : List V → List D → Prop
  | nil : RpTL K F H [] []
  | cons {v : V} {vs : List V} {d : D} {ds : List D} : RpT K F H v d → RpTL K F H vs ds → RpTL K F H (v :: vs) (d :: ds)
def DRA (X : Cx) (E : St → XK) (G : List Sl) (es : List Expr) (m : M (List D)) : Prop :=
  ∃ t, PA X es t ∧ ∀ B σ F H Q, Same F H → GOk X.K B G σ F H → WpG X.K (E σ) (fun F' H' v d => RpTL X.K F' H' v d) m F H Q → t σ H Q
inductive Oc where
  | nx (G : List Sl)
  | ct (G : List Sl)
  | bk (G : List Sl)
  | rt (d : D)
  /-- given back, with something more told of what lies then (of the entry's heap, what is frozen, the heap, the value) -/
  | rg (R : Hp → Hp → Hp → V → Prop)
def WpB {α : Type} (K : PySem.W.Frag) (E : XK) (B0 B : Hp) (post : α → Oc) (m : M α) (F : Hp) (D : Ends) : Prop :=
  match m with
  | .ok x => (match post x with
    | .nx G => ∀ σ F' H', Same F F' → Ext B0 B F' H' → GOk K B G σ F' H' → D.nx σ H'
    | .ct G => ∀ σ F' H', Same F F' → Ext B0 B F' H' → GOk K B G σ F' H' → D.ct σ H'
    | .bk G => ∀ σ F' H', Same F F' → Ext B0 B F' H' → GOk K B G σ F' H' → D.bk σ H'
    | .rt d => ∀ v F' H', Same F F' → Ext B0 B F' H' → Rp K F' v d → D.rt v H'
    | .rg R => ∀ v F' H', Same F F' → Ext B0 B F' H' → R B F' H' v → D.rt v H')
  | .error .stuck => False
  | .error (.exc x) => ∀ F' H' c d, Same F F' → Ext B0 B F' H' → RpX K F' H' c d x → E c d H'
def DB (X : Cx) (E : XK) (G : List Sl) (body : List Stmt) {α : Type} (m : M α) (post : α → Oc) : Prop :=
  ∃ t, PSs X body t ∧ ∀ B0 B σ F H D, Ext B0 B F H → GOk X.K B G σ F H → WpB X.K E B0 B post m F D → t D σ H
end DL

set_option Elab.async false
set_option linter.all false
set_option maxRecDepth 100000
set_option maxHeartbeats 4000000
namespace DL
open PySem PySem.Spec L2

def D.leaf : D → Bool
  | .non => true
  | .bl _ => true
  | .int _ => true
  | .str _ => true
  | _ => false
def D.shp : Nat → D → Bool
  | 0, d => d.leaf
  | n + 1, .tup l => l.all (D.shp n)
  | n + 1, .lst l => l.all (D.shp n)
  | _ + 1, d => d.leaf
mutual
def D.py : D → PyData
  | .non => .none
  | .bl b => .bool b
  | .int i => .int i
  | .str x => .str x
  | .tup l => .tuple (D.pyL l)
  | .lst l => .list (D.pyL l)
  | .dct _ => .none
  | .dcu _ => .none
  | .ins _ _ => .none
  | .scr _ => .none
  | .ow _ => .none
  | .obt _ _ => .none
def D.pyL : List D → List PyData
  | [] => []
  | d :: l => D.py d :: D.pyL l
end
mutual
def D.beq : D → D → Bool
  | .non, .non => true
  | .bl a, .bl b => a == b
  | .bl a, .int j => decide ((if a then 1 else 0) = j)
  | .int i, .bl b => decide (i = (if b then 1 else 0))
  | .int i, .int j => decide (i = j)
  | .str x, .str y => decide (x = y)
  | .tup l, .tup m => D.beqL l m
  | .lst l, .lst m => D.beqL l m
  | _, _ => false
def D.beqL : List D → List D → Bool
  | [], [] => true
  | x :: l, y :: m => D.beq x y && D.beqL l m
  | _, _ => false
end
theorem D.pyL_eq : ∀ l : List D, D.pyL l = l.map D.py
  | [] => by simp only [D.pyL, List.map_nil]
  | d :: l => by simp only [D.pyL, List.map_cons, D.pyL_eq l]
theorem D.leaf_cases {d : D} (h : d.leaf = true) : d = .non ∨ (∃ b, d = .bl b) ∨ (∃ i, d = .int i) ∨ ∃ x, d = .str x := by
  cases d with
  | non => exact .inl rfl
  | bl b => exact .inr (.inl ⟨b, rfl⟩)
  | int i => exact .inr (.inr (.inl ⟨i, rfl⟩))
  | str x => exact .inr (.inr (.inr ⟨x, rfl⟩))
  | _ => cases h
theorem D.shp_cases {n : Nat} {d : D} (h : d.shp n = true) : d.leaf = true ∨ ∃ m l, n = m + 1 ∧ (d = .tup l ∨ d = .lst l) ∧ l.all (D.shp m) = true := by
  cases n with
  | zero => exact .inl h
  | succ n =>
    cases d with
    | tup l => exact .inr ⟨n, l, rfl, .inl rfl, h⟩
    | lst l => exact .inr ⟨n, l, rfl, .inr rfl, h⟩
    | non => exact .inl h
    | bl b => exact .inl h
    | int i => exact .inl h
    | str x => exact .inl h
    | dct _ => exact .inl h
    | dcu _ => exact .inl h
    | ins _ _ => exact .inl h
    | scr _ => exact .inl h
    | ow _ => exact .inl h
    | obt _ _ => exact .inl h
theorem D.leaf_py {d : D} (h : d.leaf = true) : d.py.depth = 0 := by
  rcases D.leaf_cases h with rfl | ⟨b, rfl⟩ | ⟨i, rfl⟩ | ⟨x, rfl⟩ <;> simp [D.py, PyData.depth]
theorem D.shp_depth : ∀ {n : Nat} {d : D}, d.shp n = true → d.py.depth ≤ n
  | n, d, h => by
    induction n generalizing d with
    | zero => exact Nat.le_of_eq (D.leaf_py h)
    | succ n ih =>
      rcases D.shp_cases h with h | ⟨m, l, e, hd, hl⟩
      · rw [D.leaf_py h]
        exact Nat.zero_le _
      · injection e with e
        subst e
        have q : ∀ l : List D, l.all (D.shp n) = true → PyData.depthAll (l.map D.py) ≤ n := by
          intro l
          induction l with
          | nil => intro _; simp [PyData.depthAll]
          | cons a l ihl =>
            intro h
            rw [List.all_cons, Bool.and_eq_true] at h
            have h1 := ih _ h.1
            have h2 := ihl h.2
            simp only [List.map_cons, PyData.depthAll]
            omega
        have hq := q l hl
        rcases hd with rfl | rfl
        · simp only [D.py, D.pyL_eq, PyData.depth]
          omega
        · simp only [D.py, D.pyL_eq, PyData.depth]
          omega
theorem D.beq_eq : ∀ {n : Nat} {d e : D}, d.shp n = true → e.shp n = true → PyData.eqv d.py e.py = D.beq d e
  | n, d, e, hd, he => by
    induction n generalizing d e with
    | zero =>
      rcases D.leaf_cases hd with rfl | ⟨b, rfl⟩ | ⟨i, rfl⟩ | ⟨x, rfl⟩ <;> rcases D.leaf_cases he with rfl | ⟨c, rfl⟩ | ⟨j, rfl⟩ | ⟨y, rfl⟩ <;> simp [D.py, D.beq, PyData.eqv, Bool.beq_eq_decide_eq] <;> rfl
    | succ n ih =>
      have q : ∀ l m : List D, l.all (D.shp n) = true → m.all (D.shp n) = true → PyData.eqvAll (D.pyL l) (D.pyL m) = D.beqL l m := by
        intro l
        induction l with
        | nil => intro m _ _; cases m <;> simp [D.pyL, D.beqL, PyData.eqvAll]
        | cons a l ihl =>
          intro m h1 h2
          cases m with
          | nil => simp [D.pyL, D.beqL, PyData.eqvAll]
          | cons b m =>
            rw [List.all_cons, Bool.and_eq_true] at h1 h2
            simp only [D.pyL, D.beqL, PyData.eqvAll]
            rw [ih _ _ h1.1 h2.1, ihl m h1.2 h2.2]
      rcases D.shp_cases hd with h1 | ⟨m1, l1, e1, d1, s1⟩
      · rcases D.shp_cases he with h2 | ⟨m2, l2, e2, d2, s2⟩
        · rcases D.leaf_cases h1 with rfl | ⟨b, rfl⟩ | ⟨i, rfl⟩ | ⟨x, rfl⟩ <;> rcases D.leaf_cases h2 with rfl | ⟨c, rfl⟩ | ⟨j, rfl⟩ | ⟨y, rfl⟩ <;> simp [D.py, D.beq, PyData.eqv, Bool.beq_eq_decide_eq] <;> rfl
        · rcases D.leaf_cases h1 with rfl | ⟨b, rfl⟩ | ⟨i, rfl⟩ | ⟨x, rfl⟩ <;> rcases d2 with rfl | rfl <;> simp [D.py, D.beq, PyData.eqv]
      · injection e1 with e1
        subst e1
        rcases D.shp_cases he with h2 | ⟨m2, l2, e2, d2, s2⟩
        · rcases D.leaf_cases h2 with rfl | ⟨b, rfl⟩ | ⟨i, rfl⟩ | ⟨x, rfl⟩ <;> rcases d1 with rfl | rfl <;> simp [D.py, D.beq, PyData.eqv]
        · injection e2 with e2
          subst e2
          rcases d1 with rfl | rfl <;> rcases d2 with rfl | rfl
          · simp only [D.py, D.beq, PyData.eqv]
            exact q _ _ s1 s2
          · simp [D.py, D.beq, PyData.eqv]
          · simp [D.py, D.beq, PyData.eqv]
          · simp only [D.py, D.beq, PyData.eqv]
            exact q _ _ s1 s2

section
variable {K : PySem.W.Frag} {F H : Hp}
theorem Rp.dp_leaf {v : V} {d : D} (h : d.leaf = true) (r : Rp K F v d) : Dp K H v d.py ∧ d.py.canLay0 = true := by
  cases r with
  | non => exact ⟨by simp only [D.py]; exact .non, by simp [D.py, PyData.canLay0]⟩
  | bl b => exact ⟨by simp only [D.py]; exact .bl b, by simp [D.py, PyData.canLay0]⟩
  | int i => exact ⟨by simp only [D.py]; exact .int i, by simp [D.py, PyData.canLay0]⟩
  | str x hx => exact ⟨by simp only [D.py]; exact .str x, by simp [D.py, PyData.canLay0, hx]⟩
  | tup _ _ => cases h
  | lst _ _ => cases h
  | scr _ => cases h
  | dctK _ _ _ => cases h
  | dctT _ _ _ => cases h
  | ins _ _ _ => cases h
theorem Rp.dp (s : Same F H) : ∀ {n : Nat} {v : V} {d : D}, d.shp n = true → Rp K F v d → Dp K H v d.py ∧ d.py.canLay0 = true
  | n, v, d, h, r => by
    induction n generalizing v d with
    | zero => exact Rp.dp_leaf h r
    | succ n ih =>
      have q : ∀ (l : List D) (xs : List V), l.all (D.shp n) = true → RpL K F xs l → DpAll K H xs (D.pyL l) ∧ PyData.canLayAll0 (D.pyL l) = true := by
        intro l
        induction l with
        | nil =>
          intro xs _ r
          cases r
          exact ⟨by simp only [D.pyL]; exact .nil, by simp [D.pyL, PyData.canLayAll0]⟩
        | cons a l ihl =>
          intro xs h r
          rw [List.all_cons, Bool.and_eq_true] at h
          cases r with
          | cons r1 r2 =>
            obtain ⟨a1, a2⟩ := ih _ _ h.1 r1
            obtain ⟨b1, b2⟩ := ihl _ h.2 r2
            exact ⟨by simp only [D.pyL]; exact .cons a1 b1, by simp [D.pyL, PyData.canLayAll0, a2, b2]⟩
      rcases D.shp_cases h with h1 | ⟨m, l, e, hd, hl⟩
      · exact Rp.dp_leaf h1 r
      · injection e with e
        subst e
        rcases hd with rfl | rfl
        · cases r with
          | tup r1 r2 =>
            obtain ⟨a1, a2⟩ := q l _ hl r2
            exact ⟨by simp only [D.py]; exact .tup (Same.seqT s (r1).sqT) a1, by simp [D.py, PyData.canLay0, a2]⟩
        · cases r with
          | lst r1 r2 =>
            obtain ⟨a1, a2⟩ := q l _ hl r2
            exact ⟨by simp only [D.py]; exact .lst (SqL.of (s _ _ r1)) a1, by simp [D.py, PyData.canLay0, a2]⟩
theorem RpL.dpAll (s : Same F H) {n : Nat} : ∀ {l : List D} {xs : List V}, l.all (D.shp n) = true → RpL K F xs l → DpAll K H xs (D.pyL l) ∧ PyData.canLayAll0 (D.pyL l) = true
  | [], _, _, .nil => ⟨by simp only [D.pyL]; exact .nil, by simp [D.pyL, PyData.canLayAll0]⟩
  | a :: l, _, h, .cons r1 r2 => by
    rw [List.all_cons, Bool.and_eq_true] at h
    obtain ⟨a1, a2⟩ := Rp.dp s h.1 r1
    obtain ⟨b1, b2⟩ := RpL.dpAll s h.2 r2
    exact ⟨by simp only [D.pyL]; exact .cons a1 b1, by simp [D.pyL, PyData.canLayAll0, a2, b2]⟩
theorem RpT.dp (s : Same F H) {n : Nat} {v : V} {d : D} (h : d.shp n = true) (r : RpT K F H v d) : Dp K H v d.py ∧ d.py.canLay0 = true := by
  cases r with
  | of r => exact Rp.dp s h r
  | own e r =>
    cases n with
    | zero => cases h
    | succ n =>
      obtain ⟨a1, a2⟩ := RpL.dpAll s (n := n) h r
      exact ⟨by simp only [D.py]; exact .lst (SqL.of e) a1, by simp [D.py, PyData.canLay0, a2]⟩
  | ownd _ => cases n <;> cases h
  | ownu _ => cases n <;> cases h
  | obj _ _ _ => cases n <;> cases h
  | obt _ _ _ => cases n <;> cases h
theorem shaped_of {n : Nat} {d : D} (hn : n ≤ 64) (h : d.shp n = true) (c : d.py.canLay0 = true) : SeqAt.shaped d.py = true := by
  show (d.py.canLay0 && decide (d.py.depth ≤ 64)) = true
  rw [c, Bool.true_and]
  exact decide_eq_true (Nat.le_trans (D.shp_depth h) hn)
end

def D.eq (x y : D) : M Bool := do
  need (x.shp 20 && y.shp 20)
  .ok (D.beq x y)
def D.add : D → D → M D
  | .int i, .int j => .ok (.int (i + j))
  | .str x, .str y => do need (decide (x.length + y.length ≤ sizeLine)); .ok (.str (x ++ y))
  | .lst l, .lst m => do need (decide (l.length + m.length ≤ sizeLine)); .ok (.lst (l ++ m))
  | .tup l, .tup m => do need (decide (l.length + m.length ≤ sizeLine)); .ok (.tup (l ++ m))
  | _, _ => stuck
def D.sub : D → D → M D
  | .int i, .int j => .ok (.int (i - j))
  | _, _ => stuck
def D.mul : D → D → M D
  | .int i, .int j => do need (decide ((-(2 ^ 64) < i ∧ i < 2 ^ 64) ∨ (-(2 ^ 64) < j ∧ j < 2 ^ 64))); .ok (.int (i * j))
  | _, _ => stuck
def D.fdiv : D → D → M D
  | .int i, .int j => do need (decide (0 < j ∧ j < 1073741824)); .ok (.int (i / j))
  | _, _ => stuck
def D.mod : D → D → M D
  | .int i, .int j => do need (decide (0 < j)); .ok (.int (i % j))
  | _, _ => stuck
def D.pow : D → D → M D
  | .int i, .int j => do need (decide (0 ≤ j ∧ j ≤ 1000000 ∧ i.natAbs < 2 ^ 64)); .ok (.int (i ^ j.toNat))
  | _, _ => stuck
def D.neg : D → M D
  | .int i => .ok (.int (-i))
  | _ => stuck
def D.lt : D → D → M Bool
  | .int i, .int j => .ok (decide (i < j))
  | .str i, .str j => .ok (decide (i.cps.toList < j.cps.toList))
  | _, _ => stuck
def D.le : D → D → M Bool
  | .int i, .int j => .ok (decide (i ≤ j))
  | _, _ => stuck
def D.gt : D → D → M Bool
  | .int i, .int j => .ok (decide (j < i))
  | _, _ => stuck
def D.ge : D → D → M Bool
  | .int i, .int j => .ok (decide (j ≤ i))
  | _, _ => stuck
def D.ne (x y : D) : M Bool := do let b ← D.eq x y; .ok (!b)
def D.isKey : D → Bool
  | .int _ => true
  | .str _ => true
  | _ => false
def D.look (l : List (D × D)) (k : D) : Option D := (l.find? fun q => D.beq q.1 k).map (·.2)
def D.mem (x : D) : D → M Bool
  | .str z => (match x with
    | .str y => (match y.cps.toList with
      | [c] => .ok (decide (c ∈ z.cps.toList))
      | _ => .ok (!(Builtin.Str.occurrences z y 0 z.length 1).isEmpty))
    | _ => stuck)
  | .lst l => do need (x.shp 19 && l.all (D.shp 19)); .ok (l.any fun z => D.beq z x)
  | .tup l => do need (x.shp 19 && l.all (D.shp 19)); .ok (l.any fun z => D.beq z x)
  | .dct l => do need x.isKey; .ok (D.look l x).isSome
  | _ => stuck
def D.nmem (x y : D) : M Bool := do let b ← D.mem x y; .ok (!b)
def D.isNon : D → Bool
  | .non => true
  | _ => false
def D.tru : D → M Bool
  | .non => .ok false
  | .bl b => .ok b
  | .int i => .ok (i != 0)
  | .str y => do need (decide (y.length ≤ sizeLine)); .ok ((y.length : Int) != 0)
  | .lst l => .ok (!l.isEmpty)
  | .tup l => .ok (!l.isEmpty)
  | .dct l => .ok (!l.isEmpty)
  | _ => stuck
def D.ix : D → D → M D
  | .lst l, .int i => (match atI l i with | some d => .ok d | none => stuck)
  | .tup l, .int i => (match atI l i with | some d => .ok d | none => stuck)
  | .str z, .int i => do need (decide (z.length ≤ sizeLine)); (match atI z.cps.toList i with | some c => .ok (.str ⟨#[c]⟩) | none => stuck)
  | .dct l, k => do need k.isKey; (match D.look l k with | some d => .ok d | none => stuck)
  | _, _ => stuck
def cutL {α : Type} (xs : List α) (lo hi : Option Int) : List α := (xs.drop (HT.sIx xs.length 0 lo)).take (HT.sIx xs.length xs.length hi - HT.sIx xs.length 0 lo)
def D.sl : D → Option Int → Option Int → M D
  | .lst l, lo, hi => .ok (.lst (cutL l lo hi))
  | .tup l, lo, hi => .ok (.tup (cutL l lo hi))
  | .scr l, lo, hi => .ok (.lst ((cutL l lo hi).map D.int))
  | .str z, lo, hi => do need (decide (z.length ≤ sizeLine)); .ok (.str (cutS z lo hi))
  | _, _, _ => stuck
def D.len : D → M D
  | .str y => do need (decide (y.length ≤ sizeLine)); .ok (.int y.length)
  | .lst l => .ok (.int l.length)
  | .tup l => .ok (.int l.length)
  | .scr l => .ok (.int l.length)
  | .dct l => .ok (.int l.length)
  | _ => stuck
def D.abs : D → M D
  | .int i => .ok (.int (if i < 0 then -i else i))
  | _ => stuck
def D.toInt : D → M D
  | .int i => .ok (.int i)
  | .bl k => .ok (.int (if k then 1 else 0))
  | .str a => (match PySem.intText? a with | some n => do need (decide (a.length ≤ 640)); .ok (.int n) | none => stuck)
  | _ => stuck
def D.max2 : D → D → M D
  | .int i, .int j => .ok (.int (if j > i then j else i))
  | _, _ => stuck
def D.min2 : D → D → M D
  | .int i, .int j => .ok (.int (if j < i then j else i))
  | _, _ => stuck
def D.bools : List D → Option (List Bool)
  | [] => some []
  | .bl b :: l => (D.bools l).map (b :: ·)
  | _ :: _ => none
def D.all : D → M D
  | .lst l => (match D.bools l with | some bs => .ok (.bl (bs.all id)) | none => stuck)
  | _ => stuck
def D.any : D → M D
  | .lst l => (match D.bools l with | some bs => .ok (.bl (bs.any id)) | none => stuck)
  | _ => stuck
def D.toList : D → M D
  | .lst l => .ok (.lst l)
  | .tup l => .ok (.lst l)
  | _ => stuck
def D.toTup : D → M D
  | .lst l => .ok (.tup l)
  | .tup l => .ok (.tup l)
  | _ => stuck
def D.strs : List D → Option (List Str)
  | [] => some []
  | .str b :: l => (D.strs l).map (b :: ·)
  | _ :: _ => none
def D.join (x y : D) : M D :=
  match x, y with
  | .str a, .lst l => (match D.strs l with
    | some ys => do need (decide ((ys.map (·.length)).sum + ys.length * a.length ≤ 16777216)); .ok (.str (Txt.join a ys))
    | none => stuck)
  | .str a, .tup l => (match D.strs l with
    | some ys => do need (decide ((ys.map (·.length)).sum + ys.length * a.length ≤ 16777216)); .ok (.str (Txt.join a ys))
    | none => stuck)
  | _, _ => stuck
def D.split (x y : D) : M D :=
  match x, y with
  | .str a, .str b => do need (!(b.length == 0) && decide (a.length + 2 ≤ sizeLine)); .ok (.lst ((Txt.split a b).map D.str))
  | _, _ => stuck
def Sl.rd : Sl → M D
  | .val d => .ok d
  | .own l => .ok (.lst l)
  | .ownd l => .ok (.dct l)
  | .ownu l => .ok (.dcu l)
  | .obj _ c l => .ok (.ins c l)
  | .bor d => .ok d
  | .tre _ c l => .ok (.obt c l)
  | _ => stuck
def Sl.vl : Sl → M D
  | .val d => .ok d
  | _ => stuck
def bD (m : M Bool) : M D := m >>= fun b => .ok (.bl b)
end DL

set_option Elab.async false
set_option linter.all false
set_option maxRecDepth 100000
set_option maxHeartbeats 4000000
namespace DL
open PySem PySem.Spec L2

abbrev rE (K : PySem.W.Frag) : Hp → Hp → V → D → Prop := fun F' _ v d => Rp K F' v d
abbrev rT (K : PySem.W.Frag) : Hp → Hp → V → D → Prop := fun F' H' v d => RpT K F' H' v d
abbrev rB : Hp → Hp → Bool → Bool → Prop := fun _ _ v d => v = d
abbrev rTL (K : PySem.W.Frag) : Hp → Hp → List V → List D → Prop := fun F' H' v d => RpTL K F' H' v d

theorem strOk_app {x y : Str} (hx : PyData.strOk x = true) (hy : PyData.strOk y = true) : PyData.strOk (x ++ y) = true := by
  unfold PyData.strOk at *
  show (x.cps ++ y.cps).all _ = true
  rw [Array.all_append, hx, hy] <;> rfl
theorem strOk_mem {x : Str} : PyData.strOk x = true ↔ ∀ c ∈ x.cps.toList, c < 0x110000 := by
  unfold PyData.strOk
  rw [← Array.all_toList, List.all_eq_true]
  exact ⟨fun h c hc => of_decide_eq_true (h c hc), fun h c hc => decide_eq_true (h c hc)⟩
theorem strOk_cut {z : Str} (h : PyData.strOk z = true) (lo hi : Option Int) : PyData.strOk (cutS z lo hi) = true := by
  rw [strOk_mem] at h ⊢
  intro c hc
  refine h c ?_
  unfold cutS at hc
  simp only at hc
  exact List.mem_of_mem_drop (List.mem_of_mem_take hc)
theorem strOk_one {z : Str} {c : Nat} (h : PyData.strOk z = true) (hc : c ∈ z.cps.toList) : PyData.strOk ⟨#[c]⟩ = true := by
  rw [strOk_mem] at h ⊢
  intro d hd
  have e : d = c := by simpa using hd
  subst e
  exact h d hc

section
variable {X : Cx} {E : St → XK} {G : List Sl} {a b c e : Expr} {ma mb mc : M D} {pos : Pos} {F H : Hp}

theorem DR.of {m : M D} (h : DE X E G e m) : DR X E G e m := by
  obtain ⟨t, p, w⟩ := h
  exact ⟨t, p, fun B σ F H Q s g q => w B σ F H Q s g (match m, q with
    | .ok d, q => fun F' H' v x r => q F' H' v x (.of r)
    | .error .stuck, q => q.elim
    | .error (.exc x), q => q)⟩
theorem GOk.at {B : Hp} {σ : St} {i : Nat} {s : Sl} (g : GOk X.K B G σ F H) (h : G[i]? = some s) : ∃ o, σ[i]? = some o ∧ SlOk X.K B F H o s := g.ok i s h
theorem dr_var {i : Nat} {s : Sl} {x : Str} (h : G[i]? = some s) (p : PE X (.Name x pos) (tVar i)) : DR X E G (.Name x pos) s.rd := by
  refine ⟨_, p, fun B σ F H Q sm g q => ?_⟩
  obtain ⟨o, h1, h2⟩ := g.ok i s h
  cases s with
  | un => exact q.elim
  | any => exact q.elim
  | val d =>
    obtain ⟨v, rfl, r⟩ := h2
    exact ⟨v, h1, q F H v (Ext.refl sm) (.of r)⟩
  | own l =>
    obtain ⟨a, xs, rfl, e2, _, _, r⟩ := h2
    exact ⟨_, h1, q F H _ (Ext.refl sm) (.own e2 r)⟩
  | ownd l =>
    obtain ⟨a, rfl, r, _, _⟩ := h2
    exact ⟨_, h1, q F H _ (Ext.refl sm) (.ownd r.r)⟩
  | ownu l =>
    obtain ⟨a, rfl, r, _, _⟩ := h2
    exact ⟨_, h1, q F H _ (Ext.refl sm) (.ownu r)⟩
  | obj a c l =>
    obtain ⟨dx, fs, rfl, e1, _, _, e2, r⟩ := h2
    exact ⟨_, h1, q F H _ (Ext.refl sm) (.obj e1 e2 r)⟩
  | bor d =>
    obtain ⟨v, rfl, r⟩ := h2
    exact ⟨v, h1, q F H _ (Ext.refl sm) (r.monoH g.sB)⟩
  | tre a c l =>
    obtain ⟨rfl, _, as, t⟩ := h2
    exact ⟨_, h1, q F H _ (Ext.refl sm) (t.rd.monoH g.sB)⟩
  | exn a d l => exact q.elim
theorem de_var {i : Nat} {s : Sl} {x : Str} (h : G[i]? = some s) (p : PE X (.Name x pos) (tVar i)) : DE X E G (.Name x pos) s.vl := by
  refine ⟨_, p, fun B σ F H Q sm g q => ?_⟩
  obtain ⟨o, h1, h2⟩ := g.ok i s h
  cases s with
  | val d =>
    obtain ⟨v, rfl, r⟩ := h2
    exact ⟨v, h1, q F H v (Ext.refl sm) r⟩
  | _ => exact q.elim
theorem de_val {i : Nat} {d : D} {x : Str} (h : G[i]? = some (.val d)) (p : PE X (.Name x pos) (tVar i)) : DE X E G (.Name x pos) (.ok d) := de_var h p
theorem de_c {v : V} {d : D} (p : PE X e (tC v)) (h : ∀ F, Rp X.K F v d) : DE X E G e (.ok d) :=
  ⟨_, p, fun B σ F H Q s g q => q F H v (Ext.refl s) (h F)⟩
theorem de_int {i j pos} : DE X E G (.Constant (.int i) j pos) (.ok (.int i)) := de_c pe_int fun _ => .int i
theorem de_bl {i j pos} : DE X E G (.Constant (.bool i) j pos) (.ok (.bl i)) := de_c pe_bl fun _ => .bl i
theorem de_non {j pos} : DE X E G (.Constant .none j pos) (.ok .non) := de_c pe_non fun _ => .non
theorem de_str {x : Str} {j pos} (h : PyData.strOk x = true) : DE X E G (.Constant (.str x) j pos) (.ok (.str x)) := de_c pe_str fun _ => .str x h
theorem de_gint {x : Str} {i : Int} {t : Tok} (hg : Gl X x) (hm : X.mg x = some (.int i t)) (hd : (x == ("__debug__" : Str)) = false := by decide) : DE X E G (.Name x pos) (.ok (.int i)) := de_c (v := .int i) (pe_glob hg hm ⟨t, rfl⟩ hd) fun _ => .int i
theorem de_gstr {x z : Str} {t : Tok} (hg : Gl X x) (hm : X.mg x = some (.str z t)) (hz : PyData.strOk z = true) (hd : (x == ("__debug__" : Str)) = false := by decide) : DE X E G (.Name x pos) (.ok (.str z)) := de_c (v := .str z) (pe_glob hg hm ⟨t, rfl⟩ hd) fun _ => .str z hz

def Op2 (K : PySem.W.Frag) (f : D → D → M D) (r : R2) : Prop := ∀ (E : XK) (F H : Hp) (v u : V) (x y : D) (Q : VK), Same F H → RpT K F H v x → RpT K F H u y → WpG K E (rE K) (f x y) F H Q → r v u H Q
theorem two {ta tb : TE} {r : R2} {f : D → D → M D} (wa : ∀ B σ F H Q, Same F H → GOk X.K B G σ F H → WpG X.K (E σ) (rT X.K) ma F H Q → ta σ H Q) (wb : ∀ B σ F H Q, Same F H → GOk X.K B G σ F H → WpG X.K (E σ) (rT X.K) mb F H Q → tb σ H Q)
    (hf : Op2 X.K f r) : ∀ B σ F H Q, Same F H → GOk X.K B G σ F H → WpG X.K (E σ) (rE X.K) (ma >>= fun x => mb >>= fun y => f x y) F H Q → tOp r ta tb σ H Q := fun B σ F H Q s g q =>
  wa B σ F H _ s g (q.bind fun x F1 H1 v x1 r1 q1 => wb B σ F1 H1 _ x1.sFH (g.ext x1) (q1.bind fun y F2 H2 u x2 r2 q2 => hf (E σ) F2 H2 v u x y Q x2.sFH (r1.ext x2) r2 q2))
theorem de_op {op : Operator} {r : R2} {f : D → D → M D} (ho : OpR X (binaryOp op) r) (hf : Op2 X.K f r) (ha : DR X E G a ma) (hb : DR X E G b mb) : DE X E G (.BinOp a op b pos) (ma >>= fun x => mb >>= fun y => f x y) := by
  obtain ⟨ta, pa, wa⟩ := ha
  obtain ⟨tb, pb, wb⟩ := hb
  exact ⟨_, pe_op ho pa pb, two wa wb hf⟩

theorem new_lst {E₁ : XK} {xs : List V} {ds : List D} {Q : VK} (s : Same F H) (r : RpL X.K F xs ds) (q : WpG X.K E₁ (rE X.K) (.ok (.lst ds)) F H Q) : ∀ p, H p = none → Q (.ref p) (upd H p (.lst xs)) := fun p hp =>
  q _ _ _ (Ext.new s hp) (.lst upd_same (r.mono (Ext.new s hp).sF))
theorem new_tup {E₁ : XK} {xs : List V} {ds : List D} {Q : VK} (s : Same F H) (r : RpL X.K F xs ds) (q : WpG X.K E₁ (rE X.K) (.ok (.tup ds)) F H Q) : NewT H xs Q := fun p o hp c d =>
  q _ _ _ (Ext.new s hp) (.tup (plT_new c d) (r.mono (Ext.new s hp).sF))
theorem RpT.rp_tup {v : V} {l : List D} {K : PySem.W.Frag} (h : RpT K F H v (.tup l)) : Rp K F v (.tup l) := by
  cases h with
  | of h => exact h

def rAddAll (K : PySem.W.Frag) : R2 := fun x y H Q => rI0 (fun i j => .int (i + j)) x y H Q ∨ (∃ i j, x = .str i ∧ y = .str j ∧ i.length + j.length ≤ sizeLine ∧ Q (.str (i ++ j)) H) ∨ rCat x y H Q ∨ rCatP K x y H Q
theorem op_addAll : OpR X (binaryOp .Add) (rAddAll X.K) := op_add.or (op_add_str.or (op_cat.or op_catP))
theorem op2_add : Op2 X.K D.add (rAddAll X.K) := fun E F H v u x y Q s rx ry q => by
  cases x with
  | int i => cases y with
    | int j => exact .inl ⟨i, j, rx.int, ry.int, q F H _ (Ext.refl s) (.int _)⟩
    | _ => exact q.elim
  | str i => cases y with
    | str j =>
      obtain ⟨c, q⟩ := q.need
      exact .inr (.inl ⟨i, j, rx.str.1, ry.str.1, of_decide_eq_true c, q F H _ (Ext.refl s) (.str _ (strOk_app rx.str.2 ry.str.2))⟩)
    | _ => exact q.elim
  | lst l => cases y with
    | lst m =>
      obtain ⟨c, q⟩ := q.need
      obtain ⟨p, xs, rfl, e1, r1⟩ := rx.lst s
      obtain ⟨p2, ys, rfl, e2, r2⟩ := ry.lst s
      exact .inr (.inr (.inl ⟨p, p2, xs, ys, rfl, rfl, e1, e2, by rw [r1.length, r2.length]; exact of_decide_eq_true c, new_lst s (r1.append r2) q⟩))
    | _ => exact q.elim
  | tup l => cases y with
    | tup m =>
      obtain ⟨c, q⟩ := q.need
      obtain ⟨p, xs, rfl, e1, r1⟩ := rx.tup s
      obtain ⟨p2, ys, rfl, e2, r2⟩ := ry.tup s
      refine .inr (.inr (.inr ⟨p, p2, xs, ys, rfl, rfl, e1, e2, by rw [r1.length, r2.length]; exact of_decide_eq_true c, fun h0 => ?_, fun _ h0 => ?_, fun _ _ => new_tup s (r1.append r2) q⟩))
      · subst h0
        cases r1
        exact q F H _ (Ext.refl s) ry.rp_tup
      · subst h0
        cases r2
        rw [List.append_nil] at q
        exact q F H _ (Ext.refl s) rx.rp_tup
    | _ => exact q.elim
  | _ => cases y <;> exact q.elim
theorem de_add (ha : DR X E G a ma) (hb : DR X E G b mb) : DE X E G (.BinOp a .Add b pos) (ma >>= fun x => mb >>= fun y => D.add x y) := de_op op_addAll op2_add ha hb
theorem de_sub (ha : DR X E G a ma) (hb : DR X E G b mb) : DE X E G (.BinOp a .Sub b pos) (ma >>= fun x => mb >>= fun y => D.sub x y) := de_op op_sub (fun E F H v u x y Q s rx ry q => by
  cases x with
  | int i => cases y with
    | int j => exact ⟨i, j, rx.int, ry.int, q F H _ (Ext.refl s) (.int _)⟩
    | _ => exact q.elim
  | _ => cases y <;> exact q.elim) ha hb
theorem de_mul (ha : DR X E G a ma) (hb : DR X E G b mb) : DE X E G (.BinOp a .Mult b pos) (ma >>= fun x => mb >>= fun y => D.mul x y) := de_op op_mul (fun E F H v u x y Q s rx ry q => by
  cases x with
  | int i => cases y with
    | int j =>
      obtain ⟨c, q⟩ := q.need
      have c := of_decide_eq_true c
      exact ⟨i, j, rx.int, ry.int, c, q F H _ (Ext.refl s) (.int _)⟩
    | _ => exact q.elim
  | _ => cases y <;> exact q.elim) ha hb
theorem de_fdiv (ha : DR X E G a ma) (hb : DR X E G b mb) : DE X E G (.BinOp a .FloorDiv b pos) (ma >>= fun x => mb >>= fun y => D.fdiv x y) := de_op op_fdiv (fun E F H v u x y Q s rx ry q => by
  cases x with
  | int i => cases y with
    | int j =>
      obtain ⟨c, q⟩ := q.need
      have c := of_decide_eq_true c
      exact ⟨i, j, rx.int, ry.int, c, q F H _ (Ext.refl s) (.int _)⟩
    | _ => exact q.elim
  | _ => cases y <;> exact q.elim) ha hb
theorem de_mod (ha : DR X E G a ma) (hb : DR X E G b mb) : DE X E G (.BinOp a .Mod b pos) (ma >>= fun x => mb >>= fun y => D.mod x y) := de_op op_mod (fun E F H v u x y Q s rx ry q => by
  cases x with
  | int i => cases y with
    | int j =>
      obtain ⟨c, q⟩ := q.need
      have c := of_decide_eq_true c
      exact ⟨i, j, rx.int, ry.int, c, q F H _ (Ext.refl s) (.int _)⟩
    | _ => exact q.elim
  | _ => cases y <;> exact q.elim) ha hb
theorem de_pow (ha : DR X E G a ma) (hb : DR X E G b mb) : DE X E G (.BinOp a .Pow b pos) (ma >>= fun x => mb >>= fun y => D.pow x y) := de_op op_pow (fun E F H v u x y Q s rx ry q => by
  cases x with
  | int i => cases y with
    | int j =>
      obtain ⟨c, q⟩ := q.need
      have c := of_decide_eq_true c
      exact ⟨i, j, rx.int, ry.int, c, q F H _ (Ext.refl s) (.int _)⟩
    | _ => exact q.elim
  | _ => cases y <;> exact q.elim) ha hb
def rCmp (K : PySem.W.Frag) (f : D → D → M Bool) (r : R2) : Prop := Op2 K (fun x y => bD (f x y)) r
theorem cmp_lt : rCmp X.K D.lt (fun x y H Q => rI0 (fun i j => .bl (decide (i < j))) x y H Q ∨ (∃ i j, x = .str i ∧ y = .str j ∧ Q (.bl (decide (i.cps.toList < j.cps.toList))) H)) := fun E F H v u x y Q s rx ry q => by
  cases x with
  | int i => cases y with
    | int j => exact .inl ⟨i, j, rx.int, ry.int, q F H _ (Ext.refl s) (.bl _)⟩
    | _ => exact q.elim
  | str i => cases y with
    | str j => exact .inr ⟨i, j, rx.str.1, ry.str.1, q F H _ (Ext.refl s) (.bl _)⟩
    | _ => exact q.elim
  | _ => cases y <;> exact q.elim
theorem cmp_le : rCmp X.K D.le (rI0 fun i j => .bl (decide (i ≤ j))) := fun E F H v u x y Q s rx ry q => by
  cases x with
  | int i => cases y with
    | int j => exact ⟨i, j, rx.int, ry.int, q F H _ (Ext.refl s) (.bl _)⟩
    | _ => exact q.elim
  | _ => cases y <;> exact q.elim
theorem cmp_gt : rCmp X.K D.gt (rI0 fun i j => .bl (decide (j < i))) := fun E F H v u x y Q s rx ry q => by
  cases x with
  | int i => cases y with
    | int j => exact ⟨i, j, rx.int, ry.int, q F H _ (Ext.refl s) (.bl _)⟩
    | _ => exact q.elim
  | _ => cases y <;> exact q.elim
theorem cmp_ge : rCmp X.K D.ge (rI0 fun i j => .bl (decide (j ≤ i))) := fun E F H v u x y Q s rx ry q => by
  cases x with
  | int i => cases y with
    | int j => exact ⟨i, j, rx.int, ry.int, q F H _ (Ext.refl s) (.bl _)⟩
    | _ => exact q.elim
  | _ => cases y <;> exact q.elim
theorem and2 {p q : Bool} (h : (p && q) = true) : p = true ∧ q = true := Bool.and_eq_true_iff.mp h
theorem cmp_eq : rCmp X.K D.eq (rEqD X.K) := fun E F H v u x y Q s rx ry q => by
  have q' : WpG X.K E (rE X.K) (need (x.shp 20 && y.shp 20) >>= fun _ => .ok (.bl (D.beq x y))) F H Q := by
    have e : (bD (D.eq x y)) = (need (x.shp 20 && y.shp 20) >>= fun _ => .ok (.bl (D.beq x y))) := by
      unfold bD D.eq need
      cases (x.shp 20 && y.shp 20) <;> rfl
    rw [← e]
    exact q
  obtain ⟨c, q2⟩ := q'.need
  obtain ⟨c1, c2⟩ := and2 c
  obtain ⟨d1, l1⟩ := rx.dp s c1
  obtain ⟨d2, l2⟩ := ry.dp s c2
  refine ⟨_, _, d1, d2, shaped_of (by decide) c1 l1, shaped_of (by decide) c2 l2, ?_⟩
  rw [D.beq_eq c1 c2]
  exact q2 F H _ (Ext.refl s) (.bl _)
theorem cmp_ne : rCmp X.K D.ne (rNeD X.K) := fun E F H v u x y Q s rx ry q => by
  have q' : WpG X.K E (rE X.K) (need (x.shp 20 && y.shp 20) >>= fun _ => .ok (.bl (!D.beq x y))) F H Q := by
    have e : (bD (D.ne x y)) = (need (x.shp 20 && y.shp 20) >>= fun _ => .ok (.bl (!D.beq x y))) := by
      unfold bD D.ne D.eq need
      cases (x.shp 20 && y.shp 20) <;> rfl
    rw [← e]
    exact q
  obtain ⟨c, q2⟩ := q'.need
  obtain ⟨c1, c2⟩ := and2 c
  obtain ⟨d1, l1⟩ := rx.dp s c1
  obtain ⟨d2, l2⟩ := ry.dp s c2
  refine ⟨_, _, d1, d2, shaped_of (by decide) c1 l1, shaped_of (by decide) c2 l2, ?_⟩
  rw [D.beq_eq c1 c2]
  exact q2 F H _ (Ext.refl s) (.bl _)
theorem de_cmp {op : CmpOp} {r : R2} {f : D → D → M Bool} (ho : OpR X (compareOp op) r) (hf : rCmp X.K f r) (ha : DR X E G a ma) (hb : DR X E G b mb) (hm : behindInMarks op b = false) : DE X E G (.Compare a [op] [b] pos) (ma >>= fun x => mb >>= fun y => bD (f x y)) := by
  obtain ⟨ta, pa, wa⟩ := ha
  obtain ⟨tb, pb, wb⟩ := hb
  exact ⟨_, pe_cmpR ho pa pb hm, two wa wb hf⟩
theorem WpG.bool {E₁ : XK} {m : M Bool} {Q : Bool → Hp → Prop} {K : PySem.W.Frag} (q : WpG K E₁ rB m F H Q) : WpG K E₁ (rE K) (bD m) F H (fun x H' => ∃ k, x = .bl k ∧ Q k H') := by
  cases m with
  | ok c =>
    intro F' H' v x r
    cases r
    exact ⟨c, rfl, q F' H' c x rfl⟩
  | error e => cases e with
    | stuck => exact q
    | exc y => exact q
theorem DT.ofE {m : M Bool} {t : TE} {tt : TT} (pt : PT X e tt) (w : ∀ B σ F H Q, Same F H → GOk X.K B G σ F H → WpG X.K (E σ) (rE X.K) (bD m) F H Q → t σ H Q) (h : ∀ σ H Q, t σ H (fun x H' => ∃ k, x = .bl k ∧ Q k H') → tt σ H Q) : DT X E G e m :=
  ⟨tt, pt, fun B σ F H Q s g q => h σ H Q (w B σ F H _ s g q.bool)⟩
theorem two_b {f : D → D → M Bool} : (ma >>= fun x => mb >>= fun y => bD (f x y)) = bD (ma >>= fun x => mb >>= fun y => f x y) := by
  cases ma with
  | error e => rfl
  | ok x => cases mb <;> rfl
theorem dt_cmp {op : CmpOp} {r : R2} {f : D → D → M Bool} (ho : OpR X (compareOp op) r) (hf : rCmp X.K f r) (ha : DR X E G a ma) (hb : DR X E G b mb) (hm : behindInMarks op b = false) : DT X E G (.Compare a [op] [b] pos) (ma >>= fun x => mb >>= fun y => f x y) := by
  obtain ⟨ta, pa, wa⟩ := ha
  obtain ⟨tb, pb, wb⟩ := hb
  refine DT.ofE (t := tOp r ta tb) (pt_cmpR ho pa pb hm) ?_ (fun _ _ _ h => h)
  rw [← two_b]
  exact two wa wb hf
def rInDct : R2 := fun x y H Q => ∃ a o, y = .ref a ∧ DGet H a x o ∧ Q (.bl o.isSome) H
theorem op_inDct (hu : X.A.units + 1 < cLine) : OpR X (compareOp .In) rInDct := by
  intro pins s σ H x y v u Q I rx ry h
  obtain ⟨a, o, rfl, g, q⟩ := h
  obtain rfl : u = Value.ref a := ry
  exact d_in hu I g rx fun s3 I3 => ⟨.bl o.isSome, H, I3, rfl, q⟩
def rNinDct : R2 := fun x y H Q => ∃ a o, y = .ref a ∧ DGet H a x o ∧ Q (.bl (!o.isSome)) H
theorem op_ninDct (hu : X.A.units + 1 < cLine) : OpR X (compareOp .NotIn) rNinDct := by
  intro pins s σ H x y v u Q I rx ry h
  obtain ⟨a, o, rfl, g, q⟩ := h
  obtain rfl : u = Value.ref a := ry
  exact d_notIn hu I g rx fun s3 I3 => ⟨.bl (!o.isSome), H, I3, rfl, q⟩
def rInT (K : PySem.W.Frag) : R2 := fun x y H Q => ∃ d ds, Dp K H x d ∧ Dp K H y (.tuple ds) ∧ SeqAt.shaped d = true ∧ SeqAt.shaped (.tuple ds) = true ∧ Q (.bl (ds.any fun z => PyData.eqv z d)) H
def rNinT (K : PySem.W.Frag) : R2 := fun x y H Q => ∃ d ds, Dp K H x d ∧ Dp K H y (.tuple ds) ∧ SeqAt.shaped d = true ∧ SeqAt.shaped (.tuple ds) = true ∧ Q (.bl (!ds.any fun z => PyData.eqv z d)) H
theorem room_inT {A : Around} {ds : List PyData} {d : PyData} (sd : SeqAt.shaped d = true) (hu : A.units + 65 < cLine) : A.units + 1 + min (PyData.depthAll ds) d.depth < cLine := by
  have h1 := SeqAt.depth_of_shaped sd
  have h2 : min (PyData.depthAll ds) d.depth ≤ d.depth := Nat.min_le_right _ _
  omega
theorem op_inT (hu : X.A.units + 65 < cLine) : OpR X (compareOp .In) (rInT X.K) := by
  intro pins s σ H x y v u Q I rx ry h
  obtain ⟨d, ds, hd, he, sd, se, q⟩ := h
  obtain ⟨as, r1⟩ := Dp.reads I d x v hd rx
  obtain ⟨bs, r2⟩ := Dp.reads I (.tuple ds) y u he ry
  exact SeqAt.in_tuple_reads r2 r1 (SeqAt.canLay_of_shaped se) (SeqAt.canLay_of_shaped sd) (room_inT sd hu) ⟨.bl _, H, I, rfl, q⟩
theorem op_ninT (hu : X.A.units + 65 < cLine) : OpR X (compareOp .NotIn) (rNinT X.K) := by
  intro pins s σ H x y v u Q I rx ry h
  obtain ⟨d, ds, hd, he, sd, se, q⟩ := h
  obtain ⟨as, r1⟩ := Dp.reads I d x v hd rx
  obtain ⟨bs, r2⟩ := Dp.reads I (.tuple ds) y u he ry
  exact SeqAt.notIn_tuple_reads r2 r1 (SeqAt.canLay_of_shaped se) (SeqAt.canLay_of_shaped sd) (room_inT sd hu) ⟨.bl _, H, I, rfl, q⟩
theorem any_py {x : D} {n : Nat} (hx : x.shp n = true) : ∀ {l : List D}, l.all (D.shp n) = true → ((D.pyL l).any fun z => PyData.eqv z x.py) = l.any fun z => D.beq z x
  | [], _ => by simp [D.pyL]
  | d :: l, h => by
    rw [List.all_cons, Bool.and_eq_true] at h
    simp only [D.pyL, List.any_cons]
    rw [D.beq_eq h.1 hx, any_py hx h.2]
theorem keyV {v : V} {k : D} {K : PySem.W.Frag} (h : k.isKey = true) (r : RpT K F H v k) : ∃ q : Key, v = kV q ∧ k = kD q := by
  cases k with
  | int i => exact ⟨.inl i, r.int, rfl⟩
  | str x => exact ⟨.inr x, r.str.1, rfl⟩
  | _ => cases h
theorem beq_key (p q : Key) : D.beq (kD p) (kD q) = decide (p = q) := by
  cases p with
  | inl i => cases q with
    | inl j =>
      show D.beq (.int i) (.int j) = _
      simp [D.beq]
    | inr y =>
      show D.beq (.int i) (.str y) = _
      simp [D.beq]
  | inr x => cases q with
    | inl j =>
      show D.beq (.str x) (.int j) = _
      simp [D.beq]
    | inr y =>
      show D.beq (.str x) (.str y) = _
      simp [D.beq]
theorem look_val {K : PySem.W.Frag} (q : Key) : ∀ {kvs : List (Key × V)} {l : List (D × D)}, kvs.map (fun q => kD q.1) = l.map (·.1) → RpL K F (kvs.map (·.2)) (l.map (·.2)) →
    (valV kvs q = none ∧ D.look l (kD q) = none) ∨ ∃ v d, valV kvs q = some v ∧ D.look l (kD q) = some d ∧ Rp K F v d
  | [], [], _, _ => .inl ⟨rfl, rfl⟩
  | [], _ :: _, h, _ => by simp at h
  | _ :: _, [], h, _ => by simp at h
  | (k, v) :: kvs, (k2, d) :: l, h, r => by
    have h1 : kD k = k2 ∧ kvs.map (fun q => kD q.1) = l.map (·.1) := by simpa using h
    obtain ⟨rfl, h2⟩ := h1
    have r' : RpL K F (v :: kvs.map (·.2)) (d :: l.map (·.2)) := r
    cases r' with
    | cons r1 r2 =>
      by_cases e : k = q
      · subst e
        refine .inr ⟨v, d, ?_, ?_, r1⟩
        · simp [valV]
        · simp [D.look, List.find?_cons, beq_key]
      · have ih := look_val q h2 r2
        have e1 : valV ((k, v) :: kvs) q = valV kvs q := by simp [valV, List.find?_cons, e]
        have e2 : D.look ((kD k, d) :: l) (kD q) = D.look l (kD q) := by simp [D.look, List.find?_cons, beq_key, e]
        rw [e1, e2]
        exact ih
def rInAll (K : PySem.W.Frag) : R2 := fun x y H Q => (∃ (c : Nat) (z : Str), x = .str ⟨#[c]⟩ ∧ y = .str z ∧ Q (.bl (decide (c ∈ z.cps.toList))) H) ∨ (∃ i j, x = .str i ∧ y = .str j ∧ Q (.bl (!(Builtin.Str.occurrences j i 0 j.length 1).isEmpty)) H) ∨ rInD K x y H Q ∨ rInT K x y H Q ∨ rInDct x y H Q
theorem op_inAll (hu : X.A.units + 70 < cLine) : OpR X (compareOp .In) (rInAll X.K) := op_in_sign.or (op_in_str.or ((op_inD (by omega)).or ((op_inT (by omega)).or (op_inDct (by omega)))))
theorem cmp_in : rCmp X.K D.mem (rInAll X.K) := fun E F H v u x y Q s rx ry q => by
  cases y with
  | str z =>
    cases x with
    | str y =>
      obtain ⟨⟨cps⟩⟩ := y
      rcases cps with _ | ⟨c, _ | ⟨c2, r⟩⟩
      · exact .inr (.inl ⟨_, z, rx.str.1, ry.str.1, q F H _ (Ext.refl s) (.bl _)⟩)
      · exact .inl ⟨c, z, rx.str.1, ry.str.1, q F H _ (Ext.refl s) (.bl _)⟩
      · exact .inr (.inl ⟨_, z, rx.str.1, ry.str.1, q F H _ (Ext.refl s) (.bl _)⟩)
    | _ => exact q.elim
  | lst l =>
    have q' : WpG X.K E (rE X.K) (need (x.shp 19 && l.all (D.shp 19)) >>= fun _ => .ok (.bl (l.any fun z => D.beq z x))) F H Q := by
      have e : bD (D.mem x (.lst l)) = (need (x.shp 19 && l.all (D.shp 19)) >>= fun _ => .ok (.bl (l.any fun z => D.beq z x))) := by
        unfold bD D.mem need
        simp only
        cases (x.shp 19 && l.all (D.shp 19)) <;> rfl
      rw [← e]
      exact q
    obtain ⟨c, q2⟩ := q'.need
    obtain ⟨c1, c2⟩ := and2 c
    obtain ⟨d1, l1⟩ := rx.dp s c1
    have c3 : (D.lst l).shp 20 = true := c2
    obtain ⟨d2, l2⟩ := ry.dp s c3
    have sh := shaped_of (by decide) c3 l2
    simp only [D.py] at d2 sh
    refine .inr (.inr (.inl ⟨_, _, d1, d2, shaped_of (by decide) c1 l1, sh, ?_⟩))
    rw [any_py c1 c2]
    exact q2 F H _ (Ext.refl s) (.bl _)
  | tup l =>
    have q' : WpG X.K E (rE X.K) (need (x.shp 19 && l.all (D.shp 19)) >>= fun _ => .ok (.bl (l.any fun z => D.beq z x))) F H Q := by
      have e : bD (D.mem x (.tup l)) = (need (x.shp 19 && l.all (D.shp 19)) >>= fun _ => .ok (.bl (l.any fun z => D.beq z x))) := by
        unfold bD D.mem need
        simp only
        cases (x.shp 19 && l.all (D.shp 19)) <;> rfl
      rw [← e]
      exact q
    obtain ⟨c, q2⟩ := q'.need
    obtain ⟨c1, c2⟩ := and2 c
    obtain ⟨d1, l1⟩ := rx.dp s c1
    have c3 : (D.tup l).shp 20 = true := c2
    obtain ⟨d2, l2⟩ := ry.dp s c3
    have sh := shaped_of (by decide) c3 l2
    simp only [D.py] at d2 sh
    refine .inr (.inr (.inr (.inl ⟨_, _, d1, d2, shaped_of (by decide) c1 l1, sh, ?_⟩)))
    rw [any_py c1 c2]
    exact q2 F H _ (Ext.refl s) (.bl _)
  | dct l =>
    have q' : WpG X.K E (rE X.K) (need x.isKey >>= fun _ => .ok (.bl (D.look l x).isSome)) F H Q := by
      have e : bD (D.mem x (.dct l)) = (need x.isKey >>= fun _ => .ok (.bl (D.look l x).isSome)) := by
        unfold bD D.mem need
        simp only
        cases x.isKey <;> rfl
      rw [← e]
      exact q
    obtain ⟨c, q2⟩ := q'.need
    obtain ⟨k, rfl, rfl⟩ := keyV c rx
    obtain ⟨a, rfl, kvs, e1, e2, r2⟩ := ry.dct s
    refine .inr (.inr (.inr (.inr ⟨a, valV kvs k, rfl, DGet.kr e1, ?_⟩)))
    rcases look_val k e2 r2 with ⟨h1, h2⟩ | ⟨v, d, h1, h2, _⟩
    · rw [h2] at q2
      rw [h1]
      exact q2 F H _ (Ext.refl s) (.bl _)
    · rw [h2] at q2
      rw [h1]
      exact q2 F H _ (Ext.refl s) (.bl _)
  | _ => exact q.elim
end
end DL

set_option Elab.async false
set_option linter.all false
set_option maxRecDepth 100000
set_option maxHeartbeats 4000000
namespace DL
open PySem PySem.Spec L2
section
variable {X : Cx} {E : St → XK} {G : List Sl} {a b c e : Expr} {ma mb mc : M D} {ta tb : M Bool} {pos : Pos} {F H : Hp}
theorem rNinAll_op (hu : X.A.units + 70 < cLine) : OpR X (compareOp .NotIn) (fun x y H Q => (∃ (c : Nat) (z : Str), x = .str ⟨#[c]⟩ ∧ y = .str z ∧ Q (.bl (!decide (c ∈ z.cps.toList))) H) ∨ (∃ i j, x = .str i ∧ y = .str j ∧ Q (.bl (!(!(Builtin.Str.occurrences j i 0 j.length 1).isEmpty))) H) ∨ rNotInD X.K x y H Q ∨ rNinT X.K x y H Q ∨ rNinDct x y H Q) :=
  op_notIn_sign.or (op_notin_str.or ((op_notInD (by omega)).or ((op_ninT (by omega)).or (op_ninDct (by omega)))))
theorem cmp_nin : rCmp X.K D.nmem (fun x y H Q => (∃ (c : Nat) (z : Str), x = .str ⟨#[c]⟩ ∧ y = .str z ∧ Q (.bl (!decide (c ∈ z.cps.toList))) H) ∨ (∃ i j, x = .str i ∧ y = .str j ∧ Q (.bl (!(!(Builtin.Str.occurrences j i 0 j.length 1).isEmpty))) H) ∨ rNotInD X.K x y H Q ∨ rNinT X.K x y H Q ∨ rNinDct x y H Q) := fun E F H v u x y Q s rx ry q => by
  cases y with
  | str z =>
    cases x with
    | str y =>
      obtain ⟨⟨cps⟩⟩ := y
      rcases cps with _ | ⟨c, _ | ⟨c2, r⟩⟩
      · exact .inr (.inl ⟨_, z, rx.str.1, ry.str.1, q F H _ (Ext.refl s) (.bl _)⟩)
      · exact .inl ⟨c, z, rx.str.1, ry.str.1, q F H _ (Ext.refl s) (.bl _)⟩
      · exact .inr (.inl ⟨_, z, rx.str.1, ry.str.1, q F H _ (Ext.refl s) (.bl _)⟩)
    | _ => exact q.elim
  | lst l =>
    have q' : WpG X.K E (rE X.K) (need (x.shp 19 && l.all (D.shp 19)) >>= fun _ => .ok (.bl (!l.any fun z => D.beq z x))) F H Q := by
      have e : bD (D.nmem x (.lst l)) = (need (x.shp 19 && l.all (D.shp 19)) >>= fun _ => .ok (.bl (!l.any fun z => D.beq z x))) := by
        unfold bD D.nmem D.mem need
        simp only
        cases (x.shp 19 && l.all (D.shp 19)) <;> rfl
      rw [← e]
      exact q
    obtain ⟨c, q2⟩ := q'.need
    obtain ⟨c1, c2⟩ := and2 c
    obtain ⟨d1, l1⟩ := rx.dp s c1
    have c3 : (D.lst l).shp 20 = true := c2
    obtain ⟨d2, l2⟩ := ry.dp s c3
    have sh := shaped_of (by decide) c3 l2
    simp only [D.py] at d2 sh
    refine .inr (.inr (.inl ⟨_, _, d1, d2, shaped_of (by decide) c1 l1, sh, ?_⟩))
    rw [any_py c1 c2]
    exact q2 F H _ (Ext.refl s) (.bl _)
  | tup l =>
    have q' : WpG X.K E (rE X.K) (need (x.shp 19 && l.all (D.shp 19)) >>= fun _ => .ok (.bl (!l.any fun z => D.beq z x))) F H Q := by
      have e : bD (D.nmem x (.tup l)) = (need (x.shp 19 && l.all (D.shp 19)) >>= fun _ => .ok (.bl (!l.any fun z => D.beq z x))) := by
        unfold bD D.nmem D.mem need
        simp only
        cases (x.shp 19 && l.all (D.shp 19)) <;> rfl
      rw [← e]
      exact q
    obtain ⟨c, q2⟩ := q'.need
    obtain ⟨c1, c2⟩ := and2 c
    obtain ⟨d1, l1⟩ := rx.dp s c1
    have c3 : (D.tup l).shp 20 = true := c2
    obtain ⟨d2, l2⟩ := ry.dp s c3
    have sh := shaped_of (by decide) c3 l2
    simp only [D.py] at d2 sh
    refine .inr (.inr (.inr (.inl ⟨_, _, d1, d2, shaped_of (by decide) c1 l1, sh, ?_⟩)))
    rw [any_py c1 c2]
    exact q2 F H _ (Ext.refl s) (.bl _)
  | dct l =>
    have q' : WpG X.K E (rE X.K) (need x.isKey >>= fun _ => .ok (.bl (!(D.look l x).isSome))) F H Q := by
      have e : bD (D.nmem x (.dct l)) = (need x.isKey >>= fun _ => .ok (.bl (!(D.look l x).isSome))) := by
        unfold bD D.nmem D.mem need
        simp only
        cases x.isKey <;> rfl
      rw [← e]
      exact q
    obtain ⟨c, q2⟩ := q'.need
    obtain ⟨k, rfl, rfl⟩ := keyV c rx
    obtain ⟨a, rfl, kvs, e1, e2, r2⟩ := ry.dct s
    refine .inr (.inr (.inr (.inr ⟨a, valV kvs k, rfl, DGet.kr e1, ?_⟩)))
    rcases look_val k e2 r2 with ⟨h1, h2⟩ | ⟨v, d, h1, h2, _⟩
    · rw [h2] at q2
      rw [h1]
      exact q2 F H _ (Ext.refl s) (.bl _)
    · rw [h2] at q2
      rw [h1]
      exact q2 F H _ (Ext.refl s) (.bl _)
  | _ => exact q.elim
def D.isN (x y : D) : M Bool := match y with
  | .non => .ok x.isNon
  | _ => stuck
def D.notN (x y : D) : M Bool := match y with
  | .non => .ok (!x.isNon)
  | _ => stuck
theorem isNon_of {v : V} {d : D} {K : PySem.W.Frag} (r : RpT K F H v d) : decide (v = .non) = d.isNon := by
  cases r with
  | of r => cases r <;> rfl
  | own _ _ => rfl
  | ownd _ => rfl
  | ownu _ => rfl
  | obj _ _ _ => rfl
  | obt _ _ _ => rfl
theorem cmp_isN : rCmp X.K D.isN (fun x y H Q => y = .non ∧ Q (.bl (decide (x = .non))) H) := fun E F H v u x y Q s rx ry q => by
  cases y with
  | non => exact ⟨ry.non, by rw [isNon_of rx]; exact q F H _ (Ext.refl s) (.bl _)⟩
  | _ => exact q.elim
theorem dt_chain {op op' : CmpOp} {r r' : R2} {f f' : D → D → M Bool} (ho : OpR X (compareOp op) r) (ho' : OpR X (compareOp op') r') (hf : rCmp X.K f r) (hf' : rCmp X.K f' r') (ha : DR X E G a ma) (hb : DR X E G b mb) (hc : DR X E G c mc)
    (hm : lastMarks [op, op'] [b, c] = false := by with_unfolding_all rfl) :
    DT X E G (.Compare a [op, op'] [b, c] pos) (ma >>= fun x => mb >>= fun y => f x y >>= fun k => if k = true then mc >>= fun z => f' y z else .ok false) := by
  obtain ⟨t1, p1, w1⟩ := ha
  obtain ⟨t2, p2, w2⟩ := hb
  obtain ⟨t3, p3, w3⟩ := hc
  refine ⟨_, pt_chain ho ho' p1 p2 p3 hm, fun B σ F H Q s g q => w1 B σ F H _ s g (q.bind fun x F1 H1 v x1 r1 q1 => w2 B σ F1 H1 _ x1.sFH (g.ext x1) (q1.bind fun y F2 H2 u x2 r2 q2 => ?_))⟩
  refine hf (E σ) F2 H2 v u x y _ x2.sFH (r1.ext x2) r2 (WpG.bool (q2.bind fun k F3 H3 k' x3 e q3 => ?_))
  subst e
  cases k' with
  | true =>
    rw [if_pos rfl] at q3 ⊢
    exact w3 B σ F3 H3 _ x3.sFH ((g.ext x1).ext x2 |>.ext x3) (q3.bind fun z F4 H4 w x4 r4 q4 => hf' (E σ) F4 H4 u w y z _ x4.sFH ((r2.ext x3).ext x4) r4 (WpG.bool q4))
  | false =>
    rw [if_neg Bool.false_ne_true] at q3 ⊢
    exact ⟨false, rfl, q3 F3 H3 _ (Ext.refl x3.sFH) rfl⟩

def TruW (K : PySem.W.Frag) (v : V) (H : Hp) (k : Bool) : Prop := TruV K v H k ∨ ∃ p kvs, v = .ref p ∧ Rd H p (.dK kvs) ∧ k = !kvs.isEmpty
theorem tru_okW {X : Cx} : TruR X (fun x H Q => ∃ k, TruW X.K x H k ∧ Q k H) := by
  intro pins s σ H x v Q I rx h
  obtain ⟨k, e, q⟩ := h
  rcases e with e | ⟨p, kvs, rfl, e, rfl⟩
  · exact tru_ok pins s σ H x v Q I rx ⟨k, e, q⟩
  · cases rx
    exact d_truth I e fun s' I' => ⟨H, I', q⟩
theorem pt_truthW {X : Cx} {a : Expr} {ta : TE} (ha : PE X a ta) (he : ∀ whole, isTrue a X.env whole = (do let v ← whole; standAt a.pos; holding [v] (truthy v))) :
    PT X a (fun σ H Q => ta σ H fun x H' => ∃ k, TruW X.K x H' k ∧ Q k H') := by
  refine ⟨fun pins s σ H Q I h => ?_⟩
  exact PyProof.Rows.isTrue_plain (thn (ha.run pins s σ H _ I h) fun v s1 ⟨x, H1, I1, r1, q1⟩ => tru_okW pins s1 σ H1 x v Q I1 r1 q1) (he _)
theorem call_lenR : CallR X (.builtin "len") (fun xs H Q => ∃ a kvs, xs = [V.ref a] ∧ Rd H a (.dK kvs) ∧ Q (.int kvs.length) H) := by
  intro pins s σ H xs us Q I r h
  obtain ⟨a, kvs, rfl, ha, q⟩ := h
  obtain ⟨u, rfl, ru⟩ := vals1 r
  cases ru
  exact d_len I ha fun t s' I' => ⟨.int kvs.length, H, I', ⟨t, rfl⟩, q⟩
section
variable {X : Cx} {a b : Expr} {ta tb : TE} {rest : List Expr} {pos : Pos}
theorem pe_orW (ha : PE X a ta) (hb : PE X (.BoolOp .Or (b :: rest) pos) tb) : PE X (.BoolOp .Or (a :: b :: rest) pos) (fun σ H Q => ta σ H fun x H1 => ∃ k, TruW X.K x H1 k ∧ if k = true then Q x H1 else tb σ H1 Q) := by
  refine ⟨fun pins s σ H Q I h => ?_⟩
  refine PyProof.Rows.BoolOp_or (thn (ha.run pins s σ H _ I h) fun v s1 ⟨x, H1, I1, r1, q1⟩ => ?_)
  obtain ⟨k, e, q1⟩ := q1
  refine thn (tru_okW pins s1 σ H1 x v (fun c H2 => c = k ∧ H2 = H1) I1 r1 ⟨k, e, rfl, rfl⟩) fun c s2 hc => ?_
  obtain ⟨H2, I2, e1, e2⟩ := hc
  rw [e2] at I2
  rw [← e1] at q1
  cases c with
  | true => exact ⟨x, H1, I2, r1, q1⟩
  | false => exact hb.run pins s2 σ H1 Q I2 q1
theorem pe_andW (ha : PE X a ta) (hb : PE X (.BoolOp .And (b :: rest) pos) tb) : PE X (.BoolOp .And (a :: b :: rest) pos) (fun σ H Q => ta σ H fun x H1 => ∃ k, TruW X.K x H1 k ∧ if k = true then tb σ H1 Q else Q x H1) := by
  refine ⟨fun pins s σ H Q I h => ?_⟩
  refine PyProof.Rows.BoolOp_and (thn (ha.run pins s σ H _ I h) fun v s1 ⟨x, H1, I1, r1, q1⟩ => ?_)
  obtain ⟨k, e, q1⟩ := q1
  refine thn (tru_okW pins s1 σ H1 x v (fun c H2 => c = k ∧ H2 = H1) I1 r1 ⟨k, e, rfl, rfl⟩) fun c s2 hc => ?_
  obtain ⟨H2, I2, e1, e2⟩ := hc
  rw [e2] at I2
  rw [← e1] at q1
  cases c with
  | true => exact hb.run pins s2 σ H1 Q I2 q1
  | false => exact ⟨x, H1, I2, r1, q1⟩
end
theorem tru_of {v : V} {d : D} {k : Bool} {K : PySem.W.Frag} (s : Same F H) (r : RpT K F H v d) (e : D.tru d = .ok k) : TruW K v H k := by
  cases d with
  | non => rw [r.non]; cases e; exact .inl rfl
  | bl b => rw [r.bl]; cases e; exact .inl rfl
  | int i => rw [r.int]; cases e; exact .inl rfl
  | str y =>
    rw [r.str.1]
    by_cases h : y.length ≤ sizeLine
    · have e2 : D.tru (.str y) = .ok ((y.length : Int) != 0) := by
        show (need (decide (y.length ≤ sizeLine)) >>= fun _ => .ok ((y.length : Int) != 0)) = _
        rw [decide_eq_true h]
        rfl
      rw [e2] at e
      cases e
      exact .inl ⟨h, rfl⟩
    · have e2 : D.tru (.str y) = stuck := by
        show (need (decide (y.length ≤ sizeLine)) >>= fun _ => .ok ((y.length : Int) != 0)) = _
        rw [decide_eq_false h]
        rfl
      rw [e2] at e
      cases e
  | lst l =>
    obtain ⟨p, xs, rfl, h, r⟩ := r.lst s
    cases e
    refine .inl (.inl ⟨xs, SqL.of h, ?_⟩)
    cases r <;> rfl
  | tup l =>
    obtain ⟨p, xs, rfl, h, r⟩ := r.tup s
    cases e
    refine .inl (.inr (.inl ⟨xs, h, ?_⟩))
    cases r <;> rfl
  | dct l =>
    obtain ⟨p, rfl, kvs, h, h2, r⟩ := r.dct s
    cases e
    refine .inr ⟨p, kvs, rfl, h, ?_⟩
    cases kvs with
    | nil => cases l with
      | nil => rfl
      | cons _ _ => simp at h2
    | cons _ _ => cases l with
      | nil => simp at h2
      | cons _ _ => rfl
  | _ => cases e
theorem tru_err {d : D} {x : Er} (h : D.tru d = .error x) : x = .stuck := by
  cases d with
  | str y =>
    have h : (need (decide (y.length ≤ sizeLine)) >>= fun _ => (.ok ((y.length : Int) != 0) : M Bool)) = .error x := h
    cases hd : decide (y.length ≤ sizeLine) with
    | true => rw [hd] at h; cases h
    | false => rw [hd] at h; cases h; rfl
  | non => cases h
  | bl _ => cases h
  | int _ => cases h
  | lst _ => cases h
  | tup _ => cases h
  | dct _ => cases h
  | _ => cases h; rfl
theorem WpG.tru {E₁ : XK} {α β : Type} {rel : Hp → Hp → β → α → Prop} {d : D} {v : V} {k : Bool → M α} {Q : β → Hp → Prop} {K : PySem.W.Frag} (q : WpG K E₁ rel (D.tru d >>= k) F H Q) (s : Same F H) (r : RpT K F H v d) : ∃ b, D.tru d = .ok b ∧ TruW K v H b ∧ WpG K E₁ rel (k b) F H Q := by
  cases e : D.tru d with
  | ok b =>
    rw [e] at q
    exact ⟨b, rfl, tru_of s r e, q⟩
  | error x =>
    rw [e] at q
    have := tru_err e
    subst this
    exact q.elim
theorem dt_val (ha : DR X E G a ma) (he : ∀ whole, isTrue a X.env whole = (do let v ← whole; standAt a.pos; holding [v] (truthy v)) := by intro _; rfl) : DT X E G a (ma >>= fun x => D.tru x) := by
  obtain ⟨t, p, w⟩ := ha
  refine ⟨_, pt_truthW p he, fun B σ F H Q s g q => w B σ F H _ s g (q.bind fun x F1 H1 v x1 r1 q1 => ?_)⟩
  have q2 : WpG X.K (E σ) rB (D.tru x >>= fun b => .ok b) F1 H1 Q := by
    cases e : D.tru x with
    | ok b => rw [e] at q1; exact q1
    | error z => rw [e] at q1; exact q1
  obtain ⟨k, e, tk, q3⟩ := q2.tru x1.sFH r1
  exact ⟨k, tk, q3 F1 H1 _ (Ext.refl x1.sFH) rfl⟩
theorem dt_not (ha : DT X E G a ta) : DT X E G (.UnaryOp .Not a pos) (ta >>= fun x => .ok (!x)) := by
  obtain ⟨t, p, w⟩ := ha
  exact ⟨_, pt_not p, fun B σ F H Q s g q => w B σ F H _ s g (q.bind fun x F1 H1 v x1 r1 q1 => by
    subst r1
    exact q1 F1 H1 _ (Ext.refl x1.sFH) rfl)⟩
theorem DW.dt (h : DW X E G e ta) : DT X E G e ta := let ⟨t, p, w⟩ := h; ⟨t, p.pt, w⟩
theorem dw_and1 (ha : DT X E G a ta) : DW X E G (.BoolOp .And [a] pos) ta := let ⟨t, p, w⟩ := ha; ⟨t, pw_and1 p, w⟩
theorem dw_or1 (ha : DT X E G a ta) : DW X E G (.BoolOp .Or [a] pos) ta := let ⟨t, p, w⟩ := ha; ⟨t, pw_or1 p, w⟩
theorem dw_and {rest : List Expr} (ha : DT X E G a ta) (hb : DW X E G (.BoolOp .And (b :: rest) pos) tb) : DW X E G (.BoolOp .And (a :: b :: rest) pos) (ta >>= fun x => if x = true then tb else .ok false) := by
  obtain ⟨t1, p1, w1⟩ := ha
  obtain ⟨t2, p2, w2⟩ := hb
  refine ⟨_, pw_and p1 p2, fun B σ F H Q s g q => w1 B σ F H _ s g (q.bind fun x F1 H1 v x1 r1 q1 => ?_)⟩
  subst r1
  cases v with
  | true => exact w2 B σ F1 H1 _ x1.sFH (g.ext x1) q1
  | false => exact q1 F1 H1 _ (Ext.refl x1.sFH) rfl
theorem dw_or {rest : List Expr} (ha : DT X E G a ta) (hb : DW X E G (.BoolOp .Or (b :: rest) pos) tb) : DW X E G (.BoolOp .Or (a :: b :: rest) pos) (ta >>= fun x => if x = true then .ok true else tb) := by
  obtain ⟨t1, p1, w1⟩ := ha
  obtain ⟨t2, p2, w2⟩ := hb
  refine ⟨_, pw_or p1 p2, fun B σ F H Q s g q => w1 B σ F H _ s g (q.bind fun x F1 H1 v x1 r1 q1 => ?_)⟩
  subst r1
  cases v with
  | true => exact q1 F1 H1 _ (Ext.refl x1.sFH) rfl
  | false => exact w2 B σ F1 H1 _ x1.sFH (g.ext x1) q1
theorem de_one {op : BoolOp} (ha : DE X E G a ma) : DE X E G (.BoolOp op [a] pos) ma := let ⟨t, p, w⟩ := ha; ⟨t, pe_one p, w⟩
theorem de_and {rest : List Expr} (ha : DE X E G a ma) (hb : DE X E G (.BoolOp .And (b :: rest) pos) mb) : DE X E G (.BoolOp .And (a :: b :: rest) pos) (ma >>= fun x => D.tru x >>= fun k => if k = true then mb else .ok x) := by
  obtain ⟨t1, p1, w1⟩ := ha
  obtain ⟨t2, p2, w2⟩ := hb
  refine ⟨_, pe_andW p1 p2, fun B σ F H Q s g q => w1 B σ F H _ s g (q.bind fun x F1 H1 v x1 r1 q1 => ?_)⟩
  obtain ⟨k, e, tk, q3⟩ := q1.tru x1.sFH (.of r1)
  refine ⟨k, tk, ?_⟩
  cases k with
  | true => exact w2 B σ F1 H1 _ x1.sFH (g.ext x1) q3
  | false => exact q3 F1 H1 _ (Ext.refl x1.sFH) r1
theorem de_or {rest : List Expr} (ha : DE X E G a ma) (hb : DE X E G (.BoolOp .Or (b :: rest) pos) mb) : DE X E G (.BoolOp .Or (a :: b :: rest) pos) (ma >>= fun x => D.tru x >>= fun k => if k = true then .ok x else mb) := by
  obtain ⟨t1, p1, w1⟩ := ha
  obtain ⟨t2, p2, w2⟩ := hb
  refine ⟨_, pe_orW p1 p2, fun B σ F H Q s g q => w1 B σ F H _ s g (q.bind fun x F1 H1 v x1 r1 q1 => ?_)⟩
  obtain ⟨k, e, tk, q3⟩ := q1.tru x1.sFH (.of r1)
  refine ⟨k, tk, ?_⟩
  cases k with
  | true => exact q3 F1 H1 _ (Ext.refl x1.sFH) r1
  | false => exact w2 B σ F1 H1 _ x1.sFH (g.ext x1) q3
def rIxDct : R2 := fun x y H Q => ∃ a v, x = .ref a ∧ DGet H a y (some v) ∧ Q v H
theorem ix_dct (hu : X.A.units + 1 < cLine) : IxR X rIxDct := by
  intro value slice pins s σ H x y v u Q I rx ry h hs
  obtain ⟨a, z, rfl, g, q⟩ := h
  obtain rfl : v = Value.ref a := rx
  exact PyProof.Rows.tail_any (dict_typeIs I g) PySem.F.slot_dict_getitem.lookup (d_getItem hu I g ry fun w' s3 I3 rw' => ⟨z, H, I3, rw', q⟩) hs
theorem ix_all (hu : X.A.units + 70 < cLine) : IxR X (fun x y H Q => rIx X.K x y H Q ∨ rIxDct x y H Q) := ix_seq.or (ix_dct (by omega))
theorem ixN_atI {α : Type} {xs : List α} {i : Int} {x : α} (h : atI xs i = some x) : ∃ j, ixN xs.length i = some j ∧ xs[j]? = some x := by
  unfold atI at h
  cases e : ixN xs.length i with
  | none => rw [e] at h; cases h
  | some j => rw [e] at h; exact ⟨j, rfl, h⟩
theorem atI_rp {K : PySem.W.Frag} {xs : List V} {l : List D} {i : Int} {d : D} (r : RpL K F xs l) (h : atI l i = some d) : ∃ x, atI xs i = some x ∧ Rp K F x d := by
  obtain ⟨j, h1, h2⟩ := ixN_atI h
  obtain ⟨x, h3, h4⟩ := r.get h2
  refine ⟨x, ?_, h4⟩
  unfold atI
  rw [r.length, h1]
  exact h3
theorem op2_ix : Op2 X.K D.ix (fun x y H Q => rIx X.K x y H Q ∨ rIxDct x y H Q) := fun E F H v u x y Q s rx ry q => by
  cases x with
  | lst l => cases y with
    | int i =>
      obtain ⟨p, xs, rfl, h, r⟩ := rx.lst s
      have q : WpG X.K E (rE X.K) (match atI l i with | some d => .ok d | none => stuck) F H Q := q
      cases e : atI l i with
      | none => rw [e] at q; exact q.elim
      | some d =>
        rw [e] at q
        obtain ⟨z, h1, h2⟩ := atI_rp r e
        exact .inl (.inl ⟨p, xs, i, z, rfl, ry.int, SqL.of h, h1, q F H _ (Ext.refl s) h2⟩)
    | _ => exact q.elim
  | tup l => cases y with
    | int i =>
      obtain ⟨p, xs, rfl, h, r⟩ := rx.tup s
      have q : WpG X.K E (rE X.K) (match atI l i with | some d => .ok d | none => stuck) F H Q := q
      cases e : atI l i with
      | none => rw [e] at q; exact q.elim
      | some d =>
        rw [e] at q
        obtain ⟨z, h1, h2⟩ := atI_rp r e
        exact .inl (.inr (.inl ⟨p, xs, i, z, rfl, ry.int, h, h1, q F H _ (Ext.refl s) h2⟩))
    | _ => exact q.elim
  | str z => cases y with
    | int i =>
      have q : WpG X.K E (rE X.K) (need (decide (z.length ≤ sizeLine)) >>= fun _ => (match atI z.cps.toList i with | some c => .ok (.str ⟨#[c]⟩) | none => stuck)) F H Q := q
      obtain ⟨c, q⟩ := q.need
      have c := of_decide_eq_true c
      cases e : atI z.cps.toList i with
      | none => rw [e] at q; exact q.elim
      | some d =>
        rw [e] at q
        obtain ⟨j, _, h2⟩ := ixN_atI e
        exact .inl (.inr (.inr ⟨z, i, d, rx.str.1, ry.int, c, e, q F H _ (Ext.refl s) (.str _ (strOk_one rx.str.2 (List.mem_of_getElem? h2)))⟩))
    | _ => exact q.elim
  | dct l =>
    have q : WpG X.K E (rE X.K) (need y.isKey >>= fun _ => (match D.look l y with | some d => .ok d | none => stuck)) F H Q := q
    obtain ⟨c, q⟩ := q.need
    obtain ⟨k, rfl, rfl⟩ := keyV c ry
    obtain ⟨a, rfl, kvs, e1, e2, r2⟩ := rx.dct s
    rcases look_val k e2 r2 with ⟨h1, h2⟩ | ⟨v, d, h1, h2, h3⟩
    · rw [h2] at q
      exact q.elim
    · rw [h2] at q
      refine .inr ⟨a, v, rfl, ?_, q F H _ (Ext.refl s) h3⟩
      rw [← h1]
      exact DGet.kr e1
  | _ => cases y <;> exact q.elim
theorem de_ix (hu : X.A.units + 70 < cLine) (ha : DR X E G a ma) (hb : DR X E G b mb) (hs : PlainIx b := by intro _ _; rfl) : DE X E G (.Subscript a b pos) (ma >>= fun x => mb >>= fun y => D.ix x y) := by
  obtain ⟨t1, p1, w1⟩ := ha
  obtain ⟨t2, p2, w2⟩ := hb
  exact ⟨_, pe_ix (ix_all hu) p1 p2 hs, two w1 w2 op2_ix⟩

def DO (X : Cx) (E : St → XK) (G : List Sl) (e : Option Expr) (m : M (Option Int)) : Prop :=
  ∃ t, PO X e t ∧ ∀ B σ F H Q, Same F H → GOk X.K B G σ F H → WpG X.K (E σ) (fun _ _ (v : Option Int) d => v = d) m F H Q → t σ H Q
theorem do_none : DO X E G none (.ok none) := ⟨_, po_none, fun B σ F H Q s g q => q F H _ (Ext.refl s) rfl⟩
def D.bnd : D → M (Option Int)
  | .int i => .ok (some i)
  | _ => stuck
theorem do_some (ha : DR X E G a ma) : DO X E G (some a) (ma >>= fun x => D.bnd x) := by
  obtain ⟨t1, p1, w1⟩ := ha
  refine ⟨_, po_some p1, fun B σ F H Q s g q => w1 B σ F H _ s g (q.bind fun x F1 H1 v x1 r1 q1 => ?_)⟩
  cases x with
  | int i => exact ⟨i, r1.int, q1 F1 H1 _ (Ext.refl x1.sFH) rfl⟩
  | _ => exact q1.elim
theorem cutL_rp {K : PySem.W.Frag} {xs : List V} {l : List D} (r : RpL K F xs l) (lo hi : Option Int) : RpL K F (cutV xs lo hi) (cutL l lo hi) := by
  unfold cutV cutL
  rw [r.length]
  exact (r.drop _).take _
theorem ints_rp {K : PySem.W.Frag} : ∀ l : List Int, RpL K F (l.map V.int) (l.map D.int)
  | [] => .nil
  | i :: l => .cons (.int i) (ints_rp l)
theorem cutV_map (l : List Int) (lo hi : Option Int) : cutV (l.map V.int) lo hi = (cutL l lo hi).map V.int := by
  unfold cutV cutL
  rw [List.length_map, List.map_take, List.map_drop]
theorem de_sl {lo hi : Option Expr} {ml mh : M (Option Int)} {p2 : Pos} (ha : DR X E G a ma) (hl : DO X E G lo ml) (hh : DO X E G hi mh) : DE X E G (.Subscript a (.Slice lo hi none p2) pos) (ma >>= fun x => ml >>= fun l => mh >>= fun h => D.sl x l h) := by
  obtain ⟨t1, p1, w1⟩ := ha
  obtain ⟨t2, q2, w2⟩ := hl
  obtain ⟨t3, q3, w3⟩ := hh
  refine ⟨_, pe_slice (sl_list.or (sl_tupP.or sl_str)) p1 q2 q3, fun B σ F H Q s g q => w1 B σ F H _ s g (q.bind fun x F1 H1 v x1 r1 k1 => w2 B σ F1 H1 _ x1.sFH (g.ext x1) (k1.bind fun l F2 H2 l' x2 e2 k2 => w3 B σ F2 H2 _ x2.sFH ((g.ext x1).ext x2) (k2.bind fun h F3 H3 h' x3 e3 k3 => ?_)))⟩
  subst e2 e3
  have r3 := (r1.ext x2).ext x3
  have s3 := x3.sFH
  cases x with
  | lst m =>
    obtain ⟨p, xs, rfl, e, r⟩ := r3.lst s3
    exact .inl ⟨p, xs, rfl, SqL.of e, new_lst s3 (cutL_rp r _ _) k3⟩
  | scr m =>
    obtain ⟨p, rfl, e⟩ := r3.scr s3
    refine .inl ⟨p, _, rfl, e, ?_⟩
    rw [cutV_map]
    exact new_lst s3 (ints_rp _) k3
  | tup m =>
    obtain ⟨p, xs, rfl, e, r⟩ := r3.tup s3
    refine .inr (.inl ⟨p, xs, rfl, e, fun hw => ?_, fun _ => new_tup s3 (cutL_rp r _ _) k3⟩)
    rw [r.length] at hw
    have ec : cutL m l' h' = m := by
      unfold cutL
      rw [hw.1, hw.2, List.drop_zero, Nat.sub_zero, List.take_length]
    have k3 : WpG X.K (E σ) (rE X.K) (.ok (.tup (cutL m l' h'))) F3 H3 Q := k3
    rw [ec] at k3
    exact k3 F3 H3 _ (Ext.refl s3) r3.rp_tup
  | str z =>
    have k3 : WpG X.K (E σ) (rE X.K) (need (decide (z.length ≤ sizeLine)) >>= fun _ => .ok (.str (cutS z l' h'))) F3 H3 Q := k3
    obtain ⟨c, k3⟩ := k3.need
    have c := of_decide_eq_true c
    exact .inr (.inr ⟨z, r3.str.1, c, k3 F3 H3 _ (Ext.refl s3) (.str _ (strOk_cut r3.str.2 _ _))⟩)
  | _ => exact k3.elim

theorem da_nil : DA X E G [] (.ok []) := ⟨_, pa_nil, fun B σ F H Q s g q => q F H _ (Ext.refl s) .nil⟩
theorem da_cons {es : List Expr} {ms : M (List D)} (ha : DE X E G a ma) (hr : DA X E G es ms) (hs : starEach (a :: es) X.env = (false, eval a X.env) :: starEach es X.env := by rfl) : DA X E G (a :: es) (ma >>= fun x => ms >>= fun xs => .ok (x :: xs)) := by
  obtain ⟨t1, p1, w1⟩ := ha
  obtain ⟨t2, p2, w2⟩ := hr
  exact ⟨_, pa_cons p1 p2 hs, fun B σ F H Q s g q => w1 B σ F H _ s g (q.bind fun x F1 H1 v x1 r1 k1 => w2 B σ F1 H1 _ x1.sFH (g.ext x1) (k1.bind fun xs F2 H2 vs x2 r2 k2 => k2 F2 H2 _ (Ext.refl x2.sFH) (.cons (r1.mono x2.sF) r2)))⟩
theorem dra_nil : DRA X E G [] (.ok []) := ⟨_, pa_nil, fun B σ F H Q s g q => q F H _ (Ext.refl s) .nil⟩
theorem RpTL.ext {K : PySem.W.Frag} {F' H' : Hp} (x : Ext F H F' H') : ∀ {vs : List V} {ds : List D}, RpTL K F H vs ds → RpTL K F' H' vs ds
  | _, _, .nil => .nil
  | _, _, .cons r h => .cons (r.ext x) (RpTL.ext x h)
theorem dra_cons {es : List Expr} {ms : M (List D)} (ha : DR X E G a ma) (hr : DRA X E G es ms) (hs : starEach (a :: es) X.env = (false, eval a X.env) :: starEach es X.env := by rfl) : DRA X E G (a :: es) (ma >>= fun x => ms >>= fun xs => .ok (x :: xs)) := by
  obtain ⟨t1, p1, w1⟩ := ha
  obtain ⟨t2, p2, w2⟩ := hr
  exact ⟨_, pa_cons p1 p2 hs, fun B σ F H Q s g q => w1 B σ F H _ s g (q.bind fun x F1 H1 v x1 r1 k1 => w2 B σ F1 H1 _ x1.sFH (g.ext x1) (k1.bind fun xs F2 H2 vs x2 r2 k2 => k2 F2 H2 _ (Ext.refl x2.sFH) (.cons (r1.ext x2) r2)))⟩
def D.mkTup (l : List D) : M D := do need (decide (l.length ≤ sizeLine)); .ok (.tup l)
def D.mkLst (l : List D) : M D := do need (decide (l.length ≤ sizeLine)); .ok (.lst l)
theorem de_tup {es : List Expr} {ms : M (List D)} {x1} (h : DA X E G es ms) : DE X E G (.Tuple es x1 pos) (ms >>= fun l => D.mkTup l) := by
  obtain ⟨t, p, w⟩ := h
  refine ⟨_, pe_tupP p, fun B σ F H Q s g q => w B σ F H _ s g (q.bind fun l F1 H1 vs x1 r1 k1 => ?_)⟩
  have k1 : WpG X.K (E σ) (rE X.K) (need (decide (l.length ≤ sizeLine)) >>= fun _ => .ok (.tup l)) F1 H1 Q := k1
  obtain ⟨c, k1⟩ := k1.need
  have c := of_decide_eq_true c
  exact ⟨by rw [r1.length]; exact c, new_tup x1.sFH r1 k1⟩
theorem de_lst {es : List Expr} {ms : M (List D)} (h : DA X E G es ms) : DE X E G (.List es pos) (ms >>= fun l => D.mkLst l) := by
  obtain ⟨t, p, w⟩ := h
  refine ⟨_, pe_lst p, fun B σ F H Q s g q => w B σ F H _ s g (q.bind fun l F1 H1 vs x1 r1 k1 => ?_)⟩
  have k1 : WpG X.K (E σ) (rE X.K) (need (decide (l.length ≤ sizeLine)) >>= fun _ => .ok (.lst l)) F1 H1 Q := k1
  obtain ⟨c, k1⟩ := k1.need
  have c := of_decide_eq_true c
  exact ⟨by rw [r1.length]; exact c, new_lst x1.sFH r1 k1⟩

def OpN (K : PySem.W.Frag) (f : List D → M D) (r : List V → Hp → VK → Prop) : Prop := ∀ (E : XK) (F H : Hp) (vs : List V) (ds : List D) (Q : VK), Same F H → RpTL K F H vs ds → WpG K E (rE K) (f ds) F H Q → r vs H Q
theorem argsN {t : TA} {ms : M (List D)} {f : List D → M D} {r : List V → Hp → VK → Prop} (w : ∀ B σ F H Q, Same F H → GOk X.K B G σ F H → WpG X.K (E σ) (rTL X.K) ms F H Q → t σ H Q) (hf : OpN X.K f r) :
    ∀ B σ F H Q, Same F H → GOk X.K B G σ F H → WpG X.K (E σ) (rE X.K) (ms >>= fun l => f l) F H Q → tCB r t σ H Q := fun B σ F H Q s g q =>
  w B σ F H _ s g (q.bind fun l F1 H1 vs x1 r1 k1 => hf (E σ) F1 H1 vs l Q x1.sFH r1 k1)
theorem de_callB {id : String} {x : Str} {es : List Expr} {p : Pos} {ms : M (List D)} {f : List D → M D} {r : List V → Hp → VK → Prop} (hc : CallR X (.builtin id) r) (hf : OpN X.K f r) (hg : Gl X x) (hm : X.mg x = none) (hv : bootBuiltins x = some (.builtin id)) (ha : DRA X E G (a :: es) ms)
    (hn : x ≠ "__name__" := by decide) (hdb : (x == ("__debug__" : Str)) = false := by decide) (he : starEach (a :: es) X.env = (false, eval a X.env) :: starEach es X.env := by rfl) (hpl : (backTo pos (starEach es X.env)).any (·.1) = false := by rfl) : DE X E G (.Call (.Name x p) (a :: es) [] pos) (ms >>= fun l => f l) := by
  obtain ⟨t, pp, w⟩ := ha
  exact ⟨_, pe_callB hc hg hm hv pp hn hdb he hpl, argsN w hf⟩
theorem de_callTy {T : String} {x : Str} {es : List Expr} {p : Pos} {ms : M (List D)} {f : List D → M D} {r : List V → Hp → VK → Prop} (hc : CallR X (.type T) r) (hf : OpN X.K f r) (hg : Gl X x) (hm : X.mg x = none) (hv : bootBuiltins x = some (.type T)) (ha : DRA X E G (a :: es) ms)
    (hn : x ≠ "__name__" := by decide) (hdb : (x == ("__debug__" : Str)) = false := by decide) (he : starEach (a :: es) X.env = (false, eval a X.env) :: starEach es X.env := by rfl) (hpl : (backTo pos (starEach es X.env)).any (·.1) = false := by rfl) : DE X E G (.Call (.Name x p) (a :: es) [] pos) (ms >>= fun l => f l) := by
  obtain ⟨t, pp, w⟩ := ha
  exact ⟨_, pe_callTy hc hg hm hv pp hn hdb he hpl, argsN w hf⟩
def f1 (f : D → M D) : List D → M D
  | [x] => f x
  | _ => stuck
def f2 (f : D → D → M D) : List D → M D
  | [x, y] => f x y
  | _ => stuck
theorem opN1 {f : D → M D} {r : List V → Hp → VK → Prop} (h : ∀ (E : XK) F H v d Q, Same F H → RpT X.K F H v d → WpG X.K E (rE X.K) (f d) F H Q → r [v] H Q) : OpN X.K (f1 f) r := fun E F H vs ds Q s r q => by
  cases r with
  | nil => exact q.elim
  | cons r1 r2 => cases r2 with
    | nil => exact h E F H _ _ Q s r1 q
    | cons _ _ => exact q.elim
theorem opN2 {f : D → D → M D} {r : List V → Hp → VK → Prop} (h : ∀ (E : XK) F H v u d e Q, Same F H → RpT X.K F H v d → RpT X.K F H u e → WpG X.K E (rE X.K) (f d e) F H Q → r [v, u] H Q) : OpN X.K (f2 f) r := fun E F H vs ds Q s r q => by
  cases r with
  | nil => exact q.elim
  | cons r1 r2 => cases r2 with
    | nil => exact q.elim
    | cons r3 r4 => cases r4 with
      | nil => exact h E F H _ _ _ _ Q s r1 r3 q
      | cons _ _ => exact q.elim
theorem lenR : CallR X (.builtin "len") (fun xs H Q => (∃ x n, xs = [x] ∧ LenV X.K x H n ∧ Q (.int n) H) ∨ (∃ a kvs, xs = [V.ref a] ∧ Rd H a (.dK kvs) ∧ Q (.int kvs.length) H)) := call_len.or call_lenR
theorem len_op : OpN X.K (f1 D.len) (fun xs H Q => (∃ x n, xs = [x] ∧ LenV X.K x H n ∧ Q (.int n) H) ∨ (∃ a kvs, xs = [V.ref a] ∧ Rd H a (.dK kvs) ∧ Q (.int kvs.length) H)) := opN1 fun E F H v d Q s r q => by
  cases d with
  | str y =>
    have q : WpG X.K E (rE X.K) (need (decide (y.length ≤ sizeLine)) >>= fun _ => .ok (.int y.length)) F H Q := q
    obtain ⟨c, q⟩ := q.need
    have c := of_decide_eq_true c
    exact .inl ⟨v, y.length, rfl, by rw [r.str.1]; exact ⟨c, rfl⟩, q F H _ (Ext.refl s) (.int _)⟩
  | lst l =>
    obtain ⟨p, xs, rfl, e, r⟩ := r.lst s
    exact .inl ⟨_, xs.length, rfl, .inl ⟨xs, SqL.of e, rfl⟩, by rw [r.length]; exact q F H _ (Ext.refl s) (.int _)⟩
  | scr l =>
    obtain ⟨p, rfl, e⟩ := r.scr s
    exact .inl ⟨_, l.length, rfl, .inl ⟨_, e, by rw [List.length_map]⟩, q F H _ (Ext.refl s) (.int _)⟩
  | tup l =>
    obtain ⟨p, xs, rfl, e, r⟩ := r.tup s
    exact .inl ⟨_, xs.length, rfl, .inr ⟨xs, e, rfl⟩, by rw [r.length]; exact q F H _ (Ext.refl s) (.int _)⟩
  | dct l =>
    obtain ⟨p, rfl, kvs, e, e2, r⟩ := r.dct s
    refine .inr ⟨_, kvs, rfl, e, ?_⟩
    have el : kvs.length = l.length := by
      have := congrArg List.length e2
      simpa using this
    rw [el]
    exact q F H _ (Ext.refl s) (.int _)
  | _ => exact q.elim
theorem abs_op : OpN X.K (f1 D.abs) (fun xs H Q => ∃ i, xs = [.int i] ∧ Q (.int (if i < 0 then -i else i)) H) := opN1 fun E F H v d Q s r q => by
  cases d with
  | int i => exact ⟨i, by rw [r.int], q F H _ (Ext.refl s) (.int _)⟩
  | _ => exact q.elim
theorem max_op : OpN X.K (f2 D.max2) (fun xs H Q => ∃ i j, xs = [.int i, .int j] ∧ Q (.int (if j > i then j else i)) H) := opN2 fun E F H v u d e Q s r1 r2 q => by
  cases d with
  | int i => cases e with
    | int j => exact ⟨i, j, by rw [r1.int, r2.int], q F H _ (Ext.refl s) (.int _)⟩
    | _ => exact q.elim
  | _ => cases e <;> exact q.elim
theorem int_R : CallR X (.type "int") (fun xs H Q => ((∃ i, xs = [.int i] ∧ Q (.int i) H) ∨ ∃ k, xs = [.bl k] ∧ Q (.int (if k then 1 else 0)) H) ∨ (∃ a n, xs = [.str a] ∧ PySem.intText? a = some n ∧ a.length ≤ 640 ∧ Q (.int n) H)) := call_int1.or call_int_str
theorem int_op : OpN X.K (f1 D.toInt) (fun xs H Q => ((∃ i, xs = [.int i] ∧ Q (.int i) H) ∨ ∃ k, xs = [.bl k] ∧ Q (.int (if k then 1 else 0)) H) ∨ (∃ a n, xs = [.str a] ∧ PySem.intText? a = some n ∧ a.length ≤ 640 ∧ Q (.int n) H)) := opN1 fun E F H v d Q s r q => by
  cases d with
  | int i => exact .inl (.inl ⟨i, by rw [r.int], q F H _ (Ext.refl s) (.int _)⟩)
  | bl i => exact .inl (.inr ⟨i, by rw [r.bl], q F H _ (Ext.refl s) (.int _)⟩)
  | str a =>
    have q : WpG X.K E (rE X.K) (match PySem.intText? a with | some n => (need (decide (a.length ≤ 640)) >>= fun _ => .ok (.int n)) | none => stuck) F H Q := q
    cases e : PySem.intText? a with
    | none => rw [e] at q; exact q.elim
    | some n =>
      rw [e] at q
      obtain ⟨c, q⟩ := WpG.need q
      have c := of_decide_eq_true c
      exact .inr ⟨a, n, by rw [r.str.1], e, c, q F H _ (Ext.refl s) (.int _)⟩
  | _ => exact q.elim
theorem bools_rp {K : PySem.W.Frag} : ∀ {l : List D} {xs : List V} {bs : List Bool}, D.bools l = some bs → RpL K F xs l → xs = bs.map V.bl
  | [], _, _, h, .nil => by
    cases h
    rfl
  | d :: l, _, bs, h, .cons r1 r2 => by
    cases d with
    | bl b =>
      have h : (D.bools l).map (b :: ·) = some bs := h
      cases e : D.bools l with
      | none => rw [e] at h; cases h
      | some cs =>
        rw [e] at h
        cases h
        cases r1
        rw [bools_rp e r2]
        rfl
    | _ => cases h
theorem all_op : OpN X.K (f1 D.all) (rAll X.K) := opN1 fun E F H v d Q s r q => by
  cases d with
  | lst l =>
    have q : WpG X.K E (rE X.K) (match D.bools l with | some bs => .ok (.bl (bs.all id)) | none => stuck) F H Q := q
    cases e : D.bools l with
    | none => rw [e] at q; exact q.elim
    | some bs =>
      rw [e] at q
      obtain ⟨p, xs, rfl, h, r⟩ := r.lst s
      have ex := bools_rp e r
      subst ex
      exact ⟨p, bs, rfl, SqL.of h, q F H _ (Ext.refl s) (.bl _)⟩
  | _ => exact q.elim
theorem list_op : OpN X.K (f1 D.toList) (fun xs H Q => ∃ p ys, xs = [.ref p] ∧ (SqL X.K H p ys ∨ SqT X.K H p ys) ∧ ∀ l, H l = none → Q (.ref l) (upd H l (.lst ys))) := opN1 fun E F H v d Q s r q => by
  cases d with
  | lst l =>
    obtain ⟨p, xs, rfl, h, r⟩ := r.lst s
    exact ⟨p, xs, rfl, .inl (SqL.of h), new_lst s r q⟩
  | tup l =>
    obtain ⟨p, xs, rfl, h, r⟩ := r.tup s
    exact ⟨p, xs, rfl, .inr h, new_lst s r q⟩
  | _ => exact q.elim
theorem strs_rp {K : PySem.W.Frag} : ∀ {l : List D} {xs : List V} {bs : List Str}, D.strs l = some bs → RpL K F xs l → xs = bs.map V.str ∧ ∀ y ∈ bs, PyData.strOk y = true
  | [], _, _, h, .nil => by
    cases h
    exact ⟨rfl, fun y hy => by cases hy⟩
  | d :: l, _, bs, h, .cons r1 r2 => by
    cases d with
    | str b =>
      have h : (D.strs l).map (b :: ·) = some bs := h
      cases e : D.strs l with
      | none => rw [e] at h; cases h
      | some cs =>
        rw [e] at h
        cases h
        cases r1 with
        | str _ hb =>
          obtain ⟨e1, e2⟩ := strs_rp e r2
          rw [e1]
          refine ⟨rfl, fun y hy => ?_⟩
          rcases List.mem_cons.mp hy with rfl | hy
          · exact hb
          · exact e2 y hy
    | _ => cases h
end
end DL

set_option Elab.async false
set_option linter.all false
set_option maxRecDepth 100000
set_option maxHeartbeats 4000000
namespace DL
open PySem PySem.Spec L2

theorem joinL_mem {S : List Nat} {c : Nat} : ∀ {l : List (List Nat)}, c ∈ TL.joinL S l → c ∈ S ∨ ∃ p ∈ l, c ∈ p
  | [], h => by cases h
  | [p], h => .inr ⟨p, List.mem_singleton.mpr rfl, h⟩
  | p :: q :: r, h => by
    have h : c ∈ p ++ (S ++ TL.joinL S (q :: r)) := h
    rcases List.mem_append.mp h with h | h
    · exact .inr ⟨p, List.mem_cons_self .., h⟩
    · rcases List.mem_append.mp h with h | h
      · exact .inl h
      · rcases joinL_mem h with h | ⟨z, hz, h⟩
        · exact .inl h
        · exact .inr ⟨z, List.mem_cons_of_mem _ hz, h⟩
theorem mem_joinL {S p : List Nat} {c : Nat} : ∀ {l : List (List Nat)}, p ∈ l → c ∈ p → c ∈ TL.joinL S l
  | [], h, _ => by cases h
  | [q], h, hc => by
    rw [List.mem_singleton.mp h] at hc
    exact hc
  | q :: r :: l, h, hc => by
    show c ∈ q ++ (S ++ TL.joinL S (r :: l))
    rcases List.mem_cons.mp h with rfl | h
    · exact List.mem_append_left _ hc
    · exact List.mem_append_right _ (List.mem_append_right _ (mem_joinL h hc))
theorem strOk_tl {x : Str} : PyData.strOk x = true ↔ ∀ c ∈ TL.tl x, c < 0x110000 := strOk_mem
theorem strOk_join {a : Str} {l : List Str} (ha : PyData.strOk a = true) (hl : ∀ y ∈ l, PyData.strOk y = true) : PyData.strOk (Txt.join a l) = true := by
  rw [strOk_tl]
  intro c hc
  rw [TL.join_eq, TL.tl_join] at hc
  rcases joinL_mem hc with h | ⟨p, hp, h⟩
  · exact strOk_tl.mp ha c h
  · obtain ⟨y, hy, rfl⟩ := List.mem_map.mp hp
    exact strOk_tl.mp (hl y hy) c h
theorem strOk_split {a b : Str} (ha : PyData.strOk a = true) : ∀ y ∈ Txt.split a b, PyData.strOk y = true := by
  intro y hy
  rw [strOk_tl]
  intro c hc
  have e := StrLaws.join_split a b
  refine strOk_tl.mp ha c ?_
  rw [← e, TL.tl_join]
  exact mem_joinL (List.mem_map_of_mem hy) hc
section
variable {X : Cx} {E : St → XK} {G : List Sl} {a b c e : Expr} {ma mb mc : M D} {ta tb : M Bool} {pos : Pos} {F H : Hp}
theorem strs_new {K : PySem.W.Frag} : ∀ {l : List Str}, (∀ y ∈ l, PyData.strOk y = true) → RpL K F (l.map V.str) (l.map D.str)
  | [], _ => .nil
  | x :: l, h => .cons (.str x (h x (List.mem_cons_self ..))) (strs_new fun y hy => h y (List.mem_cons_of_mem _ hy))

def meth (c : D → Bool) (mo : M D) (ms : M (List D)) (f : D → List D → M D) : M D := do
  let x ← mo
  need (c x)
  let l ← ms
  f x l
theorem de_m {T : String} {id : String} {name : Str} {r : V → List V → Hp → VK → Prop} {f : D → List D → M D} {c : D → Bool} {apos : Pos} {es : List Expr} {ms : M (List D)} (pa : PlainAttrs T) (slot : Slot T name id) (hty : typeOf (.builtin id) = pure (.type "method_descriptor")) (hm : MtR X id r)
    (hc : ∀ (F H : Hp) (v : V) (d : D), c d = true → Same F H → RpT X.K F H v d → tyV X.K T v H)
    (hf : ∀ (E : XK) (F H : Hp) (v : V) (d : D) (vs : List V) (ds : List D) (Q : VK), Same F H → RpT X.K F H v d → RpTL X.K F H vs ds → WpG X.K E (rE X.K) (f d ds) F H Q → r v vs H Q) (ho : DR X E G b mb) (ha : DRA X E G (a :: es) ms)
    (hbase : attributeBase b name X.env (eval b X.env) = eval b X.env := by rfl)
    (hfew : ((backTo pos (starEach (a :: es) X.env)).all (fun x => !x.1) && (backToKw pos (keywordEach [] X.env)).all (fun x => x.1.isSome)
      && decide ((a :: es).length + ([] : List Keyword).length + (if ([] : List Keyword).isEmpty then 0 else 1) < 30)) = true := by rfl)
    (hline : (apos.endLine == pos.line) = true := by rfl) (hs : starEach (a :: es) X.env = (false, eval a X.env) :: starEach es X.env := by rfl) (hplain : (backTo pos (starEach es X.env)).any (·.1) = false := by rfl) :
    DE X E G (.Call (.Attribute b name apos) (a :: es) [] pos) (meth c mb ms f) := by
  obtain ⟨t1, p1, w1⟩ := ho
  obtain ⟨t2, p2, w2⟩ := ha
  refine ⟨_, pe_bm pa slot hty hm p1 p2 hbase hfew hline hs hplain, fun B σ F H Q s g q => w1 B σ F H _ s g (WpG.bind q fun x F1 H1 v x1 r1 k1 => ?_)⟩
  obtain ⟨cx, k1⟩ := WpG.need k1
  exact ⟨hc F1 H1 v x cx x1.sFH r1, w2 B σ F1 H1 _ x1.sFH (g.ext x1) (WpG.bind k1 fun l F2 H2 vs x2 r2 k2 => hf (E σ) F2 H2 v x vs l Q x2.sFH (r1.ext x2) r2 k2)⟩
def D.isStr : D → Bool
  | .str _ => true
  | _ => false
def m1 (f : D → D → M D) : D → List D → M D
  | x, [y] => f x y
  | _, _ => stuck
theorem ty_str {K : PySem.W.Frag} {v : V} {d : D} (h : d.isStr = true) (r : RpT K F H v d) : tyV K "str" v H := by
  cases d with
  | str z => rw [r.str.1]; rfl
  | _ => cases h
theorem m1_of {f : D → D → M D} {r : V → List V → Hp → VK → Prop} (h : ∀ (E : XK) F H v u d e Q, Same F H → RpT X.K F H v d → RpT X.K F H u e → WpG X.K E (rE X.K) (f d e) F H Q → r v [u] H Q) :
    ∀ (E : XK) (F H : Hp) (v : V) (d : D) (vs : List V) (ds : List D) (Q : VK), Same F H → RpT X.K F H v d → RpTL X.K F H vs ds → WpG X.K E (rE X.K) (m1 f d ds) F H Q → r v vs H Q := fun E F H v d vs ds Q s r1 r q => by
  cases r with
  | nil => exact q.elim
  | cons r2 r3 => cases r3 with
    | nil => exact h E F H v _ d _ Q s r1 r2 q
    | cons _ _ => exact q.elim
theorem de_join {apos : Pos} {ms : M (List D)} (ho : DR X E G b mb) (ha : DRA X E G [a] ms)
    (hbase : attributeBase b "join" X.env (eval b X.env) = eval b X.env := by rfl)
    (hfew : ((backTo pos (starEach [a] X.env)).all (fun x => !x.1) && (backToKw pos (keywordEach [] X.env)).all (fun x => x.1.isSome)
      && decide (([a] : List Expr).length + ([] : List Keyword).length + (if ([] : List Keyword).isEmpty then 0 else 1) < 30)) = true := by rfl)
    (hline : (apos.endLine == pos.line) = true := by rfl) (hs : starEach [a] X.env = (false, eval a X.env) :: starEach [] X.env := by rfl) (hplain : (backTo pos (starEach [] X.env)).any (·.1) = false := by rfl) :
    DE X E G (.Call (.Attribute b "join" apos) [a] [] pos) (meth D.isStr mb ms (m1 D.join)) :=
  de_m PySem.F.plainAttrs_str PySem.F.slot_str_join PySem.F.type_str_join mt_join (fun F H v d h _ r => ty_str h r) (m1_of fun E F H v u d e Q s r1 r2 q => by
    cases d with
    | str z =>
      cases e with
      | lst l =>
        have q : WpG X.K E (rE X.K) (match D.strs l with
          | some ys => (need (decide ((ys.map (·.length)).sum + ys.length * z.length ≤ 16777216)) >>= fun _ => .ok (.str (Txt.join z ys)))
          | none => stuck) F H Q := q
        cases e : D.strs l with
        | none => rw [e] at q; exact q.elim
        | some ys =>
          rw [e] at q
          obtain ⟨c, q⟩ := WpG.need q
          have c := of_decide_eq_true c
          obtain ⟨p, xs, rfl, h, r⟩ := r2.lst s
          obtain ⟨rfl, ok⟩ := strs_rp e r
          exact ⟨z, p, ys, r1.str.1, rfl, .inl (SqL.of h), c, q F H _ (Ext.refl s) (.str _ (strOk_join r1.str.2 ok))⟩
      | tup l =>
        have q : WpG X.K E (rE X.K) (match D.strs l with
          | some ys => (need (decide ((ys.map (·.length)).sum + ys.length * z.length ≤ 16777216)) >>= fun _ => .ok (.str (Txt.join z ys)))
          | none => stuck) F H Q := q
        cases e : D.strs l with
        | none => rw [e] at q; exact q.elim
        | some ys =>
          rw [e] at q
          obtain ⟨c, q⟩ := WpG.need q
          have c := of_decide_eq_true c
          obtain ⟨p, xs, rfl, h, r⟩ := r2.tup s
          obtain ⟨rfl, ok⟩ := strs_rp e r
          exact ⟨z, p, ys, r1.str.1, rfl, .inr h, c, q F H _ (Ext.refl s) (.str _ (strOk_join r1.str.2 ok))⟩
      | _ => exact q.elim
    | _ => cases e <;> exact q.elim) ho ha hbase hfew hline hs hplain
theorem de_split {apos : Pos} {ms : M (List D)} (ho : DR X E G b mb) (ha : DRA X E G [a] ms)
    (hbase : attributeBase b "split" X.env (eval b X.env) = eval b X.env := by rfl)
    (hfew : ((backTo pos (starEach [a] X.env)).all (fun x => !x.1) && (backToKw pos (keywordEach [] X.env)).all (fun x => x.1.isSome)
      && decide (([a] : List Expr).length + ([] : List Keyword).length + (if ([] : List Keyword).isEmpty then 0 else 1) < 30)) = true := by rfl)
    (hline : (apos.endLine == pos.line) = true := by rfl) (hs : starEach [a] X.env = (false, eval a X.env) :: starEach [] X.env := by rfl) (hplain : (backTo pos (starEach [] X.env)).any (·.1) = false := by rfl) :
    DE X E G (.Call (.Attribute b "split" apos) [a] [] pos) (meth D.isStr mb ms (m1 D.split)) :=
  de_m PySem.F.plainAttrs_str PySem.F.slot_str_split PySem.F.type_str_split mt_split (fun F H v d h _ r => ty_str h r) (m1_of fun E F H v u d e Q s r1 r2 q => by
    cases d with
    | str z =>
      cases e with
      | str y =>
        have q : WpG X.K E (rE X.K) (need (!(y.length == 0) && decide (z.length + 2 ≤ sizeLine)) >>= fun _ => .ok (.lst ((Txt.split z y).map D.str))) F H Q := q
        obtain ⟨c, q⟩ := WpG.need q
        obtain ⟨c1, c2⟩ := and2 c
        have c2 := of_decide_eq_true c2
        refine ⟨z, y, r1.str.1, by rw [r2.str.1], by simpa using c1, c2, ?_⟩
        exact new_lst s (strs_new (strOk_split r1.str.2)) q
      | _ => exact q.elim
    | _ => cases e <;> exact q.elim) ho ha hbase hfew hline hs hplain

inductive DJ (X : Cx) (E : St → XK) (G : List Sl) : List Expr → List (M D) → Prop
  | nil : DJ X E G [] []
  | cons {e : Expr} {m : M D} {es : List Expr} {ms : List (M D)} : DE X E G e m → DJ X E G es ms → DJ X E G (e :: es) (m :: ms)
def Yld (K : PySem.W.Frag) (J : It) (P : Hp → Hp → Prop) (ds : List D) : Prop := ∀ F H, P F H → Same F H → (∀ (i : Nat) (d : D), ds[i]? = some d → J.go i H ∧ ∀ x H', J.yld i H x H' → ∃ F', Ext F H F' H' ∧ Rp K F' x d) ∧ J.stop ds.length H
def DI (X : Cx) (E : St → XK) (G : List Sl) (tg iter : Expr) (m : M (List D)) : Prop :=
  ∃ wi, PI X tg iter wi ∧ ∀ B σ F H R, Same F H → GOk X.K B G σ F H → WpG X.K (E σ) (fun F' _ J ds => Yld X.K J (fun F1 _ => Same F' F1) ds) m F H R → wi σ H R
def DIR (X : Cx) (E : St → XK) (G : List Sl) (tg iter : Expr) (m : M (List D)) : Prop :=
  ∃ wi, PI X tg iter wi ∧ ∀ B σ F H R, Same F H → GOk X.K B G σ F H → WpG X.K (E σ) (fun F' H' J ds => Yld X.K J (fun F1 H1 => Ext F' H' F1 H1) ds) m F H R → wi σ H R
theorem DIR.of {tg iter : Expr} {m : M (List D)} (h : DI X E G tg iter m) : DIR X E G tg iter m := by
  obtain ⟨t, p, w⟩ := h
  exact ⟨t, p, fun B σ F H Q s g q => w B σ F H Q s g (match m, q with
    | .ok d, q => fun F' H' J x r => q F' H' J x fun F1 H1 y s1 => r F1 H1 y.sF s1
    | .error .stuck, q => q.elim
    | .error (.exc x), q => q)⟩
def iSeq (K : PySem.W.Frag) (tl : TE) : TI := fun σ H R => tl σ H fun x H1 => (∃ a, x = .ref a ∧ (∃ xs, SqL K H1 a xs) ∧ R (Itl K a) H1) ∨ (∃ a, x = .ref a ∧ (∃ xs, SqT K H1 a xs) ∧ R (Itt K a) H1) ∨ ∃ y, x = .str y ∧ R (Its y) H1
theorem pi_seq {tg l : Expr} {tl : TE} (hl : PE X l tl) : PI X tg l (iSeq X.K tl) := by
  refine ⟨fun pins s σ H R I h => ?_⟩
  refine thn (hl.run pins s σ H _ I h) fun v s1 ⟨x, H1, I1, r1, q1⟩ => ?_
  have tv : ∀ (Q : VK), Q x H1 → tC x σ H1 Q := fun Q h => h
  rcases q1 with ⟨a, e, ⟨xs, hq⟩, q⟩ | ⟨a, e, ⟨xs, hq⟩, q⟩ | ⟨y, e, q⟩
  · subst e
    cases r1
    obtain ⟨its, rv, p, hz⟩ := I1.list hq
    refine wpAny_pyIter_list p.isList ?_
    refine ⟨s1.heap.objs.size, [s1.heap.objs.size], _, _, H1, rfl, I1.kept (t' := s1.toks) fun b o e => Heap.get?_push_of_some _ e, turn_list a _, ⟨_, Heap.get?_push_size _ rfl, rfl, rfl⟩, fun b hb => ?_, q⟩
    have e : b = s1.heap.objs.size := by simpa using hb
    subst e
    exact I1.fpOk (Nat.le_refl _) (I1.hok.fresh (Nat.le_refl _))
  · subst e
    cases r1
    obtain ⟨its, rv, p, hz⟩ := I1.tuple hq
    refine wpAny_pyIter_tuple (show s1.heap.IsTuple a its.toArray from p) ?_
    refine ⟨s1.heap.objs.size, [s1.heap.objs.size], _, _, H1, rfl, I1.kept (t' := s1.toks) fun b o e => Heap.get?_push_of_some _ e, turn_tuple a _, ⟨_, Heap.get?_push_size _ rfl, rfl, rfl⟩, fun b hb => ?_, q⟩
    have e : b = s1.heap.objs.size := by simpa using hb
    subst e
    exact I1.fpOk (Nat.le_refl _) (I1.hok.fresh (Nat.le_refl _))
  · subst e
    obtain ⟨t, rfl⟩ := r1
    cases ha : y.cps.all (· < 128)
    · exact wpAny_pyIter_wide ha (pi_one (tk := s1.toks) I1 _ (turn_str _ y t "str_iterator" (.inr rfl)) ⟨_, Heap.get?_push_size _ rfl, rfl, rfl⟩ q)
    · exact wpAny_pyIter_ascii ha (pi_one (tk := s1.toks) I1 _ (turn_str _ y t "str_ascii_iterator" (.inl rfl)) ⟨_, Heap.get?_push_size _ rfl, rfl, rfl⟩ q)
def D.items : D → M (List D)
  | .lst l => .ok l
  | .tup l => .ok l
  | .str y => .ok (y.cps.toList.map fun c => D.str ⟨#[c]⟩)
  | _ => stuck
theorem yld_list {K : PySem.W.Frag} {a : Addr} {xs : List V} {ds : List D} {F0 : Hp} {P : Hp → Hp → Prop} (r : RpL K F0 xs ds) (h : ∀ F H, P F H → Same F H → Same F0 F ∧ H a = some (.lst xs)) : Yld K (Itl K a) P ds := fun F H p s => by
  obtain ⟨h1, h2⟩ := h F H p s
  refine ⟨fun i d hd => ?_, ?_⟩
  · obtain ⟨x, hx, rx⟩ := r.get hd
    refine ⟨⟨xs, x, SqL.of h2, hx⟩, fun y H' hy => ?_⟩
    obtain ⟨rfl, hy⟩ := hy
    have e : x = y := Option.some.inj (hx.symm.trans (hy xs (SqL.of h2)))
    subst e
    exact ⟨F, Ext.refl s, rx.mono h1⟩
  · exact ⟨xs, SqL.of h2, by rw [r.length]; exact Nat.le_refl _⟩
theorem yld_tup {K : PySem.W.Frag} {a : Addr} {xs : List V} {ds : List D} {F0 : Hp} {P : Hp → Hp → Prop} (r : RpL K F0 xs ds) (h : ∀ F H, P F H → Same F H → Same F0 F ∧ SqT K H a xs) : Yld K (Itt K a) P ds := fun F H p s => by
  obtain ⟨h1, h2⟩ := h F H p s
  refine ⟨fun i d hd => ?_, ?_⟩
  · obtain ⟨x, hx, rx⟩ := r.get hd
    refine ⟨⟨xs, x, h2, hx⟩, fun y H' hy => ?_⟩
    obtain ⟨rfl, hy⟩ := hy
    have e : x = y := Option.some.inj (hx.symm.trans (hy xs h2))
    subst e
    exact ⟨F, Ext.refl s, rx.mono h1⟩
  · exact ⟨xs, h2, by rw [r.length]; exact Nat.le_refl _⟩
theorem yld_str {K : PySem.W.Frag} {y : Str} {P : Hp → Hp → Prop} (ok : PyData.strOk y = true) : Yld K (Its y) P (y.cps.toList.map fun c => D.str ⟨#[c]⟩) := fun F H p s => by
  refine ⟨fun i d hd => ?_, ?_⟩
  · rw [List.getElem?_map] at hd
    cases e : y.cps.toList[i]? with
    | none => rw [e] at hd; cases hd
    | some c =>
      rw [e] at hd
      cases hd
      have hi : i < y.cps.toList.length := (List.getElem?_eq_some_iff.mp e).1
      refine ⟨by show i < y.cps.size; simpa using hi, fun x H' hx => ?_⟩
      obtain ⟨rfl, c', hc, rfl⟩ := hx
      have e2 : y.cps.toList[i]? = some c' := by simpa using hc
      rw [e] at e2
      cases e2
      exact ⟨F, Ext.refl s, .str _ (strOk_one ok (List.mem_of_getElem? e))⟩
  · show y.cps.size ≤ _
    simp
theorem di_seq {tg : Expr} (ha : DE X E G a ma) : DI X E G tg a (ma >>= fun x => D.items x) := by
  obtain ⟨t, p, w⟩ := ha
  refine ⟨_, pi_seq p, fun B σ F H R s g q => w B σ F H _ s g (q.bind fun x F1 H1 v x1 r1 k1 => ?_)⟩
  cases x with
  | lst l => cases r1 with
    | lst h r => exact .inl ⟨_, rfl, ⟨_, SqL.of (x1.sFH _ _ h)⟩, k1 F1 H1 _ (Ext.refl x1.sFH) (yld_list r fun F2 H2 p s2 => ⟨p, s2 _ _ (p _ _ h)⟩)⟩
  | tup l => cases r1 with
    | tup h r => exact .inr (.inl ⟨_, rfl, ⟨_, Same.seqT x1.sFH (h).sqT⟩, k1 F1 H1 _ (Ext.refl x1.sFH) (yld_tup r fun F2 H2 p s2 => ⟨p, Same.seqT s2 (Same.seqT p (h).sqT)⟩)⟩)
  | str y => cases r1 with
    | str _ ok => exact .inr (.inr ⟨y, rfl, k1 F1 H1 _ (Ext.refl x1.sFH) (yld_str ok)⟩)
  | _ => exact k1.elim
end
end DL

set_option Elab.async false
set_option linter.all false
set_option maxRecDepth 100000
set_option maxHeartbeats 4000000
namespace DL
open PySem PySem.Spec L2
section
variable {X : Cx} {E : St → XK} {G : List Sl} {a b c e : Expr} {ma mb mc : M D} {ta tb : M Bool} {pos : Pos} {F H : Hp}

theorem dir_seq {tg : Expr} (ha : DR X E G a ma) : DIR X E G tg a (ma >>= fun x => D.items x) := by
  obtain ⟨t, p, w⟩ := ha
  refine ⟨_, pi_seq p, fun B σ F H R s g q => w B σ F H _ s g (q.bind fun x F1 H1 v x1 r1 k1 => ?_)⟩
  cases x with
  | lst l =>
    obtain ⟨a, xs, rfl, h, r⟩ := r1.lst x1.sFH
    exact .inl ⟨_, rfl, ⟨_, SqL.of h⟩, k1 F1 H1 _ (Ext.refl x1.sFH) (yld_list r fun F2 H2 p s2 => ⟨p.sF, p.sH _ _ h⟩)⟩
  | tup l =>
    obtain ⟨a, xs, rfl, h, r⟩ := r1.tup x1.sFH
    exact .inr (.inl ⟨_, rfl, ⟨_, h⟩, k1 F1 H1 _ (Ext.refl x1.sFH) (yld_tup r fun F2 H2 p s2 => ⟨p.sF, Same.seqT p.sH h.sqT⟩)⟩)
  | str y =>
    obtain ⟨rfl, ok⟩ := r1.str
    exact .inr (.inr ⟨y, rfl, k1 F1 H1 _ (Ext.refl x1.sFH) (yld_str ok)⟩)
  | _ => exact k1.elim

def rangeL (lo : Int) (n : Nat) : List D := (List.range n).map fun (k : Nat) => D.int (lo + (k : Int))
def smallI (i : Int) : Bool := decide (-(2 ^ 62) ≤ i ∧ i < 2 ^ 62)
def D.range1 : List D → M (List D)
  | [.int j] => do need (smallI j); .ok (rangeL 0 j.toNat)
  | _ => stuck
def D.range2 : List D → M (List D)
  | [.int i, .int j] => do need (smallI i && smallI j); .ok (rangeL i (j - i).toNat)
  | _ => stuck
theorem yld_range {K : PySem.W.Frag} {lo : Int} {n : Nat} {P : Hp → Hp → Prop} : Yld K (Itr lo n) P (rangeL lo n) := fun F H p s => by
  refine ⟨fun i d hd => ?_, ?_⟩
  · unfold rangeL at hd
    rw [List.getElem?_map] at hd
    cases e : (List.range n)[i]? with
    | none => rw [e] at hd; cases hd
    | some k =>
      rw [e] at hd
      cases hd
      obtain ⟨hi, hk⟩ := List.getElem?_eq_some_iff.mp e
      rw [List.length_range] at hi
      rw [List.getElem_range] at hk
      subst hk
      refine ⟨hi, fun x H' hx => ?_⟩
      obtain ⟨rfl, rfl⟩ := hx
      exact ⟨F, Ext.refl s, .int _⟩
  · show n ≤ _
    unfold rangeL
    rw [List.length_map, List.length_range]
    exact Nat.le_refl _
theorem di_range1 {tg : Expr} {p : Pos} {ms : M (List D)} (hg : Gl X "range") (hm : X.mg "range" = none) (ha : DRA X E G [a] ms) (hs : starEach [a] X.env = [(false, eval a X.env)] := by rfl) : DI X E G tg (.Call (.Name "range" p) [a] [] pos) (ms >>= fun l => D.range1 l) := by
  obtain ⟨t, pp, w⟩ := ha
  refine ⟨_, pi_range1 hg hm pp hs, fun B σ F H R s g q => w B σ F H _ s g (q.bind fun l F1 H1 vs x1 r1 k1 => ?_)⟩
  cases r1 with
  | nil => exact k1.elim
  | @cons v vs d ds r1 r2 => cases r2 with
    | cons _ _ => cases d <;> exact k1.elim
    | nil => cases d with
      | int j =>
        have k1 : WpG X.K (E σ) _ (need (smallI j) >>= fun _ => .ok (rangeL 0 j.toNat)) F1 H1 R := k1
        obtain ⟨c, k1⟩ := k1.need
        have c := of_decide_eq_true c
        exact ⟨j, by rw [r1.int], c.1, c.2, k1 F1 H1 _ (Ext.refl x1.sFH) yld_range⟩
      | _ => exact k1.elim
theorem GOk.set {K : PySem.W.Frag} {B : Hp} {σ : St} {i : Nat} {v : V} {d : D} (g : GOk K B G σ F H) (r : Rp K F v d) : GOk K B (G.set i (.val d)) (σ.set i (some v)) F H where
  sB := g.sB
  len := by rw [List.length_set, List.length_set]; exact g.len
  ok := fun j s h => by
    by_cases e : i = j
    · subst e
      have hi : i < G.length := by
        have := (List.getElem?_eq_some_iff.mp h).1
        rwa [List.length_set] at this
      rw [List.getElem?_set_self hi] at h
      cases h
      exact ⟨some v, by rw [List.getElem?_set_self (by rw [g.len]; exact hi)], v, rfl, r⟩
    · rw [List.getElem?_set_ne e] at h
      rw [List.getElem?_set_ne e]
      exact g.ok j s h
  dis := fun j k s t a h1 h2 o1 o2 e1 e2 => by
    have nj : i ≠ j := fun z => by
      subst z
      have hi : i < G.length := by
        have := (List.getElem?_eq_some_iff.mp h1).1
        rwa [List.length_set] at this
      rw [List.getElem?_set_self hi] at h1
      cases h1
      cases o1
    have nk : i ≠ k := fun z => by
      subst z
      have hi : i < G.length := by
        have := (List.getElem?_eq_some_iff.mp h2).1
        rwa [List.length_set] at this
      rw [List.getElem?_set_self hi] at h2
      cases h2
      cases o2
    rw [List.getElem?_set_ne nj] at h1 e1
    rw [List.getElem?_set_ne nk] at h2 e2
    exact g.dis j k s t a h1 h2 o1 o2 e1 e2
theorem GOk.any {K : PySem.W.Frag} {B : Hp} {σ : St} {i : Nat} (g : GOk K B G σ F H) : GOk K B (G.set i .any) σ F H where
  sB := g.sB
  len := by rw [List.length_set]; exact g.len
  ok := fun j s h => by
    by_cases e : i = j
    · subst e
      have hi : i < G.length := by
        have := (List.getElem?_eq_some_iff.mp h).1
        rwa [List.length_set] at this
      rw [List.getElem?_set_self hi] at h
      cases h
      exact ⟨σ[i]'(by rw [g.len]; exact hi), List.getElem?_eq_getElem _, trivial⟩
    · rw [List.getElem?_set_ne e] at h
      exact g.ok j s h
  dis := fun j k s t a h1 h2 o1 o2 e1 e2 => by
    have nj : i ≠ j := fun z => by
      subst z
      have hi : i < G.length := by
        have := (List.getElem?_eq_some_iff.mp h1).1
        rwa [List.length_set] at this
      rw [List.getElem?_set_self hi] at h1
      cases h1
      cases o1
    have nk : i ≠ k := fun z => by
      subst z
      have hi : i < G.length := by
        have := (List.getElem?_eq_some_iff.mp h2).1
        rwa [List.length_set] at this
      rw [List.getElem?_set_self hi] at h2
      cases h2
      cases o2
    rw [List.getElem?_set_ne nj] at h1
    rw [List.getElem?_set_ne nk] at h2
    exact g.dis j k s t a h1 h2 o1 o2 e1 e2
def gNames : List Nat → TGs
  | [] => gNil
  | i :: is => gCons (gName i) (gNames is)
def setAll (G : List Sl) : List Nat → List D → M (List Sl)
  | [], [] => .ok G
  | i :: is, d :: ds => setAll (G.set i (.val d)) is ds
  | _, _ => stuck
theorem setAll_len : ∀ {is : List Nat} {ds : List D} {G G' : List Sl}, setAll G is ds = .ok G' → ds.length = is.length
  | [], [], _, _, _ => rfl
  | [], _ :: _, _, _, h => by cases h
  | _ :: _, [], _, _, h => by cases h
  | i :: is, d :: ds, G, G', h => congrArg Nat.succ (setAll_len (is := is) (ds := ds) h)
theorem gNames_run {K : PySem.W.Frag} : ∀ {is : List Nat} {ds : List D} {xs : List V} {G G' : List Sl} {B : Hp} {σ : St} {Q : St → Hp → Prop}, Same F H → GOk K B G σ F H → RpL K F xs ds → setAll G is ds = .ok G' →
    (∀ σ', GOk K B G' σ' F H → (∀ k, k ∉ is → σ'[k]? = σ[k]?) → σ'.length = σ.length → Q σ' H) → gNames is xs σ H Q
  | [], [], _, _, _, _, _, _, s, g, .nil, e, k => by
    cases e
    exact ⟨rfl, k _ g (fun _ _ => rfl) rfl⟩
  | [], _ :: _, _, _, _, _, _, _, s, g, _, e, k => by cases e
  | _ :: _, [], _, _, _, _, _, _, s, g, _, e, k => by cases e
  | i :: is, d :: ds, _, G, G', B, σ, Q, s, g, .cons r1 r2, e, k => by
    refine ⟨_, _, rfl, gNames_run (is := is) s (g.set r1) r2 e fun σ' g' hk hl => k σ' g' (fun k hk' => ?_) (by rw [hl, List.length_set])⟩
    rw [hk k fun z => hk' (List.mem_cons_of_mem _ z)]
    exact List.getElem?_set_ne fun z => hk' (by simp [z])
def bindTup (G : List Sl) (is : List Nat) : D → M (List Sl)
  | .tup ds => setAll G is ds
  | _ => stuck
def wipeG (G : List Sl) : List Nat → List Sl
  | [] => G
  | v :: vs => (wipeG G vs).set v .any
theorem GOk.setAny {K : PySem.W.Frag} {B : Hp} {σ : St} {i : Nat} {o : Option V} (g : GOk K B G σ F H) : GOk K B (G.set i .any) (σ.set i o) F H where
  sB := g.sB
  len := by rw [List.length_set, List.length_set]; exact g.len
  ok := fun j s h => by
    by_cases e : i = j
    · subst e
      have hi : i < G.length := by
        have := (List.getElem?_eq_some_iff.mp h).1
        rwa [List.length_set] at this
      rw [List.getElem?_set_self hi] at h
      cases h
      exact ⟨o, by rw [List.getElem?_set_self (by rw [g.len]; exact hi)], trivial⟩
    · rw [List.getElem?_set_ne e] at h
      rw [List.getElem?_set_ne e]
      exact g.ok j s h
  dis := fun j k s t a h1 h2 o1 o2 e1 e2 => by
    have nj : i ≠ j := fun z => by
      subst z
      have hi : i < G.length := by
        have := (List.getElem?_eq_some_iff.mp h1).1
        rwa [List.length_set] at this
      rw [List.getElem?_set_self hi] at h1
      cases h1
      cases o1
    have nk : i ≠ k := fun z => by
      subst z
      have hi : i < G.length := by
        have := (List.getElem?_eq_some_iff.mp h2).1
        rwa [List.length_set] at this
      rw [List.getElem?_set_self hi] at h2
      cases h2
      cases o2
    rw [List.getElem?_set_ne nj] at h1 e1
    rw [List.getElem?_set_ne nk] at h2 e2
    exact g.dis j k s t a h1 h2 o1 o2 e1 e2
theorem GOk.wipe {K : PySem.W.Frag} {B : Hp} {σ : St} (g : GOk K B G σ F H) : ∀ vs : List Nat, GOk K B (wipeG G vs) (wipe σ vs) F H
  | [] => g
  | v :: vs => (GOk.wipe g vs).setAny
theorem wipe_same {σ σ' : St} : ∀ {vs : List Nat}, (∀ k, k ∉ vs → σ'[k]? = σ[k]?) → σ'.length = σ.length → wipe σ' vs = wipe σ vs := by
  intro vs h hl
  apply List.ext_getElem?
  intro k
  by_cases hk : k ∈ vs
  · have q : ∀ (ws : List Nat) (ρ : St), k ∈ ws → k < ρ.length → (wipe ρ ws)[k]? = some none := by
      intro ws
      induction ws with
      | nil => intro ρ h; cases h
      | cons w ws ih =>
        intro ρ h hlt
        show ((wipe ρ ws).set w none)[k]? = some none
        by_cases e : w = k
        · subst e
          rw [List.getElem?_set_self (by rw [wipe_length]; exact hlt)]
        · rw [List.getElem?_set_ne e]
          rcases List.mem_cons.mp h with z | z
          · exact absurd z.symm e
          · exact ih ρ z hlt
    by_cases hlt : k < σ.length
    · rw [q vs σ' hk (by rw [hl]; exact hlt), q vs σ hk hlt]
    · rw [List.getElem?_eq_none (by rw [wipe_length, hl]; omega), List.getElem?_eq_none (by rw [wipe_length]; omega)]
  · have q : ∀ (ws : List Nat) (ρ : St), k ∉ ws → (wipe ρ ws)[k]? = ρ[k]? := by
      intro ws
      induction ws with
      | nil => intro ρ _; rfl
      | cons w ws ih =>
        intro ρ h
        show ((wipe ρ ws).set w none)[k]? = _
        rw [List.getElem?_set_ne (fun z => h (by simp [z]))]
        exact ih ρ fun z => h (List.mem_cons_of_mem _ z)
    rw [q vs σ' hk, q vs σ hk]
    exact h k hk
def DN (X : Cx) (E : St → XK) (G : List Sl) (e : Expr) (m : M (List D)) : Prop :=
  ∃ t, PE X e t ∧ ∀ B σ F H Q, Same F H → GOk X.K B G σ F H → WpG X.K (E σ) (fun F' H' (v : V) (l : List D) => ∃ p xs, v = .ref p ∧ H p = none ∧ H' p = some (.lst xs) ∧ F' p = none ∧ RpL X.K F' xs l) m F H Q → t σ H Q
theorem Ext.freeze {F' H' : Hp} {p : Addr} {xs : List V} (x : Ext F H F' H') (n : H p = none) (h : H' p = some (.lst xs)) (nf : F' p = none) : Ext F H (upd F' p (.lst xs)) H' where
  sF := fun b o q => by
    rw [upd_ne (fun z => by
      subst z
      have := x.sF _ _ q
      rw [nf] at this
      cases this)]
    exact x.sF _ _ q
  sH := x.sH
  sFH := fun b o q => by
    by_cases e : b = p
    · subst e
      rw [upd_same] at q
      cases q
      exact h
    · rw [upd_ne e] at q
      exact x.sFH _ _ q
  old := fun a o q => by
    rw [upd_ne (ne_of_none q n)]
    exact x.old a o q
theorem DN.de {m : M (List D)} (h : DN X E G e m) : DE X E G e (m >>= fun l => .ok (.lst l)) := by
  obtain ⟨t, p, w⟩ := h
  refine ⟨t, p, fun B σ F H Q s g q => w B σ F H Q s g ?_⟩
  cases m with
  | ok l =>
    intro F' H' v x ⟨p, xs, ev, n, h, nf, r⟩
    subst ev
    exact q _ H' _ (x.freeze n h nf) (.lst upd_same (r.mono (same_new nf)))
  | error er => cases er with
    | stuck => exact q.elim
    | exc y => exact q
def comp (f : D → M (Option D)) : List D → M (List D)
  | [] => .ok []
  | d :: ds => match f d with
    | .ok (some y) => comp f ds >>= fun ys => .ok (y :: ys)
    | .ok none => comp f ds
    | .error _ => stuck
def compL (f : D → M (Option D)) (ds : List D) : M (List D) := do need (decide (ds.length ≤ sizeLine)); comp f ds
theorem comp_snoc {f : D → M (Option D)} : ∀ {ds : List D} {ys : List D}, comp f ds = .ok ys → ∀ {i : Nat} {d : D}, ds[i]? = some d → ∃ y zs ws, f d = .ok y ∧ comp f (ds.take i) = .ok zs ∧ comp f (ds.take (i + 1)) = .ok (zs ++ y.toList) ∧ ys = ws
  | [], _, _, _, _, h => by simp at h
  | d0 :: ds, ys, h, i, d, hd => by
    have h : (match f d0 with
      | .ok (some y) => comp f ds >>= fun ys => .ok (y :: ys)
      | .ok none => comp f ds
      | .error _ => stuck) = .ok ys := h
    cases e : f d0 with
    | error x => rw [e] at h; cases h
    | ok o =>
      rw [e] at h
      cases i with
      | zero =>
        have : d0 = d := by simpa using hd
        subst this
        refine ⟨o, [], ys, e, rfl, ?_, rfl⟩
        show comp f [d0] = _
        cases o with
        | none => simp [comp, e]
        | some y =>
          simp only [comp, e]
          rfl
      | succ i =>
        have hd' : ds[i]? = some d := by simpa using hd
        have key : ∃ ys', comp f ds = .ok ys' := by
          cases o with
          | none => exact ⟨ys, h⟩
          | some y =>
            cases e2 : comp f ds with
            | ok l => exact ⟨l, rfl⟩
            | error x =>
              have h : (comp f ds >>= fun ys => (.ok (y :: ys) : M (List D))) = .ok ys := h
              rw [e2] at h
              cases h
        obtain ⟨ys', e2⟩ := key
        obtain ⟨y, zs, ws, f1, f2, f3, _⟩ := comp_snoc e2 hd'
        refine ⟨y, o.toList ++ zs, ys, f1, ?_, ?_, rfl⟩
        · show comp f (d0 :: ds.take i) = _
          cases o with
          | none => simp [comp, e, f2]
          | some z =>
            simp only [comp, e, f2]
            rfl
        · show comp f (d0 :: ds.take (i + 1)) = _
          cases o with
          | none => simp [comp, e, f3]
          | some z =>
            simp only [comp, e, f3]
            show (.ok (z :: (zs ++ y.toList)) : M (List D)) = _
            simp
theorem comp_len {f : D → M (Option D)} : ∀ {ds ys : List D}, comp f ds = .ok ys → ys.length ≤ ds.length
  | [], ys, h => by
    cases h
    exact Nat.le_refl _
  | d :: ds, ys, h => by
    have h : (match f d with
      | .ok (some y) => comp f ds >>= fun ys => .ok (y :: ys)
      | .ok none => comp f ds
      | .error _ => stuck) = .ok ys := h
    cases e : f d with
    | error x => rw [e] at h; cases h
    | ok o =>
      rw [e] at h
      cases o with
      | none =>
        have := comp_len h
        simp only [List.length_cons]
        omega
      | some y =>
        cases e2 : comp f ds with
        | error x =>
          have h : (comp f ds >>= fun ys => (.ok (y :: ys) : M (List D))) = .ok ys := h
          rw [e2] at h
          cases h
        | ok l =>
          have h : (comp f ds >>= fun ys => (.ok (y :: ys) : M (List D))) = .ok ys := h
          rw [e2] at h
          cases h
          have := comp_len e2
          simp only [List.length_cons]
          omega
abbrev cE (E : XK) : St → XK := fun _ => E
abbrev EN0 : XK := fun _ _ _ => False
abbrev EN : St → XK := fun _ => EN0
theorem DE.canon {m : M D} (h : DE X E G e m) : PE X e (fun σ H Q => ∃ B F, Same F H ∧ GOk X.K B G σ F H ∧ WpG X.K (E σ) (rE X.K) m F H Q) := by
  obtain ⟨t, p, w⟩ := h
  exact ⟨fun pins s σ H Q I ⟨B, F, s1, g, q⟩ => p.run pins s σ H Q I (w B σ F H Q s1 g q)⟩
theorem DT.canon {m : M Bool} (h : DT X E G e m) : PT X e (fun σ H Q => ∃ B F, Same F H ∧ GOk X.K B G σ F H ∧ WpG X.K (E σ) rB m F H Q) := by
  obtain ⟨t, p, w⟩ := h
  exact ⟨fun pins s σ H Q I ⟨B, F, s1, g, q⟩ => p.run pins s σ H Q I (w B σ F H Q s1 g q)⟩
def tElt (K : PySem.W.Frag) (b : D → M (List Sl)) (me : D → M D) : TE := fun σ H Q => ∃ d G' B F, b d = .ok G' ∧ Same F H ∧ GOk K B G' σ F H ∧ WpG K EN0 (rE K) (me d) F H Q
def tTst (K : PySem.W.Frag) (b : D → M (List Sl)) (mt : D → M Bool) : TT := fun σ H Q => ∃ d G' B F, b d = .ok G' ∧ Same F H ∧ GOk K B G' σ F H ∧ WpG K EN0 rB (mt d) F H Q
def fElt (mt : D → M Bool) (me : D → M D) : D → M (Option D) := fun d => mt d >>= fun k => if k = true then me d >>= fun y => .ok (some y) else .ok none
theorem lc_run {E₁ : XK} {K : PySem.W.Frag} {J : It} {ds ys : List D} {vs : List Nat} {g : TG} {b : D → M (List Sl)} {mt : D → M Bool} {me : D → M D} {tt : TT} {te : TE} {B : Hp} {σ : St} {F0 H0 : Hp} {G : List Sl} {Q : VK}
    (hg : ∀ x v B σ F H (Q : St → Hp → Prop), Same F H → GOk K B (wipeG G vs) σ F H → Rp K F v x → (∃ G', b x = .ok G' ∧ ∀ σ', GOk K B G' σ' F H → (∀ k, k ∉ vs → σ'[k]? = σ[k]?) → σ'.length = σ.length → Q σ' H) → g v σ H Q)
    (hb : ∀ d y, fElt mt me d = .ok y → ∃ G', b d = .ok G')
    (ht : ∀ σ H Q, tTst K b mt σ H Q → tt σ H Q) (he : ∀ σ H Q, tElt K b me σ H Q → te σ H Q)
    (s0 : Same F0 H0) (g0 : GOk K B G σ F0 H0) (y0 : Yld K J (fun F1 H1 => Ext F0 H0 F1 H1) ds) (hl : ds.length ≤ sizeLine) (hc : comp (fElt mt me) ds = .ok ys)
    (q : WpG K E₁ (fun F' H' (v : V) (l : List D) => ∃ p xs, v = .ref p ∧ H0 p = none ∧ H' p = some (.lst xs) ∧ F' p = none ∧ RpL K F' xs l) (.ok ys) F0 H0 Q) :
    ∀ D, H0 D = none → ∃ W : Nat → Nat → Hp → Prop, (∃ m, W 0 m (upd H0 D (.lst []))) ∧ ∀ i m H, W i m H →
      (J.stop i H ∧ Q (.ref D) H) ∨ (J.go i H ∧ ∃ Nx : Hp → Prop, (∀ H', Nx H' → ∃ m', m' < m ∧ W (i + 1) m' H') ∧ ∀ x H', J.yld i H x H' → g x (wipe σ vs) H' fun σ2 H2 => wipe σ2 vs = wipe σ vs ∧ tt σ2 H2 fun b H3 =>
        if b = true then te σ2 H3 fun y H4 => ∃ acc, H4 D = some (.lst acc) ∧ acc.length < sizeLine ∧ Nx (upd H4 D (.lst (acc ++ [y]))) else Nx H3) := by
  intro D nD
  -- behind i turns
  let Pv : Nat → Hp → Prop := fun i H => ∃ F xs zs, Ext F0 H0 F H ∧ comp (fElt mt me) (ds.take i) = .ok zs ∧ H D = some (.lst xs) ∧ F D = none ∧ RpL K F xs zs
  have wr : ∀ {F H : Hp} {xs xs' : List V}, Ext F0 H0 F H → H D = some (.lst xs) → F D = none → Ext F0 H0 F (upd H D (.lst xs')) := fun {F H xs xs'} x hD fD =>
    ⟨x.sF, fun c o h => by
      rw [upd_ne (ne_of_none h nD)]
      exact x.sH c o h, fun c o h => by
      rw [upd_ne (fun z => by
        subst z
        rw [fD] at h
        cases h)]
      exact x.sFH c o h, x.old⟩
  refine ⟨fun i m H => m = ds.length - i ∧ i ≤ ds.length ∧ Pv i H, ⟨ds.length, by simp, Nat.zero_le _, F0, [], [], Ext.newH s0 nD, rfl, upd_same, s0.free nD, .nil⟩, ?_⟩
  rintro i m H ⟨rfl, hi, F, xs, zs, x, ez, hD, fD, r⟩
  obtain ⟨yi, ye⟩ := y0 F H x x.sFH
  by_cases hlt : i < ds.length
  · have hd : ds[i]? = some ds[i] := List.getElem?_eq_getElem hlt
    obtain ⟨go, yl⟩ := yi i _ hd
    obtain ⟨o, zs', _, f1, f2, f3, _⟩ := comp_snoc hc hd
    rw [ez] at f2
    cases f2
    have zl := comp_len ez
    rw [List.length_take] at zl
    refine .inr ⟨go, fun H' => Pv (i + 1) H', fun H' p => ⟨ds.length - (i + 1), by omega, rfl, hlt, p⟩, fun v H' hv => ?_⟩
    obtain ⟨F', x', rv⟩ := yl v H' hv
    have x1 := x.trans x'
    have g1 : GOk K B (wipeG G vs) (wipe σ vs) F' H' := (g0.ext x1).wipe vs
    obtain ⟨G', eG⟩ := hb _ _ f1
    refine hg _ v B (wipe σ vs) F' H' _ x1.sFH g1 rv ⟨G', eG, fun σ' g' hk hn => ⟨?_, ?_⟩⟩
    · have e1 := wipe_same (σ := wipe σ vs) (σ' := σ') (vs := vs) hk hn
      rw [e1]
      exact wipe_same (σ := σ) (σ' := wipe σ vs) (vs := vs) (fun k hk => by
        have q : ∀ ws : List Nat, k ∉ ws → (wipe σ ws)[k]? = σ[k]? := by
          intro ws
          induction ws with
          | nil => intro _; rfl
          | cons w ws ih =>
            intro h
            show ((wipe σ ws).set w none)[k]? = _
            rw [List.getElem?_set_ne (fun z => h (by simp [z]))]
            exact ih fun z => h (List.mem_cons_of_mem _ z)
        exact q vs hk) (wipe_length _ _)
    · refine ht σ' H' _ ⟨_, G', B, F', eG, x1.sFH, g', ?_⟩
      -- the test
      have f1' : (mt ds[i] >>= fun k => if k = true then me ds[i] >>= fun y => .ok (some y) else .ok none) = .ok o := f1
      cases em : mt ds[i] with
      | error z => rw [em] at f1'; cases f1'
      | ok k =>
        rw [em] at f1'
        have f1' : (if k = true then me ds[i] >>= fun y => .ok (some y) else .ok none) = Except.ok o := f1'
        intro F2 H2 k' x2 ek
        subst ek
        have x12 := x1.trans x2
        cases k' with
        | false =>
          rw [if_neg Bool.false_ne_true] at f1' ⊢
          cases f1'
          refine ⟨F2, xs, zs, x12, by rw [f3]; simp, x2.sH _ _ (x'.sH _ _ hD), ?_, (r.mono x'.sF).mono x2.sF⟩
          rw [x2.old _ _ (x'.sH _ _ hD), x'.old _ _ hD]
          exact fD
        | true =>
          rw [if_pos rfl] at f1' ⊢
          cases ey : me ds[i] with
          | error z => rw [ey] at f1'; cases f1'
          | ok y =>
            rw [ey] at f1'
            cases f1'
            refine he σ' H2 _ ⟨_, G', B, F2, eG, x2.sFH, g'.ext x2, ?_⟩
            rw [ey]
            intro F3 H3 v3 x3 r3
            have hD3 := x3.sH _ _ (x2.sH _ _ (x'.sH _ _ hD))
            have fD3 : F3 D = none := by
              rw [x3.old _ _ (x2.sH _ _ (x'.sH _ _ hD)), x2.old _ _ (x'.sH _ _ hD), x'.old _ _ hD]
              exact fD
            refine ⟨xs, hD3, by rw [r.length]; omega, F3, xs ++ [v3], zs ++ [y], wr (x12.trans x3) hD3 fD3, by rw [f3]; rfl, upd_same, fD3, (((r.mono x'.sF).mono x2.sF).mono x3.sF).append (.one r3)⟩
  · have e : i = ds.length := by omega
    subst e
    rw [List.take_length, hc] at ez
    cases ez
    exact .inl ⟨ye, q F H _ x ⟨D, xs, rfl, nD, hD, fD, r⟩⟩
def DNL (X : Cx) (E : St → XK) (G : List Sl) (e : Expr) (m : M (List D)) : Prop :=
  ∃ t, PE X e t ∧ (∀ {i : Nat} {y : Str} {py spos : Pos}, X.N[i]? = some y → X.env.scope.names.lookup y = some .local → swapsWith e (some (.Name y py)) spos.line X.env = pure true → PS X (.Assign [.Name y py] e spos) (tAsg t (gName i))) ∧
    ∀ B σ F H Q, Same F H → GOk X.K B G σ F H → WpG X.K (E σ) (fun F' H' (v : V) (l : List D) => ∃ p xs, v = .ref p ∧ H p = none ∧ H' p = some (.lst xs) ∧ F' p = none ∧ RpL X.K F' xs l) m F H Q → t σ H Q
theorem DNL.dn {m : M (List D)} (h : DNL X E G e m) : DN X E G e m := let ⟨t, p, _, w⟩ := h; ⟨t, p, w⟩
theorem dn_lc {tg iter : Expr} {ifs : List Expr} {scope : Scope} {own : List (Str × Nat)} {mi : M (List D)} {b : D → M (List Sl)} {mt : D → M Bool} {me : D → M D} (hc : X.calm = true) (hN : X.N.Nodup) (hi : DIR X E G tg iter mi) (ok : BlkOk X.N X.env.scope scope own)
    {g : TG} (hg : ∀ (s : Shared) (H : Hp) (C : Addr) (cl : List (Str × Addr)) (fp : List Addr), PG (X.blk s H scope (compEnvC scope cl C X.env) fp) tg g)
    (hg2 : ∀ x v B σ F H (Q : St → Hp → Prop), Same F H → GOk X.K B (wipeG G (own.map (·.2))) σ F H → Rp X.K F v x → (∃ G', b x = .ok G' ∧ ∀ σ', GOk X.K B G' σ' F H → (∀ k, k ∉ own.map (·.2) → σ'[k]? = σ[k]?) → σ'.length = σ.length → Q σ' H) → g v σ H Q)
    (ht : ∀ (s : Shared) (H : Hp) (C : Addr) (cl : List (Str × Addr)) (fp : List Addr), PTs (X.blk s H scope (compEnvC scope cl C X.env) fp) ifs (tTst X.K b mt))
    (he : ∀ (s : Shared) (H : Hp) (C : Addr) (cl : List (Str × Addr)) (fp : List Addr), PE (X.blk s H scope (compEnvC scope cl C X.env) fp) e (tElt X.K b me))
    (hb : ∀ d y, fElt mt me d = .ok y → ∃ G', b d = .ok G')
    (hs : ∀ x, foldedSetIterable iter X.env x = pure x := by intro _; rfl) : DNL X E G (.ListComp e [⟨tg, iter, ifs, 0⟩] scope pos) (mi >>= fun ds => compL (fElt mt me) ds) := by
  obtain ⟨wi, pi, wI⟩ := hi
  refine ⟨_, pe_lc hc hN pi ok hg ht he hs, fun h1 h2 h3 => ps_setLc hc hN h1 h2 h3 pi ok hg ht he hs, fun B σ F H Q s gk q => wI B σ F H _ s gk (WpG.bind q fun ds F1 H1 J x1 y1 k1 => ?_)⟩
  have k1 : WpG X.K (E σ) _ (need (decide (ds.length ≤ sizeLine)) >>= fun _ => comp (fElt mt me) ds) F1 H1 Q := k1
  obtain ⟨c, k1⟩ := WpG.need k1
  have c := of_decide_eq_true c
  cases ec : comp (fElt mt me) ds with
  | error z =>
    rw [ec] at k1
    cases z with
    | stuck => exact k1.elim
    | exc z =>
      exfalso
      have q : ∀ l : List D, ∀ z, comp (fElt mt me) l ≠ .error (.exc z) := by
        intro l
        induction l with
        | nil => intro z h; cases h
        | cons d l ih =>
          intro z h
          have h : (match fElt mt me d with
            | .ok (some y) => comp (fElt mt me) l >>= fun ys => .ok (y :: ys)
            | .ok none => comp (fElt mt me) l
            | .error _ => stuck) = .error (.exc z) := h
          cases e1 : fElt mt me d with
          | error w => rw [e1] at h; cases h
          | ok o =>
            rw [e1] at h
            cases o with
            | none => exact ih z h
            | some y =>
              cases e2 : comp (fElt mt me) l with
              | ok w =>
                have h : (comp (fElt mt me) l >>= fun ys => (.ok (y :: ys) : M (List D))) = .error (.exc z) := h
                rw [e2] at h
                cases h
              | error w =>
                have h : (comp (fElt mt me) l >>= fun ys => (.ok (y :: ys) : M (List D))) = .error (.exc z) := h
                rw [e2] at h
                have h : (.error w : M (List D)) = .error (.exc z) := h
                cases h
                exact ih z e2
      exact q _ _ ec
  | ok ys =>
    rw [ec] at k1
    refine lc_run (E₁ := E σ) hg2 hb (fun σ H Q h => h) (fun σ H Q h => h) x1.sFH (gk.ext x1) y1 c ec ?_
    intro F' H' v x ⟨p, xs, e1, n1, h1, f1, r1⟩
    refine k1 F' H' v x ⟨p, xs, e1, ?_, h1, f1, r1⟩
    exact Same.free x1.sH n1
end
end DL

set_option Elab.async false
set_option linter.all false
set_option maxRecDepth 100000
set_option maxHeartbeats 4000000
namespace DL
open PySem PySem.Spec L2

section
variable {K : PySem.W.Frag} {E : XK} {B0 B F H F' H' : Hp}
def OcP (K : PySem.W.Frag) (B0 B : Hp) (F : Hp) (D : Ends) : Oc → Prop
  | .nx G => ∀ σ F' H', Same F F' → Ext B0 B F' H' → GOk K B G σ F' H' → D.nx σ H'
  | .ct G => ∀ σ F' H', Same F F' → Ext B0 B F' H' → GOk K B G σ F' H' → D.ct σ H'
  | .bk G => ∀ σ F' H', Same F F' → Ext B0 B F' H' → GOk K B G σ F' H' → D.bk σ H'
  | .rt d => ∀ v F' H', Same F F' → Ext B0 B F' H' → Rp K F' v d → D.rt v H'
  | .rg R => ∀ v F' H', Same F F' → Ext B0 B F' H' → R B F' H' v → D.rt v H'
theorem OcP.mono {D : Ends} {o : Oc} (s : Same F F') (h : OcP K B0 B F D o) : OcP K B0 B F' D o := by
  cases o with
  | nx G => exact fun σ F2 H2 s2 => h σ F2 H2 (s.trans s2)
  | ct G => exact fun σ F2 H2 s2 => h σ F2 H2 (s.trans s2)
  | bk G => exact fun σ F2 H2 s2 => h σ F2 H2 (s.trans s2)
  | rt d => exact fun v F2 H2 s2 => h v F2 H2 (s.trans s2)
  | rg R => exact fun v F2 H2 s2 => h v F2 H2 (s.trans s2)
theorem WpB.ok {α : Type} {post : α → Oc} {x : α} {D : Ends} (h : WpB K E B0 B post (.ok x) F D) : OcP K B0 B F D (post x) := by
  have h : (match post x with
    | .nx G => ∀ σ F' H', Same F F' → Ext B0 B F' H' → GOk K B G σ F' H' → D.nx σ H'
    | .ct G => ∀ σ F' H', Same F F' → Ext B0 B F' H' → GOk K B G σ F' H' → D.ct σ H'
    | .bk G => ∀ σ F' H', Same F F' → Ext B0 B F' H' → GOk K B G σ F' H' → D.bk σ H'
    | .rt d => ∀ v F' H', Same F F' → Ext B0 B F' H' → Rp K F' v d → D.rt v H'
    | .rg R => ∀ v F' H', Same F F' → Ext B0 B F' H' → R B F' H' v → D.rt v H') := h
  cases e : post x with
  | nx G => rw [e] at h; exact h
  | ct G => rw [e] at h; exact h
  | bk G => rw [e] at h; exact h
  | rt d => rw [e] at h; exact h
  | rg R => rw [e] at h; exact h
theorem WpB.of_ok {α : Type} {post : α → Oc} {x : α} {D : Ends} (h : OcP K B0 B F D (post x)) : WpB K E B0 B post (.ok x) F D := by
  show (match post x with
    | .nx G => ∀ σ F' H', Same F F' → Ext B0 B F' H' → GOk K B G σ F' H' → D.nx σ H'
    | .ct G => ∀ σ F' H', Same F F' → Ext B0 B F' H' → GOk K B G σ F' H' → D.ct σ H'
    | .bk G => ∀ σ F' H', Same F F' → Ext B0 B F' H' → GOk K B G σ F' H' → D.bk σ H'
    | .rt d => ∀ v F' H', Same F F' → Ext B0 B F' H' → Rp K F' v d → D.rt v H'
    | .rg R => ∀ v F' H', Same F F' → Ext B0 B F' H' → R B F' H' v → D.rt v H')
  cases e : post x with
  | nx G => rw [e] at h; exact h
  | ct G => rw [e] at h; exact h
  | bk G => rw [e] at h; exact h
  | rt d => rw [e] at h; exact h
  | rg R => rw [e] at h; exact h
theorem WpB.err {α β : Type} {post : α → Oc} {p2 : β → Oc} {e : Er} {D : Ends} (h : WpB K E B0 B post (.error e) F D) : WpB K E B0 B p2 (.error e) F D := by
  cases e with
  | stuck => exact h
  | exc x => exact h
theorem WpB.mono {α : Type} {post : α → Oc} {m : M α} {D : Ends} (s : Same F F') (h : WpB K E B0 B post m F D) : WpB K E B0 B post m F' D := by
  cases m with
  | ok x => exact WpB.of_ok (h.ok.mono s)
  | error e => cases e with
    | stuck => exact h
    | exc x => exact fun F2 H2 c d s2 => h F2 H2 c d (s.trans s2)
theorem WpB.bind {α β : Type} {post : α → Oc} {p1 : β → Oc} {m : M β} {k : β → M α} {D D1 : Ends} (h : WpB K E B0 B post (m >>= k) F D) (hk : ∀ j, m = .ok j → WpB K E B0 B post (k j) F D → OcP K B0 B F D1 (p1 j)) : WpB K E B0 B p1 m F D1 := by
  cases m with
  | ok j => exact WpB.of_ok (hk j rfl h)
  | error e => cases e with
    | stuck => exact h
    | exc x => exact h
theorem WpB.expr {α β γ : Type} {post : α → Oc} {rel : Hp → Hp → γ → β → Prop} {m : M β} {k : β → M α} {D : Ends} {Q : γ → Hp → Prop} (x0 : Ext B0 B F H) (h : WpB K E B0 B post (m >>= k) F D)
    (hk : ∀ j F' H' v, Ext F H F' H' → Ext B0 B F' H' → rel F' H' v j → WpB K E B0 B post (k j) F' D → Q v H') : WpG K E rel m F H Q := by
  cases m with
  | ok j => exact fun F' H' v x r => hk j F' H' v x (x0.trans x) r (WpB.mono x.sF h)
  | error e => cases e with
    | stuck => exact h
    | exc y => exact fun F' H' c d x r => h F' H' c d x.sF (x0.trans x) r
end

section
variable {X : Cx} {E : XK} {G : List Sl} {a b c e : Expr} {ma mb mc : M D} {ta tb : M Bool} {pos : Pos} {st : Stmt} {rest body : List Stmt}
def DS (X : Cx) (E : XK) (G : List Sl) (st : Stmt) {α : Type} (m : M α) (post : α → Oc) : Prop :=
  ∃ t, PS X st t ∧ ∀ B0 B σ F H D, Ext B0 B F H → GOk X.K B G σ F H → WpB X.K E B0 B post m F D → t D σ H
theorem db_nil {α : Type} {x : α} {post : α → Oc} (h : post x = .nx G) : DB X E G [] (.ok x) post :=
  ⟨_, pss_nil, fun B0 B σ F H D x0 g q => by
    have q := q.ok
    rw [h] at q
    exact q σ F H (Same.refl _) x0 g⟩
theorem db_cast {α : Type} {m m' : M α} {post : α → Oc} (h : DB X E G body m post) (e : m = m') : DB X E G body m' post := e ▸ h
theorem db_cons {α β : Type} {m1 : M β} {p1 : β → Oc} {k : β → M α} {post : α → Oc} (h1 : DS X E G st m1 p1) (h2 : ∀ j G', p1 j = .nx G' → DB X E G' rest (k j) post)
    (h3 : ∀ j, (∀ G', p1 j ≠ .nx G') → ∃ a, k j = .ok a ∧ post a = p1 j) : DB X E G (st :: rest) (m1 >>= k) post := by
  obtain ⟨t1, ps, w1⟩ := h1
  have r2 : PSs X rest (fun D σ H => ∃ j G' B0 B F, p1 j = .nx G' ∧ Ext B0 B F H ∧ GOk X.K B G' σ F H ∧ WpB X.K E B0 B post (k j) F D) :=
    ⟨fun pins s σ H D I ⟨j, G', B0, B, F, e, x, g, q⟩ => by
      obtain ⟨t2, p2, w2⟩ := h2 j G' e
      exact p2.run pins s σ H D I (w2 B0 B σ F H D x g q)⟩
  refine ⟨_, pss_cons ps r2, fun B0 B σ F H D x0 g q => w1 B0 B σ F H _ x0 g (q.bind fun j _ qj => ?_)⟩
  cases e : p1 j with
  | nx G' => exact fun σ' F' H' s' x' g' => ⟨j, G', B0, B, F', e, x', g', qj.mono s'⟩
  | ct G' =>
    obtain ⟨a, e1, e2⟩ := h3 j fun G' z => by rw [e] at z; cases z
    rw [e1] at qj
    have qj := qj.ok
    rw [e2, e] at qj
    exact qj
  | bk G' =>
    obtain ⟨a, e1, e2⟩ := h3 j fun G' z => by rw [e] at z; cases z
    rw [e1] at qj
    have qj := qj.ok
    rw [e2, e] at qj
    exact qj
  | rt d =>
    obtain ⟨a, e1, e2⟩ := h3 j fun G' z => by rw [e] at z; cases z
    rw [e1] at qj
    have qj := qj.ok
    rw [e2, e] at qj
    exact qj
  | rg R =>
    obtain ⟨a, e1, e2⟩ := h3 j fun G' z => by rw [e] at z; cases z
    rw [e1] at qj
    have qj := qj.ok
    rw [e2, e] at qj
    exact qj
theorem db_then {α β : Type} {m1 : M β} {G1 : β → List Sl} {k : β → M α} {post : α → Oc} (h1 : DS X E G st m1 (fun j => .nx (G1 j))) (h2 : ∀ j, DB X E (G1 j) rest (k j) post) : DB X E G (st :: rest) (m1 >>= k) post :=
  db_cons h1 (fun j G' e => by
    injection e with e
    rw [← e]
    exact h2 j) (fun j h => absurd rfl (h _))
theorem db_last {α : Type} {m : M α} {post : α → Oc} (h : DS X E G st m post) : DB X E G [st] m post := by
  obtain ⟨t, p, w⟩ := h
  exact ⟨_, pss_one p, w⟩

theorem ds_set {x : Str} {i : Nat} {pos' : Pos} {m : M D} (h : DE X (cE E) G e m) (p : ∀ {te : TE}, PE X e te → PS X (.Assign [.Name x pos'] e pos) (tAsg te (gName i))) : DS X E G (.Assign [.Name x pos'] e pos) m (fun d => .nx (G.set i (.val d))) := by
  obtain ⟨t, pe, w⟩ := h
  refine ⟨_, p pe, fun B0 B σ F H D x0 g q => w B σ F H _ x0.sFH g ?_⟩
  cases m with
  | ok d => exact fun F' H' v x r => q.ok _ F' H' x.sF (x0.trans x) ((g.ext x).set r)
  | error er => cases er with
    | stuck => exact q.elim
    | exc y => exact fun F' H' c d x r => q F' H' c d x.sF (x0.trans x) r
theorem GOk.setOwn {K : PySem.W.Frag} {B F H : Hp} {σ : St} {i : Nat} {p : Addr} {xs : List V} {l : List D} (g : GOk K B G σ F H) (hp : H p = some (.lst xs)) (fp : F p = none) (bp : B p = none) (r : RpL K F xs l)
    (new : ∀ (j : Nat) (s : Sl), G[j]? = some s → s.owns = true → σ[j]? ≠ some (some (.ref p))) : GOk K B (G.set i (.own l)) (σ.set i (some (.ref p))) F H where
  sB := g.sB
  len := by rw [List.length_set, List.length_set]; exact g.len
  ok := fun j s h => by
    by_cases e : i = j
    · subst e
      have hi : i < G.length := by
        have := (List.getElem?_eq_some_iff.mp h).1
        rwa [List.length_set] at this
      rw [List.getElem?_set_self hi] at h
      cases h
      exact ⟨some (.ref p), by rw [List.getElem?_set_self (by rw [g.len]; exact hi)], p, xs, rfl, hp, fp, bp, r⟩
    · rw [List.getElem?_set_ne e] at h
      rw [List.getElem?_set_ne e]
      exact g.ok j s h
  dis := fun j k s t a h1 h2 o1 o2 e1 e2 => by
    by_cases nj : i = j
    · by_cases nk : i = k
      · rw [← nj, ← nk]
      · subst nj
        have hi : i < G.length := by
          have := (List.getElem?_eq_some_iff.mp h1).1
          rwa [List.length_set] at this
        rw [List.getElem?_set_self (by rw [g.len]; exact hi)] at e1
        cases e1
        rw [List.getElem?_set_ne nk] at h2 e2
        exact absurd e2 (new k t h2 o2)
    · by_cases nk : i = k
      · subst nk
        have hi : i < G.length := by
          have := (List.getElem?_eq_some_iff.mp h2).1
          rwa [List.length_set] at this
        rw [List.getElem?_set_self (by rw [g.len]; exact hi)] at e2
        cases e2
        rw [List.getElem?_set_ne nj] at h1 e1
        exact absurd e1 (new j s h1 o1)
      · rw [List.getElem?_set_ne nj] at h1 e1
        rw [List.getElem?_set_ne nk] at h2 e2
        exact g.dis j k s t a h1 h2 o1 o2 e1 e2
theorem GOk.owned {K : PySem.W.Frag} {B F H : Hp} {σ : St} {j : Nat} {s : Sl} {p : Addr} (g : GOk K B G σ F H) (h : G[j]? = some s) (o : s.owns = true) (e : σ[j]? = some (some (.ref p))) : ∃ u, H p = some u := by
  obtain ⟨v, h1, h2⟩ := g.ok j s h
  rw [e] at h1
  cases h1
  cases s with
  | own l =>
    obtain ⟨a, xs, e1, e2, _⟩ := h2
    cases e1
    exact ⟨_, e2⟩
  | ownd l =>
    obtain ⟨a, e1, e2, _⟩ := h2
    cases e1
    exact e2.some
  | ownu l =>
    obtain ⟨a, e1, e2, _⟩ := h2
    cases e1
    exact e2.some
  | obj a c l =>
    obtain ⟨dx, fs, e1, e2, _⟩ := h2
    cases e1
    exact ⟨_, e2⟩
  | _ => cases o
theorem ds_setN {x : Str} {i : Nat} {pos' : Pos} {m : M (List D)} (h : DN X (cE E) G e m) (p : ∀ {te : TE}, PE X e te → PS X (.Assign [.Name x pos'] e pos) (tAsg te (gName i))) : DS X E G (.Assign [.Name x pos'] e pos) m (fun l => .nx (G.set i (.own l))) := by
  obtain ⟨t, pe, w⟩ := h
  refine ⟨_, p pe, fun B0 B σ F H D x0 g q => w B σ F H _ x0.sFH g ?_⟩
  cases m with
  | ok l =>
    intro F' H' v x ⟨a, xs, ev, n, h1, f1, r1⟩
    subst ev
    have hB : B a = none := x0.sH.free n
    exact q.ok _ F' H' x.sF (x0.trans x) ((g.ext x).setOwn h1 f1 hB r1 fun j s hj oj ej => by
      obtain ⟨u, hu⟩ := g.owned hj oj ej
      rw [n] at hu
      cases hu)
  | error er => cases er with
    | stuck => exact q.elim
    | exc y => exact fun F' H' c d x r => q F' H' c d x.sF (x0.trans x) r
theorem dn_lst {es : List Expr} {ms : M (List D)} (h : DA X (cE E) G es ms) : DN X (cE E) G (.List es pos) (ms >>= fun l => need (decide (l.length ≤ sizeLine)) >>= fun _ => .ok l) := by
  obtain ⟨t, p, w⟩ := h
  refine ⟨_, pe_lst p, fun B σ F H Q s g q => w B σ F H _ s g (WpG.bind q fun l F1 H1 vs x1 r1 k1 => ?_)⟩
  obtain ⟨c, k1⟩ := WpG.need k1
  have c := of_decide_eq_true c
  refine ⟨by rw [r1.length]; exact c, fun p hp => k1 F1 _ _ (Ext.newH x1.sFH hp) ⟨p, vs, rfl, x1.sH.free hp, upd_same, x1.sFH.free hp, r1⟩⟩
def D.un (n : Nat) : D → M (List D)
  | .tup l => do need (decide (l.length = n)); .ok l
  | .lst l => do need (decide (l.length = n)); .ok l
  | _ => stuck
theorem GOk.write {K : PySem.W.Frag} {B F H : Hp} {σ : St} {i : Nat} {a : Addr} {l l' : List D} {xs' : List V} (g : GOk K B G σ F H) (h : G[i]? = some (.own l)) (e : σ[i]? = some (some (.ref a))) (r : RpL K F xs' l') : GOk K B (G.set i (.own l')) σ F (upd H a (.lst xs')) where
  sB := fun c u hc => by
    obtain ⟨o, h1, a', xs, rfl, h2, h3, h4, _⟩ := g.ok i _ h
    rw [e] at h1
    cases h1
    rw [upd_ne (ne_of_none hc h4)]
    exact g.sB c u hc
  len := by rw [List.length_set]; exact g.len
  ok := fun j s hj => by
    obtain ⟨o, h1, a', xs, rfl, h2, h3, h4, _⟩ := g.ok i _ h
    rw [e] at h1
    cases h1
    by_cases ej : i = j
    · subst ej
      have hi := (List.getElem?_eq_some_iff.mp h).1
      rw [List.getElem?_set_self hi] at hj
      cases hj
      exact ⟨_, e, a, xs', rfl, upd_same, h3, h4, r⟩
    · rw [List.getElem?_set_ne ej] at hj
      obtain ⟨o, k1, k2⟩ := g.ok j s hj
      refine ⟨o, k1, ?_⟩
      cases s with
      | un => exact k2
      | any => trivial
      | val d => exact k2
      | own m =>
        obtain ⟨b, ys, rfl, q⟩ := k2
        have nb : b ≠ a := fun z => by
          subst z
          exact ej (g.dis i j _ _ b h hj rfl rfl e k1)
        exact ⟨b, ys, rfl, by rw [upd_ne nb]; exact q.1, q.2⟩
      | ownd m =>
        obtain ⟨b, rfl, q⟩ := k2
        have nb : b ≠ a := fun z => by
          subst z
          exact ej (g.dis i j _ _ b h hj rfl rfl e k1)
        exact ⟨b, rfl, by rw [upd_ne nb]; exact q.1, q.2⟩
      | ownu m =>
        obtain ⟨b, rfl, q⟩ := k2
        have nb : b ≠ a := fun z => by
          subst z
          exact ej (g.dis i j _ _ b h hj rfl rfl e k1)
        exact ⟨b, rfl, by rw [upd_ne nb]; exact q.1, q.2⟩
      | obj b c m =>
        obtain ⟨dx, fs, rfl, q⟩ := k2
        have nb : b ≠ a := fun z => by
          subst z
          exact ej (g.dis i j _ _ b h hj rfl rfl e k1)
        exact ⟨dx, fs, rfl, by rw [upd_ne nb]; exact q.1, q.2⟩
      | bor d => exact k2
      | tre b c l =>
        refine ⟨k2.1, ?_, k2.2.2⟩
        obtain ⟨o, z1, a', xs, rfl, z2, z3, z4, _⟩ := g.ok i _ h
        rw [e] at z1
        cases z1
        exact fun x u hx => by
          rw [upd_ne (ne_of_none hx z4)]
          exact g.sB _ _ hx
      | exn b c l => exact k2
  dis := fun j k s t b h1 h2 o1 o2 e1 e2 => by
    have own_at : ∀ (j : Nat) (s : Sl), (G.set i (.own l'))[j]? = some s → s.owns = true → ∃ s', G[j]? = some s' ∧ s'.owns = true := fun j s hj o => by
      by_cases ej : i = j
      · subst ej
        exact ⟨_, h, rfl⟩
      · rw [List.getElem?_set_ne ej] at hj
        exact ⟨s, hj, o⟩
    obtain ⟨s1, q1, p1⟩ := own_at j s h1 o1
    obtain ⟨s2, q2, p2⟩ := own_at k t h2 o2
    exact g.dis j k s1 s2 b q1 q2 p1 p2 e1 e2
theorem Ext.write {B0 B F H : Hp} {a : Addr} {o : HO} (x : Ext B0 B F H) (fa : F a = none) (ba : B a = none) : Ext B0 B F (upd H a o) :=
  ⟨x.sF, fun c u h => by
    rw [upd_ne (ne_of_none h ba)]
    exact x.sH c u h, fun c u h => by
    rw [upd_ne (ne_of_none h fa)]
    exact x.sFH c u h, x.old⟩
def Sl.push (s : Sl) (m : M D) : M Sl := match s with
  | .own l => m >>= fun d => need (decide (l.length < sizeLine)) >>= fun _ => .ok (.own (l ++ [d]))
  | _ => stuck
theorem ds_push {x : Str} {i : Nat} {s : Sl} {p1 p2 p3 : Pos} {m : M D} (hs : G[i]? = some s) (pv : PE X (.Name x p1) (tVar i)) (h : DE X (cE E) G e m)
    (hfew : ((backTo p3 (starEach [e] X.env)).all (fun x => !x.1) && (backToKw p3 (keywordEach [] X.env)).all (fun x => x.1.isSome)
      && decide (([e] : List Expr).length + ([] : List Keyword).length + (if ([] : List Keyword).isEmpty then 0 else 1) < 30)) = true := by rfl)
    (hbase : attributeBase (.Name x p1) "append" X.env (eval (.Name x p1) X.env) = eval (.Name x p1) X.env := by rfl)
    (hline : (p2.endLine == p3.line) = true := by rfl) (hst : starEach [e] X.env = (false, eval e X.env) :: starEach [] X.env := by rfl) (hplain : (backTo p3 (starEach [] X.env)).any (·.1) = false := by rfl) :
    DS X E G (.Expr (.Call (.Attribute (.Name x p1) "append" p2) [e] [] p3) pos) (s.push m) (fun s' => .nx (G.set i s')) := by
  obtain ⟨t, pe, w⟩ := h
  refine ⟨_, ps_expr (pe_bm PySem.F.plainAttrs_list PySem.F.slot_list_append PySem.F.type_list_append mt_append pv (pa_cons pe pa_nil hst) hbase hfew hline hst hplain), fun B0 B σ F H D x0 g q => ?_⟩
  cases s with
  | own l =>
    have q : WpB X.K E B0 B (fun s' => .nx (G.set i s')) (m >>= fun d => need (decide (l.length < sizeLine)) >>= fun _ => .ok (.own (l ++ [d]))) F D := q
    obtain ⟨o, h1, a, xs, rfl, h2, h3, h4, h5⟩ := g.ok i _ hs
    refine ⟨_, h1, .inl ⟨rfl, xs, SqL.of h2⟩, w B σ F H _ x0.sFH g (WpB.expr (H := H) x0 q fun d F' H' v x x' r qd => ?_)⟩
    cases hd : decide (l.length < sizeLine) with
    | false =>
      exfalso
      rw [hd] at qd
      exact qd
    | true =>
      rw [hd] at qd
      have hl := of_decide_eq_true hd
      have h2' := x.sH _ _ h2
      have h3' : F' a = none := by
        rw [x.old _ _ h2]
        exact h3
      have h5' := h5.mono x.sF
      refine ⟨a, xs, v, rfl, rfl, h2', by rw [h5'.length]; exact hl, ?_⟩
      have qd : WpB X.K E B0 B (fun s' => .nx (G.set i s')) (.ok (.own (l ++ [d]))) F' D := qd
      exact qd.ok σ F' _ (Same.refl _) (x'.write h3' h4) ((g.ext x).write hs h1 (h5'.append (.one r)))
  | _ => exact q.elim
def Sl.fz : Sl → Sl
  | .own l => .val (.lst l)
  | s => s
theorem db_fz {α : Type} {i : Nat} {s : Sl} {m : M α} {post : α → Oc} (hs : G[i]? = some s) (h : DB X E (G.set i s.fz) body m post) : DB X E G body m post := by
  obtain ⟨t, p, w⟩ := h
  refine ⟨t, p, fun B0 B σ F H D x0 g q => ?_⟩
  have same : ∀ s', s' = s → DB X E (G.set i s') body m post → G.set i s' = G := fun s' e _ => by
    subst e
    apply List.ext_getElem?
    intro k
    by_cases e : i = k
    · subst e
      rw [List.getElem?_set_self (List.getElem?_eq_some_iff.mp hs).1, hs]
    · rw [List.getElem?_set_ne e]
  cases s with
  | own l =>
    obtain ⟨o, h1, a, xs, rfl, h2, h3, h4, h5⟩ := g.ok i _ hs
    have hi := (List.getElem?_eq_some_iff.mp hs).1
    have xF : Same F (upd F a (.lst xs)) := same_new h3
    refine w B0 B σ (upd F a (.lst xs)) H D ⟨x0.sF.trans xF, x0.sH, fun c u hc => ?_, fun c u hc => ?_⟩ ⟨g.sB, by rw [List.length_set]; exact g.len, fun j s' hj => ?_, fun j k s1 s2 b g1 g2 o1 o2 e1 e2 => ?_⟩ (q.mono xF)
    · by_cases e : c = a
      · subst e
        rw [upd_same] at hc
        cases hc
        exact h2
      · rw [upd_ne e] at hc
        exact x0.sFH c u hc
    · rw [upd_ne (ne_of_none hc h4)]
      exact x0.old c u hc
    · by_cases e : i = j
      · subst e
        rw [List.getElem?_set_self hi] at hj
        cases hj
        exact ⟨_, h1, _, rfl, .lst upd_same (h5.mono xF)⟩
      · rw [List.getElem?_set_ne e] at hj
        obtain ⟨o, k1, k2⟩ := g.ok j s' hj
        refine ⟨o, k1, ?_⟩
        cases s' with
        | un => exact k2
        | any => trivial
        | val d =>
          obtain ⟨v, e1, r⟩ := k2
          exact ⟨v, e1, r.mono xF⟩
        | own m =>
          obtain ⟨b, ys, rfl, q1, q2, q3, q4⟩ := k2
          have nb : b ≠ a := fun z => by
            subst z
            exact e (g.dis i j _ _ b hs hj rfl rfl h1 k1)
          exact ⟨b, ys, rfl, q1, by rw [upd_ne nb]; exact q2, q3, q4.mono xF⟩
        | ownd m =>
          obtain ⟨b, rfl, q1, q2, q3⟩ := k2
          have nb : b ≠ a := fun z => by
            subst z
            exact e (g.dis i j _ _ b hs hj rfl rfl h1 k1)
          exact ⟨b, rfl, q1.mono xF, by rw [upd_ne nb]; exact q2, q3⟩
        | ownu m =>
          obtain ⟨b, rfl, q1, q2, q3⟩ := k2
          have nb : b ≠ a := fun z => by
            subst z
            exact e (g.dis i j _ _ b hs hj rfl rfl h1 k1)
          exact ⟨b, rfl, q1.mono xF, by rw [upd_ne nb]; exact q2, q3⟩
        | obj b c m =>
          obtain ⟨dx, fs, rfl, q1, q2, q3, q4, q5⟩ := k2
          have nb : b ≠ a := fun z => by
            subst z
            exact e (g.dis i j _ _ b hs hj rfl rfl h1 k1)
          exact ⟨dx, fs, rfl, q1, by rw [upd_ne nb]; exact q2, q3, q4, q5.mono xF⟩
        | bor d =>
          obtain ⟨v, e1, r⟩ := k2
          exact ⟨v, e1, r.monoF xF⟩
        | tre b c l =>
          obtain ⟨k3, k4, as, t⟩ := k2
          exact ⟨k3, k4, as, t.mono xF fun b o e => upd_ne (ne_of_none e h4)⟩
        | exn b c l => exact ⟨k2.1, k2.2.mono xF⟩
    · have nj : i ≠ j := fun z => by
        subst z
        rw [List.getElem?_set_self hi] at g1
        cases g1
        cases o1
      have nk : i ≠ k := fun z => by
        subst z
        rw [List.getElem?_set_self hi] at g2
        cases g2
        cases o2
      rw [List.getElem?_set_ne nj] at g1
      rw [List.getElem?_set_ne nk] at g2
      exact g.dis j k s1 s2 b g1 g2 o1 o2 e1 e2
  | un => exact w B0 B σ F H D x0 ((show GOk X.K B (G.set i .un) σ F H from (same .un rfl ⟨t, p, w⟩).symm ▸ g)) q
  | any => exact w B0 B σ F H D x0 ((show GOk X.K B (G.set i .any) σ F H from (same .any rfl ⟨t, p, w⟩).symm ▸ g)) q
  | val d => exact w B0 B σ F H D x0 ((show GOk X.K B (G.set i (.val d)) σ F H from (same (.val d) rfl ⟨t, p, w⟩).symm ▸ g)) q
  | ownd l => exact w B0 B σ F H D x0 ((show GOk X.K B (G.set i (.ownd l)) σ F H from (same (.ownd l) rfl ⟨t, p, w⟩).symm ▸ g)) q
  | obj a c l => exact w B0 B σ F H D x0 ((show GOk X.K B (G.set i (.obj a c l)) σ F H from (same (.obj a c l) rfl ⟨t, p, w⟩).symm ▸ g)) q
  | bor d => exact w B0 B σ F H D x0 ((show GOk X.K B (G.set i (.bor d)) σ F H from (same (.bor d) rfl ⟨t, p, w⟩).symm ▸ g)) q
  | tre b c l => exact w B0 B σ F H D x0 ((show GOk X.K B (G.set i (.tre b c l)) σ F H from (same (.tre b c l) rfl ⟨t, p, w⟩).symm ▸ g)) q
  | ownu l => exact w B0 B σ F H D x0 ((show GOk X.K B (G.set i (.ownu l)) σ F H from (same (.ownu l) rfl ⟨t, p, w⟩).symm ▸ g)) q
  | exn b c l => exact w B0 B σ F H D x0 ((show GOk X.K B (G.set i (.exn b c l)) σ F H from (same (.exn b c l) rfl ⟨t, p, w⟩).symm ▸ g)) q
theorem db_any {α : Type} (i : Nat) {m : M α} {post : α → Oc} (h : DB X E (G.set i .any) body m post) : DB X E G body m post := by
  obtain ⟨t, p, w⟩ := h
  exact ⟨t, p, fun B0 B σ F H D x0 g q => w B0 B σ F H D x0 g.any q⟩

theorem ds_ret {m : M D} (h : DE X (cE E) G e m) : DS X E G (.Return (some e) pos) m .rt := by
  obtain ⟨t, pe, w⟩ := h
  refine ⟨_, ps_ret pe, fun B0 B σ F H D x0 g q => w B σ F H _ x0.sFH g ?_⟩
  cases m with
  | ok d => exact fun F' H' v x r => q.ok v F' H' x.sF (x0.trans x) r
  | error er => cases er with
    | stuck => exact q.elim
    | exc y => exact fun F' H' c d x r => q F' H' c d x.sF (x0.trans x) r
theorem ds_if {α : Type} {A B : List Stmt} {mc : M Bool} {mA mB : M α} {post : α → Oc} (hc : DT X (cE E) G c mc) (hA : DB X E G A mA post) (hB : DB X E G B mB post) : DS X E G (.If c A B pos) (mc >>= fun b => if b = true then mA else mB) post := by
  obtain ⟨tc, pc, wc⟩ := hc
  obtain ⟨t1, p1, w1⟩ := hA
  obtain ⟨t2, p2, w2⟩ := hB
  refine ⟨_, ps_if pc p1 p2, fun B0 B σ F H D x0 g q => wc B σ F H _ x0.sFH g (WpB.expr (H := H) x0 q fun b F' H' v x x' r qd => ?_)⟩
  subst r
  cases v with
  | true => exact w1 B0 B σ F' H' D x' (g.ext x) qd
  | false => exact w2 B0 B σ F' H' D x' (g.ext x) qd
theorem db_ift {α β : Type} {A : List Stmt} {mc : M Bool} {mA : M β} {pA : β → Oc} {mR : M α} {post : α → Oc} (inj : β → α) (hc : DT X (cE E) G c mc) (hA : DB X E G A mA pA) (hT : ∀ a G', pA a ≠ .nx G') (hp : ∀ a, post (inj a) = pA a) (hR : DB X E G rest mR post) :
    DB X E G (.If c A [] pos :: rest) (mc >>= fun b => if b = true then mA >>= fun a => .ok (inj a) else mR) post := by
  have h1 : DS X E G (.If c A [] pos) (mc >>= fun b => if b = true then mA >>= fun a => .ok (some a) else .ok none) (fun (o : Option β) => match o with | some a => pA a | none => .nx G) := by
    refine ds_if hc ?_ (db_nil rfl)
    obtain ⟨t, p, w⟩ := hA
    refine ⟨t, p, fun B0 B σ F H D x0 g q => w B0 B σ F H D x0 g (q.bind fun j _ qj => ?_)⟩
    exact qj.ok
  have h2 := db_cons (rest := rest) (k := fun (o : Option β) => match o with | some a => .ok (inj a) | none => mR) (post := post) h1 (fun j G' e => by
    cases j with
    | some a => exact absurd e (hT a G')
    | none =>
      cases e
      exact hR) (fun j h => by
    cases j with
    | some a => exact ⟨inj a, rfl, hp a⟩
    | none => exact absurd rfl (h G))
  refine db_cast h2 ?_
  cases mc with
  | error e => rfl
  | ok b => cases b with
    | true => cases mA <;> rfl
    | false => rfl
theorem db_ifr {A : List Stmt} {mc : M Bool} {mA mR : M D} (hc : DT X (cE E) G c mc) (hA : DB X E G A mA .rt) (hR : DB X E G rest mR .rt) : DB X E G (.If c A [] pos :: rest) (mc >>= fun b => if b = true then mA else mR) .rt :=
  db_cast (db_ift id hc hA (fun a G' h => nomatch h) (fun _ => rfl) hR) (by
    cases mc with
    | error e => rfl
    | ok b => cases b with
      | true => cases mA <;> rfl
      | false => rfl)
theorem db_map {α β : Type} {m : M β} {p : β → Oc} {post : α → Oc} (f : β → α) (h : DB X E G body m p) (hp : ∀ a, post (f a) = p a) : DB X E G body (m >>= fun a => .ok (f a)) post := by
  obtain ⟨t, ps, w⟩ := h
  refine ⟨t, ps, fun B0 B σ F H D x0 g q => w B0 B σ F H D x0 g (q.bind fun j _ qj => ?_)⟩
  have qj := qj.ok
  rw [hp j] at qj
  exact qj

inductive Rx (S T : Type) where
  | go (s : S)
  | ct (s : T)
  | bk (s : T)
  | rt (d : D)
def Rx.oc {S T : Type} (Γ : S → List Sl) (Δ : T → List Sl) : Rx S T → Oc
  | .go s => .nx (Γ s)
  | .ct s => .ct (Δ s)
  | .bk s => .bk (Δ s)
  | .rt d => .rt d
abbrev Rs (S : Type) := Rx S S
abbrev Rs.oc {S : Type} (Γ : S → List Sl) : Rs S → Oc := Rx.oc Γ Γ
def loopR {S : Type} (f : S → D → M (Rs S)) : List D → S → M (S ⊕ D)
  | [], s => .ok (.inl s)
  | x :: xs, s => f s x >>= fun r => match r with
    | .go s => loopR f xs s
    | .ct s => loopR f xs s
    | .bk s => .ok (.inl s)
    | .rt d => .ok (.inr d)
def loopF {S : Type} (f : S → D → M S) : List D → S → M S
  | [], s => .ok s
  | x :: xs, s => f s x >>= fun s => loopF f xs s
def sumOc {S : Type} (Γ : S → List Sl) : S ⊕ D → Oc
  | .inl s => .nx (Γ s)
  | .inr d => .rt d
theorem ds_forR {S : Type} {tg iter : Expr} {mi : M (List D)} {vs : List Nat} {Γ : S → List Sl} {bnd : S → D → M (List Sl)} {f : S → D → M (Rs S)} (s0 : S) (hG : G = Γ s0) (hp : PassesOwn (model X.prog X.w) X.A X.env X.xe) (hc : X.calm = true)
    (hi : DI X (cE E) G tg iter mi) {g : TG} (pg : PG X tg g)
    (hg : ∀ s x v B σ F H (Q : St → Hp → Prop), Same F H → GOk X.K B (Γ s) σ F H → Rp X.K F v x → (∃ G', bnd s x = .ok G' ∧ ∀ σ', GOk X.K B G' σ' F H → (∀ k, k ∉ vs → σ'[k]? = σ[k]?) → σ'.length = σ.length → Q σ' H) → g v σ H Q)
    (hbnd : ∀ s x r, f s x = .ok r → ∃ G', bnd s x = .ok G') (hbndx : ∀ s x r, f s x = .error (.exc r) → ∃ G', bnd s x = .ok G')
    (hb : ∀ s x G', bnd s x = .ok G' → DB X E G' body (f s x) (Rs.oc Γ))
    (hs : ∀ x, foldedSetIterable iter X.env x = pure x := by intro _; rfl) : DS X E G (.For tg iter body [] pos) (mi >>= fun ds => loopR f ds s0) (sumOc Γ) := by
  subst hG
  obtain ⟨wi, pi, wI⟩ := hi
  have pb : PSs X body (fun D σ H => ∃ s x G' B0 B F, bnd s x = .ok G' ∧ Ext B0 B F H ∧ GOk X.K B G' σ F H ∧ WpB X.K E B0 B (Rs.oc Γ) (f s x) F D) :=
    ⟨fun pins s σ H D I ⟨s', x, G', B0, B, F, e, x0, gk, q⟩ => by
      obtain ⟨t, p, w⟩ := hb s' x G' e
      exact p.run pins s σ H D I (w B0 B σ F H D x0 gk q)⟩
  refine ⟨_, ps_for hp hc pi pg pb hs, fun B0 B σ F H D x0 gk q => wI B σ F H _ x0.sFH gk (WpB.expr (H := H) x0 q fun ds F1 H1 J x1 x1' y1 q1 => ?_)⟩
  refine ⟨fun i m σ H => m = ds.length - i ∧ i ≤ ds.length ∧ ∃ F s, Same F1 F ∧ Ext B0 B F H ∧ GOk X.K B (Γ s) σ F H ∧ WpB X.K E B0 B (sumOc Γ) (loopR f (ds.drop i) s) F D, ⟨ds.length, by simp, Nat.zero_le _, F1, s0, Same.refl _, x1', gk.ext x1, q1⟩, ?_⟩
  rintro i m σ H ⟨rfl, hi, F, s, sF, x, g', q'⟩
  obtain ⟨yi, ye⟩ := y1 F H sF x.sFH
  by_cases hlt : i < ds.length
  · have hd : ds[i]? = some ds[i] := List.getElem?_eq_getElem hlt
    obtain ⟨go, yl⟩ := yi i _ hd
    rw [List.drop_eq_getElem_cons hlt] at q'
    refine .inr ⟨go, fun σ' H' => ∃ F' s', Same F1 F' ∧ Ext B0 B F' H' ∧ GOk X.K B (Γ s') σ' F' H' ∧ WpB X.K E B0 B (sumOc Γ) (loopR f (ds.drop (i + 1)) s') F' D, fun σ' H' ⟨F', s', a1, a2, a3, a4⟩ => ⟨ds.length - (i + 1), by omega, rfl, hlt, F', s', a1, a2, a3, a4⟩, fun v H' hv => ?_⟩
    obtain ⟨F', x', rv⟩ := yl v H' hv
    have q2 : WpB X.K E B0 B (sumOc Γ) (f s ds[i] >>= fun r => match r with
      | .go s => loopR f (ds.drop (i + 1)) s
      | .ct s => loopR f (ds.drop (i + 1)) s
      | .bk s => .ok (.inl s)
      | .rt d => .ok (.inr d)) F D := q'
    have q3 := q2.mono x'.sF
    have eb : ∃ G', bnd s ds[i] = .ok G' := by
      cases ef : f s ds[i] with
      | ok r => exact hbnd _ _ _ ef
      | error er => cases er with
        | stuck =>
          rw [ef] at q3
          exact q3.elim
        | exc y => exact hbndx _ _ _ ef
    obtain ⟨G', eG⟩ := eb
    refine hg s ds[i] v B σ F' H' _ (x.trans x').sFH (g'.ext x') rv ⟨G', eG, fun σ' gG _ _ => ⟨s, ds[i], G', B0, B, F', eG, x.trans x', gG, q3.bind fun r _ qr => ?_⟩⟩
    have sF' := sF.trans x'.sF
    cases r with
    | go s' => exact fun σ2 F2 H2 s2 x2 g2 => ⟨F2, s', sF'.trans s2, x2, g2, qr.mono s2⟩
    | ct s' => exact fun σ2 F2 H2 s2 x2 g2 => ⟨F2, s', sF'.trans s2, x2, g2, qr.mono s2⟩
    | bk s' => exact qr.ok
    | rt d => exact qr.ok
  · have e : i = ds.length := by omega
    subst e
    rw [List.drop_length] at q'
    exact .inl ⟨ye, q'.ok σ F H (Same.refl _) x g'⟩
theorem loopF_R {S : Type} (f : S → D → M S) : ∀ (ds : List D) (s : S), loopR (fun s x => f s x >>= fun s => .ok (.go s)) ds s = (loopF f ds s >>= fun s => .ok (.inl s))
  | [], s => rfl
  | x :: xs, s => by
    show ((f s x >>= fun s => .ok (Rx.go s)) >>= _) = ((f s x >>= fun s => loopF f xs s) >>= _)
    cases e : f s x with
    | error z => rfl
    | ok s' => exact loopF_R f xs s'
theorem ds_forF {S : Type} {tg iter : Expr} {mi : M (List D)} {vs : List Nat} {Γ : S → List Sl} {bnd : S → D → M (List Sl)} {f : S → D → M S} (s0 : S) (hG : G = Γ s0) (hp : PassesOwn (model X.prog X.w) X.A X.env X.xe) (hc : X.calm = true)
    (hi : DI X (cE E) G tg iter mi) {g : TG} (pg : PG X tg g)
    (hg : ∀ s x v B σ F H (Q : St → Hp → Prop), Same F H → GOk X.K B (Γ s) σ F H → Rp X.K F v x → (∃ G', bnd s x = .ok G' ∧ ∀ σ', GOk X.K B G' σ' F H → (∀ k, k ∉ vs → σ'[k]? = σ[k]?) → σ'.length = σ.length → Q σ' H) → g v σ H Q)
    (hbnd : ∀ s x r, f s x = .ok r → ∃ G', bnd s x = .ok G') (hbndx : ∀ s x r, f s x = .error (.exc r) → ∃ G', bnd s x = .ok G')
    (hb : ∀ s x G', bnd s x = .ok G' → DB X E G' body (f s x) (fun s => .nx (Γ s)))
    (hs : ∀ x, foldedSetIterable iter X.env x = pure x := by intro _; rfl) : DS X E G (.For tg iter body [] pos) (mi >>= fun ds => loopF f ds s0) (fun s => .nx (Γ s)) := by
  have h := ds_forR (f := fun s x => f s x >>= fun s => .ok (.go s)) (pos := pos) s0 hG hp hc hi pg hg (fun s x r e => by
    cases ef : f s x with
    | ok s' => exact hbnd _ _ _ ef
    | error z => rw [ef] at e; cases e) (fun s x r e => by
    cases ef : f s x with
    | ok s' => rw [ef] at e; cases e
    | error z =>
      rw [ef] at e
      cases e
      exact hbndx _ _ _ ef) (fun s x G' e => db_map Rx.go (hb s x G' e) fun _ => rfl) hs
  obtain ⟨t, p, w⟩ := h
  refine ⟨t, p, fun B0 B σ F H D x0 gk q => w B0 B σ F H D x0 gk ?_⟩
  cases mi with
  | error z => exact WpB.err (post := fun s => Oc.nx (Γ s)) q
  | ok ds =>
    show WpB X.K E B0 B (sumOc Γ) (loopR _ ds s0) F D
    rw [loopF_R]
    have q : WpB X.K E B0 B (fun s => .nx (Γ s)) (loopF f ds s0) F D := q
    cases e : loopF f ds s0 with
    | error z => rw [e] at q; exact WpB.err (post := fun s => Oc.nx (Γ s)) q
    | ok s' => rw [e] at q; exact q
def whileR {S : Type} (c : S → M Bool) (f : S → M (Rs S)) : Nat → S → M (S ⊕ D)
  | 0, _ => stuck
  | n + 1, s => c s >>= fun b => if b = true then f s >>= fun r => match r with
      | .go s => whileR c f n s
      | .ct s => whileR c f n s
      | .bk s => .ok (.inl s)
      | .rt d => .ok (.inr d)
    else .ok (.inl s)
theorem ds_whileR {S : Type} {Γ : S → List Sl} {mc : S → M Bool} {f : S → M (Rs S)} (n : Nat) (s0 : S) (hG : G = Γ s0) (hp : PassesOwn (model X.prog X.w) X.A X.env X.xe) (hc : ∀ s, DT X (cE E) (Γ s) c (mc s)) (hb : ∀ s, DB X E (Γ s) body (f s) (Rs.oc Γ)) :
    DS X E G (.While c body [] pos) (whileR mc f n s0) (sumOc Γ) := by
  subst hG
  have pc : PT X c (fun σ H Q => ∃ s B F, Same F H ∧ GOk X.K B (Γ s) σ F H ∧ WpG X.K E rB (mc s) F H Q) :=
    ⟨fun pins s σ H Q I ⟨s', B, F, s1, g, q⟩ => by
      obtain ⟨t, p, w⟩ := hc s'
      exact p.run pins s σ H Q I (w B σ F H Q s1 g q)⟩
  have pb : PSs X body (fun D σ H => ∃ s B0 B F, Ext B0 B F H ∧ GOk X.K B (Γ s) σ F H ∧ WpB X.K E B0 B (Rs.oc Γ) (f s) F D) :=
    ⟨fun pins s σ H D I ⟨s', B0, B, F, x0, gk, q⟩ => by
      obtain ⟨t, p, w⟩ := hb s'
      exact p.run pins s σ H D I (w B0 B σ F H D x0 gk q)⟩
  refine ⟨_, ps_while hp pc pb, fun B0 B σ F H D x0 gk q => ?_⟩
  refine ⟨fun m σ H => ∃ F s, Ext B0 B F H ∧ GOk X.K B (Γ s) σ F H ∧ WpB X.K E B0 B (sumOc Γ) (whileR mc f m s) F D, ⟨n, F, s0, x0, gk, q⟩, ?_⟩
  rintro m σ H ⟨F, s, x, g, q⟩
  cases m with
  | zero => exact q.elim
  | succ m =>
    have q : WpB X.K E B0 B (sumOc Γ) (mc s >>= fun b => if b = true then f s >>= fun r => match r with
      | .go s => whileR mc f m s
      | .ct s => whileR mc f m s
      | .bk s => .ok (.inl s)
      | .rt d => .ok (.inr d)
      else .ok (.inl s)) F D := q
    refine ⟨s, B, F, x.sFH, g, WpB.expr (H := H) x q fun b F' H' v x1 x1' r q1 => ?_⟩
    subst r
    cases v with
    | true =>
      rw [if_pos rfl] at q1 ⊢
      refine ⟨fun σ' H' => ∃ F' s', Ext B0 B F' H' ∧ GOk X.K B (Γ s') σ' F' H' ∧ WpB X.K E B0 B (sumOc Γ) (whileR mc f m s') F' D, fun σ' H' h => ⟨m, Nat.lt_succ_self _, h⟩, s, B0, B, F', x1', g.ext x1, q1.bind fun r _ qr => ?_⟩
      cases r with
      | go s' => exact fun σ2 F2 H2 s2 x2 g2 => ⟨F2, s', x2, g2, qr.mono s2⟩
      | ct s' => exact fun σ2 F2 H2 s2 x2 g2 => ⟨F2, s', x2, g2, qr.mono s2⟩
      | bk s' => exact qr.ok
      | rt d => exact qr.ok
    | false =>
      rw [if_neg Bool.false_ne_true] at q1 ⊢
      exact q1.ok σ F' H' (Same.refl _) x1' (g.ext x1)
def whileF {S : Type} (c : S → M Bool) (f : S → M S) : Nat → S → M S
  | 0, _ => stuck
  | n + 1, s => c s >>= fun b => if b = true then f s >>= fun s => whileF c f n s else .ok s
theorem whileF_R {S : Type} (c : S → M Bool) (f : S → M S) : ∀ (n : Nat) (s : S), whileR c (fun s => f s >>= fun s => .ok (.go s)) n s = (whileF c f n s >>= fun s => .ok (.inl s))
  | 0, s => rfl
  | n + 1, s => by
    simp only [whileR, whileF]
    cases e : c s with
    | error z => rfl
    | ok b => cases b with
      | false => rfl
      | true =>
        cases e2 : f s with
        | error z => rfl
        | ok s' => exact whileF_R c f n s'
theorem ds_whileF {S : Type} {Γ : S → List Sl} {mc : S → M Bool} {f : S → M S} (n : Nat) (s0 : S) (hG : G = Γ s0) (hp : PassesOwn (model X.prog X.w) X.A X.env X.xe) (hc : ∀ s, DT X (cE E) (Γ s) c (mc s)) (hb : ∀ s, DB X E (Γ s) body (f s) (fun s => .nx (Γ s))) :
    DS X E G (.While c body [] pos) (whileF mc f n s0) (fun s => .nx (Γ s)) := by
  have h := ds_whileR (f := fun s => f s >>= fun s => .ok (.go s)) (pos := pos) n s0 hG hp hc (fun s => db_map Rx.go (hb s) fun _ => rfl)
  obtain ⟨t, p, w⟩ := h
  refine ⟨t, p, fun B0 B σ F H D x0 gk q => w B0 B σ F H D x0 gk ?_⟩
  rw [whileF_R]
  cases e : whileF mc f n s0 with
  | error z => rw [e] at q; exact WpB.err (post := fun s => Oc.nx (Γ s)) q
  | ok s' => rw [e] at q; exact q
end
end DL

set_option Elab.async false
set_option linter.all false
set_option maxRecDepth 100000
set_option maxHeartbeats 4000000
namespace DL
open PySem PySem.Spec L2

structure CtxOk (X : Cx) (E : St → XK) : Prop where
  calm : X.calm = true
  pass : ∀ σ, PassesAt (L2.CX X.prog X.w) X σ (E σ)
  own : PassesOwn (model X.prog X.w) X.A X.env X.xe
theorem CtxOk.blk {X : Cx} {E : St → XK} (cx : CtxOk X E) {s : Shared} {H : Hp} {scope : Scope} {cenv : Env} {fp : List Addr} : CtxOk (X.blk s H scope cenv fp) EN :=
  ⟨cx.calm, fun σ pins H s e s' => passL pins σ H s e s', PassesOwn.never⟩
section
variable {P : Program} {w : World} {K : PySem.W.Frag} {mg : Str → Option Value} {base : Heap} {N : List Str} {qual : Str} {scope : Scope} {f : Addr} {cd : Value} {A : Around} {outer : List Env} {s : Shared} {H : Hp} {E : XK}
theorem ctx_def : CtxOk (cxOf (L2.CX P w) P w K mg base N qual scope f cd A outer s H E) (cE E) :=
  ⟨rfl, fun σ pins H1 s1 e s' => passes_call (takes_of rfl rfl rfl rfl) (fun _ _ _ _ h => h) pins σ H1 s1 e s', passes_of rfl⟩
end
section
variable {X : Cx} {CX : CXT} {k : Nat} {f C : Addr} {fd : FuncData} {ps : List Str} {sp : Sp} {dvs : List V} {ds : List Value} {E : St → XK} {x m : Str} {p pos apos : Pos} {e o : Expr} {es : List Expr} {ta : TE} {t : TA} {pins : List (Addr × Obj)} {σ : St} {H : Hp} {s : Shared} {Q : VK} {us : List Value} {vs : List V}
theorem run_at {E1 : XK} (F : FnOk X.prog X.w X.K X.mg X.base CX k f fd ps sp) (hr : Room k X.A) (hb : Binds X.K fd ps ds) (hd : Vals dvs ds) (pass : PassesAt CX X σ E1) (I : Inv X pins σ H s) (r : Vals vs us) (want : sp (vs ++ dvs) H Q E1) :
    wpAny (model X.prog X.w) X.A (call (.ref f) us) (EP X pins σ Q) X.xe s := by
  have both := r.append hd
  have long : (us ++ ds).length = ps.length := both.length.symm.trans (F.len _ _ _ _ want)
  refine wpAny_call (codeAny_mono (F.run _ _ _ _ _ _ _ _ E1 hr I.env0 (hb s us I.kIn long) both want) ?_)
  intro res s2 got
  match res, got with
  | .error e, got => exact pass pins H s e s2 I got
  | .ok (.ret u), got => exact I.after got
def tCallD (sp : Sp) (dvs : List V) (E : St → XK) (t : TA) : TE := fun σ H Q => t σ H fun vs H1 => sp (vs ++ dvs) H1 Q (E σ)
theorem pe_callD (F : FnOk X.prog X.w X.K X.mg X.base CX k f fd ps sp) (hr : Room k X.A) (hg : Gl X x) (hm : X.mg x = some (.ref f)) (hk : PySem.W.keepIn X.K (.ref f) = true) (hb : Binds X.K fd ps ds) (hd : Vals dvs ds) (pass : ∀ σ, PassesAt CX X σ (E σ))
    (ha : PA X (e :: es) t) (hdb : (x == ("__debug__" : Str)) = false := by decide) (he : starEach (e :: es) X.env = (false, eval e X.env) :: starEach es X.env := by rfl) (hpl : (backTo pos (starEach es X.env)).any (·.1) = false := by rfl) :
    PE X (.Call (.Name x p) (e :: es) [] pos) (tCallD sp dvs E t) := by
  constructor
  intro pins s σ H Q I h
  refine wpAny_Call_Name_kw (ld_glob I hg hm (PySem.W.callWith_K (h₀ := X.base) I.ok.mod.kin hk (thn (ha.run pos pins s σ H _ I h) ?_) he hpl) hdb)
  rintro us s1 ⟨vs, H1, I1, r, q⟩
  exact ⟨I1.kIn, run_at F hr hb hd (pass σ) I1 r q⟩
end

inductive RpA (K : PySem.W.Frag) (F H : Hp) : List Bool → List V → List D → Prop
  | nil : RpA K F H [] [] []
  | frz {bs : List Bool} {v : V} {vs : List V} {d : D} {ds : List D} : Rp K F v d → RpA K F H bs vs ds → RpA K F H (false :: bs) (v :: vs) (d :: ds)
  | bor {bs : List Bool} {v : V} {vs : List V} {d : D} {ds : List D} : RpT K F H v d → RpA K F H bs vs ds → RpA K F H (true :: bs) (v :: vs) (d :: ds)
theorem RpA.len {K : PySem.W.Frag} {F H : Hp} : ∀ {bs : List Bool} {vs : List V} {ds : List D}, RpA K F H bs vs ds → vs.length = bs.length ∧ ds.length = bs.length
  | _, _, _, .nil => ⟨rfl, rfl⟩
  | _, _, _, .frz _ h => ⟨congrArg Nat.succ h.len.1, congrArg Nat.succ h.len.2⟩
  | _, _, _, .bor _ h => ⟨congrArg Nat.succ h.len.1, congrArg Nat.succ h.len.2⟩
theorem RpA.ext {K : PySem.W.Frag} {F H F' H' : Hp} (x : Ext F H F' H') : ∀ {bs : List Bool} {vs : List V} {ds : List D}, RpA K F H bs vs ds → RpA K F' H' bs vs ds
  | _, _, _, .nil => .nil
  | _, _, _, .frz r h => .frz (r.mono x.sF) (h.ext x)
  | _, _, _, .bor r h => .bor (r.ext x) (h.ext x)
def argSl : List Bool → List D → List Sl
  | false :: bs, d :: ds => .val d :: argSl bs ds
  | true :: bs, d :: ds => .bor d :: argSl bs ds
  | _, _ => []
def spD (K : PySem.W.Frag) (bs : List Bool) (m : List D → M D) : Sp := fun vs H Q E => ∃ F ds, Same F H ∧ RpA K F H bs vs ds ∧ WpG K E (rE K) (m ds) F H Q
theorem args_ok {K : PySem.W.Frag} {F H : Hp} : ∀ {bs : List Bool} {vs : List V} {ds : List D}, RpA K F H bs vs ds → (argSl bs ds).length = vs.length ∧ (∀ (i : Nat) (s : Sl), (argSl bs ds)[i]? = some s → ∃ o, (vs.map some)[i]? = some o ∧ SlOk K H F H o s) ∧ ∀ (i : Nat) (s : Sl), (argSl bs ds)[i]? = some s → s.owns = false
  | _, _, _, .nil => ⟨rfl, fun i s h => (by cases h), fun i s h => (by cases h)⟩
  | _, _, _, .frz (v := v) (d := d) r h => by
    obtain ⟨h1, h2, h3⟩ := args_ok h
    refine ⟨congrArg Nat.succ h1, fun i s hs => ?_, fun i s hs => ?_⟩
    · cases i with
      | zero =>
        cases hs
        exact ⟨some v, rfl, v, rfl, r⟩
      | succ i => exact h2 i s hs
    · cases i with
      | zero =>
        cases hs
        rfl
      | succ i => exact h3 i s hs
  | _, _, _, .bor (v := v) (d := d) r h => by
    obtain ⟨h1, h2, h3⟩ := args_ok h
    refine ⟨congrArg Nat.succ h1, fun i s hs => ?_, fun i s hs => ?_⟩
    · cases i with
      | zero =>
        cases hs
        exact ⟨some v, rfl, v, rfl, r⟩
      | succ i => exact h2 i s hs
    · cases i with
      | zero =>
        cases hs
        rfl
      | succ i => exact h3 i s hs
theorem gok_start {K : PySem.W.Frag} {F H : Hp} {N : List Str} {bs : List Bool} {vs : List V} {ds : List D} (r : RpA K F H bs vs ds) : GOk K H (argSl bs ds ++ List.replicate (N.length - bs.length) .un) (L2.start N vs) F H := by
  obtain ⟨h1, h2, h3⟩ := args_ok r
  have hl := r.len.1
  unfold L2.start
  refine ⟨Same.refl _, ?_, fun i s hs => ?_, fun i j s t a hs ht o1 _ _ _ => ?_⟩
  · rw [List.length_append, List.length_append, List.length_map, List.length_replicate, List.length_replicate, h1, hl]
  · by_cases hi : i < (argSl bs ds).length
    · rw [List.getElem?_append_left hi] at hs
      obtain ⟨o, k1, k2⟩ := h2 i s hs
      exact ⟨o, by rw [List.getElem?_append_left (by rw [List.length_map, ← h1]; exact hi)]; exact k1, k2⟩
    · have hi : (argSl bs ds).length ≤ i := by omega
      rw [List.getElem?_append_right hi] at hs
      rw [List.getElem?_append_right (by rw [List.length_map, ← h1]; exact hi), List.length_map, ← h1]
      have e9 : (argSl bs ds).length = bs.length := by rw [h1, hl]
      rw [e9] at hs ⊢
      obtain ⟨hlt, e⟩ := List.getElem?_eq_some_iff.mp hs
      rw [List.getElem_replicate] at e
      subst e
      rw [List.length_replicate] at hlt
      exact ⟨none, by rw [List.getElem?_replicate, if_pos hlt], rfl⟩
  · exfalso
    by_cases hi : i < (argSl bs ds).length
    · rw [List.getElem?_append_left hi] at hs
      rw [h3 i s hs] at o1
      cases o1
    · rw [List.getElem?_append_right (by omega)] at hs
      obtain ⟨hlt, e⟩ := List.getElem?_eq_some_iff.mp hs
      rw [List.getElem_replicate] at e
      subst e
      cases o1
section
variable {P : Program} {w : World} {K : PySem.W.Frag} {mg : Str → Option Value} {base : Heap} {x qual : Str} {params : Arguments} {body : List Stmt} {scope : Scope} {dvs : List V} {kws : List (Str × V)} {f : Addr} {fd : FuncData}
theorem fn_def {N ps : List Str} {k : Nat} {bs : List Bool} {m : List D → M D} (F : FunD K x qual params body scope dvs kws f fd) (S : FnScope N ps scope) (hbs : bs.length = ps.length)
    (hb : ∀ (cdv : Value) (A : Around) (outer : List Env) (s : Shared) (H : Hp) (E : XK), Room k (A.deeper (PyProof.Rows.envOfC qual scope s.heap.objs.size f cdv)) → ∀ ds : List D, ds.length = bs.length →
      DB (cxOf (L2.CX P w) P w K mg base N qual scope f cdv A outer s H E) E (argSl bs ds ++ List.replicate (N.length - bs.length) .un) body (m ds) Oc.rt) : FnOk P w K mg base (L2.CX P w) (k + 1) f fd ps (spD K bs m) := by
  refine F.ok S (fun vs H Q E h => ?_) (fun cdv A outer s H vs Q E hr h => ?_)
  · obtain ⟨F, ds, _, r, _⟩ := h
    rw [r.len.1, hbs]
  · obtain ⟨F, ds, sF, r, q⟩ := h
    obtain ⟨t, p, wt⟩ := hb cdv A outer s H E hr ds r.len.2
    refine ⟨t, p, wt F H (L2.start N vs) F H _ (Ext.refl sF) (gok_start r) ?_⟩
    cases e : m ds with
    | ok d =>
      rw [e] at q
      exact WpB.of_ok (fun v F' H' _ x' r' => q F' H' v x' r')
    | error er =>
      rw [e] at q
      cases er with
      | stuck => exact q.elim
      | exc y => exact fun F' H' c d _ x' r' => q F' H' c d x' r'
end
section
variable {X : Cx} {E : St → XK} {G : List Sl} {a b c e : Expr} {ma mb mc : M D} {ta tb : M Bool} {pos : Pos} {F H : Hp}
def DAM (X : Cx) (E : St → XK) (G : List Sl) (bs : List Bool) (es : List Expr) (m : M (List D)) : Prop :=
  ∃ t, PA X es t ∧ ∀ B σ F H Q, Same F H → GOk X.K B G σ F H → WpG X.K (E σ) (fun F' H' v d => RpA X.K F' H' bs v d) m F H Q → t σ H Q
theorem dam_nil : DAM X E G [] [] (.ok []) := ⟨_, pa_nil, fun B σ F H Q s g q => q F H _ (Ext.refl s) .nil⟩
theorem dam_frz {es : List Expr} {bs : List Bool} {ms : M (List D)} (ha : DE X E G a ma) (hr : DAM X E G bs es ms) (hs : starEach (a :: es) X.env = (false, eval a X.env) :: starEach es X.env := by rfl) : DAM X E G (false :: bs) (a :: es) (ma >>= fun x => ms >>= fun xs => .ok (x :: xs)) := by
  obtain ⟨t1, p1, w1⟩ := ha
  obtain ⟨t2, p2, w2⟩ := hr
  exact ⟨_, pa_cons p1 p2 hs, fun B σ F H Q s g q => w1 B σ F H _ s g (WpG.bind q fun x F1 H1 v x1 r1 k1 => w2 B σ F1 H1 _ x1.sFH (g.ext x1) (WpG.bind k1 fun xs F2 H2 vs x2 r2 k2 => k2 F2 H2 _ (Ext.refl x2.sFH) (.frz (r1.mono x2.sF) r2)))⟩
theorem dam_bor {es : List Expr} {bs : List Bool} {ms : M (List D)} (ha : DR X E G a ma) (hr : DAM X E G bs es ms) (hs : starEach (a :: es) X.env = (false, eval a X.env) :: starEach es X.env := by rfl) : DAM X E G (true :: bs) (a :: es) (ma >>= fun x => ms >>= fun xs => .ok (x :: xs)) := by
  obtain ⟨t1, p1, w1⟩ := ha
  obtain ⟨t2, p2, w2⟩ := hr
  exact ⟨_, pa_cons p1 p2 hs, fun B σ F H Q s g q => w1 B σ F H _ s g (WpG.bind q fun x F1 H1 v x1 r1 k1 => w2 B σ F1 H1 _ x1.sFH (g.ext x1) (WpG.bind k1 fun xs F2 H2 vs x2 r2 k2 => k2 F2 H2 _ (Ext.refl x2.sFH) (.bor (r1.ext x2) r2)))⟩
theorem de_call {k : Nat} {f : Addr} {fd : FuncData} {ps : List Str} {bs : List Bool} {m : List D → M D} {x : Str} {p : Pos} {es : List Expr} {ms : M (List D)} (cx : CtxOk X E) (F : FnOk X.prog X.w X.K X.mg X.base (L2.CX X.prog X.w) k f fd ps (spD X.K bs m)) (hr : Room k X.A) (hg : Gl X x) (hm : X.mg x = some (.ref f)) (hk : PySem.W.keepIn X.K (.ref f) = true) (hb : Binds X.K fd ps [])
    (ha : DAM X E G bs (a :: es) ms) (hdb : (x == ("__debug__" : Str)) = false := by decide) (he : starEach (a :: es) X.env = (false, eval a X.env) :: starEach es X.env := by rfl) (hpl : (backTo pos (starEach es X.env)).any (·.1) = false := by rfl) :
    DE X E G (.Call (.Name x p) (a :: es) [] pos) (ms >>= fun l => m l) := by
  obtain ⟨t, pa, w⟩ := ha
  refine ⟨_, pe_callD F hr hg hm hk hb .nil cx.pass pa hdb he hpl, fun B σ F H Q s g q => w B σ F H _ s g (WpG.bind q fun l F1 H1 vs x1 r1 k1 => ?_)⟩
  show spD X.K bs m (vs ++ []) H1 Q (E σ)
  rw [List.append_nil]
  exact ⟨F1, l, x1.sFH, r1, k1⟩

theorem ofString_inj {s t : String} (h : Str.ofString s = Str.ofString t) : s = t := by
  rw [Str.ofString_eq_toList, Str.ofString_eq_toList] at h
  have h1 : s.toList.map Char.toNat = t.toList.map Char.toNat := by
    have := congrArg (fun z : Str => z.cps.toList) h
    simpa using this
  have inj : ∀ l m : List Char, l.map Char.toNat = m.map Char.toNat → l = m := by
    intro l
    induction l with
    | nil => intro m h; cases m with
      | nil => rfl
      | cons _ _ => simp at h
    | cons c l ih => intro m h; cases m with
      | nil => simp at h
      | cons d m =>
        simp only [List.map_cons, List.cons.injEq] at h
        rw [ih m h.2]
        have : c = d := Char.ext (UInt32.toNat_inj.mp h.1)
        rw [this]
  have := inj _ _ h1
  have e := congrArg String.ofList this
  simpa using e
end
section
variable {X : Cx} {E : XK} {G : List Sl} {a b c e : Expr} {ma mb mc : M D} {ta tb : M Bool} {pos : Pos} {F H : Hp}
theorem GOk.cons {K : PySem.W.Frag} {B F H : Hp} {G : List Sl} {σ : St} {s : Sl} {o : Option V} (g : GOk K B G σ F H) (h : SlOk K B F H o s) (hd : ∀ (j : Nat) (t : Sl) (a : Addr), G[j]? = some t → t.owns = true → s.owns = true → o = some (.ref a) → σ[j]? ≠ some (some (.ref a))) : GOk K B (s :: G) (o :: σ) F H := by
  refine ⟨g.sB, congrArg Nat.succ g.len, fun i t ht => ?_, fun i j s1 s2 a h1 h2 o1 o2 e1 e2 => ?_⟩
  · cases i with
    | zero =>
      cases ht
      exact ⟨o, rfl, h⟩
    | succ i => exact g.ok i t ht
  · cases i with
    | zero =>
      cases h1
      cases j with
      | zero => rfl
      | succ j =>
        have e1 : o = some (.ref a) := by simpa using e1
        have h2' : G[j]? = some s2 := h2
        exact absurd e2 (hd j s2 a h2' o2 o1 e1)
    | succ i => cases j with
      | zero =>
        cases h2
        have e2 : o = some (.ref a) := by simpa using e2
        have h1' : G[i]? = some s1 := h1
        exact absurd e1 (hd i s1 a h1' o1 o2 e2)
      | succ j => exact congrArg Nat.succ (g.dis i j s1 s2 a h1 h2 o1 o2 e1 e2)
theorem GOk.monoH {K : PySem.W.Frag} {B F H H' : Hp} {G : List Sl} {σ : St} (g : GOk K B G σ F H) (h : Same H H') : GOk K B G σ F H' := by
  refine ⟨g.sB.trans h, g.len, fun i s hs => ?_, g.dis⟩
  obtain ⟨o, h1, h2⟩ := g.ok i s hs
  refine ⟨o, h1, ?_⟩
  cases s with
  | un => exact h2
  | any => trivial
  | val d => exact h2
  | bor d => exact h2
  | tre b c l => exact ⟨h2.1, h2.2.1.trans h, h2.2.2⟩
  | exn b c l => exact h2
  | own l =>
    obtain ⟨a, xs, e, e2, r⟩ := h2
    exact ⟨a, xs, e, h _ _ e2, r⟩
  | ownd l =>
    obtain ⟨a, e, e2, r⟩ := h2
    obtain ⟨u, hu⟩ := e2.some
    refine ⟨a, e, ?_, r⟩
    rw [h _ _ hu, ← hu]
    exact e2
  | ownu l =>
    obtain ⟨a, e, e2, r⟩ := h2
    obtain ⟨u, hu⟩ := e2.some
    refine ⟨a, e, ?_, r⟩
    rw [h _ _ hu, ← hu]
    exact e2
  | obj a c l =>
    obtain ⟨dx, fs, e, e2, r⟩ := h2
    exact ⟨dx, fs, e, h _ _ e2, r⟩
end
end DL

set_option Elab.async false
set_option linter.all false
set_option maxRecDepth 100000
set_option maxHeartbeats 4000000
namespace DL
open PySem PySem.Spec L2

section
variable {K : PySem.W.Frag} {tp : Bool} {a e it : Addr}
end
section
variable {X : Cx} {E : St → XK} {G : List Sl} {a b c e : Expr} {ma mb mc : M D} {ta tb : M Bool} {pos : Pos} {F H : Hp}
end
end DL

set_option Elab.async false
set_option linter.all false
set_option maxRecDepth 100000
set_option maxHeartbeats 4000000
namespace DL
open PySem PySem.Spec L2
section
variable {X : Cx} {E : St → XK} {G : List Sl} {a b c e : Expr} {ma mb mc : M D} {ta tb : M Bool} {pos : Pos} {F H : Hp} {st : Stmt} {rest body : List Stmt}

def D.tyName : D → Option String
  | .non => some "NoneType"
  | .bl _ => some "bool"
  | .int _ => some "int"
  | .str _ => some "str"
  | .lst _ => some "list"
  | .tup _ => some "tuple"
  | .dct _ => some "dict"
  | _ => none
def D.isB (T : String) (d : D) : M D := match d.tyName with
  | some t => (match kitB t T with | some r => .ok (.bl r) | none => stuck)
  | none => stuck
theorem tyName_ok {v : V} {d : D} {t : String} (s : Same F H) (r : RpT X.K F H v d) (h : d.tyName = some t) : TyX X.K H v (.type t) := by
  cases d with
  | non => cases h; rw [r.non]; exact .base .non
  | bl b => cases h; rw [r.bl]; exact .base (.bl b)
  | int i => cases h; rw [r.int]; exact .base (.int i)
  | str y => cases h; rw [r.str.1]; exact .base (.str y)
  | lst l =>
    cases h
    obtain ⟨p, xs, rfl, e, _⟩ := r.lst s
    exact .base (.lst e)
  | tup l =>
    cases h
    obtain ⟨p, xs, rfl, e, _⟩ := r.tup s
    rcases e with (e | ⟨o, e⟩) | ⟨o, its, n, e1, e2, _⟩
    · exact .base (.tup e)
    · exact .fTuple e
    · exact .kTuple e1 e2
  | dct l =>
    cases h
    obtain ⟨p, rfl, kvs, e, _⟩ := r.dct s
    rcases e with e | ⟨o, e⟩
    · exact .base (.dK e)
    · exact .fDict e
  | _ => cases h
theorem de_isB {T : String} {xT : Str} {p p2 : Pos} (hg : Gl X "isinstance") (hm : X.mg "isinstance" = none) (hv : bootBuiltins ("isinstance" : Str) = some (.builtin "isinstance")) (hT : PE X (.Name xT p2) (tC (.ty T))) (ha : DR X E G a ma)
    (he : starEach [a, .Name xT p2] X.env = (false, eval a X.env) :: starEach [.Name xT p2] X.env := by rfl) (he2 : starEach [.Name xT p2] X.env = (false, eval (.Name xT p2) X.env) :: starEach [] X.env := by rfl) (hpl : (backTo pos (starEach [.Name xT p2] X.env)).any (·.1) = false := by rfl) :
    DE X E G (.Call (.Name "isinstance" p) [a, .Name xT p2] [] pos) (ma >>= fun x => D.isB T x) := by
  obtain ⟨t, pa, w⟩ := ha
  refine ⟨_, pe_callB call_isi hg hm hv (pa_cons pa (pa_cons hT pa_nil he2) he) (by decide) (by decide) he hpl, fun B σ F H Q s g q => w B σ F H _ s g (WpG.bind q fun x F1 H1 v x1 r1 k1 => ?_)⟩
  have k1 : WpG X.K (E σ) (rE X.K) (match x.tyName with
    | some t => (match kitB t T with | some r => .ok (.bl r) | none => stuck)
    | none => stuck) F1 H1 Q := k1
  cases e1 : x.tyName with
  | none => rw [e1] at k1; exact k1.elim
  | some t =>
    rw [e1] at k1
    have k1 : WpG X.K (E σ) (rE X.K) (match kitB t T with | some r => .ok (.bl r) | none => stuck) F1 H1 Q := k1
    cases e2 : kitB t T with
    | none => rw [e2] at k1; exact k1.elim
    | some r =>
      rw [e2] at k1
      exact ⟨v, .ty T, .type t, .type T, r, rfl, .ty T, tyName_ok x1.sFH r1 e1, kit_ty e2, k1 F1 H1 _ (Ext.refl x1.sFH) (.bl r)⟩
def putD (f : String) (d : D) : List (String × D) → List (String × D)
  | [] => [(f, d)]
  | (g, x) :: r => if g = f then (g, d) :: r else (g, x) :: putD f d r
def D.recv (c m : String) : D → M D
  | .ins c' l => do need (decide (c' = c) && (l.lookup m).isNone); .ok (.ins c' l)
  | _ => stuck
def D.isIns (c : String) : D → M D
  | .ins c' l => do need (decide (c' = c)); .ok (.ins c' l)
  | _ => stuck
theorem pts_no {b : D → M (List Sl)} : PTs X [] (tTst X.K b fun _ => .ok true) := ⟨fun pins s σ H Q I ⟨d, G', B, F, _, sm, _, q⟩ => pts_nil.run pins s σ H Q I (q F H _ (Ext.refl sm) rfl)⟩
theorem pts_if {b : D → M (List Sl)} {mt : D → M Bool} (h : ∀ d G', b d = .ok G' → DT X EN G' c (mt d)) : PTs X [c] (tTst X.K b mt) :=
  ⟨fun pins s σ H Q I ⟨d, G', B, F, e, sm, g, q⟩ => (pts_one (h d G' e).canon).run pins s σ H Q I ⟨B, F, sm, g, q⟩⟩
theorem elt_of {b : D → M (List Sl)} {me : D → M D} (h : ∀ d G', b d = .ok G' → DE X EN G' e (me d)) : PE X e (tElt X.K b me) :=
  ⟨fun pins s σ H Q I ⟨d, G', B, F, e, sm, g, q⟩ => (h d G' e).canon.run pins s σ H Q I ⟨B, F, sm, g, q⟩⟩
theorem dn_lc1 {tg iter : Expr} {scope : Scope} {own : List (Str × Nat)} {i : Nat} {mi : M (List D)} {me : D → M D} (hc : X.calm = true) (hN : X.N.Nodup) (hi : DIR X E G tg iter mi) (ok : BlkOk X.N X.env.scope scope own) (ho : own.map (·.2) = [i])
    (hg : ∀ (s : Shared) (H : Hp) (C : Addr) (cl : List (Str × Addr)) (fp : List Addr), PG (X.blk s H scope (compEnvC scope cl C X.env) fp) tg (gName i))
    (he : ∀ (s : Shared) (H : Hp) (C : Addr) (cl : List (Str × Addr)) (fp : List Addr) (d : D), DE (X.blk s H scope (compEnvC scope cl C X.env) fp) EN ((G.set i .any).set i (.val d)) e (me d))
    (hs : ∀ x, foldedSetIterable iter X.env x = pure x := by intro _; rfl) : DNL X E G (.ListComp e [⟨tg, iter, [], 0⟩] scope pos) (mi >>= fun ds => compL (fElt (fun _ => .ok true) me) ds) := by
  refine dn_lc (b := fun d => .ok ((G.set i .any).set i (.val d))) hc hN hi ok hg (fun x v B σ F H Q s g r k => ?_) (fun s H C cl fp => pts_no) (fun s H C cl fp => elt_of fun d G' e => ?_) (fun d y _ => ⟨_, rfl⟩) hs
  · obtain ⟨G', e, k⟩ := k
    cases e
    rw [ho] at g k
    exact k _ (g.set r) (fun j hj => List.getElem?_set_ne fun z => hj (by simp [z])) (by rw [List.length_set])
  · cases e
    exact he s H C cl fp d
theorem dn_lc2 {tg iter : Expr} {scope : Scope} {own : List (Str × Nat)} {i : Nat} {mi : M (List D)} {mt : D → M Bool} {me : D → M D} (hc : X.calm = true) (hN : X.N.Nodup) (hi : DIR X E G tg iter mi) (ok : BlkOk X.N X.env.scope scope own) (ho : own.map (·.2) = [i])
    (hg : ∀ (s : Shared) (H : Hp) (C : Addr) (cl : List (Str × Addr)) (fp : List Addr), PG (X.blk s H scope (compEnvC scope cl C X.env) fp) tg (gName i))
    (ht : ∀ (s : Shared) (H : Hp) (C : Addr) (cl : List (Str × Addr)) (fp : List Addr) (d : D), DT (X.blk s H scope (compEnvC scope cl C X.env) fp) EN ((G.set i .any).set i (.val d)) c (mt d))
    (he : ∀ (s : Shared) (H : Hp) (C : Addr) (cl : List (Str × Addr)) (fp : List Addr) (d : D), DE (X.blk s H scope (compEnvC scope cl C X.env) fp) EN ((G.set i .any).set i (.val d)) e (me d))
    (hs : ∀ x, foldedSetIterable iter X.env x = pure x := by intro _; rfl) : DNL X E G (.ListComp e [⟨tg, iter, [c], 0⟩] scope pos) (mi >>= fun ds => compL (fElt mt me) ds) := by
  refine dn_lc (b := fun d => .ok ((G.set i .any).set i (.val d))) hc hN hi ok hg (fun x v B σ F H Q s g r k => ?_) (fun s H C cl fp => pts_if fun d G' e => ?_) (fun s H C cl fp => elt_of fun d G' e => ?_) (fun d y _ => ⟨_, rfl⟩) hs
  · obtain ⟨G', e, k⟩ := k
    cases e
    rw [ho] at g k
    exact k _ (g.set r) (fun j hj => List.getElem?_set_ne fun z => hj (by simp [z])) (by rw [List.length_set])
  · cases e
    exact ht s H C cl fp d
  · cases e
    exact he s H C cl fp d
theorem ds_for1 {E₁ : XK} {S : Type} {tg iter : Expr} {mi : M (List D)} {i : Nat} {Γ : S → List Sl} {f : S → D → M S} (s0 : S) (hG : G = Γ s0) (cx : CtxOk X (cE E₁)) (hi : DI X (cE E₁) G tg iter mi) (pg : PG X tg (gName i))
    (hb : ∀ s d, DB X E₁ ((Γ s).set i (.val d)) body (f s d) (fun s => .nx (Γ s))) (hs : ∀ x, foldedSetIterable iter X.env x = pure x := by intro _; rfl) : DS X E₁ G (.For tg iter body [] pos) (mi >>= fun ds => loopF f ds s0) (fun s => .nx (Γ s)) :=
  ds_forF (vs := [i]) (bnd := fun s d => .ok ((Γ s).set i (.val d))) s0 hG cx.own cx.calm hi pg (fun s x v B σ F H Q sm g r ⟨G', e, k⟩ => by
    cases e
    exact k _ (g.set r) (fun j hj => List.getElem?_set_ne fun z => hj (by simp [z])) (by rw [List.length_set])) (fun _ _ _ _ => ⟨_, rfl⟩) (fun _ _ _ _ => ⟨_, rfl⟩) (fun s d G' e => by
    cases e
    exact hb s d) hs
theorem ds_for1R {E₁ : XK} {S : Type} {tg iter : Expr} {mi : M (List D)} {i : Nat} {Γ : S → List Sl} {f : S → D → M (Rs S)} (s0 : S) (hG : G = Γ s0) (cx : CtxOk X (cE E₁)) (hi : DI X (cE E₁) G tg iter mi) (pg : PG X tg (gName i))
    (hb : ∀ s d, DB X E₁ ((Γ s).set i (.val d)) body (f s d) (Rs.oc Γ)) (hs : ∀ x, foldedSetIterable iter X.env x = pure x := by intro _; rfl) : DS X E₁ G (.For tg iter body [] pos) (mi >>= fun ds => loopR f ds s0) (sumOc Γ) :=
  ds_forR (vs := [i]) (bnd := fun s d => .ok ((Γ s).set i (.val d))) s0 hG cx.own cx.calm hi pg (fun s x v B σ F H Q sm g r ⟨G', e, k⟩ => by
    cases e
    exact k _ (g.set r) (fun j hj => List.getElem?_set_ne fun z => hj (by simp [z])) (by rw [List.length_set])) (fun _ _ _ _ => ⟨_, rfl⟩) (fun _ _ _ _ => ⟨_, rfl⟩) (fun s d G' e => by
    cases e
    exact hb s d) hs
def on2 {α : Type} (f : D → D → M α) : D → M α
  | .tup [a, b] => f a b
  | _ => stuck
theorem on2_not {α : Type} {f : D → D → M α} {d : D} (h : on2 f d ≠ stuck) : ∃ a b, d = .tup [a, b] := by
  unfold on2 at h
  split at h
  · exact ⟨_, _, rfl⟩
  · exact absurd rfl h
theorem ds_for2R {E₁ : XK} {S : Type} {tg iter : Expr} {mi : M (List D)} {i j : Nat} {Γ : S → List Sl} {f : S → D → D → M (Rs S)} (s0 : S) (hG : G = Γ s0) (cx : CtxOk X (cE E₁)) (hi : DI X (cE E₁) G tg iter mi) (pg : PG X tg (gTup X.K 2 (gNames [i, j])))
    (hb : ∀ s d1 d2, DB X E₁ (((Γ s).set i (.val d1)).set j (.val d2)) body (f s d1 d2) (Rs.oc Γ)) (hs : ∀ x, foldedSetIterable iter X.env x = pure x := by intro _; rfl) : DS X E₁ G (.For tg iter body [] pos) (mi >>= fun ds => loopR (fun s => on2 (f s)) ds s0) (sumOc Γ) :=
  ds_forR (vs := [i, j]) (bnd := fun s d => bindTup (Γ s) [i, j] d) s0 hG cx.own cx.calm hi pg (fun s x v B σ F H Q sm g r ⟨G', e, k⟩ => by
    cases x with
    | tup ds => cases r with
      | tup h hs => exact ⟨_, _, rfl, Same.seqT sm (h).sqT, by rw [hs.length, setAll_len e]; rfl, gNames_run sm g hs e k⟩
    | _ => cases e) (fun s d r e => by
    obtain ⟨a, b, rfl⟩ := on2_not (f := f s) (d := d) (by rw [e]; exact fun z => nomatch z)
    exact ⟨_, rfl⟩) (fun s d r e => by
    obtain ⟨a, b, rfl⟩ := on2_not (f := f s) (d := d) (by rw [e]; exact fun z => nomatch z)
    exact ⟨_, rfl⟩) (fun s d G' e => by
    cases d with
    | tup ds => match ds, e with
      | [], e => cases e
      | [_], e => cases e
      | [a, b], e =>
        cases e
        exact hb s a b
      | _ :: _ :: _ :: _, e => cases e
    | _ => cases e) hs
end
end DL

set_option Elab.async false
set_option linter.all false
set_option maxRecDepth 100000
set_option maxHeartbeats 4000000
namespace DL
open PySem PySem.Spec L2

theorem _root_.L2.Room.u70 {k : Nat} {A : Around} (r : Room k A) : A.units + 70 < cLine := by have := r.un; omega
theorem _root_.L2.Room.u64 {k : Nat} {A : Around} (r : Room k A) : A.units + 64 < cLine := by have := r.un; omega
@[simp] abbrev B2 {α β γ : Type} (f : α → β → M γ) (a : M α) (b : M β) : M γ := a >>= fun x => b >>= fun y => f x y
@[simp] abbrev B1 {α γ : Type} (f : α → M γ) (a : M α) : M γ := a >>= fun x => f x
@[simp] abbrev A0 : M (List D) := .ok []
@[simp] abbrev A1 (a : M D) (r : M (List D)) : M (List D) := a >>= fun x => r >>= fun xs => .ok (x :: xs)
@[simp] abbrev mIf {α : Type} (c : M Bool) (a b : M α) : M α := c >>= fun x => if x = true then a else b
@[simp] abbrev mAnd (a b : M Bool) : M Bool := a >>= fun x => if x = true then b else .ok false
@[simp] abbrev mOr (a b : M Bool) : M Bool := a >>= fun x => if x = true then .ok true else b
@[simp] abbrev mNot (a : M Bool) : M Bool := a >>= fun x => .ok (!x)
@[simp] abbrev vAnd (a b : M D) : M D := a >>= fun x => D.tru x >>= fun k => if k = true then b else .ok x
@[simp] abbrev vOr (a b : M D) : M D := a >>= fun x => D.tru x >>= fun k => if k = true then .ok x else b
@[simp] abbrev vNot (a : M D) : M D := a >>= fun x => D.tru x >>= fun k => .ok (.bl (!k))
@[simp] abbrev C2 (f : D → D → M Bool) (a b : M D) : M D := a >>= fun x => b >>= fun y => bD (f x y)
@[simp] abbrev C3 (f g : D → D → M Bool) (a b c : M D) : M D := a >>= fun x => b >>= fun y => f x y >>= fun k => if k = true then c >>= fun z => bD (g y z) else .ok (.bl false)
@[simp] abbrev T3 (f g : D → D → M Bool) (a b c : M D) : M Bool := a >>= fun x => b >>= fun y => f x y >>= fun k => if k = true then c >>= fun z => g y z else .ok false
@[simp] abbrev S3 (a : M D) (l h : M (Option Int)) : M D := a >>= fun x => l >>= fun l => h >>= fun h => D.sl x l h
@[simp] abbrev L1 (m : M (List D)) : M D := m >>= fun l => .ok (.lst l)
@[simp] abbrev oN : M (Option Int) := .ok none
@[simp] abbrev mPush (l : List D) (m : M D) : M (List D) := m >>= fun d => need (decide (l.length < sizeLine)) >>= fun _ => .ok (l ++ [d])
@[simp] abbrev mkIns (c : String) (m : List D → M (List (String × D))) (a : M (List D)) : M D := a >>= fun l => m l >>= fun l => .ok (.ins c l)
@[simp] abbrev noT : D → M Bool := fun _ => .ok true
@[simp] abbrev nLst (m : M (List D)) : M (List D) := m >>= fun l => need (decide (l.length ≤ sizeLine)) >>= fun _ => .ok l
abbrev nList (m : M (List D)) : M (List D) := m >>= fun l => match l with | [.lst l] => .ok l | [.tup l] => .ok l | _ => stuck
@[simp] def a1 {α : Type} (f : D → M α) : List D → M α
  | [a] => f a
  | _ => stuck
@[simp] def a2 {α : Type} (f : D → D → M α) : List D → M α
  | [a, b] => f a b
  | _ => stuck
@[simp] def a3 {α : Type} (f : D → D → D → M α) : List D → M α
  | [a, b, c] => f a b c
  | _ => stuck
@[simp] def a4 {α : Type} (f : D → D → D → D → M α) : List D → M α
  | [a, b, c, d] => f a b c d
  | _ => stuck
@[simp] def a5 {α : Type} (f : D → D → D → D → D → M α) : List D → M α
  | [a, b, c, d, e] => f a b c d e
  | _ => stuck
@[simp] def a6 {α : Type} (f : D → D → D → D → D → D → M α) : List D → M α
  | [a, b, c, d, e, g] => f a b c d e g
  | _ => stuck
section
variable {X : Cx} {E : XK} {G : List Sl} {a b c e : Expr} {ma mb mc : M D} {ta tb : M Bool} {pos : Pos} {F H : Hp} {st : Stmt} {rest body : List Stmt}
theorem dr_val {E₁ : St → XK} {i : Nat} {d : D} {x : Str} (h : G[i]? = some (.val d)) (p : PE X (.Name x pos) (tVar i)) : DR X E₁ G (.Name x pos) (.ok d) := dr_var h p
theorem dr_own {E₁ : St → XK} {i : Nat} {l : List D} {x : Str} (h : G[i]? = some (.own l)) (p : PE X (.Name x pos) (tVar i)) : DR X E₁ G (.Name x pos) (.ok (.lst l)) := dr_var h p
theorem dr_bor {E₁ : St → XK} {i : Nat} {d : D} {x : Str} (h : G[i]? = some (.bor d)) (p : PE X (.Name x pos) (tVar i)) : DR X E₁ G (.Name x pos) (.ok d) := dr_var h p
theorem de_gintE {E₁ : St → XK} {x : Str} {i : Int} (hg : Gl X x) (hm : ∃ t, X.mg x = some (.int i t)) (hd : (x == ("__debug__" : Str)) = false := by decide) : DE X E₁ G (.Name x pos) (.ok (.int i)) := let ⟨_, h⟩ := hm; de_gint hg h hd
theorem de_gstrE {E₁ : St → XK} {x z : Str} (hg : Gl X x) (hm : ∃ t, X.mg x = some (.str z t)) (hz : PyData.strOk z = true := by decide) (hd : (x == ("__debug__" : Str)) = false := by decide) : DE X E₁ G (.Name x pos) (.ok (.str z)) := let ⟨_, h⟩ := hm; de_gstr hg h hz hd
theorem DNL.de {E₁ : St → XK} {m : M (List D)} (h : DNL X E₁ G e m) : DE X E₁ G e (m >>= fun l => .ok (.lst l)) := h.dn.de

theorem db_step {α β : Type} {m1 : M β} {G1 : β → List Sl} (G2 : β → List Sl) {k : β → M α} {post : α → Oc} (h1 : DS X E G st m1 (fun j => .nx (G1 j))) (e : ∀ j, G1 j = G2 j) (h2 : ∀ j, DB X E (G2 j) rest (k j) post) : DB X E G (st :: rest) (m1 >>= k) post :=
  db_then h1 fun j => by
    rw [e j]
    exact h2 j
theorem db_G {α : Type} (G2 : List Sl) {m : M α} {post : α → Oc} (e : G = G2) (h : DB X E G2 body m post) : DB X E G body m post := by
  rw [e]
  exact h
theorem db_fzO {α : Type} (i : Nat) {l : List D} {m : M α} {post : α → Oc} (hs : G[i]? = some (.own l)) (h : DB X E (G.set i (.val (.lst l))) body m post) : DB X E G body m post := db_fz hs h
theorem ds_pushO {x : Str} {i : Nat} {l : List D} {p1 p2 p3 : Pos} {m : M D} (hs : G[i]? = some (.own l)) (pv : PE X (.Name x p1) (tVar i)) (h : DE X (cE E) G e m)
    (hfew : ((backTo p3 (starEach [e] X.env)).all (fun x => !x.1) && (backToKw p3 (keywordEach [] X.env)).all (fun x => x.1.isSome)
      && decide (([e] : List Expr).length + ([] : List Keyword).length + (if ([] : List Keyword).isEmpty then 0 else 1) < 30)) = true := by rfl)
    (hbase : attributeBase (.Name x p1) "append" X.env (eval (.Name x p1) X.env) = eval (.Name x p1) X.env := by rfl)
    (hline : (p2.endLine == p3.line) = true := by rfl) (hst : starEach [e] X.env = (false, eval e X.env) :: starEach [] X.env := by rfl) (hplain : (backTo p3 (starEach [] X.env)).any (·.1) = false := by rfl) :
    DS X E G (.Expr (.Call (.Attribute (.Name x p1) "append" p2) [e] [] p3) pos) (m >>= fun d => need (decide (l.length < sizeLine)) >>= fun _ => .ok (l ++ [d])) (fun l' => .nx (G.set i (.own l'))) := by
  obtain ⟨t, ps, w⟩ := ds_push hs pv h hfew hbase hline hst hplain
  refine ⟨t, ps, fun B0 B σ F H D x0 g q => w B0 B σ F H D x0 g ?_⟩
  show WpB X.K E B0 B (fun s' => .nx (G.set i s')) (m >>= fun d => need (decide (l.length < sizeLine)) >>= fun _ => .ok (.own (l ++ [d]))) F D
  cases m with
  | error er => cases er with
    | stuck => exact q.elim
    | exc y => exact q
  | ok d =>
    have q : WpB X.K E B0 B (fun l' => .nx (G.set i (.own l'))) (need (decide (l.length < sizeLine)) >>= fun _ => .ok (l ++ [d])) F D := q
    show WpB X.K E B0 B (fun s' => .nx (G.set i s')) (need (decide (l.length < sizeLine)) >>= fun _ => .ok (.own (l ++ [d]))) F D
    cases hd : decide (l.length < sizeLine) with
    | false =>
      exfalso
      rw [hd] at q
      exact q
    | true =>
      rw [hd] at q
      exact q
theorem ds_setLc {i : Nat} {y : Str} {py : Pos} {m : M (List D)} (h : DNL X (cE E) G e m) (hy : X.N[i]? = some y) (hl : X.env.scope.names.lookup y = some .local) (hs : swapsWith e (some (.Name y py)) pos.line X.env = pure true) :
    DS X E G (.Assign [.Name y py] e pos) (m >>= fun l => .ok (.lst l)) (fun d => .nx (G.set i (.val d))) := by
  obtain ⟨t, _, ps, w⟩ := h
  refine ⟨_, ps hy hl hs, fun B0 B σ F H D x0 g q => w B σ F H _ x0.sFH g ?_⟩
  cases m with
  | ok l =>
    intro F' H' v x ⟨p, xs, ev, n, h, nf, r⟩
    subst ev
    exact q.ok _ _ H' (x.freeze n h nf).sF (x0.trans (x.freeze n h nf)) ((g.ext (x.freeze n h nf)).set (.lst upd_same (r.mono (same_new nf))))
  | error er => cases er with
    | stuck => exact q.elim
    | exc y => exact fun F' H' c d x r => q F' H' c d x.sF (x0.trans x) r
@[simp] def un2 {α : Type} (k : D → D → M α) : D → M α
  | .tup [a, b] => k a b
  | .lst [a, b] => k a b
  | _ => stuck
@[simp] def un3 {α : Type} (k : D → D → D → M α) : D → M α
  | .tup [a, b, c] => k a b c
  | .lst [a, b, c] => k a b c
  | _ => stuck
@[simp] def un4 {α : Type} (k : D → D → D → D → M α) : D → M α
  | .tup [a, b, c, d] => k a b c d
  | .lst [a, b, c, d] => k a b c d
  | _ => stuck
@[simp] def un5 {α : Type} (k : D → D → D → D → D → M α) : D → M α
  | .tup [a, b, c, d, e] => k a b c d e
  | .lst [a, b, c, d, e] => k a b c d e
  | _ => stuck
@[simp] def un6 {α : Type} (k : D → D → D → D → D → D → M α) : D → M α
  | .tup [a, b, c, d, e, f] => k a b c d e f
  | .lst [a, b, c, d, e, f] => k a b c d e f
  | _ => stuck
@[simp] def Rx.thn {S S' T : Type} (r : Rx S' T) (k : S' → M (Rx S T)) : M (Rx S T) := match r with
  | .go s => k s
  | .ct t => .ok (.ct t)
  | .bk t => .ok (.bk t)
  | .rt d => .ok (.rt d)
@[simp] def Rx.fin {S' : Type} (r : Rx S' Empty) (k : S' → M D) : M D := match r with
  | .go s => k s
  | .rt d => .ok d
@[simp] def Rx.up {S T : Type} (r : Rx Empty T) : Rx S T := match r with
  | .ct t => .ct t
  | .bk t => .bk t
  | .rt d => .rt d
@[simp] def sThn {S S' T : Type} (r : S' ⊕ D) (k : S' → M (Rx S T)) : M (Rx S T) := match r with
  | .inl s => k s
  | .inr d => .ok (.rt d)
@[simp] def sFin {S' : Type} (r : S' ⊕ D) (k : S' → M D) : M D := match r with
  | .inl s => k s
  | .inr d => .ok d
theorem db_sumF {S' : Type} {Γ' : S' → List Sl} {m1 : M (S' ⊕ D)} {k : S' → M D} (h1 : DS X E G st m1 (sumOc Γ')) (h2 : ∀ s, DB X E (Γ' s) rest (k s) .rt) :
    DB X E G (st :: rest) (m1 >>= fun r => sFin r k) .rt := by
  refine db_cons h1 (fun j G' e => ?_) (fun j hj => ?_)
  · cases j with
    | inl s =>
      injection e with e
      rw [← e]
      exact h2 s
    | inr d => cases e
  · cases j with
    | inl s => exact absurd rfl (hj _)
    | inr d => exact ⟨_, rfl, rfl⟩
theorem db_ifRt {S T : Type} {Γ : S → List Sl} {Δ : T → List Sl} {A : List Stmt} {mA : M D} {mc : M Bool} {mR : M (Rx S T)} (hc : DT X (cE E) G c mc) (hA : DB X E G A mA .rt) (hR : DB X E G rest mR (Rx.oc Γ Δ)) :
    DB X E G (.If c A [] pos :: rest) (mc >>= fun b => if b = true then mA >>= fun d => .ok (.rt d) else mR) (Rx.oc Γ Δ) :=
  db_ift (Rx.rt (S := S) (T := T)) hc hA (fun a G' e => by cases e) (fun a => rfl) hR
end
end DL

set_option Elab.async false
set_option linter.all false
set_option maxRecDepth 100000
set_option maxHeartbeats 4000000
namespace DL
open PySem PySem.Spec L2

theorem boot_len_ : bootBuiltins ("len" : Str) = some (.builtin "len") := by decide +kernel
theorem boot_abs_ : bootBuiltins ("abs" : Str) = some (.builtin "abs") := by decide +kernel
theorem boot_max_ : bootBuiltins ("max" : Str) = some (.builtin "max") := by decide +kernel
theorem boot_all_ : bootBuiltins ("all" : Str) = some (.builtin "all") := by decide +kernel
theorem boot_isinstance_ : bootBuiltins ("isinstance" : Str) = some (.builtin "isinstance") := by decide +kernel
theorem boot_int_ : bootBuiltins ("int" : Str) = some (.type "int") := by decide +kernel
theorem boot_bool_ : bootBuiltins ("bool" : Str) = some (.type "bool") := by decide +kernel
theorem boot_list_ : bootBuiltins ("list" : Str) = some (.type "list") := by decide +kernel
theorem a1_ {α : Type} (f : D → M α) (a : D) : a1 f [a] = f a := rfl
theorem a2_ {α : Type} (f : D → D → M α) (a b : D) : a2 f [a, b] = f a b := rfl
def AllC (K : PySem.W.Frag) (f : String) : List String → Prop
  | [] => True
  | c :: cs => Cls K (He.ga K (Str.ofString c)) ∧ NoAttr K (He.ga K (Str.ofString c)) (Str.ofString f) ∧ AllC K f cs
theorem AllC.all {K : PySem.W.Frag} {f : String} : ∀ {cs : List String}, AllC K f cs → ∀ c ∈ cs, Cls K (He.ga K (Str.ofString c)) ∧ NoAttr K (He.ga K (Str.ofString c)) (Str.ofString f)
  | [], _, c, h => by cases h
  | d :: cs, ⟨h1, h2, h3⟩, c, h => by
    rcases List.mem_cons.mp h with rfl | h
    · exact ⟨h1, h2⟩
    · exact h3.all c h
section
variable {X : Cx} {E : XK} {G : List Sl} {a b c e : Expr} {ma mb mc : M D} {ta tb : M Bool} {pos : Pos} {F H : Hp} {st : Stmt} {rest body : List Stmt}
theorem pe_ty_ {T : String} {x : Str} (hg : Gl X x) (hm : X.mg x = none) (hv : bootBuiltins x = some (.type T)) (hn : x ≠ "__name__" := by decide) (hd : (x == ("__debug__" : Str)) = false := by decide) : PE X (.Name x pos) (tC (.ty T)) := pe_bltn hg hm hv rfl hn hd
theorem pe_cls_ {x : Str} {C : Addr} (hg : Gl X x) (hm : X.mg x = some (.ref C)) (hd : (x == ("__debug__" : Str)) = false := by decide) : PE X (.Name x pos) (tC (.ref C)) := pe_glob hg hm rfl hd
theorem dt_G {E₁ : St → XK} (G2 : List Sl) {m : M Bool} (h0 : G = G2) (h : DT X E₁ G2 e m) : DT X E₁ G e m := by
  rw [h0]
  exact h
@[simp] abbrev mField (f : String) (l : List (String × D)) (m : M D) : M (List (String × D)) := m >>= fun d => need (decide (l.length < 1000)) >>= fun _ => .ok (putD f d l)
end
@[simp] abbrev mMeth (c mn : String) (m : List D → M D) (a : M D) (ms : M (List D)) : M D := a >>= fun x => D.recv c mn x >>= fun x => ms >>= fun l => m (x :: l)
@[simp] abbrev mMeth0 (c mn : String) (m : List D → M D) (a : M D) : M D := a >>= fun x => D.recv c mn x >>= fun x => m [x]
def CXA (P : Program) : CXT := fun outer H s E u s' => ∃ w, L2.CX P w outer H s E u s'
theorem CXA.no {P : Program} {H : Hp} {s : Shared} {e : Value} {s' : Shared} (h : CXA P [] H s (fun _ _ _ => False) e s') : False := by
  obtain ⟨w, a, B, H', cls, d, h⟩ := h
  exact h.2.2.2.2.2.2.2
theorem fn_any {P : Program} {w : World} {K : PySem.W.Frag} {mg : Str → Option Value} {base : Heap} {k : Nat} {f : Addr} {fd : FuncData} {ps : List Str} {sp : Sp} (F : FnOk P w K mg base (L2.CX P w) k f fd ps sp) : FnOk P w K mg base (CXA P) k f fd ps sp :=
  ⟨F.len, fun A outer s H args us vs Q E h1 h2 h3 h4 h5 => codeAny_mono (F.run A outer s H args us vs Q E h1 h2 h3 h4 h5) fun r s' h => by
    cases r with
    | ok o => cases o with
      | ret u => exact h
      | _ => exact h.elim
    | error e => exact ⟨w, h⟩⟩
def insB (K : PySem.W.Frag) (C : Addr) : Bool := decide (PySem.W.findIn K (.ref C) "__class__" = some (some (.builtin "object.__class__"))) && (decide (PySem.W.specialIn K (.builtin "object.__class__") "__get__" = some (some (.builtin "getset_descriptor.__get__"))) &&
  (decide (PySem.W.takesIn K (.builtin "object.__class__") = some true) && (decide (PySem.W.mroIn K C (.type "object") = some true) && decide (PySem.W.kitOne K (.ref C) (.ref C) = some true))))
end DL

set_option Elab.async false
set_option linter.all false
set_option maxRecDepth 100000
set_option maxHeartbeats 4000000
namespace PySem.W
open PySem PySem.Calls PyProof.Rows
section
variable {prog : Program} {w : World} {A : Around} {s : Shared} {E : Value → Shared → Prop} {β : Type} {R : Value → β → Prop} {enc : β → PyData} {vs : List Value} {bs : List β}
end
end PySem.W
namespace DL
open PySem PySem.Spec L2
section
variable {K : PySem.W.Frag} {F H : Hp}
end
end DL

set_option Elab.async false
set_option linter.all false
set_option maxRecDepth 100000
set_option maxHeartbeats 4000000
namespace DL
open PySem PySem.Spec L2
section
variable {X : Cx} {E : St → XK} {G : List Sl} {a b c d e : Expr} {ma mb mc md : M D} {pos : Pos} {ta tb tc td : TE}
@[simp] abbrev T4 (f g h : D → D → M Bool) (a b c d : M D) : M Bool := a >>= fun x => b >>= fun y => f x y >>= fun k => if k = true then c >>= fun z => g y z >>= fun k => if k = true then d >>= fun w => h z w else .ok false else .ok false
end
end DL

set_option Elab.async false
set_option linter.all false
set_option maxRecDepth 100000
set_option maxHeartbeats 4000000
namespace DL
open PySem PySem.Spec L2
def gAd (K : PySem.W.Frag) (p : Str × Option Str) : Addr := match PySem.W.recIn K (He.fAd K p) "property" with
  | some (.ref g :: _) => g
  | _ => 0
def codeAt (K : PySem.W.Frag) (a : Addr) : He.FnW :=
  (K.lookup a).bind fun o => match o.data with
    | .func f => some (f.name, f.qualname, f.params, f.body, f.scope, f.globals, f.closure, f.builtins)
    | _ => none
def restAt (K : PySem.W.Frag) (a : Addr) (q : Str) : Bool := PySem.W.keepIn K (.ref a) && match K.lookup a with
  | some o => (match o.data with
    | .func f => PySem.W.codeIn K f.code q && (He.dflB K f.defaults [] && He.kwdB K f.kwdefaults [])
    | _ => false)
  | none => false
theorem funAt {K : PySem.W.Frag} {a : Addr} {d : He.DefD} (e : codeAt K a = d.val) (c : restAt K a d.qual = true) : ∃ fd, FunD K d.name d.qual d.params d.body d.scope [] [] a fd := by
  obtain ⟨kp, c⟩ := and2 c
  unfold codeAt at e
  cases lk : K.lookup a with
  | none =>
    rw [lk] at c
    cases c
  | some o =>
    rw [lk] at c e
    obtain ⟨oc, od, dt, osl⟩ := o
    cases dt with
    | func f =>
      obtain ⟨n1, n2, n3, n4, n5, n6, n7, dV, kV, doc, pm, an, cdv, ct, n15⟩ := f
      have same : (some (n1, n2, n3, n4, n5, n6, n7, n15) : He.FnW) = some (d.name, d.qual, d.params, .stmts d.body, d.scope, mainGlobals, [], builtinsNs) := e
      injection same with same
      simp only [Prod.mk.injEq] at same
      obtain ⟨rfl, rfl, rfl, rfl, rfl, rfl, rfl, rfl⟩ := same
      obtain ⟨u1, u2⟩ := and2 c
      obtain ⟨u2, u3⟩ := and2 u2
      exact ⟨_, ⟨oc, od, dV, kV, doc, pm, an, cdv, ct, osl, rfl, lk, u1, He.dflB_ok u2, He.kwdB_ok u3⟩, kp⟩
    | _ => cases c
def propB (K : PySem.W.Frag) (c f : Str) : Bool := decide (PySem.W.findIn K (.ref (He.ga K c)) f = some (some (.ref (He.fAd K (c, some f))))) && (decide (PySem.W.specialIn K (.ref (He.fAd K (c, some f))) "__get__" = some (some (.builtin "property.__get__"))) &&
  (decide (PySem.W.takesIn K (.ref (He.fAd K (c, some f))) = some true) && match PySem.W.recIn K (He.fAd K (c, some f)) "property" with
    | some (.ref _ :: _) => true
    | _ => false))
abbrev AlG : Type := He.AlD × Bool × List He.FnW
def seen (fa : List He.Fa) (fn gt : List He.DefD) (ex : PySem.W.Frag → Bool) (K : PySem.W.Frag) : AlG := (He.obsD fa fn K, ex K && gt.all (fun d => restAt K (gAd K d.at_) d.qual), gt.map fun d => codeAt K (gAd K d.at_))
def due (fn gt : List He.DefD) : AlG := (He.valD fn, true, gt.map He.DefD.val)
def SaysG (fa : List He.Fa) (fn gt : List He.DefD) (ex : PySem.W.Frag → Bool) (K : PySem.W.Frag) : Prop := seen fa fn gt ex K = due fn gt
section
variable {fa : List He.Fa} {fn gt : List He.DefD} {ex : PySem.W.Frag → Bool} {K : PySem.W.Frag}
theorem SaysG.d (c : SaysG fa fn gt ex K) : He.SaysD fa fn K := congrArg (fun z : AlG => z.1) c
theorem SaysG.more (c : SaysG fa fn gt ex K) : ex K = true := (and2 (congrArg (fun z : AlG => z.2.1) c)).1
theorem SaysG.get (c : SaysG fa fn gt ex K) (i : Nat) {d : He.DefD} (h : gt[i]? = some d) : ∃ fd, FunD K d.name d.qual d.params d.body d.scope [] [] (gAd K d.at_) fd := by
  have r := List.all_eq_true.mp (and2 (congrArg (fun z : AlG => z.2.1) c)).2 d (List.mem_of_getElem? h)
  have e : (gt.map fun d => codeAt K (gAd K d.at_)) = gt.map He.DefD.val := congrArg (fun z : AlG => z.2.2) c
  have e2 : (gt.map fun d => codeAt K (gAd K d.at_))[i]? = (gt.map He.DefD.val)[i]? := by rw [e]
  rw [List.getElem?_map, List.getElem?_map, h] at e2
  exact funAt (Option.some.inj e2) r
end
def noX {α : Type} : M α → M α
  | .ok a => .ok a
  | .error _ => stuck
@[simp] theorem noX_ok {α : Type} (a : α) : noX (.ok a : M α) = .ok a := rfl
@[simp] abbrev mProp (c : String) (m : List D → M D) (a : M D) : M D := a >>= fun x => D.isIns c x >>= fun x => noX (m [x])
section
variable {X : Cx} {E : St → XK} {G : List Sl} {b : Expr} {mb : M D} {pos : Pos}
end
end DL

set_option Elab.async false
set_option linter.all false
set_option maxRecDepth 100000
set_option maxHeartbeats 4000000
namespace DL
open PySem PySem.Spec L2
section
variable {X : Cx} {CX : CXT} {k n : Nat} {f C : Addr} {fd : FuncData} {ps ks : List Str} {sp : Sp} {E : St → XK} {x : Str} {p pos : Pos} {kws : List Keyword} {tk : TA} {g : List Value → List Value → List Value} {gV : List V → List V → List V} {pins : List (Addr × Obj)} {σ : St} {H : Hp} {s : Shared} {Q : VK} {ws : List Value} {zs : List V}
end
section
variable {X : Cx} {E : St → XK} {G : List Sl} {a : Expr} {ma : M D} {pos : Pos}
@[simp] abbrev mkInsK (c : String) (m : List D → M (List (String × D))) (gd : List D → List D) (a : M (List D)) : M D := a >>= fun l => m (gd l) >>= fun l => .ok (.ins c l)
end
def kwdAt (p : Str × Option Str) (x : Str) (K : PySem.W.Frag) : Addr := match K.lookup (He.fAd K p) with
  | some ⟨_, _, .func fd, _⟩ => (match fd.kwdefaults with
    | .ref D => (match PySem.W.nsIn K D x with
      | some (some (.ref a)) => a
      | _ => 0)
    | _ => 0)
  | _ => 0
def tup0B (K : PySem.W.Frag) (a : Addr) : Bool := match K.lookup a with
  | some ⟨.type "tuple", none, .seq its _, _⟩ => its.isEmpty
  | _ => false
def pick {α : Type} (l : List α) (i : Nat) : List α := (l.drop i).take 1
@[simp] theorem pick_0 {α : Type} (a : α) (l : List α) : pick (a :: l) 0 = [a] := rfl
@[simp] theorem pick_s {α : Type} (a : α) (l : List α) (i : Nat) : pick (a :: l) (i + 1) = pick l i := rfl
end DL

set_option Elab.async false
set_option linter.all false
set_option maxRecDepth 100000
set_option maxHeartbeats 4000000
namespace DL
open PySem PySem.Spec L2
section
variable {P : Program} {w : World} {K : PySem.W.Frag} {A : Around} {x qual nm : Str} {params : Arguments} {scope : Scope} {p1 p2 p3 p4 : Pos} {j : Nat} {f : Addr} {fd : FuncData} {N : List Str}
end
end DL

set_option Elab.async false
set_option linter.all false
set_option maxRecDepth 100000
set_option maxHeartbeats 4000000
namespace DL
open PySem PySem.Spec L2
section
variable {K : PySem.W.Frag} {F H : Hp}
end
section
variable {X : Cx} {E : St → XK} {G : List Sl} {a b c e : Expr} {ma mb mc : M D} {pos : Pos} {F H : Hp}
def ixOf (l : List D) (x : D) : Option Nat := l.findIdx? fun z => D.beq z x
def D.index (x y : D) : M D :=
  match x with
  | .lst l => need (l.all (D.shp 19) && y.shp 19) >>= fun _ => match ixOf l y with | some j => .ok (.int (j : Nat)) | none => stuck
  | _ => stuck
end
end DL

set_option Elab.async false
set_option linter.all false
set_option maxRecDepth 100000
set_option maxHeartbeats 4000000
namespace DL
open PySem PySem.Spec L2
section
variable {K : PySem.W.Frag} {E : XK} {B0 B F H F' H' : Hp}
end
def putDk (l : List (D × D)) (k v : D) : List (D × D) := if (l.any fun q => D.beq q.1 k) = true then l.map (fun q => if D.beq q.1 k = true then (q.1, v) else q) else l ++ [(k, v)]
def dropDk (l : List (D × D)) (k : D) : List (D × D) := l.filter fun q => !D.beq q.1 k
section
variable {K : PySem.W.Frag} {F : Hp}
end
section
variable {X : Cx} {E : XK} {G : List Sl} {a b c e : Expr} {ma mb mc : M D} {ta tb : M Bool} {pos : Pos} {st : Stmt} {rest body : List Stmt} {F H : Hp}
@[simp] abbrev mPut (l : List (D × D)) (me mk : M D) : M (List (D × D)) := me >>= fun d => mk >>= fun k => need (k.isKey && decide (l.length < sizeLine)) >>= fun _ => .ok (putDk l k d)
end
section
variable {X : Cx} {E : St → XK} {G : List Sl} {a b c e : Expr} {ma mb mc : M D} {pos : Pos} {F H : Hp}
def D.get2 (x k z : D) : M D :=
  match x with
  | .dct l => need k.isKey >>= fun _ => .ok ((D.look l k).getD z)
  | _ => stuck
def D.isDct : D → Bool
  | .dct _ => true
  | _ => false
@[simp] abbrev mGet2 (mo mk mz : M D) : M D := mo >>= fun x => need x.isDct >>= fun _ => mk >>= fun k => mz >>= fun z => D.get2 x k z
end
section
variable {X : Cx} {E : XK} {G : List Sl} {body : List Stmt}
end
end DL

set_option Elab.async false
set_option linter.all false
set_option maxRecDepth 100000
set_option maxHeartbeats 4000000
namespace DL
open PySem PySem.Spec L2
def WpE {α β : Type} (K : PySem.W.Frag) (E : XK) (B0 B : Hp) (σ : St) (G1 : α → List Sl) (rel : Hp → Hp → β → α → Prop) (m : M α) (F : Hp) (Q : β → Hp → Prop) : Prop :=
  match m with
  | .ok a => ∀ F' H' v, Same F F' → Ext B0 B F' H' → GOk K B (G1 a) σ F' H' → rel F' H' v a → Q v H'
  | .error .stuck => False
  | .error (.exc x) => ∀ F' H' c d, Same F F' → Ext B0 B F' H' → RpX K F' H' c d x → E c d H'
section
variable {K : PySem.W.Frag} {E : XK} {B0 B F F' : Hp} {σ : St}
theorem WpE.mono {α β : Type} {G1 : α → List Sl} {rel : Hp → Hp → β → α → Prop} {m : M α} {Q : β → Hp → Prop} (s : Same F F') (h : WpE K E B0 B σ G1 rel m F Q) : WpE K E B0 B σ G1 rel m F' Q := by
  cases m with
  | ok a => exact fun F2 H2 v s2 => h F2 H2 v (s.trans s2)
  | error e => cases e with
    | stuck => exact h
    | exc x => exact fun F2 H2 c d s2 => h F2 H2 c d (s.trans s2)
theorem WpE.bind {α β γ δ : Type} {G1 : α → List Sl} {G2 : γ → List Sl} {rel : Hp → Hp → β → α → Prop} {rel2 : Hp → Hp → δ → γ → Prop} {m : M α} {k : α → M γ} {Q : δ → Hp → Prop} {Q1 : β → Hp → Prop}
    (h : WpE K E B0 B σ G2 rel2 (m >>= k) F Q) (hk : ∀ a F' H' v, Same F F' → Ext B0 B F' H' → GOk K B (G1 a) σ F' H' → rel F' H' v a → WpE K E B0 B σ G2 rel2 (k a) F' Q → Q1 v H') : WpE K E B0 B σ G1 rel m F Q1 := by
  cases m with
  | ok a => exact fun F2 H2 v s2 x g r => hk a F2 H2 v s2 x g r (WpE.mono s2 h)
  | error e => cases e with
    | stuck => exact h
    | exc x => exact h
end
section
variable {X : Cx} {E : St → XK} {G : List Sl} {a b c e : Expr} {ma mb mc : M D} {pos : Pos} {F H : Hp}
def Rcv (X : Cx) (G : List Sl) (i : Nat) (x : D) : Prop := G[i]? = some (.bor x) ∨ G[i]? = some (.val x)
theorem Rcv.at {i : Nat} {x : D} (h : Rcv X G i x) {B : Hp} {σ : St} (g : GOk X.K B G σ F H) : ∃ v, σ[i]? = some (some v) ∧ ∀ F' H', Same F F' → Same B H' → RpT X.K F' H' v x := by
  rcases h with h | h
  · obtain ⟨o, h1, v, rfl, r⟩ := g.ok i _ h
    exact ⟨v, h1, fun F' H' s1 s2 => (r.monoF s1).monoH s2⟩
  · obtain ⟨o, h1, v, rfl, r⟩ := g.ok i _ h
    exact ⟨v, h1, fun F' H' s1 s2 => .of (r.mono s1)⟩
end
section
variable {X : Cx} {E : XK} {G : List Sl} {pos : Pos} {body : List Stmt}
end
end DL

set_option Elab.async false
set_option linter.all false
set_option maxRecDepth 100000
set_option maxHeartbeats 4000000
namespace DL
open PySem PySem.Spec L2
section
variable {X : Cx} {E : St → XK} {G : List Sl} {a b c e : Expr} {ma mb mc : M D} {pos : Pos} {F H : Hp}
end
end DL

set_option Elab.async false
set_option linter.all false
set_option maxRecDepth 100000
set_option maxHeartbeats 4000000
namespace DL
open PySem PySem.Spec L2
def relN (K : PySem.W.Frag) (l : List D) : Hp → Hp → Hp → V → Prop := fun B F' H' v => ∃ p xs, v = .ref p ∧ B p = none ∧ H' p = some (.lst xs) ∧ F' p = none ∧ RpL K F' xs l
abbrev rN (K : PySem.W.Frag) (H : Hp) : Hp → Hp → V → List D → Prop := fun F' H' v l => ∃ p xs, v = .ref p ∧ H p = none ∧ H' p = some (.lst xs) ∧ F' p = none ∧ RpL K F' xs l
def spO (K : PySem.W.Frag) (bs : List Bool) (m : List D → M (List D)) : Sp := fun vs H Q E => ∃ F ds, Same F H ∧ RpA K F H bs vs ds ∧ WpG K E (rN K H) (m ds) F H Q
section
variable {X : Cx} {E : XK} {G : List Sl} {e : Expr} {pos : Pos} {st : Stmt} {rest body : List Stmt}
theorem ds_retOwn {x : Str} {i : Nat} {l : List D} {p1 : Pos} (hs : G[i]? = some (.own l)) (pv : PE X (.Name x p1) (tVar i)) : DS X E G (.Return (some (.Name x p1)) pos) (.ok l : M (List D)) (fun l => .rg (relN X.K l)) := by
  refine ⟨_, ps_ret pv, fun B0 B σ F H D x0 g q => ?_⟩
  obtain ⟨o, h1, a, xs, rfl, h2, h3, h4, h5⟩ := g.ok i _ hs
  exact ⟨_, h1, q.ok _ F H (Same.refl _) x0 ⟨a, xs, rfl, h4, h2, h3, h5⟩⟩
end
section
variable {P : Program} {w : World} {K : PySem.W.Frag} {mg : Str → Option Value} {base : Heap} {x qual : Str} {params : Arguments} {body : List Stmt} {scope : Scope} {dvs : List V} {kws : List (Str × V)} {f : Addr} {fd : FuncData}
theorem fn_defO {N ps : List Str} {k : Nat} {bs : List Bool} {m : List D → M (List D)} (F : FunD K x qual params body scope dvs kws f fd) (S : FnScope N ps scope) (hbs : bs.length = ps.length)
    (hb : ∀ (cdv : Value) (A : Around) (outer : List Env) (s : Shared) (H : Hp) (E : XK), Room k (A.deeper (PyProof.Rows.envOfC qual scope s.heap.objs.size f cdv)) → ∀ ds : List D, ds.length = bs.length →
      DB (cxOf (L2.CX P w) P w K mg base N qual scope f cdv A outer s H E) E (argSl bs ds ++ List.replicate (N.length - bs.length) .un) body (m ds) (fun l => .rg (relN K l))) : FnOk P w K mg base (L2.CX P w) (k + 1) f fd ps (spO K bs m) := by
  refine F.ok S (fun vs H Q E h => ?_) (fun cdv A outer s H vs Q E hr h => ?_)
  · obtain ⟨F, ds, _, r, _⟩ := h
    rw [r.len.1, hbs]
  · obtain ⟨F, ds, sF, r, q⟩ := h
    obtain ⟨t, p, wt⟩ := hb cdv A outer s H E hr ds r.len.2
    refine ⟨t, p, wt F H (L2.start N vs) F H _ (Ext.refl sF) (gok_start r) ?_⟩
    cases e : m ds with
    | ok d =>
      rw [e] at q
      exact WpB.of_ok (fun v F' H' _ x' r' => q F' H' v x' r')
    | error er =>
      rw [e] at q
      cases er with
      | stuck => exact q.elim
      | exc y => exact fun F' H' c d _ x' r' => q F' H' c d x' r'
end
section
variable {X : Cx} {E : St → XK} {G : List Sl} {a b c e : Expr} {ma mb mc : M D} {pos : Pos} {F H : Hp}
theorem rN_from {K : PySem.W.Frag} {F H F1 H1 : Hp} {E₁ : XK} {m : M (List D)} {Q : VK} (x : Ext F H F1 H1) (q : WpG K E₁ (rN K H) m F1 H1 Q) : WpG K E₁ (rN K H1) m F1 H1 Q := by
  cases m with
  | ok l => exact fun F' H' v y ⟨p, xs, e, n, r⟩ => q F' H' v y ⟨p, xs, e, x.sH.free n, r⟩
  | error er => cases er with
    | stuck => exact q
    | exc y => exact q
theorem dn_callO {k : Nat} {f : Addr} {fd : FuncData} {ps : List Str} {bs : List Bool} {m : List D → M (List D)} {x : Str} {p : Pos} {es : List Expr} {ms : M (List D)} (cx : CtxOk X E) (F : FnOk X.prog X.w X.K X.mg X.base (L2.CX X.prog X.w) k f fd ps (spO X.K bs m)) (hr : Room k X.A) (hg : Gl X x) (hm : X.mg x = some (.ref f)) (hk : PySem.W.keepIn X.K (.ref f) = true) (hb : Binds X.K fd ps [])
    (ha : DAM X E G bs (a :: es) ms) (hdb : (x == ("__debug__" : Str)) = false := by decide) (he : starEach (a :: es) X.env = (false, eval a X.env) :: starEach es X.env := by rfl) (hpl : (backTo pos (starEach es X.env)).any (·.1) = false := by rfl) :
    DN X E G (.Call (.Name x p) (a :: es) [] pos) (ms >>= fun l => m l) := by
  obtain ⟨t, pa, w⟩ := ha
  refine ⟨_, pe_callD F hr hg hm hk hb .nil cx.pass pa hdb he hpl, fun B σ F H Q s g q => w B σ F H _ s g (WpG.bind q fun l F1 H1 vs x1 r1 k1 => ?_)⟩
  show spO X.K bs m (vs ++ []) H1 Q (E σ)
  rw [List.append_nil]
  exact ⟨F1, l, x1.sFH, r1, rN_from x1 k1⟩
end
end DL

set_option Elab.async false
set_option linter.all false
set_option maxRecDepth 100000
set_option maxHeartbeats 4000000
namespace DL
open PySem PySem.Spec L2
@[simp] abbrev mMethO (c mn : String) (m : List D → M (List D)) (a : M D) (ms : M (List D)) : M (List D) := a >>= fun x => D.recv c mn x >>= fun x => ms >>= fun l => m (x :: l)
end DL

set_option Elab.async false
set_option linter.all false
set_option maxRecDepth 100000
set_option maxHeartbeats 4000000
namespace DL
open PySem PySem.Spec L2
def Sl.nb : Sl → Bool
  | .bor _ => false
  | .tre _ _ _ => false
  | _ => true
def nbL (G : List Sl) : Bool := G.all Sl.nb
section
variable {K : PySem.W.Frag} {F H B F' H' : Hp}
theorem TreOk.off {a : Addr} {c : String} {l : List (String × D)} {as : List Addr} (t : TreOk K F B a c l as) : ∀ p ∈ as, F p = none ∧ ∃ kvs, B p = some (.dK kvs) :=
  let ⟨_, _, _, _, h⟩ := t.at_
  h.off
theorem TreOk.ne {a : Addr} {c : String} {l : List (String × D)} {as : List Addr} (t : TreOk K F B a c l as) : ∀ p ∈ as, p ≠ a := fun p hp z => by
  obtain ⟨_, kvs, e⟩ := t.off p hp
  obtain ⟨dx, fs, h, _⟩ := t.at_
  subst z
  rw [h] at e
  cases e
theorem TreOk.same {B' : Hp} {a : Addr} {c : String} {l : List (String × D)} {as : List Addr} (t : TreOk K F B a c l as) (h : ∀ b u, B b = some u → B' b = some u) : TreOk K F B' a c l as := by
  obtain ⟨dx, fs, h1, h2, h3⟩ := t.at_
  refine ⟨⟨dx, fs, h _ _ h1, h2, FvL.same (fun p hp => ?_) h3⟩, t.na, t.nd⟩
  obtain ⟨_, kvs, e⟩ := h3.off p hp
  rw [e, h _ _ e]
structure GT (K : PySem.W.Frag) (W : Addr → Prop) (HB B : Hp) (a : Addr) (c : String) (l : List (String × D)) (G : List Sl) (σ : St) (F H : Hp) : Prop where
  g : GOk K B (.tre a c l :: G) σ F H
  nb : nbL G = true
  t : ∃ as, TreOk K F B a c l as ∧ W a ∧ ∀ b ∈ as, W b
  out : ∀ b o, ¬ W b → HB b = some o → B b = some o
  new : ∀ b, HB b = none → W b
  pin : ∀ b o, W b → HB b = some o → F b = none ∧ ∃ u, B b = some u
theorem GT.moreF {W : Addr → Prop} {HB : Hp} {a : Addr} {c : String} {l : List (String × D)} {G G' : List Sl} {σ σ' : St} (sF : Same F F') (old : ∀ b o, B b = some o → F' b = F b) (g : GT K W HB B a c l G σ F H) (g' : GOk K B (.tre a c l :: G') σ' F' H') (nb : nbL G' = true) : GT K W HB B a c l G' σ' F' H' :=
  ⟨g', nb, let ⟨as, h1, h2⟩ := g.t; ⟨as, h1.mono sF old, h2⟩, g.out, g.new, fun b o w h => by
    obtain ⟨n, u, hu⟩ := g.pin b o w h
    exact ⟨by rw [old _ _ hu]; exact n, u, hu⟩⟩
theorem GT.ext {W : Addr → Prop} {HB : Hp} {a : Addr} {c : String} {l : List (String × D)} {G : List Sl} {σ : St} (x : Ext F H F' H') (g : GT K W HB B a c l G σ F H) : GT K W HB B a c l G σ F' H' :=
  g.moreF x.sF (fun b o h => x.old _ _ (g.g.sB _ _ h)) (g.g.ext x) g.nb
@[simp] def D.fz : D → D
  | .ow l => .dct l
  | d => d
theorem Rp.fz {v : V} {d : D} (r : Rp K F v d) : d.fz = d := by
  cases r <;> rfl
theorem GOk.rebase {G : List Sl} {σ : St} {b a : Addr} {c : String} {l l' : List (String × D)} {o u : HO} (g : GOk K B (.tre a c l :: G) σ F H) (nb : nbL G = true) (hb : B b = some u) (r : ∃ as, TreOk K F (upd B b o) a c l' as) : GOk K (upd B b o) (.tre a c l' :: G) σ F (upd H b o) where
  sB := fun x z h => by
    by_cases e : x = b
    · subst e
      rw [upd_same] at h ⊢
      exact h
    · rw [upd_ne e] at h ⊢
      exact g.sB _ _ h
  len := g.len
  ok := fun i s hs => by
    cases i with
    | zero =>
      cases hs
      obtain ⟨v, k1, k2⟩ := g.ok 0 _ rfl
      exact ⟨v, k1, k2.1, fun x z h => by
        by_cases e : x = b
        · subst e
          rw [upd_same] at h ⊢
          exact h
        · rw [upd_ne e] at h ⊢
          exact g.sB _ _ h, r⟩
    | succ i =>
      obtain ⟨v, k1, k2⟩ := g.ok (i + 1) s hs
      have hs' : G[i]? = some s := hs
      have nbs := List.all_eq_true.mp nb s (List.mem_of_getElem? hs')
      have ne : ∀ x, B x = none → x ≠ b := fun x hx z => by
        rw [z, hb] at hx
        cases hx
      refine ⟨v, k1, ?_⟩
      cases s with
      | un => exact k2
      | any => trivial
      | tre b _ _ => cases nbs
      | val d => exact k2
      | exn _ _ _ => exact k2
      | bor d => cases nbs
      | own l =>
        obtain ⟨a, xs, e, e2, n, hn, r⟩ := k2
        exact ⟨a, xs, e, by rw [upd_ne (ne a hn)]; exact e2, n, by rw [upd_ne (ne a hn)]; exact hn, r⟩
      | ownd l =>
        obtain ⟨a, e, d, n, hn⟩ := k2
        exact ⟨a, e, by rw [upd_ne (ne a hn)]; exact d, n, by rw [upd_ne (ne a hn)]; exact hn⟩
      | ownu l =>
        obtain ⟨a, e, d, n, hn⟩ := k2
        exact ⟨a, e, by rw [upd_ne (ne a hn)]; exact d, n, by rw [upd_ne (ne a hn)]; exact hn⟩
      | obj a c l =>
        obtain ⟨dx, fs, e, h1, n, hn, h2, r⟩ := k2
        exact ⟨dx, fs, e, by rw [upd_ne (ne a hn)]; exact h1, n, by rw [upd_ne (ne a hn)]; exact hn, h2, r⟩
  dis := fun i j s t d hi hj o1 o2 e1 e2 => by
    cases i with
    | zero => cases hi; cases o1
    | succ i => cases j with
      | zero => cases hj; cases o2
      | succ j => exact g.dis (i + 1) (j + 1) s t d hi hj o1 o2 e1 e2
theorem GOk.base {B' : Hp} {G : List Sl} {σ : St} {a : Addr} {c : String} {l l' : List (String × D)} (g : GOk K B (.tre a c l :: G) σ F H) (nb : nbL G = true) (sB : Same B' H') (sF : Same F F') (hH : ∀ x u, H x = some u → B x = none → H' x = some u ∧ B' x = none ∧ F' x = F x) (r : ∃ as, TreOk K F' B' a c l' as) : GOk K B' (.tre a c l' :: G) σ F' H' where
  sB := sB
  len := g.len
  ok := fun i s hs => by
    cases i with
    | zero =>
      cases hs
      obtain ⟨v, k1, k2⟩ := g.ok 0 _ rfl
      exact ⟨v, k1, k2.1, sB, r⟩
    | succ i =>
      obtain ⟨v, k1, k2⟩ := g.ok (i + 1) s hs
      have hs' : G[i]? = some s := hs
      have nbs := List.all_eq_true.mp nb s (List.mem_of_getElem? hs')
      refine ⟨v, k1, ?_⟩
      cases s with
      | un => exact k2
      | any => trivial
      | exn _ _ _ => exact ⟨k2.1, k2.2.mono sF⟩
      | tre b _ _ => cases nbs
      | val d => exact ⟨k2.choose, k2.choose_spec.1, k2.choose_spec.2.mono sF⟩
      | bor d => cases nbs
      | own l =>
        obtain ⟨a, xs, e, e2, n, hn, r⟩ := k2
        obtain ⟨q1, q2, q3⟩ := hH _ _ e2 hn
        exact ⟨a, xs, e, q1, by rw [q3]; exact n, q2, r.mono sF⟩
      | ownd l =>
        obtain ⟨a, e, d, n, hn⟩ := k2
        obtain ⟨u, hu⟩ := d.some
        obtain ⟨q1, q2, q3⟩ := hH _ _ hu hn
        exact ⟨a, e, by rw [q1, ← hu]; exact d.mono sF, by rw [q3]; exact n, q2⟩
      | ownu l =>
        obtain ⟨a, e, d, n, hn⟩ := k2
        obtain ⟨u, hu⟩ := d.some
        obtain ⟨q1, q2, q3⟩ := hH _ _ hu hn
        exact ⟨a, e, by rw [q1, ← hu]; exact d.mono sF, by rw [q3]; exact n, q2⟩
      | obj a c l =>
        obtain ⟨dx, fs, e, h1, n, hn, h2, r⟩ := k2
        obtain ⟨q1, q2, q3⟩ := hH _ _ h1 hn
        exact ⟨dx, fs, e, q1, by rw [q3]; exact n, q2, h2, r.mono sF⟩
  dis := fun i j s t d hi hj o1 o2 e1 e2 => by
    cases i with
    | zero => cases hi; cases o1
    | succ i => cases j with
      | zero => cases hj; cases o2
      | succ j => exact g.dis (i + 1) (j + 1) s t d hi hj o1 o2 e1 e2
theorem Ext.rebase {B0 : Hp} {b : Addr} {o u : HO} (x : Ext B0 B F H) (fb : F b = none) (hb : B b = some u) : Ext B0 (upd B b o) F (upd H b o) where
  sF := x.sF
  sH := fun c z h => by
    by_cases e : c = b
    · subst e
      rw [upd_same] at h ⊢
      exact h
    · rw [upd_ne e] at h ⊢
      exact x.sH _ _ h
  sFH := fun c z h => by
    rw [upd_ne (ne_of_none h fb)]
    exact x.sFH _ _ h
  old := fun c z h => by
    by_cases e : c = b
    · subst e
      exact x.old _ _ hb
    · rw [upd_ne e] at h
      exact x.old _ _ h
theorem GT.wr {W : Addr → Prop} {HB : Hp} {a b : Addr} {c : String} {l l' : List (String × D)} {G : List Sl} {σ : St} {o u : HO} (g : GT K W HB B a c l G σ F H) (hb : B b = some u) (wb : W b) (t : ∃ as, TreOk K F (upd B b o) a c l' as ∧ ∀ p ∈ as, W p) : GT K W HB (upd B b o) a c l' G σ F (upd H b o) where
  g := let ⟨_, t1, _⟩ := t; g.g.rebase g.nb hb ⟨_, t1⟩
  nb := g.nb
  t := let ⟨as, t1, t2⟩ := t; let ⟨_, _, w, _⟩ := g.t; ⟨as, t1, w, t2⟩
  out := fun x z nw h => by
    have ne : x ≠ b := fun e => nw (by rw [e]; exact wb)
    rw [upd_ne ne]
    exact g.out _ _ nw h
  new := g.new
  pin := fun x z w h => by
    obtain ⟨n, v, hv⟩ := g.pin x z w h
    refine ⟨n, ?_⟩
    by_cases e : x = b
    · subst e
      exact ⟨o, upd_same⟩
    · exact ⟨v, by rw [upd_ne e]; exact hv⟩
theorem GT.fresh {W : Addr → Prop} {HB : Hp} {a p : Addr} {c : String} {l : List (String × D)} {G : List Sl} {σ : St} (g : GT K W HB B a c l G σ F H) (hp : H p = none) : W p := by
  apply Classical.byContradiction
  intro nw
  cases e : HB p with
  | none => exact nw (g.new p e)
  | some o =>
    have := g.g.sB _ _ (g.out p o nw e)
    rw [hp] at this
    cases this
theorem FvL.upd {f : String} {kl : List (D × D)} : ∀ {fs : List (Str × V)} {l : List (String × D)} {as : List Addr}, fs.map (·.1) = l.map (fun q => Str.ofString q.1) → FvL K F B (fs.map (·.2)) (l.map (·.2)) as → as.Nodup → l.lookup f = some (.ow kl) →
    ∃ p, fs.lookup (Str.ofString f) = some (.ref p) ∧ p ∈ as ∧ F p = none ∧ DctAt K F (B p) kl ∧ ∀ o kl', DctAt K F (some o) kl' → fs.map (·.1) = (putD f (.ow kl') l).map (fun q => Str.ofString q.1) ∧ FvL K F (upd B p o) (fs.map (·.2)) ((putD f (.ow kl') l).map (·.2)) as
  | [], [], _, _, _, _, h => by simp at h
  | [], _ :: _, _, h, _, _, _ => by simp at h
  | _ :: _, [], _, h, _, _, _ => by simp at h
  | (g, x) :: fs, (g2, y) :: l, as, hn, q, nd, hl => by
    have h1 : g = Str.ofString g2 ∧ fs.map (·.1) = l.map (fun q => Str.ofString q.1) := by simpa using hn
    obtain ⟨rfl, h2⟩ := h1
    have q' : FvL K F B (x :: fs.map (·.2)) (y :: l.map (·.2)) as := q
    by_cases e : f = g2
    · subst e
      have hy : y = .ow kl := by simpa [List.lookup] using hl
      subst hy
      cases q' with
      | frz r q => cases r
      | dk a1 a2 q2 =>
        rename_i p as2
        refine ⟨p, by simp [List.lookup], List.mem_cons_self .., a1, a2, fun o kl' hd => ?_⟩
        have e2 : putD f (.ow kl') ((f, .ow kl) :: l) = (f, .ow kl') :: l := if_pos rfl
        rw [e2]
        refine ⟨by simp [h2], ?_⟩
        refine FvL.dk a1 (by rw [upd_same]; exact hd) (FvL.same (fun b hb => upd_ne fun z => ?_) q2)
        subst z
        exact (List.nodup_cons.mp nd).1 hb
    · have e1 : (f == g2) = false := beq_eq_false_iff_ne.mpr e
      have e2 : (Str.ofString f == Str.ofString g2) = false := beq_eq_false_iff_ne.mpr fun z => e (ofString_inj z)
      have a1 : List.lookup f ((g2, y) :: l) = l.lookup f := by simp [List.lookup, e1]
      have a2 : List.lookup (Str.ofString f) ((Str.ofString g2, x) :: fs) = fs.lookup (Str.ofString f) := by simp [List.lookup, e2]
      rw [a1] at hl
      rw [a2]
      have e3 : ∀ d, putD f d ((g2, y) :: l) = (g2, y) :: putD f d l := fun d => if_neg (Ne.symm e)
      cases q' with
      | frz r q2 =>
        obtain ⟨p, i1, i2, i3, i4, i5⟩ := FvL.upd h2 q2 nd hl
        refine ⟨p, i1, i2, i3, i4, fun o kl' hd => ?_⟩
        obtain ⟨j1, j2⟩ := i5 o kl' hd
        rw [e3]
        exact ⟨by simp [j1], .frz r j2⟩
      | dk b1 b2 q2 =>
        obtain ⟨nd1, nd2⟩ := List.nodup_cons.mp nd
        obtain ⟨p, i1, i2, i3, i4, i5⟩ := FvL.upd h2 q2 nd2 hl
        refine ⟨p, i1, List.mem_cons_of_mem _ i2, i3, i4, fun o kl' hd => ?_⟩
        obtain ⟨j1, j2⟩ := i5 o kl' hd
        rw [e3]
        refine ⟨by simp [j1], .dk b1 ?_ j2⟩
        rw [upd_ne fun z => nd1 (by rw [z]; exact i2)]
        exact b2
end
end DL

set_option Elab.async false
set_option linter.all false
set_option maxRecDepth 100000
set_option maxHeartbeats 4000000
namespace DL
open PySem PySem.Spec L2
inductive OcT where
  | nx (l : List (String × D)) (G : List Sl)
  | ct (l : List (String × D)) (G : List Sl)
  | bk (l : List (String × D)) (G : List Sl)
  | no
def OutT (W : Addr → Prop) (HB B F : Hp) : Prop := (∀ b o, ¬ W b → HB b = some o → B b = some o) ∧ ∀ b o, W b → HB b = some o → F b = none
section
variable {K : PySem.W.Frag} {E : XK} {W : Addr → Prop} {HB B0 B F F' H H' : Hp} {a : Addr} {c : String}
def OcTP (K : PySem.W.Frag) (a : Addr) (c : String) (W : Addr → Prop) (HB B0 F : Hp) (D : Ends) : OcT → Prop
  | .nx l G => ∀ B σ F' H', Same F F' → Ext B0 B F' H' → GT K W HB B a c l G σ F' H' → D.nx σ H'
  | .ct l G => ∀ B σ F' H', Same F F' → Ext B0 B F' H' → GT K W HB B a c l G σ F' H' → D.ct σ H'
  | .bk l G => ∀ B σ F' H', Same F F' → Ext B0 B F' H' → GT K W HB B a c l G σ F' H' → D.bk σ H'
  | .no => False
def WpT {α : Type} (K : PySem.W.Frag) (E : XK) (a : Addr) (c : String) (W : Addr → Prop) (HB B0 : Hp) (post : α → OcT) (m : M α) (F : Hp) (D : Ends) : Prop :=
  match m with
  | .ok x => OcTP K a c W HB B0 F D (post x)
  | .error .stuck => False
  | .error (.exc x) => ∀ B F' H' c' d, Same F F' → Ext B0 B F' H' → OutT W HB B F' → RpX K F' H' c' d x → E c' d H'
theorem GT.outT {l : List (String × D)} {G : List Sl} {σ : St} (g : GT K W HB B a c l G σ F H) : OutT W HB B F := ⟨g.out, fun b o w h => (g.pin b o w h).1⟩
theorem OcTP.mono {D : Ends} {o : OcT} (s : Same F F') (h : OcTP K a c W HB B0 F D o) : OcTP K a c W HB B0 F' D o := by
  cases o with
  | nx l G => exact fun B σ F2 H2 s2 => h B σ F2 H2 (s.trans s2)
  | ct l G => exact fun B σ F2 H2 s2 => h B σ F2 H2 (s.trans s2)
  | bk l G => exact fun B σ F2 H2 s2 => h B σ F2 H2 (s.trans s2)
  | no => exact h
theorem WpT.mono {α : Type} {post : α → OcT} {m : M α} {D : Ends} (s : Same F F') (h : WpT K E a c W HB B0 post m F D) : WpT K E a c W HB B0 post m F' D := by
  cases m with
  | ok x => exact OcTP.mono s h
  | error e => cases e with
    | stuck => exact h
    | exc x => exact fun B F2 H2 c d s2 => h B F2 H2 c d (s.trans s2)
theorem WpT.err {α β : Type} {post : α → OcT} {p2 : β → OcT} {e : Er} {D : Ends} (h : WpT K E a c W HB B0 post (.error e) F D) : WpT K E a c W HB B0 p2 (.error e) F D := by
  cases e with
  | stuck => exact h
  | exc x => exact h
theorem WpT.bind {α β : Type} {post : α → OcT} {p1 : β → OcT} {m : M β} {k : β → M α} {D D1 : Ends} (h : WpT K E a c W HB B0 post (m >>= k) F D) (hk : ∀ j, m = .ok j → WpT K E a c W HB B0 post (k j) F D → OcTP K a c W HB B0 F D1 (p1 j)) : WpT K E a c W HB B0 p1 m F D1 := by
  cases m with
  | ok j => exact hk j rfl h
  | error e => cases e with
    | stuck => exact h
    | exc x => exact h
theorem WpT.need {α : Type} {post : α → OcT} {b : Bool} {k : Unit → M α} {D : Ends} (h : WpT K E a c W HB B0 post (need b >>= k) F D) : b = true ∧ WpT K E a c W HB B0 post (k ()) F D := by
  cases b with
  | true => exact ⟨rfl, h⟩
  | false => exact h.elim
theorem WpT.expr {α β γ : Type} {post : α → OcT} {rel : Hp → Hp → γ → β → Prop} {m : M β} {k : β → M α} {l : List (String × D)} {G : List Sl} {σ : St} {D : Ends} {Q : γ → Hp → Prop} (x0 : Ext B0 B F H) (g : GT K W HB B a c l G σ F H) (h : WpT K E a c W HB B0 post (m >>= k) F D)
    (hk : ∀ j F' H' v, Ext F H F' H' → Ext B0 B F' H' → GT K W HB B a c l G σ F' H' → rel F' H' v j → WpT K E a c W HB B0 post (k j) F' D → Q v H') : WpG K E rel m F H Q := by
  cases m with
  | ok j => exact fun F' H' v x r => hk j F' H' v x (x0.trans x) (g.ext x) r (WpT.mono x.sF h)
  | error e => cases e with
    | stuck => exact h
    | exc y => exact fun F' H' c d x r => h B F' H' c d x.sF (x0.trans x) (g.ext x).outT r
end
section
variable {X : Cx} {E : XK} {a : Addr} {c : String} {l : List (String × D)} {G : List Sl} {e e2 k : Expr} {ma mb mc : M D} {ta tb : M Bool} {pos : Pos} {st : Stmt} {rest body : List Stmt}
end
end DL

set_option Elab.async false
set_option linter.all false
set_option maxRecDepth 100000
set_option maxHeartbeats 4000000
namespace DL
open PySem PySem.Spec L2
section
variable {K : PySem.W.Frag} {F H : Hp}
end
section
variable {X : Cx} {E : St → XK} {G : List Sl} {a : Expr} {ma : M D} {pos : Pos}
end
section
variable {X : Cx} {E : XK} {a : Addr} {c : String} {l : List (String × D)} {G : List Sl} {e k : Expr} {m mk : M D} {pos : Pos}
theorem GT.self {K : PySem.W.Frag} {W : Addr → Prop} {HB B F H : Hp} {σ : St} (g : GT K W HB B a c l G σ F H) : σ[0]? = some (some (.ref a)) := by
  obtain ⟨o, h1, h2⟩ := g.g.ok 0 _ rfl
  rw [h1, h2.1]
@[simp] abbrev mFld (f : String) (l : List (String × D)) (m : M D) : M (List (String × D)) := m >>= fun d => need (decide (l.length < 1000)) >>= fun _ => .ok (putD f d l)
@[simp] abbrev mFldD (f : String) (l : List (String × D)) : M (List (String × D)) := need (decide (l.length < 1000)) >>= fun _ => .ok (putD f (.ow []) l)
def mOw (f : String) (l : List (String × D)) (k : List (D × D) → M (List (D × D))) : M (List (String × D)) := match l.lookup f with
  | some (.ow kl) => k kl >>= fun kl' => .ok (putD f (.ow kl') l)
  | _ => stuck
theorem GT.dict {K : PySem.W.Frag} {W : Addr → Prop} {HB B B0 F H : Hp} {σ : St} {f : String} {kl : List (D × D)} (x0 : Ext B0 B F H) (g : GT K W HB B a c l G σ F H) (hl : l.lookup f = some (.ow kl)) : ∃ dx fs p, H a = some (.ins (He.ga K (Str.ofString c)) dx fs) ∧ fs.lookup (Str.ofString f) = some (.ref p) ∧ DctAt K F (H p) kl ∧
    ∀ o kl', DctAt K F (some o) kl' → ∃ B', Ext B0 B' F (upd H p o) ∧ GT K W HB B' a c (putD f (.ow kl') l) G σ F (upd H p o) := by
  obtain ⟨as, t1, w1, t2⟩ := g.t
  obtain ⟨dx, fs, h1, h2, h3⟩ := t1.at_
  obtain ⟨p, i1, i2, i3, i4, i5⟩ := FvL.upd h2 h3 t1.nd hl
  obtain ⟨u, hu⟩ := i4.some
  refine ⟨dx, fs, p, g.g.sB _ _ h1, i1, ?_, fun o kl' hd => ⟨upd B p o, x0.rebase i3 hu, g.wr hu (t2 p i2) ⟨as, ⟨⟨dx, fs, ?_, (i5 o kl' hd).1, (i5 o kl' hd).2⟩, t1.na, t1.nd⟩, t2⟩⟩⟩
  · rw [g.g.sB _ _ hu, ← hu]
    exact i4
  · rw [upd_ne (Ne.symm (t1.ne p i2))]
    exact h1
@[simp] abbrev mPutT (f : String) (l : List (String × D)) (me mk : M D) : M (List (String × D)) := me >>= fun d => mOw f l fun kl => mk >>= fun k => need (k.isKey && decide (kl.length < sizeLine)) >>= fun _ => .ok (putDk kl k d)
theorem WpT.ow {α : Type} {K : PySem.W.Frag} {E : XK} {W : Addr → Prop} {HB B0 F : Hp} {post : α → OcT} {f : String} {g : List (D × D) → M (List (D × D))} {k : List (String × D) → M α} {Dn : Ends} (h : WpT K E a c W HB B0 post (mOw f l g >>= k) F Dn) : ∃ kl, l.lookup f = some (.ow kl) ∧ WpT K E a c W HB B0 post (g kl >>= fun kl' => k (putD f (.ow kl') l)) F Dn := by
  unfold mOw at h
  split at h
  · rename_i kl e
    refine ⟨kl, e, ?_⟩
    cases eg : g kl with
    | ok z => rw [eg] at h; exact h
    | error z => rw [eg] at h; exact h
  · exact h.elim
@[simp] abbrev mPopT (f : String) (l : List (String × D)) (mk : M D) : M (List (String × D)) := mOw f l fun kl => mk >>= fun k => need (k.isKey && (D.look kl k).isSome) >>= fun _ => .ok (dropDk kl k)
end
end DL

set_option Elab.async false
set_option linter.all false
set_option maxRecDepth 100000
set_option maxHeartbeats 4000000
namespace DL
open PySem PySem.Spec L2
section
variable {P : Program} {w : World} {K : PySem.W.Frag} {mg : Str → Option Value} {base : Heap} {x qual : Str} {params : Arguments} {body : List Stmt} {scope : Scope} {dvs : List V} {kws : List (Str × V)} {f : Addr} {fd : FuncData}
end
end DL

set_option Elab.async false
set_option linter.all false
set_option maxRecDepth 100000
set_option maxHeartbeats 4000000
namespace DL
open PySem PySem.Spec L2
section
variable {X : Cx} {E : XK} {a : Addr} {c : String} {l : List (String × D)} {G : List Sl} {e : Expr} {pos : Pos} {rest : List Stmt}
@[simp] abbrev mCallT (mn : String) (l : List (String × D)) (m : List (String × D) → List D → M (List (String × D))) (ms : M (List D)) : M (List (String × D)) := need (l.lookup mn).isNone >>= fun _ => ms >>= fun ds => m l ds
end
end DL

set_option Elab.async false
set_option linter.all false
set_option maxRecDepth 100000
set_option maxHeartbeats 4000000
namespace DL
open PySem PySem.Spec L2
section
variable {K : PySem.W.Frag} {F H B : Hp} {G : List Sl} {σ : St}
end
section
variable {X : Cx} {E : St → XK} {a : Addr} {c : String} {l : List (String × D)} {G : List Sl} {e : Expr} {pos : Pos}
end
end DL

set_option Elab.async false
set_option linter.all false
set_option maxRecDepth 100000
set_option maxHeartbeats 4000000
section
open PySem PySem.SeqAt PyProof.Rows PySem.W
namespace PySem.W
section
variable {prog : Program} {w : World} {A : Around} {E : Value → Shared → Prop} {s : Shared}
end
end PySem.W
end
namespace DL
open PySem PySem.Spec L2
mutual
theorem D.py_inj : ∀ {n : Nat} {a b : D}, a.shp n = true → b.shp n = true → a.py = b.py → a = b
  | n, a, b, ha, hb, e => by
    rcases D.shp_cases ha with h1 | ⟨m, l, rfl, hd, hl⟩
    · rcases D.shp_cases hb with h2 | ⟨m2, l2, _, hd2, _⟩
      · rcases D.leaf_cases h1 with rfl | ⟨x, rfl⟩ | ⟨x, rfl⟩ | ⟨x, rfl⟩ <;> rcases D.leaf_cases h2 with rfl | ⟨y, rfl⟩ | ⟨y, rfl⟩ | ⟨y, rfl⟩ <;> simp_all [D.py]
      · rcases D.leaf_cases h1 with rfl | ⟨x, rfl⟩ | ⟨x, rfl⟩ | ⟨x, rfl⟩ <;> rcases hd2 with rfl | rfl <;> simp [D.py] at e
    · rcases D.shp_cases hb with h2 | ⟨m2, l2, e2, hd2, hl2⟩
      · rcases D.leaf_cases h2 with rfl | ⟨x, rfl⟩ | ⟨x, rfl⟩ | ⟨x, rfl⟩ <;> rcases hd with rfl | rfl <;> simp [D.py] at e
      · have e2 := Nat.succ.inj e2
        subst e2
        rcases hd with rfl | rfl <;> rcases hd2 with rfl | rfl <;> simp only [D.py] at e
        · injection e with e
          rw [D.pyL_inj hl hl2 e]
        · cases e
        · cases e
        · injection e with e
          rw [D.pyL_inj hl hl2 e]
theorem D.pyL_inj : ∀ {n : Nat} {a b : List D}, a.all (D.shp n) = true → b.all (D.shp n) = true → D.pyL a = D.pyL b → a = b
  | n, [], [], _, _, _ => rfl
  | n, [], _ :: _, _, _, e => by simp [D.pyL] at e
  | n, _ :: _, [], _, _, e => by simp [D.pyL] at e
  | n, x :: a, y :: b, ha, hb, e => by
    simp only [D.pyL] at e
    injection e with e1 e2
    rw [List.all_cons, Bool.and_eq_true] at ha hb
    rw [D.py_inj ha.1 hb.1 e1, D.pyL_inj ha.2 hb.2 e2]
end
end DL

set_option Elab.async false
set_option linter.all false
set_option maxRecDepth 100000
set_option maxHeartbeats 4000000
namespace DL
open PySem PySem.Spec L2
@[simp] def a0 {α : Type} (f : M α) : List D → M α
  | [] => f
  | _ => stuck
section
variable {X : Cx} {E : XK} {a : Addr} {c : String} {l : List (String × D)} {G : List Sl} {e : Expr} {pos : Pos} {st : Stmt} {rest body : List Stmt}
end
end DL

set_option Elab.async false
set_option linter.all false
set_option maxRecDepth 100000
set_option maxHeartbeats 4000000
namespace DL
open PySem PySem.Spec L2
@[simp] abbrev mDisp1 (mk mv : M D) : M (List (D × D)) := mk >>= fun k => mv >>= fun v => need k.isKey >>= fun _ => .ok [(k, v)]
section
variable {X : Cx} {E : XK} {G : List Sl} {k v : Expr} {mk mv : M D} {pos : Pos}
end
end DL

set_option Elab.async false
set_option linter.all false
set_option maxRecDepth 100000
set_option maxHeartbeats 4000000
namespace DL
open PySem PySem.Spec L2
section
variable {X : Cx} {E : St → XK} {G : List Sl} {a b e z : Expr} {ma mb mz : M D} {pos : Pos}
@[simp] abbrev mRevL (m : M D) : M (List D) := m >>= fun x => match x with | .lst l => .ok l.reverse | _ => stuck
end
end DL
section
open PySem PySem.SeqAt PyProof.Rows PySem.W
namespace PySem.W
section
variable {prog : Program} {w : World} {A : Around} {E : Value → Shared → Prop} {s : Shared}
end
end PySem.W
end
namespace DL
open PySem PySem.Spec L2
section
variable {X : Cx} {E : St → XK} {G : List Sl} {a b e z : Expr} {ma mb mz : M D} {pos : Pos}
end
end DL

set_option Elab.async false
set_option linter.all false
set_option maxRecDepth 100000
set_option maxHeartbeats 4000000
namespace DL
open PySem PySem.Spec L2

structure SupAt (P : Program) (K : PySem.W.Frag) (C fI : Addr) (name qual : Str) (params : Arguments) (body : List Stmt) (scope : Scope) : Prop where
  ex : ∃ (kV doc pm ct oc ccl cl : Value) (an od cdd cld : Option Addr) (osl ccs csl : Array (Option Value)) (cda cc : Addr) (vs : Array Value) (file : Str) (tf : Tok),
    K.lookup fI = some ⟨oc, od, .func (PySem.W.ksFn name qual params body scope .none kV doc pm an (.ref cda) ct cc), osl⟩ ∧ PySem.W.codeIn K (.ref cda) qual = true ∧ K.lookup cda = some ⟨ccl, cdd, .fields vs, ccs⟩ ∧ vs[2]? = some (.str file tf) ∧
      ((P.main.file : Str) == file) = true ∧ K.lookup cc = some ⟨cl, cld, .cell (some (.ref C)), csl⟩
  htop : (P.main.scope.names.lookup ("super" : Str)).isSome = false
  sup : PySem.W.ks_superIn K C C "__init__" = some (some (.builtin "ValueError.__init__"))
  sub : PySem.W.mroIn K C (.ref C) = some true
  ve : PySem.W.subIn K (.ref C) (.type "ValueError") = some true
  sta : PySem.W.nsIn K cStatics "thirdparty.any" = some none
  ini : PySem.W.excInitIn K C He.veBase "ValueError.__new__" = true
  gs : PySem.W.nsIn K mainGlobals "super" = some none
structure SupSt (slf fld : Str) (scope : Scope) : Prop where
  hk : scope.kind = .function
  hco : scope.isCoroutine = false
  hgen : scope.isGenerator = false
  s1 : scope.names.lookup ("super" : Str) = some .globalImplicit
  s2 : scope.names.lookup ("__class__" : Str) = some .free
  s3 : scope.names.lookup slf = some .local
  s4 : scope.names.lookup fld = some .local
  s5 : ∀ x ∈ scope.names, x.2 ≠ .cell
  ne : (slf == fld) = false
  nd1 : (slf == ("__debug__" : Str)) = false
  nd2 : (fld == ("__debug__" : Str)) = false

section
open PySem.W PySem.Calls PyProof.Rows
variable {P : Program} {w : World} {A : Around} {K : Frag} {C fI a t0 : Addr} {name qual self fld txt : Str} {params : Arguments} {body : List Stmt} {scope : Scope} {a1 a2 : Arg} {p0 p1 p2 p3 p4 p5 q1 q2 q3 q4 : Pos} {ck : Nat} {u : Value} {h₀ hp : Heap} {g : Array GenState} {d : Drawn} {t : Nat} {os : OsState} {mg : Str → Option Value} {R : Result → Shared → Prop} {pl : Env → Sem Bool}
end
end DL

set_option Elab.async false
set_option linter.all false
set_option maxRecDepth 100000
set_option maxHeartbeats 4000000
namespace DL
open PySem PySem.Spec L2
section
open PySem.W PySem.Calls PyProof.Rows
variable {X : Cx} {e : Expr} {te : TE}
variable {C fI : Addr} {x name qual self fld txt : Str} {params : Arguments} {body : List Stmt} {scope : Scope} {a1 : Arg} {p pos p0 p1 p2 p3 p4 p5 q1 q2 q3 q4 : Pos} {ck : Nat} {pl : Env → Sem Bool}
structure SupC (P : Program) (K : PySem.W.Frag) (C fI : Addr) (fld : Str) : Prop where
  run : ∀ {w : World} {A : Around} {mg : Str → Option Value} {a t0 : Addr} {u : Value} {h₀ hp : Heap} {g : Array GenState} {d : Drawn} {t : Nat} {os : OsState} {R : Result → Shared → Prop},
    K.In h₀ → (∀ b o, h₀.get? b = some o → hp.get? b = some o) → h₀.get? a = none → L2.Mod K mg h₀ → A.depth < recursionLimit → hp.get? a = some (HandSPX.excO C t0) →
    (∀ h' t' t1 dx, (∀ b o, b ≠ a → hp.get? b = some o → h'.get? b = some o) → hp.objs.size ≤ dx → dx ≠ a →
      h'.get? a = some ({ cls := .ref C, dict := some dx, data := .fields #[.ref t1, .none, .none, .none, .bool false, .none] } : Obj) → h'.Ns1 dx (fun y => if y = fld then some u else none) → R (.ok (.ret .none)) ⟨h', g, d, t', os⟩) →
    codeAny (model P w) A (.call (.ref fI) ⟨[.ref a, u], []⟩) R ⟨hp, g, d, t, os⟩
  o : OexC K C
  iC : findIn K (.ref C) "__init__" = some (some (.ref fI))
  tI : typeIn K (.ref fI) = some (.type "function")
end
end DL

set_option Elab.async false
set_option linter.all false
set_option maxRecDepth 100000
set_option maxHeartbeats 4000000
namespace DL
open PySem PySem.Spec L2 PyProof.Rows
abbrev Hdl : Type := Value × Option Nat × (Addr → Value → Option Addr → TS)
inductive HdsG (X : Cx) : List ExceptHandler → List Hdl → Prop
  | nil : HdsG X [] []
  | cons {x : Str} {c : Value} {ts : Addr → Value → Option Addr → TS} {b₀ : Stmt} {suite : List Stmt} {np pos' : Pos} {hds : List ExceptHandler} {l : List Hdl} (hc : Names X x c)
      (hsu : ∀ (a : Addr) (oe : Obj) (cls : Value) (d : Option Addr) (pn : List (Addr × Obj)), Zc cls d oe → (∃ vs, oe.data = .fields vs) → PSs (X.suite a ((a, oe) :: pn)) (b₀ :: suite) (ts a cls d)) (r : HdsG X hds l) :
      HdsG X (.ExceptHandler (some (.Name x np)) none (b₀ :: suite) pos' :: hds) ((c, none, ts) :: l)
  | consA {x n : Str} {i : Nat} {c : Value} {ts : Addr → Value → Option Addr → TS} {b₀ : Stmt} {suite : List Stmt} {np pos' : Pos} {hds : List ExceptHandler} {l : List Hdl} (hc : Names X x c) (hi : X.N[i]? = some n) (hln : X.env.kindOf n = some .local)
      (hsu : ∀ (a : Addr) (oe : Obj) (cls : Value) (d : Option Addr) (pn : List (Addr × Obj)), Zc cls d oe → (∃ vs, oe.data = .fields vs) → PSs (X.suite a ((a, oe) :: pn)) (b₀ :: suite) (ts a cls d)) (r : HdsG X hds l) :
      HdsG X (.ExceptHandler (some (.Name x np)) (some n) (b₀ :: suite) pos' :: hds) ((c, some i, ts) :: l)
section
variable {X : Cx} {body : List Stmt} {h₀ : ExceptHandler} {hds : List ExceptHandler} {l : List Hdl} {pos : Pos} {tb : WX → TS} {Wout : WX}
end
end DL

set_option Elab.async false
set_option linter.all false
set_option maxRecDepth 100000
set_option maxHeartbeats 4000000
namespace DL
open PySem PySem.Spec L2
structure XC (K : PySem.W.Frag) (Fs : List String) (c : String) : Prop where
  e : ExcC K (He.ga K (Str.ofString c))
  x : XfC K (He.ga K (Str.ofString c))
  no : ∀ f ∈ Fs, PySem.W.findIn K (.ref (He.ga K (Str.ofString c))) (Str.ofString f) = some none
def cvD (K : PySem.W.Frag) : Option String → Value
  | some c => .ref (He.ga K (Str.ofString c))
  | none => .type "ValueError"
structure XP (K : PySem.W.Frag) (U : List String) (t : Option String) (cs : List String) : Prop where
  m : ∀ c ∈ U, PySem.W.exmOne K (.ref (He.ga K (Str.ofString c))) (cvD K t) = some (cs.contains c)
  i : ∀ c ∈ U, PySem.W.kitOne K (.ref (He.ga K (Str.ofString c))) (cvD K t) = some (cs.contains c)
@[simp] abbrev mRs {α : Type} (m : M Empty) : M α := m >>= fun d => nomatch d
def Ex.get (x : Ex) (f : String) : M D := match x.args with
  | [(g, v)] => if g = f then .ok v else stuck
  | _ => stuck
section
variable {X : Cx} {E : XK} {G : List Sl} {a b c e : Expr} {ma mb mc : M D} {pos : Pos} {st : Stmt} {rest body : List Stmt} {F H : Hp}
inductive Wk : List Sl → List Sl → Prop
  | nil : Wk [] []
  | any {s : Sl} {G G' : List Sl} : Wk G G' → Wk (s :: G) (.any :: G')
  | same {s : Sl} {G G' : List Sl} : Wk G G' → Wk (s :: G) (s :: G')
theorem Wk.len : ∀ {G G' : List Sl}, Wk G G' → G.length = G'.length
  | _, _, .nil => rfl
  | _, _, .any h => congrArg Nat.succ h.len
  | _, _, .same h => congrArg Nat.succ h.len
theorem Wk.at : ∀ {G G' : List Sl}, Wk G G' → ∀ (i : Nat) (s : Sl), G'[i]? = some s → s = .any ∨ G[i]? = some s
  | _, _, .nil, i, s, h => by simp at h
  | _, _, .any h, 0, s, e => by
    simp at e
    exact .inl e.symm
  | _, _, .any h, i + 1, s, e => by
    have := h.at i s (by simpa using e)
    simpa using this
  | _, _, .same h, 0, s, e => by
    simp at e
    exact .inr (by simpa using e)
  | _, _, .same h, i + 1, s, e => by
    have := h.at i s (by simpa using e)
    simpa using this
theorem GOk.wk {K : PySem.W.Frag} {B : Hp} {σ : St} {G G' : List Sl} (w : Wk G G') (g : GOk K B G σ F H) : GOk K B G' σ F H where
  sB := g.sB
  len := by rw [g.len, w.len]
  ok := fun i s h => by
    rcases w.at i s h with rfl | h'
    · have hi : i < G'.length := (List.getElem?_eq_some_iff.mp h).1
      have hi2 : i < σ.length := by rw [g.len, w.len]; exact hi
      exact ⟨σ[i], List.getElem?_eq_getElem hi2, trivial⟩
    · exact g.ok i s h'
  dis := fun i j s t a h1 h2 o1 o2 e1 e2 => by
    rcases w.at i s h1 with rfl | h1'
    · cases o1
    · rcases w.at j t h2 with rfl | h2'
      · cases o2
      · exact g.dis i j s t a h1' h2' o1 o2 e1 e2
def WpX {α : Type} (K : PySem.W.Frag) (W : WX) (Gt : List Sl) (B0 B : Hp) (post : α → Oc) (m : M α) (F : Hp) (D : Ends) : Prop :=
  match m with
  | .ok x => OcP K B0 B F D (post x)
  | .error .stuck => False
  | .error (.exc x) => ∀ σ F' H' c d, Same F F' → Ext B0 B F' H' → GOk K B Gt σ F' H' → RpX K F' H' c d x → W c d σ H'
section
variable {K : PySem.W.Frag} {W : WX} {Gt : List Sl} {B0 B F' H' : Hp} {σ : St}
theorem WpX.mono {α : Type} {post : α → Oc} {m : M α} {D : Ends} (s : Same F F') (h : WpX K W Gt B0 B post m F D) : WpX K W Gt B0 B post m F' D := by
  cases m with
  | ok x => exact OcP.mono s h
  | error e => cases e with
    | stuck => exact h
    | exc x => exact fun σ F2 H2 c d s2 => h σ F2 H2 c d (s.trans s2)
theorem WpX.bind {α β : Type} {post : α → Oc} {p1 : β → Oc} {m : M β} {k : β → M α} {D D1 : Ends} (h : WpX K W Gt B0 B post (m >>= k) F D) (hk : ∀ j, m = .ok j → WpX K W Gt B0 B post (k j) F D → OcP K B0 B F D1 (p1 j)) : WpX K W Gt B0 B p1 m F D1 := by
  cases m with
  | ok j => exact hk j rfl h
  | error e => cases e with
    | stuck => exact h
    | exc x => exact h
theorem WpX.expr {α β γ : Type} {post : α → Oc} {rel : Hp → Hp → γ → β → Prop} {m : M β} {k : β → M α} {D : Ends} {Q : γ → Hp → Prop} (x0 : Ext B0 B F H) (wk : Wk G Gt) (g : GOk K B G σ F H) (h : WpX K W Gt B0 B post (m >>= k) F D)
    (hk : ∀ j F' H' v, Ext F H F' H' → Ext B0 B F' H' → rel F' H' v j → WpX K W Gt B0 B post (k j) F' D → Q v H') : WpG K (WE W σ) rel m F H Q := by
  cases m with
  | ok j => exact fun F' H' v x r => hk j F' H' v x (x0.trans x) r (WpX.mono x.sF h)
  | error e => cases e with
    | stuck => exact h
    | exc y => exact fun F' H' c d x r => h σ F' H' c d x.sF (x0.trans x) ((g.ext x).wk wk) r
end
variable {W : WX} {Gt : List Sl}
end
end DL

set_option Elab.async false
set_option linter.all false
set_option maxRecDepth 100000
set_option maxHeartbeats 4000000
namespace DL
open PySem PySem.Spec L2
section
open PyProof.Rows
end
section
variable {X : Cx} {E : St → XK} {G : List Sl} {e : Expr} {pos : Pos} {F H : Hp} {i : Nat} {a : Addr} {oe : Obj} {d : Option Addr} {pn : List (Addr × Obj)} {x : Ex} {Fs U : List String}
end

inductive HJ (X : Cx) (U Fs : List String) (Gt : List Sl) : List ExceptHandler → List (List String × (Ex → M D)) → Prop
  | nil : HJ X U Fs Gt [] []
  | cons {t : String} {cs : List String} {h : Ex → M D} {b₀ : Stmt} {suite : List Stmt} {np pos' : Pos} {hds : List ExceptHandler} {l : List (List String × (Ex → M D))} (hc : Names X (Str.ofString t) (.ref (He.ga X.K (Str.ofString t)))) (hp : XP X.K U (some t) cs)
      (hsu : ∀ (x : Ex), x.cls ∈ U → ∀ (a : Addr) (oe : Obj) (d : Option Addr) (pn : List (Addr × Obj)), Zc (.ref (He.ga X.K (Str.ofString x.cls))) d oe → (∃ vs, oe.data = .fields vs) → DB (X.suite a ((a, oe) :: pn)) EN0 Gt (b₀ :: suite) (h x) .rt) (r : HJ X U Fs Gt hds l) :
      HJ X U Fs Gt (.ExceptHandler (some (.Name (Str.ofString t) np)) none (b₀ :: suite) pos' :: hds) ((cs, h) :: l)
  | consA {t : String} {n : Str} {i : Nat} {cs : List String} {h : Ex → M D} {b₀ : Stmt} {suite : List Stmt} {np pos' : Pos} {hds : List ExceptHandler} {l : List (List String × (Ex → M D))} (hc : Names X (Str.ofString t) (.ref (He.ga X.K (Str.ofString t)))) (hp : XP X.K U (some t) cs)
      (hi : X.N[i]? = some n) (hln : X.env.kindOf n = some .local)
      (hsu : ∀ (x : Ex), x.cls ∈ U → ∀ (a : Addr) (oe : Obj) (d : Option Addr) (pn : List (Addr × Obj)), Zc (.ref (He.ga X.K (Str.ofString x.cls))) d oe → (∃ vs, oe.data = .fields vs) → DB (X.suite a ((a, oe) :: pn)) EN0 (Gt.set i (.exn a d x.args)) (b₀ :: suite) (h x) .rt) (r : HJ X U Fs Gt hds l) :
      HJ X U Fs Gt (.ExceptHandler (some (.Name (Str.ofString t) np)) (some n) (b₀ :: suite) pos' :: hds) ((cs, h) :: l)
section
variable {X : Cx} {E : XK} {G Gt : List Sl} {pos : Pos} {U Fs : List String} {body : List Stmt} {h₀ : ExceptHandler} {hds : List ExceptHandler} {hs : List (List String × (Ex → M D))}
end
end DL

set_option Elab.async false
set_option linter.all false
set_option maxRecDepth 100000
set_option maxHeartbeats 4000000
namespace DL
open PySem PySem.Spec L2
abbrev SupV : Type := Option (Str × Str × Arguments × FuncBody × Scope × Addr × List Str × Addr)
def supO (K : PySem.W.Frag) (fI : Addr) : SupV := (K.lookup fI).bind fun o => match o.data with
  | .func f => some (f.name, f.qualname, f.params, f.body, f.scope, f.globals, f.closure.map (·.1), f.builtins)
  | _ => none
def supD (d : He.DefD) : SupV := some (d.name, d.qual, d.params, .stmts d.body, d.scope, mainGlobals, ["__class__"], builtinsNs)
def fileAt (K : PySem.W.Frag) (c : Value) (f0 : Str) : Bool := match c with
  | .ref a => (match K.lookup a with
    | some o => (match o.data with
      | .fields vs => (match (vs[2]? : Option Value) with
        | some (.str f _) => decide (f = f0)
        | _ => false)
      | _ => false)
    | none => false)
  | _ => false
def cellAt (K : PySem.W.Frag) (a C : Addr) : Bool := match K.lookup a with
  | some o => (match o.data with
    | .cell (some (.ref D)) => decide (D = C)
    | _ => false)
  | none => false
def cloAt (K : PySem.W.Frag) (C : Addr) : List (Str × Addr) → Bool
  | [(_, cc)] => cellAt K cc C
  | _ => false
def supX (K : PySem.W.Frag) (f0 q : Str) (C fI : Addr) : Bool := match K.lookup fI with
  | some o => (match o.data with
    | .func f => PySem.W.codeIn K f.code q && (He.dflB K f.defaults [] && (fileAt K f.code f0 && cloAt K C f.closure))
    | _ => false)
  | none => false
def oexB (K : PySem.W.Frag) (C : Addr) : Bool := match K.lookup C with
  | some ⟨.type "type", _, .cls cd, sl⟩ => (match cd.mro, sl.toList with
    | .ref C' :: bm, [_, _, _, _, some (.builtin n), _] => C' == C && n == "ValueError.__new__" && !cd.hasDel && cd.hasDict && HandSPX.refsVE bm
    | _, _ => false)
  | _ => false
def supB (K : PySem.W.Frag) (f0 q : Str) (C fI : Addr) (fld : Str) : Bool := supX K f0 q C fI && (oexB K C && (
  decide (PySem.W.findIn K (.ref C) "__setattr__" = some (some (.builtin "object.__setattr__"))) && (decide (PySem.W.subIn K (.ref C) (.type "BaseException") = some true) && (decide (PySem.W.typeIn K (.ref C) = some (.type "type")) && (PySem.W.keepIn K (.ref C) && (
  decide (PySem.W.findIn K (.ref C) "__init__" = some (some (.ref fI))) && (decide (PySem.W.typeIn K (.ref fI) = some (.type "function")) && (decide (PySem.W.findIn K (.ref C) fld = some none) && (
  decide (PySem.W.ks_superIn K C C "__init__" = some (some (.builtin "ValueError.__init__"))) && (decide (PySem.W.mroIn K C (.ref C) = some true) && (decide (PySem.W.subIn K (.ref C) (.type "ValueError") = some true) && (decide (PySem.W.nsIn K cStatics "thirdparty.any" = some none) && (
  PySem.W.excInitIn K C He.veBase "ValueError.__new__" && decide (PySem.W.nsIn K mainGlobals "super" = some none))))))))))))))
structure PFx (P : Program) (f0 : Str) : Prop where
  file : ((P.main.file : Str) == f0) = true
  top : (P.main.scope.names.lookup ("super" : Str)).isSome = false
section
variable {P : Program} {K : PySem.W.Frag} {C fI : Addr} {f0 self fld txt : Str} {d : He.DefD} {a1 : Arg} {p0 p1 p2 p3 p4 p5 q1 q2 q3 q4 : Pos} {ck : Nat} {pl : Env → Sem Bool}
end
abbrev AlX : Type := AlG × List SupV
structure SupE where
  cls : Str
  fld : Str
  d : He.DefD
def SupE.fI (K : PySem.W.Frag) (s : SupE) : Addr := He.ma K (He.ga K s.cls) "__init__"
def exX (sx : List SupE) (f0 : Str) (ex : PySem.W.Frag → Bool) (K : PySem.W.Frag) : Bool := ex K && sx.all fun s => supB K f0 s.d.qual (He.ga K s.cls) (s.fI K) s.fld
def seenX (fa : List He.Fa) (fn gt : List He.DefD) (sx : List SupE) (f0 : Str) (ex : PySem.W.Frag → Bool) (K : PySem.W.Frag) : AlX := (seen fa fn gt (exX sx f0 ex) K, sx.map fun s => supO K (s.fI K))
def dueX (fn gt : List He.DefD) (sx : List SupE) : AlX := (due fn gt, sx.map fun s => supD s.d)
def SaysX (fa : List He.Fa) (fn gt : List He.DefD) (sx : List SupE) (f0 : Str) (ex : PySem.W.Frag → Bool) (K : PySem.W.Frag) : Prop := seenX fa fn gt sx f0 ex K = dueX fn gt sx
section
variable {fa : List He.Fa} {fn gt : List He.DefD} {sx : List SupE} {f0 : Str} {ex : PySem.W.Frag → Bool} {K : PySem.W.Frag}
theorem SaysX.g (c : SaysX fa fn gt sx f0 ex K) : SaysG fa fn gt (exX sx f0 ex) K := congrArg (fun z : AlX => z.1) c
theorem SaysX.d (c : SaysX fa fn gt sx f0 ex K) : He.SaysD fa fn K := c.g.d
theorem SaysX.more (c : SaysX fa fn gt sx f0 ex K) : ex K = true := (and2 c.g.more).1
theorem SaysX.get (c : SaysX fa fn gt sx f0 ex K) (i : Nat) {d : He.DefD} (h : gt[i]? = some d) : ∃ fd, FunD K d.name d.qual d.params d.body d.scope [] [] (gAd K d.at_) fd := c.g.get i h
theorem SaysX.sup (c : SaysX fa fn gt sx f0 ex K) (i : Nat) {s : SupE} (h : sx[i]? = some s) : supO K (s.fI K) = supD s.d ∧ supB K f0 s.d.qual (He.ga K s.cls) (s.fI K) s.fld = true := by
  have e : (sx.map fun s => supO K (s.fI K)) = sx.map fun s => supD s.d := congrArg (fun z : AlX => z.2) c
  have e2 : (sx.map fun s => supO K (s.fI K))[i]? = (sx.map fun s => supD s.d)[i]? := by rw [e]
  rw [List.getElem?_map, List.getElem?_map, h] at e2
  exact ⟨Option.some.inj e2, List.all_eq_true.mp (and2 c.g.more).2 s (List.mem_of_getElem? h)⟩
end
end DL

set_option Elab.async false
set_option linter.all false
set_option maxRecDepth 100000
set_option maxHeartbeats 4000000
namespace DL
open PySem PySem.Spec L2
section
variable {X : Cx} {E : XK} {G Gt : List Sl} {c e : Expr} {pos : Pos} {st : Stmt} {rest body : List Stmt} {W : WX}
end
end DL

set_option Elab.async false
set_option linter.all false
set_option maxRecDepth 100000
set_option maxHeartbeats 4000000
namespace DL
open PySem PySem.Spec L2
section
variable {X : Cx} {E : XK} {G : List Sl} {a b c e : Expr} {ma mb mc : M D} {pos : Pos} {st : Stmt} {rest body : List Stmt} {F H : Hp}
def setIx (l : List D) (i v : D) : M (List D) := match i with
  | .int k => (match ixN l.length k with | some j => .ok (l.set j v) | none => stuck)
  | _ => stuck
@[simp] abbrev mSetI (l : List D) (me mk : M D) : M (List D) := me >>= fun d => mk >>= fun i => setIx l i d
theorem ds_setI {x : Str} {i : Nat} {l : List D} {p1 p2 : Pos} {me mk : M D} {k : Expr} (hs : G[i]? = some (.own l)) (pv : PE X (.Name x p1) (tVar i)) (h : DE X (cE E) G e me) (hk : DR X (cE E) G k mk)
    (hsw : swapsWithSole [.Subscript (.Name x p1) k p2] e pos.line X.env = pure false) (hw : swappedStores [.Subscript (.Name x p1) k p2] e X.env = pure none) (h1 : (assignEach [.Subscript (.Name x p1) k p2] X.env).map (·.2) = [assign (.Subscript (.Name x p1) k p2) X.env])
    (ha : ∀ v, assign (.Subscript (.Name x p1) k p2) X.env v = (do
      let ov ← holding [v] (eval (.Name x p1) X.env)
      let iv ← holding [v, ov] (eval k X.env)
      standAt p2
      holding [v, ov, iv] (setItem ov iv v)
      release [v, ov, iv] []) := by intro _; rfl) : DS X E G (.Assign [.Subscript (.Name x p1) k p2] e pos) (mSetI l me mk) (fun l' => .nx (G.set i (.own l'))) := by
  obtain ⟨t, pe, w⟩ := h
  obtain ⟨tk, pk, wk⟩ := hk
  refine ⟨_, ps_asg pe (pg_sub pv pk set_list ha) hsw hw h1, fun B0 B σ F H D x0 g q => w B σ F H _ x0.sFH g (WpB.expr (H := H) x0 q fun d F1 H1 v x1 x1' r1 q1 => ?_)⟩
  obtain ⟨o, k1, hs1⟩ := (g.ext x1).ok i _ hs
  obtain ⟨ad, xs, rfl, hd, fa, ba, rl⟩ := hs1
  refine ⟨_, k1, wk B σ F1 H1 _ x1'.sFH (g.ext x1) (WpB.expr (H := H1) x1' q1 fun kd F2 H2 kv x2 x2' r2 q2 => ?_)⟩
  have q2 : WpB X.K E B0 B (fun l' => .nx (G.set i (.own l'))) (setIx l kd d) F2 D := q2
  cases kd with
  | int z =>
    have q2 : WpB X.K E B0 B (fun l' => .nx (G.set i (.own l'))) (match ixN l.length z with | some j => (.ok (l.set j d) : M (List DL.D)) | none => stuck) F2 D := q2
    obtain rfl := r2.int
    cases hj : ixN l.length z with
    | none => rw [hj] at q2; exact q2.elim
    | some j =>
      rw [hj] at q2
      have fa2 : F2 ad = none := by rw [x2.old _ _ hd]; exact fa
      refine ⟨ad, xs, z, j, rfl, rfl, x2.sH _ _ hd, by rw [rl.length]; exact hj, ?_⟩
      have q3 : OcP X.K B0 B F2 D (.nx (G.set i (.own (l.set j d)))) := q2.ok
      exact q3 σ F2 _ (Same.refl _) (x2'.write fa2 ba) (((g.ext x1).ext x2).write hs k1 ((rl.mono x2.sF).set (r1.mono x2.sF) j))
  | _ => exact q2.elim
end
section
variable {X : Cx} {E : St → XK} {G : List Sl} {a b c e : Expr} {ma mb mc : M D} {pos : Pos} {st : Stmt} {rest body : List Stmt} {F H : Hp}
end
section
variable {X : Cx} {G : List Sl} {pos : Pos} {body : List Stmt} {F H : Hp}
end
def zipL : List D → List D → List D
  | a :: l, b :: m => .tup [a, b] :: zipL l m
  | _, _ => []
theorem zipL_get : ∀ (l m : List D) (i : Nat), (zipL l m)[i]? = match l[i]?, m[i]? with | some a, some b => some (.tup [a, b]) | _, _ => none
  | [], _, i => by simp [zipL]
  | a :: l, [], i => by
    simp only [zipL, List.getElem?_nil]
    cases (a :: l)[i]? <;> rfl
  | a :: l, b :: m, 0 => by simp [zipL]
  | a :: l, b :: m, i + 1 => by
    simp only [zipL, List.getElem?_cons_succ]
    exact zipL_get l m i
theorem zipL_len : ∀ (l m : List D), (zipL l m).length = min l.length m.length
  | [], _ => by simp [zipL]
  | a :: l, [] => by simp [zipL]
  | a :: l, b :: m => by
    simp only [zipL, List.length_cons, zipL_len l m]
    omega
section
variable {X : Cx} {E : St → XK} {G : List Sl} {a b : Expr} {pos : Pos} {F H : Hp}
end
end DL

set_option Elab.async false
set_option linter.all false
set_option maxRecDepth 100000
set_option maxHeartbeats 4000000
namespace DL
open PySem PySem.Spec L2
def IsDk (u : HO) (kvs : List (Key × V)) : Prop := u = .dK kvs ∨ ∃ o, u = .frz o (.dK kvs)
def lkF (M : Hp) (a : Addr) (u : HO) : Hp := fun b => if b = a then (match M a with | none => none | some _ => some u) else M b
theorem lk_ne {M : Hp} {a b : Addr} {u : HO} (h : b ≠ a) : lkF M a u b = M b := if_neg h
theorem lk_none {M : Hp} {a : Addr} {u : HO} (h : M a = none) : lkF M a u a = none := by
  unfold lkF
  rw [if_pos rfl, h]
theorem lk_some {M : Hp} {a : Addr} {u x : HO} (h : M a = some x) : lkF M a u a = some u := by
  unfold lkF
  rw [if_pos rfl, h]
section
variable {K : PySem.W.Frag} {F H B : Hp} {a : Addr} {u0 u1 : HO} {kvs : List (Key × V)} (d0 : IsDk u0 kvs) (d1 : IsDk u1 kvs) (hF : ∀ x, F a = some x → x = u0)
include d0 d1 hF
theorem lk_keep {b : Addr} {u : HO} (h : F b = some u) (hu : ¬ IsDk u kvs) : lkF F a u1 b = some u := by
  by_cases e : b = a
  · subst e
    exact absurd (by rw [hF u h]; exact d0) hu
  · rw [lk_ne e]
    exact h
theorem lk_rd {b : Addr} {kvs' : List (Key × V)} (h : Rd F b (.dK kvs')) : Rd (lkF F a u1) b (.dK kvs') := by
  by_cases e : b = a
  · subst e
    have key : ∀ x, F b = some x → IsDk x kvs' → Rd (lkF F b u1) b (.dK kvs') := fun x hx hd => by
      have e0 := hF x hx
      have ek : kvs' = kvs := by
        rw [e0] at hd
        rcases d0 with d0 | ⟨o, d0⟩ <;> rcases hd with hd | ⟨o', hd⟩ <;> rw [d0] at hd <;> cases hd <;> rfl
      rw [ek]
      rcases d1 with d1 | ⟨o, d1⟩
      · exact .inl (by rw [lk_some hx, d1])
      · exact .inr ⟨o, by rw [lk_some hx, d1]⟩
    rcases h with h | ⟨o, h⟩
    · exact key _ h (.inl rfl)
    · exact key _ h (.inr ⟨o, rfl⟩)
  · rcases h with h | ⟨o, h⟩
    · exact .inl (by rw [lk_ne e]; exact h)
    · exact .inr ⟨o, by rw [lk_ne e]; exact h⟩
theorem lk_seqL {b : Addr} {xs : List V} (h : SqL K F b xs) : SqL K (lkF F a u1) b xs := by
  rcases h with (h | ⟨o, h⟩) | h
  · exact .inl (.inl (lk_keep d0 d1 hF h (by rintro (z | ⟨_, z⟩) <;> cases z)))
  · exact .inl (.inr ⟨o, lk_keep d0 d1 hF h (by rintro (z | ⟨_, z⟩) <;> cases z)⟩)
  · exact .inr h
theorem lk_plT {b : Addr} {xs : List V} (h : PlT K F b xs) : PlT K (lkF F a u1) b xs := by
  rcases h with ⟨o, h, c⟩ | h
  · exact .inl ⟨o, lk_keep d0 d1 hF h (by rintro (z | ⟨_, z⟩) <;> cases z), c⟩
  · exact .inr h
mutual
theorem Rp.lk : ∀ {v : V} {d : D}, Rp K F v d → Rp K (lkF F a u1) v d
  | _, _, .non => .non
  | _, _, .bl b => .bl b
  | _, _, .int i => .int i
  | _, _, .str x h => .str x h
  | _, _, .tup h hs => .tup (lk_plT d0 d1 hF h) (RpL.lk hs)
  | _, _, .lst h hs => .lst (lk_keep d0 d1 hF h (by rintro (z | ⟨_, z⟩) <;> cases z)) (RpL.lk hs)
  | _, _, .scr h => .scr (lk_seqL d0 d1 hF h)
  | _, _, .dctK h h2 hs => .dctK (lk_rd d0 d1 hF h) h2 (RpL.lk hs)
  | _, _, .dctT h h2 hs => .dctT (lk_keep d0 d1 hF h (by rintro (z | ⟨_, z⟩) <;> cases z)) h2 (RpL.lk hs)
  | _, _, .ins h h2 hs => .ins (lk_keep d0 d1 hF h (by rintro (z | ⟨_, z⟩) <;> cases z)) h2 (RpL.lk hs)
theorem RpL.lk : ∀ {v : List V} {d : List D}, RpL K F v d → RpL K (lkF F a u1) v d
  | _, _, .nil => .nil
  | _, _, .cons h hs => .cons (Rp.lk h) (RpL.lk hs)
end
end
def Sl.noT : Sl → Sl
  | .tre _ _ _ => .any
  | .exn _ _ _ => .any
  | s => s
theorem Sl.noT_owns (s : Sl) : s.noT.owns = s.owns := by cases s <;> rfl
section
variable {K : PySem.W.Frag} {F H B : Hp} {a : Addr} {u0 u1 : HO} {kvs : List (Key × V)} {G : List Sl} {σ : St}
theorem RpOL.lk (d0 : IsDk u0 kvs) (d1 : IsDk u1 kvs) (hF : ∀ x, F a = some x → x = u0) (hB : ∀ x, B a = some x → x = u0) : ∀ {vs : List V} {fv : List D}, RpOL K F B vs fv → RpOL K (lkF F a u1) (lkF B a u1) vs fv
  | _, _, .nil => .nil
  | _, _, .frz r q => .frz (r.lk d0 d1 hF) (RpOL.lk d0 d1 hF hB q)
  | _, _, .dk ⟨ks, r1, r2, r3⟩ q => .dk ⟨ks, lk_rd d0 d1 hB r1, r2, r3.lk d0 d1 hF⟩ (RpOL.lk d0 d1 hF hB q)
theorem same_lk (s : Same F H) : Same (lkF F a u1) (upd H a u1) := fun b z h => by
  by_cases e : b = a
  · subst e
    rw [upd_same]
    cases hb : F b with
    | none =>
      rw [lk_none hb] at h
      cases h
    | some x =>
      rw [lk_some hb] at h
      exact h
  · rw [upd_ne e]
    rw [lk_ne e] at h
    exact s b z h
theorem GOk.lk (d0 : IsDk u0 kvs) (d1 : IsDk u1 kvs) (s : Same F H) (g : GOk K B G σ F H) (hH : H a = some u0) (hab : F a ≠ none ∨ B a ≠ none) : GOk K (lkF B a u1) (G.map Sl.noT) σ (lkF F a u1) (upd H a u1) where
  sB := same_lk g.sB
  len := by rw [List.length_map]; exact g.len
  ok := fun i s1 hs => by
    have hF : ∀ x, F a = some x → x = u0 := fun x hx => Option.some.inj ((s a x hx).symm.trans hH)
    have hB : ∀ x, B a = some x → x = u0 := fun x hx => Option.some.inj ((g.sB a x hx).symm.trans hH)
    rw [List.getElem?_map] at hs
    cases e : G[i]? with
    | none => rw [e] at hs; cases hs
    | some s' =>
      rw [e] at hs
      cases hs
      obtain ⟨v, k1, k2⟩ := g.ok i _ e
      have ne : ∀ x, F x = none → B x = none → x ≠ a := fun x h1 h2 z => by
        subst z
        rcases hab with h | h
        · exact h h1
        · exact h h2
      refine ⟨v, k1, ?_⟩
      cases s' with
      | un => exact k2
      | any => trivial
      | tre b _ _ => trivial
      | exn _ _ _ => trivial
      | val d =>
        obtain ⟨w, e1, r⟩ := k2
        exact ⟨w, e1, r.lk d0 d1 hF⟩
      | own l =>
        obtain ⟨b, xs, e1, e2, n1, n2, r⟩ := k2
        have nb := ne b n1 n2
        exact ⟨b, xs, e1, by rw [upd_ne nb]; exact e2, by rw [lk_ne nb]; exact n1, by rw [lk_ne nb]; exact n2, r.lk d0 d1 hF⟩
      | ownd l =>
        obtain ⟨b, e1, ⟨ks, r1, r2, r3⟩, n1, n2⟩ := k2
        have nb := ne b n1 n2
        exact ⟨b, e1, ⟨ks, by rw [upd_ne nb]; exact r1, r2, r3.lk d0 d1 hF⟩, by rw [lk_ne nb]; exact n1, by rw [lk_ne nb]; exact n2⟩
      | ownu l =>
        obtain ⟨b, e1, ⟨ks, r1, r2, r3⟩, n1, n2⟩ := k2
        have nb := ne b n1 n2
        exact ⟨b, e1, ⟨ks, by rw [upd_ne nb]; exact r1, r2, r3.lk d0 d1 hF⟩, by rw [lk_ne nb]; exact n1, by rw [lk_ne nb]; exact n2⟩
      | obj b c l =>
        obtain ⟨dx, fs, e1, e2, n1, n2, e3, r⟩ := k2
        have nb := ne b n1 n2
        exact ⟨dx, fs, e1, by rw [upd_ne nb]; exact e2, by rw [lk_ne nb]; exact n1, by rw [lk_ne nb]; exact n2, e3, r.lk d0 d1 hF⟩
      | bor d =>
        obtain ⟨w, e1, r⟩ := k2
        refine ⟨w, e1, ?_⟩
        cases r with
        | of r => exact .of (r.lk d0 d1 hF)
        | own h r => exact .own (lk_keep d0 d1 hB h (by rintro (z | ⟨_, z⟩) <;> cases z)) (r.lk d0 d1 hF)
        | ownd r =>
          obtain ⟨ks, r1, r2, r3⟩ := r
          exact .ownd ⟨ks, lk_rd d0 d1 hB r1, r2, r3.lk d0 d1 hF⟩
        | ownu r =>
          obtain ⟨ks, r1, r2, r3⟩ := r
          exact .ownu ⟨ks, lk_keep d0 d1 hB r1 (by rintro (z | ⟨_, z⟩) <;> cases z), r2, r3.lk d0 d1 hF⟩
        | obj h h2 r => exact .obj (lk_keep d0 d1 hB h (by rintro (z | ⟨_, z⟩) <;> cases z)) h2 (r.lk d0 d1 hF)
        | obt h h2 r => exact .obt (lk_keep d0 d1 hB h (by rintro (z | ⟨_, z⟩) <;> cases z)) h2 (RpOL.lk d0 d1 hF hB r)
  dis := fun i j s1 t1 d h1 h2 o1 o2 e1 e2 => by
    rw [List.getElem?_map] at h1 h2
    cases ei : G[i]? with
    | none => rw [ei] at h1; cases h1
    | some x =>
      cases ej : G[j]? with
      | none => rw [ej] at h2; cases h2
      | some y =>
        rw [ei] at h1
        rw [ej] at h2
        cases h1
        cases h2
        rw [Sl.noT_owns] at o1 o2
        exact g.dis i j _ _ d ei ej o1 o2 e1 e2
end
section
variable {X : Cx} {E : St → XK} {G : List Sl} {e c : Expr} {pos : Pos}
end
end DL

set_option Elab.async false
set_option linter.all false
set_option maxRecDepth 100000
set_option maxHeartbeats 4000000
namespace DL
open PySem PySem.Spec L2
section
variable {X : Cx} {E : St → XK} {G : List Sl} {a : Expr} {ma : M D} {pos : Pos}
end
end DL

set_option Elab.async false
set_option linter.all false
set_option maxRecDepth 100000
set_option maxHeartbeats 4000000
namespace DL
open PySem PySem.Spec L2
section
variable {X : Cx} {E : St → XK} {G : List Sl} {a : Expr} {ma : M D} {pos : Pos}
end
end DL

set_option Elab.async false
set_option linter.all false
set_option maxRecDepth 100000
set_option maxHeartbeats 4000000
namespace DL
open PySem PySem.Spec L2
@[simp] def a7 {α : Type} (f : D → D → D → D → D → D → D → M α) : List D → M α
  | [a, b, c, d, e, g, h] => f a b c d e g h
  | _ => stuck
@[simp] def a8 {α : Type} (f : D → D → D → D → D → D → D → D → M α) : List D → M α
  | [a, b, c, d, e, g, h, i] => f a b c d e g h i
  | _ => stuck
section
variable {K : PySem.W.Frag} {B0 B F H F' H' : Hp} {a : Addr} {u0 u1 u : HO}
theorem same_lk2 (s : Same F F') : Same (lkF F a u) (lkF F' a u) := fun b z h => by
  by_cases e : b = a
  · subst e
    cases hb : F b with
    | none =>
      rw [lk_none hb] at h
      cases h
    | some y =>
      rw [lk_some hb] at h
      rw [lk_some (s b y hb)]
      exact h
  · rw [lk_ne e] at h
    rw [lk_ne e]
    exact s b z h
theorem Ext.lk (x : Ext B0 B F H) : Ext (lkF B0 a u) (lkF B a u) (lkF F a u) (upd H a u) where
  sF := same_lk2 x.sF
  sH := same_lk x.sH
  sFH := same_lk x.sFH
  old := fun b z h => by
    by_cases e : b = a
    · subst e
      cases hb : B b with
      | none =>
        rw [lk_none hb] at h
        cases h
      | some y =>
        have h1 := x.old b y hb
        cases h0 : B0 b with
        | none =>
          rw [h0] at h1
          rw [lk_none h1, lk_none h0]
        | some w =>
          rw [h0] at h1
          rw [lk_some h1, lk_some h0]
    · rw [lk_ne e] at h
      rw [lk_ne e, lk_ne e]
      exact x.old b z h
end
section
variable {X : Cx} {E : XK} {G : List Sl} {pos : Pos} {body : List Stmt}
end
end DL

set_option Elab.async false
set_option linter.all false
set_option maxRecDepth 100000
set_option maxHeartbeats 4000000
namespace DL
open PySem PySem.Spec L2
section
variable {K : PySem.W.Frag} {F F' H H' : Hp}
end
section
variable {X : Cx} {E : St → XK} {G : List Sl} {a : Expr} {ma : M D} {pos : Pos}
end
end DL

set_option Elab.async false
set_option linter.all false
set_option maxRecDepth 100000
set_option maxHeartbeats 4000000
namespace DL
open PySem PySem.Spec L2
section
variable {X : Cx}
end
end DL

set_option Elab.async false
set_option linter.all false
set_option maxRecDepth 100000
set_option maxHeartbeats 4000000
namespace DL
open PySem PySem.Spec L2
section
variable {X : Cx} {E : XK} {G : List Sl} {body : List Stmt}
end
end DL

set_option Elab.async false
set_option linter.all false
set_option maxRecDepth 100000
set_option maxHeartbeats 4000000
namespace DL
open PySem PySem.Spec L2
structure FnG (P : Program) (w : World) (K : PySem.W.Frag) (mg : Str → Option Value) (base : Heap) (CX : CXT) (k : Nat) (f : Addr) (fd : FuncData) (ps : List Str) (sp : Sp) : Prop where
  ln : ∀ vs H Q E, sp vs H Q E → vs.length = ps.length
  go : ∀ (A : Around) (o : List Env) (s : Shared) (H : Hp) (ar : Args) (us : List Value) (vs : List V) (Q : VK) (E : XK), A.guards = some [] → Room k A → Env0 P w K mg base A o s H → BindsTo s fd ar (ps.zip us) → Vals vs us → sp vs H Q E → codeAny (model P w) A (.call (.ref f) ar) (CR CX o P w H s Q E) s
section
variable {P : Program} {w : World} {K : PySem.W.Frag} {mg : Str → Option Value} {base : Heap} {CX : CXT} {f : Addr} {fd : FuncData} {x : Str} {qual : Str} {params : Arguments} {body : List Stmt} {scope : Scope} {dvs : List V} {kws : List (Str × V)}
end
end DL

set_option Elab.async false
set_option linter.all false
set_option maxRecDepth 100000
set_option maxHeartbeats 4000000
namespace DL
open PySem PySem.Spec L2
section
variable {K : PySem.W.Frag} {x qual : Str} {params : Arguments} {body : List Stmt} {scope : Scope} {f : Addr} {fd : FuncData} {ps : List Str}
end
section
variable {X : Cx} {CX : CXT} {k n : Nat} {f : Addr} {fd : FuncData} {ps ks : List Str} {sp : Sp} {E : St → XK} {x : Str} {p pos : Pos} {e : Expr} {es : List Expr} {kws : List Keyword} {t tk : TA} {g : List Value → List Value → List Value} {gV : List V → List V → List V} {pins : List (Addr × Obj)} {σ : St} {H : Hp} {s : Shared} {Q : VK} {us ws : List Value} {vs zs : List V}
end
section
variable {X : Cx} {E : St → XK} {G : List Sl} {a : Expr} {pos : Pos}
theorem RpA.app {K : PySem.W.Frag} {F H : Hp} {b2 : List Bool} {v2 : List V} {d2 : List D} (h2 : RpA K F H b2 v2 d2) : ∀ {bs : List Bool} {vs : List V} {ds : List D}, RpA K F H bs vs ds → RpA K F H (bs ++ b2) (vs ++ v2) (ds ++ d2)
  | _, _, _, .nil => h2
  | _, _, _, .frz r h => .frz r (RpA.app h2 h)
  | _, _, _, .bor r h => .bor r (RpA.app h2 h)
@[simp] abbrev mCallK (m : List D → M D) (gd : List D → List D) (a b : M (List D)) : M D := a >>= fun l => b >>= fun k => m (l ++ gd k)
end
end DL

set_option Elab.async false
set_option linter.all false
set_option maxRecDepth 100000
set_option maxHeartbeats 4000000
namespace DL
open PySem PySem.Spec L2
def D.addN : D → D → M (List D)
  | .lst l, .lst m => need (decide (l.length + m.length ≤ sizeLine)) >>= fun _ => .ok (l ++ m)
  | _, _ => stuck
section
variable {X : Cx} {E : St → XK} {G : List Sl} {a b : Expr} {ma mb : M D} {pos : Pos}
theorem dn_addN (ha : DR X E G a ma) (hb : DR X E G b mb) : DN X E G (.BinOp a .Add b pos) (ma >>= fun x => mb >>= fun y => D.addN x y) := by
  obtain ⟨ta, pa, wa⟩ := ha
  obtain ⟨tb, pb, wb⟩ := hb
  refine ⟨_, pe_op op_cat pa pb, fun B σ F H Q s g q => wa B σ F H _ s g (WpG.bind q fun x F1 H1 v x1 r1 k1 => wb B σ F1 H1 _ x1.sFH (g.ext x1) (WpG.bind k1 fun y F2 H2 u x2 r2 k2 => ?_))⟩
  have r1' := r1.ext x2
  have x12 := x1.trans x2
  cases x with
  | lst l => cases y with
    | lst m =>
      have k2 : WpG X.K (E σ) _ (need (decide (l.length + m.length ≤ sizeLine)) >>= fun _ => (.ok (l ++ m) : M (List D))) F2 H2 Q := k2
      obtain ⟨c, k3⟩ := WpG.need k2
      obtain ⟨p, xs, rfl, e1, q1⟩ := r1'.lst x2.sFH
      obtain ⟨p2, ys, rfl, e2, q2⟩ := r2.lst x2.sFH
      exact ⟨p, p2, xs, ys, rfl, rfl, e1, e2, by rw [q1.length, q2.length]; exact of_decide_eq_true c, fun z hz => k3 F2 _ _ (Ext.newH x2.sFH hz) ⟨z, _, rfl, x12.sH.free hz, upd_same, x2.sFH.free hz, q1.append q2⟩⟩
    | _ => exact k2.elim
  | _ => cases y <;> exact k2.elim
end
end DL

set_option Elab.async false
set_option linter.all false
set_option maxRecDepth 100000
set_option maxHeartbeats 4000000
namespace DL
open PySem PySem.Spec L2
section
variable {X : Cx} {CX : CXT} {k : Nat} {C f : Addr} {fd : FuncData} {ps ks : List Str} {sp : Sp} {E : St → XK} {m : Str} {apos pos : Pos} {o : Expr} {kws : List Keyword} {ta : TE} {tk : TA} {g : List Value → List Value → List Value} {gV : List V → List V → List V}
end
section
variable {X : Cx} {E : St → XK} {G : List Sl} {b : Expr} {mb : M D} {pos : Pos}
@[simp] abbrev mMethK (c mn : String) (m : List D → M D) (gd : List D → List D) (a : M D) (b : M (List D)) : M D := a >>= fun x => D.recv c mn x >>= fun x => b >>= fun l => m (x :: gd l)
end
end DL

set_option Elab.async false
set_option linter.all false
set_option maxRecDepth 100000
set_option maxHeartbeats 4000000
namespace DL
open PySem PySem.Spec L2
section
variable {X : Cx} {E : St → XK} {e fe : Expr} {es : List Expr} {pos : Pos} {tf : TE} {ta : TA}
end
def pickF (ms : List (List D → M D)) : D → M (List D → M D)
  | .int (.ofNat n) => match ms[n]? with
    | some m => .ok m
    | none => stuck
  | _ => stuck
section
variable {X : Cx} {E : St → XK} {G : List Sl} {a ie : Expr} {pos : Pos}
@[simp] abbrev mCallIx (fs : List (List D → M D)) (i : M D) (ms : M (List D)) : M D := i >>= fun i => pickF fs i >>= fun f => ms >>= fun l => f l
end
end DL

set_option Elab.async false
set_option linter.all false
set_option maxRecDepth 100000
set_option maxHeartbeats 4000000
namespace PySem
open Sem (wp)
section
variable {M : Model} {A : Around} {E : Value → Shared → Prop} {s : Shared} {env : Env}
end
end PySem

namespace L2
open PySem PySem.Spec PyProof.Rows
section
variable {X : Cx} {pins : List (Addr × Obj)} {σ : St} {H : Hp} {s s' : Shared} {E : XK} {L : Addr}
end
section
variable {X : Cx} {pins : List (Addr × Obj)} {σ : St} {H3 : Hp} {s3 : Shared} {E : XK} {W : WX} {scope : Scope} {ce : Env} {fp : List Addr}
end
end L2

namespace L2
open PySem PySem.Spec PyProof.Rows
section
variable {X : Cx}
end
end L2

namespace DL
open PySem PySem.Spec L2
section
variable {X : Cx} {E1 : XK} {s : Shared} {H : Hp} {scope : Scope} {cenv : Env} {fp : List Addr}
structure XOk (X : Cx) (E1 : XK) : Prop where
  stk : X.stack = X.env :: X.outer
  frm : X.env.frame = some X.env.locals
  tk : Takes X (fun c d _ H => E1 c d H)
end
section
variable {X : Cx} {E1 : XK} {G : List Sl} {e c : Expr} {pos : Pos}
end
section
variable {X : Cx} {E1 : XK} {G : List Sl} {e c : Expr} {pos : Pos}
end
end DL

set_option Elab.async false
set_option linter.all false
set_option maxRecDepth 100000
set_option maxHeartbeats 4000000
namespace SrtF
open PySem PySem.Calls PyProof.Rows SrtO Srt
section
variable {prog : Program} {w : World} {A : Around} {s : Shared} {E : Value → Shared → Prop}
def FstT (h : Heap) (v : Value) (x : Str) : Prop := ∃ (a : Addr) (o : Obj) (xs : Array Value) (n : Nat) (t : Tok), v = .ref a ∧ h.get? a = some o ∧ o.cls = .type "tuple" ∧ o.data = .seq xs n ∧ xs[0]? = some (.str x t) ∧ ∀ u ∈ xs.toList, (u == u) = true
theorem FstT.keeps {h h' : Heap} {v : Value} {x : Str} (p : FstT h v x) (k : ∀ b o, h.get? b = some o → o.cls = .type "tuple" → h'.get? b = some o) : FstT h' v x := by
  obtain ⟨a, o, xs, n, t, e, ho, hc, hd, h0, hs⟩ := p
  exact ⟨a, o, xs, n, t, e, k _ _ ho hc, hc, hd, h0, hs⟩
end
end SrtF
namespace DL
open PySem PySem.Spec L2 SrtF
def gV : V → Value
  | .ref c => .ref c
  | _ => .none
end DL

set_option Elab.async false
set_option linter.all false
set_option maxRecDepth 100000
set_option maxHeartbeats 4000000
namespace L2
open PySem PySem.Spec PyProof.Rows
section
variable {X : Cx}
end
end L2
namespace DL
open PySem PySem.Spec L2
section
variable {X : Cx} {E : St → XK} {G : List Sl} {pos : Pos}
def DDL (X : Cx) (E : St → XK) (G : List Sl) (e : Expr) (m : M D) : Prop :=
  ∃ t, PE X e t ∧ (∀ {i : Nat} {y : Str} {py spos : Pos}, X.N[i]? = some y → X.env.scope.names.lookup y = some .local → swapsWith e (some (.Name y py)) spos.line X.env = pure true → PS X (.Assign [.Name y py] e spos) (tAsg t (gName i))) ∧
    ∀ B σ F H Q, Same F H → GOk X.K B G σ F H → WpG X.K (E σ) (fun F' _ v d => Rp X.K F' v d) m F H Q → t σ H Q
theorem DDL.de {e : Expr} {m : M D} (h : DDL X E G e m) : DE X E G e m := let ⟨t, p, _, w⟩ := h; ⟨t, p, w⟩
end
section
variable {X : Cx} {E : XK} {G : List Sl} {e : Expr} {pos : Pos}
end
end DL

set_option Elab.async false
set_option linter.all false
set_option maxRecDepth 100000
set_option maxHeartbeats 4000000
namespace DL
open PySem PySem.Spec L2
def Sl.ol : Option (List D) → Sl
  | none => .val .non
  | some l => .own l
section
variable {X : Cx} {E : XK} {G : List Sl} {e : Expr} {pos : Pos} {st : Stmt} {rest body : List Stmt}
end
section
variable {P : Program} {w : World} {K : PySem.W.Frag} {mg : Str → Option Value} {base : Heap} {x qual : Str} {params : Arguments} {body : List Stmt} {scope : Scope} {dvs : List V} {kws : List (Str × V)} {f : Addr} {fd : FuncData}
end
section
variable {X : Cx} {E : St → XK} {G : List Sl} {a b c e : Expr} {ma mb mc : M D} {pos : Pos} {F H : Hp}
end
end DL

set_option Elab.async false
set_option linter.all false
set_option maxRecDepth 100000
set_option maxHeartbeats 4000000
namespace DL
open PySem PySem.Spec L2
structure RoomP (k : Nat) (A : Around) : Prop where
  dp : A.depth + 3 * k + 5 < recursionLimit
  un : A.units + 16 * k + 200 < cLine
theorem RoomP.mono {j k : Nat} {A : Around} (r : RoomP k A) (h : j ≤ k) : RoomP j A := ⟨by have := r.dp; omega, by have := r.un; omega⟩
theorem RoomP.deeper {k : Nat} {A : Around} (r : RoomP (k + 1) A) (env : Env) : RoomP k (A.deeper env) :=
  ⟨by have := r.dp; show A.depth + 1 + 3 * k + 5 < _; omega, by have := r.un; show A.units + 3 + 16 * k + 200 < _; omega⟩
theorem RoomP.u70 {k : Nat} {A : Around} (r : RoomP k A) : A.units + 70 < cLine := by have := r.un; omega
structure FnP (P : Program) (w : World) (K : PySem.W.Frag) (mg : Str → Option Value) (base : Heap) (CX : CXT) (k : Nat) (f : Addr) (fd : FuncData) (ps : List Str) (sp : Sp) : Prop where
  ln : ∀ vs H Q E, sp vs H Q E → vs.length = ps.length
  go : ∀ (A : Around) (o : List Env) (s : Shared) (H : Hp) (ar : Args) (us : List Value) (vs : List V) (Q : VK) (E : XK), RoomP k A → Env0 P w K mg base A o s H → BindsTo s fd ar (ps.zip us) → Vals vs us → sp vs H Q E → codeAny (model P w) A (.call (.ref f) ar) (CR CX o P w H s Q E) s
section
variable {P : Program} {w : World} {K : PySem.W.Frag} {mg : Str → Option Value} {base : Heap} {CX : CXT} {f : Addr} {fd : FuncData} {x : Str} {qual : Str} {params : Arguments} {body : List Stmt} {scope : Scope} {dvs : List V} {kws : List (Str × V)}
end
section
variable {X : Cx} {G : List Sl} {a : Expr} {pos : Pos}
end
end DL

set_option Elab.async false
set_option linter.all false
set_option maxRecDepth 100000
set_option maxHeartbeats 4000000
namespace DL
open PySem PySem.Spec L2
def stepL {α : Type} (k : Int) (l : List α) : List α := (sliceRange 0 (l.length : Nat) k).filterMap (l[·]?)
theorem RpL.pick {K : PySem.W.Frag} {F : Hp} {xs : List V} {ds : List D} (r : RpL K F xs ds) : ∀ is : List Nat, RpL K F (is.filterMap (xs[·]?)) (is.filterMap (ds[·]?))
  | [] => .nil
  | i :: is => by
    have ih := RpL.pick r is
    cases h : xs[i]? with
    | none =>
      have h2 : ds[i]? = none := by
        rw [List.getElem?_eq_none_iff] at h ⊢
        rw [← r.length]
        exact h
      rw [List.filterMap_cons_none h, List.filterMap_cons_none h2]
      exact ih
    | some x =>
      obtain ⟨u, h2, ru⟩ := r.getV h
      rw [List.filterMap_cons_some h, List.filterMap_cons_some h2]
      exact .cons ru ih
section
variable {X : Cx} {E : St → XK} {G : List Sl} {e st : Expr} {te ts : TE} {ma mb : M D} {p3 pos : Pos}
@[simp] abbrev mStepL (ma mb : M D) : M (List D) := ma >>= fun x => mb >>= fun y => match x, y with
  | .lst l, .int k => need (decide (0 < k)) >>= fun _ => .ok (stepL k l)
  | _, _ => stuck
end
end DL

set_option Elab.async false
set_option linter.all false
set_option maxRecDepth 100000
set_option maxHeartbeats 4000000
namespace DL
open PySem PySem.Spec L2
section
variable {X : Cx} {E : XK} {G : List Sl} {e : Expr} {pos : Pos}
end
end DL

set_option Elab.async false
set_option linter.all false
set_option maxRecDepth 100000
set_option maxHeartbeats 4000000
namespace DL
open PySem PySem.Spec L2
section
variable {X : Cx} {E : St → XK} {G : List Sl} {a b : Expr} {ma mb : M D} {pos : Pos}
end
end DL

set_option Elab.async false
set_option linter.all false
set_option maxRecDepth 100000
set_option maxHeartbeats 4000000
namespace DL
open PySem PySem.Spec L2
section
variable {X : Cx} {E : St → XK} {G : List Sl} {pos : Pos} {body : List Stmt}
end
end DL

set_option Elab.async false
set_option linter.all false
set_option maxRecDepth 100000
set_option maxHeartbeats 4000000
namespace DL
open PySem PySem.Spec L2
section
variable {P : Program} {w : World} {K : PySem.W.Frag} {mg : Str → Option Value} {base : Heap} {x qual : Str} {params : Arguments} {body : List Stmt} {scope : Scope} {dvs : List V} {kws : List (Str × V)} {f : Addr} {fd : FuncData}
end
section
variable {X : Cx} {E : St → XK} {G : List Sl} {a b : Expr} {ml : M (List D)} {mb : M D} {pos : Pos}
@[simp] abbrev mCallC (m : List D → M D) (ml : M (List D)) (mb : M D) : M D := ml >>= fun l => mb >>= fun d => m [.lst l, d]
end
end DL

set_option Elab.async false
set_option linter.all false
set_option maxRecDepth 100000
set_option maxHeartbeats 4000000
namespace DL
open PySem PySem.Spec PyProof.Rows L2
open PySem.Builtin PySem.Builtin.Str
section
variable {X : Cx} {o : Expr} {to : TE} {y z : Str} {j k l : Nat} {c0 c1 c2 apos pos : Pos}
end
end DL
namespace DL
open PySem PySem.Spec L2
section
variable {X : Cx} {st : Stmt} {rest : List Stmt} {t u : TS}
end
section
variable {X : Cx} {E : XK} {G : List Sl} {a b c e : Expr} {ma mb mc : M D} {pos : Pos} {st : Stmt} {rest body : List Stmt}
def DBk (X : Cx) (E : XK) (G : List Sl) (body : List Stmt) {α : Type} (m : M α) (post : α → Oc) : Prop :=
  ∃ t, PSsT X body t ∧ ∀ B0 B σ F H D, Ext B0 B F H → GOk X.K B G σ F H → WpB X.K E B0 B post m F D → t D σ H
def DSk (X : Cx) (E : XK) (G : List Sl) (st : Stmt) {α : Type} (m : M α) (post : α → Oc) : Prop :=
  ∃ t, PST X st t ∧ ∀ B0 B σ F H D, Ext B0 B F H → GOk X.K B G σ F H → WpB X.K E B0 B post m F D → t D σ H
theorem DBk.of {α : Type} {m : M α} {post : α → Oc} (h : DB X E G body m post) : DBk X E G body m post := let ⟨t, p, w⟩ := h; ⟨t, PSsT.of p, w⟩
theorem DSk.of {α : Type} {m : M α} {post : α → Oc} (h : DS X E G st m post) : DSk X E G st m post := let ⟨t, p, w⟩ := h; ⟨t, PST.of p, w⟩
end
section
variable {X : Cx} {E : St → XK} {G : List Sl} {a : Expr} {ma : M D} {pos : Pos}
end
end DL

set_option Elab.async false
set_option linter.all false
set_option maxRecDepth 100000
set_option maxHeartbeats 1000000
namespace DL
open PySem PySem.Spec L2
def D.isTup : D → Bool
  | .tup _ => true
  | _ => false
def D.indexT (x y : D) : M D := match x, y with
  | .tup l, .str z => match D.strs l with
    | some ys => match ys.findIdx? (fun w => decide (w = z)) with
      | some j => .ok (.int (j : Nat))
      | none => stuck
    | none => stuck
  | _, _ => stuck
section
variable {X : Cx} {E : St → XK} {G : List Sl} {a b : Expr} {ma mb : M D} {pos : Pos}
theorem de_indexT {apos : Pos} {ms : M (List D)} (ho : DR X E G b mb) (ha : DRA X E G [a] ms)
    (hbase : attributeBase b "index" X.env (eval b X.env) = eval b X.env := by rfl)
    (hfew : ((backTo pos (starEach [a] X.env)).all (fun x => !x.1) && (backToKw pos (keywordEach [] X.env)).all (fun x => x.1.isSome)
      && decide (([a] : List Expr).length + ([] : List Keyword).length + (if ([] : List Keyword).isEmpty then 0 else 1) < 30)) = true := by rfl)
    (hline : (apos.endLine == pos.line) = true := by rfl) (hs : starEach [a] X.env = (false, eval a X.env) :: starEach [] X.env := by rfl) (hplain : (backTo pos (starEach [] X.env)).any (·.1) = false := by rfl) :
    DE X E G (.Call (.Attribute b "index" apos) [a] [] pos) (meth D.isTup mb ms (m1 D.indexT)) := by
  obtain ⟨t1, p1, w1⟩ := ho
  obtain ⟨t2, p2, w2⟩ := ha
  refine ⟨_, pe_bmP PySem.F.plainAttrs_tuple PySem.F.slot_tuple_index PySem.F.type_tuple_index mt_tup_index p1 p2 hbase hfew hline hs hplain, fun B σ F H Q s g q => w1 B σ F H _ s g (WpG.bind q fun x F1 H1 v x1 r1 k1 => ?_)⟩
  obtain ⟨cx, k1⟩ := WpG.need k1
  cases x with
  | tup l =>
    obtain ⟨p, xs, rfl, hp, hr⟩ := r1.tupP x1.sFH
    refine ⟨⟨p, xs, rfl, hp⟩, w2 B σ F1 H1 _ x1.sFH (g.ext x1) (WpG.bind k1 fun ds F2 H2 vs x2 r2 k2 => ?_)⟩
    cases r2 with
    | nil => exact k2.elim
    | cons ry r3 => cases r3 with
      | cons _ _ => exact k2.elim
      | nil =>
        rename_i u y
        cases y with
        | str z =>
          have k2 : WpG X.K (E σ) (rE X.K) (match D.strs l with
            | some ys => match ys.findIdx? (fun w => decide (w = z)) with
              | some j => (.ok (.int (j : Nat)) : M D)
              | none => stuck
            | none => stuck) F2 H2 Q := k2
          cases hy : D.strs l with
          | none => rw [hy] at k2; exact k2.elim
          | some ys =>
            rw [hy] at k2
            obtain ⟨ex, _⟩ := strs_rp hy hr
            subst ex
            have k2 : WpG X.K (E σ) (rE X.K) (match ys.findIdx? (fun w => decide (w = z)) with
              | some j => (.ok (.int (j : Nat)) : M D)
              | none => stuck) F2 H2 Q := k2
            cases hj : ys.findIdx? (fun w => decide (w = z)) with
            | none => rw [hj] at k2; exact k2.elim
            | some j =>
              rw [hj] at k2
              obtain ⟨hlt, h1, h2⟩ := List.findIdx?_eq_some_iff_getElem.mp hj
              refine ⟨p, ys, z, j, rfl, by rw [ry.str.1], (hp.mono x2.sH).sqT, ?_, fun m hm z2 => ?_, k2 F2 H2 _ (Ext.refl x2.sFH) (.int _)⟩
              · rw [List.getElem?_eq_getElem hlt, of_decide_eq_true h1]
              · rw [List.getElem?_eq_getElem (Nat.lt_trans hm hlt)] at z2
                exact h2 m hm (decide_eq_true (Option.some.inj z2))
        | _ => exact k2.elim
  | _ => cases cx
end
end DL

set_option Elab.async false
set_option linter.all false
set_option maxRecDepth 100000
set_option maxHeartbeats 1000000
namespace DL
open PySem PySem.Spec L2
abbrev TabL := List (String × D)
def D.inTab (l : TabL) : D → M Bool
  | .str z => .ok (l.any fun q => decide (Str.ofString q.1 = z))
  | _ => stuck
def D.ixTab (l : TabL) : D → M D
  | .str z => (match l.find? fun q => decide (Str.ofString q.1 = z) with | some q => .ok q.2 | none => stuck)
  | _ => stuck
def TabOk (K : PySem.W.Frag) (w : World) (a : Addr) (l : TabL) : Prop := ∃ es n, KDict K w a es n ∧
  ∀ z : Str, (PySem.W.nsIn K a z = some none ∧ l.find? (fun q => decide (Str.ofString q.1 = z)) = none) ∨
    ∃ u v q, PySem.W.nsIn K a z = some (some u) ∧ l.find? (fun q => decide (Str.ofString q.1 = z)) = some q ∧ RelV v u ∧ ∀ F, Rp K F v q.2
section
variable {X : Cx} {E : St → XK} {G : List Sl} {a b : Expr} {ma : M D} {pos : Pos} {d : Addr} {l : TabL} {te : TE}
theorem find_any (l : TabL) (z : Str) : (l.find? fun q => decide (Str.ofString q.1 = z)).isSome = l.any fun q => decide (Str.ofString q.1 = z) := by
  induction l with
  | nil => rfl
  | cons q l ih =>
    rw [List.find?_cons, List.any_cons]
    cases decide (Str.ofString q.1 = z) with
    | true => rfl
    | false => exact ih
theorem tab_in (T : TabOk X.K X.w d l) {neg : Bool} {E₁ : XK} {F H : Hp} {v : V} {x : D} {Q : VK} (s : Same F H) (rx : RpT X.K F H v x) (q : WpG X.K E₁ (rE X.K) (bD (D.inTab l x >>= fun k => .ok (neg != k))) F H Q) :
    ∃ (z : Str) (r : Option Value), v = .str z ∧ PySem.W.nsIn X.K d z = some r ∧ Q (.bl (neg != r.isSome)) H := by
  obtain ⟨es, n, KD, look⟩ := T
  cases x with
  | str z =>
    have e := rx.str.1
    have q : WpG X.K E₁ (rE X.K) (.ok (.bl (neg != l.any fun q => decide (Str.ofString q.1 = z)))) F H Q := q
    rw [← find_any] at q
    rcases look z with ⟨h1, h2⟩ | ⟨u, w, p, h1, h2, _⟩
    · rw [h2] at q
      exact ⟨z, none, e, h1, q F H _ (Ext.refl s) (.bl _)⟩
    · rw [h2] at q
      exact ⟨z, some u, e, h1, q F H _ (Ext.refl s) (.bl _)⟩
  | _ => exact q.elim
theorem bind_bD {m : M D} {f : D → M Bool} : (m >>= fun x => bD (f x)) = bD (m >>= f) := by cases m <;> rfl
theorem inTab_f (l : TabL) (x : D) : D.inTab l x = (D.inTab l x >>= fun k => .ok (false != k)) := by
  cases D.inTab l x with
  | error e => rfl
  | ok k => cases k <;> rfl
theorem dt_inTab (T : TabOk X.K X.w d l) (hn : PE X b (tC (.ref d))) (ha : DR X E G a ma) (hm : behindInMarks .In b = false := by rfl) : DT X E G (.Compare a [.In] [b] pos) (ma >>= fun x => D.inTab l x) := by
  have T0 := T
  obtain ⟨es, n, KD, _⟩ := T
  obtain ⟨ta, pa, wa⟩ := ha
  refine DT.ofE (t := tOp _ ta (tC (.ref d))) (pt_cmpR (op_in_kd KD) pa hn hm) (fun B σ F H Q s g q => wa B σ F H _ s g (WpG.bind (show WpG X.K (E σ) (rE X.K) (ma >>= fun x => bD (D.inTab l x)) F H Q by rw [bind_bD]; exact q) fun y F1 H1 v x1 r1 q1 => ?_)) (fun _ _ _ h => h)
  rw [inTab_f] at q1
  obtain ⟨z, r, h1, h2, h3⟩ := tab_in T0 x1.sFH r1 q1
  refine ⟨z, r, h1, rfl, h2, ?_⟩
  rw [Bool.false_bne] at h3
  exact h3
theorem ix_tab {es : Array DictEntry} {n : Nat} (KD : KDict X.K X.w d es n) : IxR X (fun x y H Q => ∃ (z : Str) (u0 : Value) (v0 : V), x = .ref d ∧ y = .str z ∧ PySem.W.nsIn X.K d z = some (some u0) ∧ RelV v0 u0 ∧ Q v0 H) := by
  intro value slice pins s σ H x y v u Q I rx ry h hs
  have h0 := h
  obtain ⟨z, u0, v0, rfl, rfl, e, r, q⟩ := h
  have e1 : v = Value.ref d := rx
  subst e1
  exact PyProof.Rows.tail_any (kd_type KD I) PySem.F.slot_dict_getitem.lookup (op_item_kd KD pins s σ H _ _ _ _ Q I rx ry h0) hs
theorem de_ixTab (T : TabOk X.K X.w d l) (hn : PE X b (tC (.ref d))) (ha : DR X E G a ma) (hs : PlainIx a := by intro _ _; rfl) : DE X E G (.Subscript b a pos) (ma >>= fun x => D.ixTab l x) := by
  obtain ⟨es, n, KD, look⟩ := T
  obtain ⟨ta, pa, wa⟩ := ha
  refine ⟨_, pe_ix (ix_tab KD) hn pa hs, fun B σ F H Q s g q => ?_⟩
  show ta σ H _
  refine wa B σ F H _ s g (q.bind fun y F1 H1 v x1 r1 q1 => ?_)
  cases y with
  | str z =>
    have e := r1.str.1
    have q : WpG X.K (E σ) (rE X.K) (match l.find? fun q => decide (Str.ofString q.1 = z) with | some q => .ok q.2 | none => stuck) F1 H1 Q := q1
    rcases look z with ⟨h1, h2⟩ | ⟨u, w, p, h1, h2, h3, h4⟩
    · rw [h2] at q
      exact q.elim
    · rw [h2] at q
      exact ⟨z, u, w, rfl, e, h1, h3, q F1 H1 _ (Ext.refl x1.sFH) (h4 F1)⟩
  | _ => exact q1.elim
end
def tvB (K : PySem.W.Frag) : D → Value → Bool
  | .int i, .int j _ => decide (i = j)
  | .str x, .str y _ => decide (x = y) && PyData.strOk x
  | .tup ds, .ref a => (match K.lookup a with
    | some ⟨.type c, none, .seq its _, _⟩ => decide (c = "tuple") && (decide (its.size ≤ sizeLine) && (decide (its.size = ds.length) && (ds.zip its.toList).all fun q => match q.1, q.2 with
      | .str x, .str y _ => decide (x = y) && PyData.strOk x
      | _, _ => false))
    | _ => false)
  | _, _ => false
theorem tvs_ok {K : PySem.W.Frag} {F : Hp} : ∀ {ds : List D} {us : List Value}, us.length = ds.length → ((ds.zip us).all fun q => match q.1, q.2 with
      | .str x, .str y _ => decide (x = y) && PyData.strOk x
      | _, _ => false) = true → ∃ xs, Vals xs us ∧ RpL K F xs ds
  | [], [], _, _ => ⟨[], .nil, .nil⟩
  | [], _ :: _, h, _ => by simp at h
  | _ :: _, [], h, _ => by simp at h
  | d :: ds, u :: us, h, q => by
    rw [List.zip_cons_cons, List.all_cons] at q
    obtain ⟨q1, q2⟩ := and2 q
    obtain ⟨xs, h1, h2⟩ := tvs_ok (K := K) (F := F) (by simpa using h) q2
    cases d with
    | str x => cases u with
      | str y t =>
        obtain ⟨q3, q4⟩ := and2 q1
        have e := of_decide_eq_true q3
        subst e
        exact ⟨.str x :: xs, .cons ⟨t, rfl⟩ h1, .cons (.str x q4) h2⟩
      | _ => cases q1
    | _ => cases q1
theorem tvB_ok {K : PySem.W.Frag} {d : D} {u : Value} (h : tvB K d u = true) : ∃ v, RelV v u ∧ ∀ F, Rp K F v d := by
  unfold tvB at h
  split at h
  · rename_i i j t
    have e := of_decide_eq_true h
    subst e
    exact ⟨.int i, ⟨t, rfl⟩, fun F => .int i⟩
  · rename_i x y t
    obtain ⟨h1, h2⟩ := and2 h
    have e := of_decide_eq_true h1
    subst e
    exact ⟨.str x, ⟨t, rfl⟩, fun F => .str x h2⟩
  · rename_i ds a
    split at h
    · rename_i c its n sl e
      obtain ⟨h1, h2⟩ := and2 h
      obtain ⟨h3, h4⟩ := and2 h2
      obtain ⟨h5, h6⟩ := and2 h4
      have e1 := of_decide_eq_true h1
      subst e1
      refine ⟨.ref a, rfl, fun F => ?_⟩
      obtain ⟨xs, x1, x2⟩ := tvs_ok (K := K) (F := F) (us := its.toList) (by simpa using of_decide_eq_true h5) h6
      exact .tup (.inr ⟨_, its, n, e, rfl, rfl, rfl, of_decide_eq_true h3, x1⟩) x2
    · cases h
  · cases h
abbrev Tb : Type := Str × TabL
def tbB (K : PySem.W.Frag) (t : Tb) : Bool := t.2.all fun q => match PySem.W.nsIn K (He.ga K t.1) (Str.ofString q.1) with
  | some (some u) => tvB K q.2 u
  | _ => false
abbrev AlTb : Type := Bool × List (Option (List (Option (Str × Int))))
def seenTb (ts : List Tb) (K : PySem.W.Frag) : AlTb := (ts.all (tbB K), ts.map fun t => He.dicW K (He.ga K t.1))
def dueTb (ts : List Tb) (w : World) : AlTb := (true, ts.map fun t => some (He.keysIn w.params (t.2.map fun q => Str.ofString q.1)))
theorem keyOf_some {e : DictEntry} {k : Str} {h : Int} (q : He.keyOf e = some (k, h)) : ∃ t, e.key = .str k t := by
  unfold He.keyOf at q
  split at q
  · rename_i x t e
    cases q
    exact ⟨t, e⟩
  · cases q
theorem ns_find {P : Params} {z : Str} : ∀ {es : List DictEntry} {ks : List Str}, es.map He.keyOf = He.keysIn P ks → z ∉ ks → es.find? (·.key.isStr z) = none ∧ es.any (·.refKey) = false
  | [], _, _, _ => ⟨rfl, rfl⟩
  | e :: es, [], h, _ => by cases h
  | e :: es, k :: ks, h, hz => by
    have h1 : He.keyOf e :: es.map He.keyOf = some (k, PyData.keyHash P k) :: He.keysIn P ks := h
    injection h1 with h2 h3
    obtain ⟨t, ek⟩ := keyOf_some h2
    obtain ⟨i1, i2⟩ := ns_find (z := z) h3 (fun m => hz (List.mem_cons_of_mem _ m))
    have n1 : e.key.isStr z = false := by
      rw [ek]
      show decide (k = z) = false
      exact decide_eq_false fun q => hz (by rw [← q]; exact List.mem_cons_self ..)
    refine ⟨?_, ?_⟩
    · rw [List.find?_cons, n1]
      exact i1
    · rw [List.any_cons, i2, Bool.or_false]
      unfold DictEntry.refKey
      rw [ek]
theorem tab_of {K : PySem.W.Frag} {w : World} {ts : List Tb} (c : seenTb ts K = dueTb ts w) {t : Tb} (ht : t ∈ ts) : TabOk K w (He.ga K t.1) t.2 := by
  have c1 : ts.all (tbB K) = true := congrArg (fun z : AlTb => z.1) c
  have c2 : (ts.map fun t => He.dicW K (He.ga K t.1)) = ts.map fun t => some (He.keysIn w.params (t.2.map fun q => Str.ofString q.1)) := congrArg (fun z : AlTb => z.2) c
  have b := List.all_eq_true.mp c1 t ht
  obtain ⟨i, hi, ei⟩ := List.getElem_of_mem ht
  have c3 : He.dicW K (He.ga K t.1) = some (He.keysIn w.params (t.2.map fun q => Str.ofString q.1)) := by
    have e2 : (ts.map fun t => He.dicW K (He.ga K t.1))[i]? = (ts.map fun t => some (He.keysIn w.params (t.2.map fun q => Str.ofString q.1)))[i]? := by rw [c2]
    rw [List.getElem?_map, List.getElem?_map, List.getElem?_eq_getElem hi, ei] at e2
    exact Option.some.inj e2
  obtain ⟨es, n, KD⟩ := He.dicW_ok c3
  refine ⟨es, n, KD, fun z => ?_⟩
  have ek : es.toList.map He.keyOf = He.keysIn w.params (t.2.map fun q => Str.ofString q.1) := by
    unfold He.dicW at c3
    rw [KD.at_] at c3
    dsimp only at c3
    split at c3
    · exact Option.some.inj c3
    · cases c3
  cases hf : t.2.find? fun q => decide (Str.ofString q.1 = z) with
  | none =>
    refine .inl ⟨?_, rfl⟩
    have hz : z ∉ t.2.map fun q => Str.ofString q.1 := fun m => by
      obtain ⟨q, hq, e⟩ := List.mem_map.mp m
      have := List.find?_eq_none.mp hf q hq
      simp [e] at this
    obtain ⟨f1, f2⟩ := ns_find ek hz
    unfold PySem.W.nsIn
    rw [KD.at_]
    dsimp only
    rw [f1, f2]
    rfl
  | some q =>
    have hq := List.mem_of_find?_eq_some hf
    have e : Str.ofString q.1 = z := of_decide_eq_true (List.find?_some (p := fun q : String × D => decide (Str.ofString q.1 = z)) hf)
    have b2 := List.all_eq_true.mp b q hq
    rw [e] at b2
    split at b2
    · rename_i u eu
      obtain ⟨v, h1, h2⟩ := tvB_ok b2
      exact .inr ⟨u, v, q, eu, rfl, h1, h2⟩
    · cases b2
def hookGT (n : Nat) (fa : List He.Fa) (fn gt : List He.DefD) (ex : PySem.W.Frag → Bool) (ts : List Tb) : PySem.W.Hook where
  α := AlG × AlTb
  obs := fun s => (seen fa fn gt ex (He.frG s.heap.get? (He.asD s.heap.get? n)), seenTb ts (He.frG s.heap.get? (He.asD s.heap.get? n)))
  val := fun w => (due fn gt, dueTb ts w)
  says := fun w h => ∃ K : PySem.W.Frag, K.In h ∧ SaysG fa fn gt ex K ∧ seenTb ts K = dueTb ts w
  of := fun _ _ e => ⟨_, He.frG_in, congrArg (fun z : AlG × AlTb => z.1) e, congrArg (fun z : AlG × AlTb => z.2) e⟩
  keeps := fun _ _ _ ⟨K, hK, c⟩ k => ⟨K, PySem.W.Frag.In.keeps hK k, c⟩
theorem obsGT_eq {n : Nat} {fa : List He.Fa} {fn gt : List He.DefD} {ex : PySem.W.Frag → Bool} {ts : List Tb} {g : Addr → Option Obj} {s : Shared} (h : ∀ a, g a = s.heap.get? a) : (seen fa fn gt ex (He.frG g (He.asD g n)), seenTb ts (He.frG g (He.asD g n))) = (hookGT n fa fn gt ex ts).obs s := by
  have e : g = s.heap.get? := funext h
  rw [e] <;> rfl
end DL

set_option Elab.async false
set_option linter.all false
set_option maxRecDepth 100000
set_option maxHeartbeats 1000000
namespace DL
open PySem PySem.Spec L2 PyProof.Rows
section
variable {prog : Program} {w : World} {A : Around} {E : Value → Shared → Prop} {s : Shared}
end
section
variable {X : Cx} {E : XK} {G : List Sl} {e : Expr} {pos : Pos}
end
end DL

set_option Elab.async false
set_option linter.all false
set_option maxRecDepth 100000
set_option maxHeartbeats 4000000
namespace SrtF
open PySem PySem.Calls PyProof.Rows SrtO Srt
section
variable {prog : Program} {w : World} {A : Around} {s : Shared} {E : Value → Shared → Prop}
end
end SrtF
namespace DL
open PySem PySem.Spec L2 SrtF
end DL

set_option Elab.async false
set_option linter.all false
set_option maxRecDepth 100000
set_option maxHeartbeats 2000000
namespace DL
open PySem PySem.Spec L2 PyProof.Rows HT
section
variable {prog : Program} {w : World} {A : Around} {E : Value → Shared → Prop} {s : Shared}
end
section
variable {X : Cx} {e : Expr} {te : TE}
end
section
variable {X : Cx} {E : L2.St → XK} {G : List Sl} {a : Expr} {ma : M D} {pos : Pos}
@[simp] abbrev mRevT (m : M D) : M D := m >>= fun x => match x with | .tup l => .ok (.tup l.reverse) | _ => stuck
end
end DL

set_option Elab.async false
set_option linter.all false
set_option maxRecDepth 100000
set_option maxHeartbeats 1000000
namespace DL
open PySem PySem.Spec L2
def ItzM (K : PySem.W.Frag) (a b : Addr) : It :=
  ⟨fun i H => ∃ (xs ys : List V) (x y : V), SqL K H a xs ∧ SqT K H b ys ∧ xs[i]? = some x ∧ ys[i]? = some y,
    fun i H v H' => ∃ T ob x y, v = .ref T ∧ H T = none ∧ (ob.cls = .type "tuple" ∧ ob.dict = none) ∧ H' = upd H T (.frz ob (.tup [x, y])) ∧ (∀ xs, SqL K H a xs → xs[i]? = some x) ∧ ∀ ys, SqT K H b ys → ys[i]? = some y,
    fun i H => ∃ xs ys : List V, SqL K H a xs ∧ SqT K H b ys ∧ i = min xs.length ys.length⟩
structure MixZ (h : Heap) (z TI TO i1 i2 a b : Addr) (i : Nat) : Prop where
  z : IsZip h z TI TO .none
  ti : IsTupOf2 h TI (.ref i1) (.ref i2)
  tq : ∃ x y, IsTupOf2 h TO x y
  l : h.IsListIter i1 a i
  t : h.IsTupleIter i2 b i
theorem cells_mem {c z TI TO i1 i2 : Addr} (h : c ∈ [z, TI, TO, i1, i2]) : c = z ∨ c = TI ∨ c = TO ∨ c = i1 ∨ c = i2 := in5 h
theorem turn_zipM {P : Program} {w : World} {K : PySem.W.Frag} {elts : List Expr} {kk : Nat} {tpos : Pos} {a b z TI TO i1 i2 : Addr} (S : ZipSep2 z TI TO i1 i2 [i1, a] [i2, b]) (na : a ≠ i1) (nb : b ≠ i2) :
    Turn P w K (.Tuple elts kk tpos) (ItzM K a b) [z, TI, TO, i1, i2] z (fun i h => MixZ h z TI TO i1 i2 a b i) where
  mem := List.mem_cons_self ..
  obj := fun i h M c hc => by
    obtain ⟨x, y, hTO⟩ := M.tq
    obtain ⟨o1, e1, _, d1⟩ := M.l
    obtain ⟨o2, e2, _, d2⟩ := M.t
    rcases cells_mem hc with q | q | q | q | q <;> subst q
    · exact ⟨_, M.z, fun v q => nomatch q⟩
    · exact ⟨_, M.ti, fun v q => nomatch q⟩
    · exact ⟨_, hTO, fun v q => nomatch q⟩
    · exact ⟨o1, e1, fun v q => by rw [d1] at q; cases q⟩
    · exact ⟨o2, e2, fun v q => by rw [d2] at q; cases q⟩
  keep := fun i h h' M k => by
    obtain ⟨x, y, hTO⟩ := M.tq
    exact { z := k z (by simp) _ M.z, ti := k TI (by simp) _ M.ti, tq := ⟨x, y, k TO (by simp) _ hTO⟩, l := M.l.at fun o q => k i1 (by simp) o q, t := M.t.at fun o q => k i2 (by simp) o q }
  item := by
    intro X hP hw hK hc i pins s σ H E I hf M ⟨xs, ys, x, y, hqx, hqy, hx, hy⟩
    subst hP hw hK
    obtain ⟨its, rv, p, _⟩ := I.list hqx
    obtain ⟨its2, rv2, p2, _⟩ := I.tuple hqy
    obtain ⟨u, hu, ru⟩ := rv.get hx
    obtain ⟨u2, hu2, ru2⟩ := rv2.get hy
    obtain ⟨x0, y0, hTO⟩ := M.tq
    have hzl : z < s.heap.objs.size := Heap.lt_size M.z
    have G1 := Draws.list (prog := X.prog) (w := X.w) (A := X.A.in1) (I.ok.hd hc) i1 a na its.toArray
    have G2 := Draws.tuple (prog := X.prog) (w := X.w) (A := X.A.in1) (I.ok.hd hc) i2 b nb its2.toArray
    have g1 : i < its.toArray.size := by
      have := (List.getElem?_eq_some_iff.mp hu).1
      simpa using this
    have g2 : i < its2.toArray.size := by
      have := (List.getElem?_eq_some_iff.mp hu2).1
      simpa using this
    refine wpAny_pyNext_zipD2_item S G1 G2 M.z M.ti hTO ⟨M.l, p.isList⟩ ⟨M.t, p2⟩ g1 g2 fun v1 v2 h3 tk e1 e2 z3 TO3 n1 n2 hT _ hk => ⟨_, rfl, wpAny_letOwnedTupleGo_zip (s := { s with heap := h3, toks := tk }) z3 fun h4 z4 sb => ?_⟩
    have e1 : its.toArray[i]? = some v1 := e1
    have e2 : its2.toArray[i]? = some v2 := e2
    have q1 : v1 = u := by
      have : its[i]? = some v1 := by simpa using e1
      exact Option.some.inj (this.symm.trans hu)
    have q2 : v2 = u2 := by
      have : its2[i]? = some v2 := by simpa using e2
      exact Option.some.inj (this.symm.trans hu2)
    subst q1 q2
    have fr := I.hok.fresh (Nat.le_refl s.heap.objs.size)
    have new := pair_ok (P := X.prog) (w := X.w) (H := upd H s.heap.objs.size (.frz (prO v1 v2) (.tup [x, y]))) ((sb.2 _ (Nat.ne_of_gt hzl)).trans hT) ru ru2
    refine ⟨.ref s.heap.objs.size, _, I.turnedNew (t' := tk) (ch := [z, TI, TO, i1, i2]) (fun c o hb q => by
      obtain ⟨k1, k2, k3, k4, k5⟩ := out5 hb
      exact (sb.2 c k1).trans (hk c o k1 k3 k4 k5 q)) hf (Nat.le_refl _) new, rfl, ⟨_, _, x, y, rfl, fr, ⟨rfl, rfl⟩, rfl, fun l hl => by rw [I.list_inj hl hqx]; exact hx, fun l hl => by
        have : l = ys := I.tuple_inj hl hqy
        rw [this]; exact hy⟩,
      { z := z4, ti := (sb.2 _ S.TIz).trans (hk _ _ S.TIz S.TITO S.TIi1 S.TIi2 M.ti), tq := ⟨v1, v2, (sb.2 _ S.TOz).trans TO3⟩, l := n1.1.at fun o q => (sb.2 _ S.zi1.symm).trans q, t := n2.1.at fun o q => (sb.2 _ S.zi2.symm).trans q }, fun c hcm => ?_⟩
    have hlt : c < s.heap.objs.size := by
      rcases cells_mem hcm with q | q | q | q | q <;> subst q
      · exact hzl
      · exact Heap.lt_size M.ti
      · exact Heap.lt_size hTO
      · obtain ⟨_, e, _⟩ := M.l; exact Heap.lt_size e
      · obtain ⟨_, e, _⟩ := M.t; exact Heap.lt_size e
    rw [upd_ne (Nat.ne_of_lt hlt)]
    exact (hf c hcm).1
  done := by
    intro X hP hw hK hc i pins s σ H E I hf M ⟨xs, ys, hqx, hqy, hend⟩
    subst hP hw hK
    obtain ⟨its, rv, p, _⟩ := I.list hqx
    obtain ⟨its2, rv2, p2, _⟩ := I.tuple hqy
    have l1 := rv.length
    have l2 := rv2.length
    obtain ⟨x0, y0, hTO⟩ := M.tq
    have G1 := Draws.list (prog := X.prog) (w := X.w) (A := X.A.in1) (I.ok.hd hc) i1 a na its.toArray
    have G2 := Draws.tuple (prog := X.prog) (w := X.w) (A := X.A.in1) (I.ok.hd hc) i2 b nb its2.toArray
    have z1 : its.toArray.size = its.length := by simp
    have z2 : its2.toArray.size = its2.length := by simp
    exact wpAny_pyNext_zipD2_end S G1 G2 M.z M.ti hTO ⟨M.l, p.isList⟩ ⟨M.t, p2⟩ (by omega) (by omega) (by omega) fun h' tk hk => ⟨rfl, I.turnedL (t' := tk) (ch := [z, TI, TO, i1, i2]) (fun c o hb q => by
      obtain ⟨k1, k2, k3, k4, k5⟩ := out5 hb
      exact hk c o k1 k3 k4 k5 q) hf⟩
  self := fun A i s Q E st h => wpAny_pyIter_zip st.z h
def iZipM (K : PySem.W.Frag) (ta : TA) : TI := fun σ H R => ta σ H fun vs H1 => ∃ a b xs ys, vs = [.ref a, .ref b] ∧ SqL K H1 a xs ∧ SqT K H1 b ys ∧ R (ItzM K a b) H1
theorem sep_new (I a b : Nat) (ha : a < I) (hb : b < I) : ZipSep2 (I + 4) (I + 2) (I + 3) I (I + 1) [I, a] [I + 1, b] := by
  have n : ∀ {x y : Nat}, x ≠ y → (show Addr from x) ≠ (show Addr from y) := fun h => h
  have m : ∀ {x y z : Nat}, x ≠ y → x ≠ z → (show Addr from x) ∉ [(show Addr from y), (show Addr from z)] := fun h g q => by
    rcases List.mem_cons.mp q with e | q
    · exact h e
    · exact g (List.mem_singleton.mp q)
  exact { TIz := n (by omega), TOz := n (by omega), TITO := n (by omega), TIi1 := n (by omega), mem1 := List.mem_cons_self .., zf1 := m (by omega) (by omega), Tf1 := m (by omega) (by omega), TIi2 := n (by omega), mem2 := List.mem_cons_self .., zf2 := m (by omega) (by omega), Tf2 := m (by omega) (by omega), sep1_2 := m (by omega) (by omega), sep2_1 := m (by omega) (by omega) }
theorem pi_zipM {X : Cx} {e e2 : Expr} {ta : TA} {p pos tpos : Pos} {elts : List Expr} {kk : Nat} (hg : Gl X "zip") (hm : X.mg "zip" = none) (ha : PA X [e, e2] ta)
    (hs : starEach [e, e2] X.env = (false, eval e X.env) :: starEach [e2] X.env := by rfl) (hpl : (backTo pos (starEach [e2] X.env)).any (·.1) = false := by rfl) :
    PI X (.Tuple elts kk tpos) (.Call (.Name "zip" p) [e, e2] [] pos) (iZipM X.K ta) := by
  refine ⟨fun pins s σ H R I h => ?_⟩
  refine PyProof.Rows.Call_ (ld_blt I hg hm PyProof.Rows.boot_zip (PyProof.Rows.callWith_type1 (thn (ha.run pos pins s σ H _ I h) fun us s1 ⟨vs, H1, I1, r1, q1⟩ => ?_) hs hpl))
  obtain ⟨a, b, xs, ys, ex, hqx, hqy, q⟩ := q1
  subst ex
  obtain ⟨u, u', rfl, ra, rb⟩ : ∃ u u', us = [u, u'] ∧ RelV (.ref a) u ∧ RelV (.ref b) u' := by
    cases r1 with
    | cons r rr => cases rr with
      | cons r' rr =>
        cases rr
        exact ⟨_, _, rfl, r, r'⟩
  cases ra
  cases rb
  obtain ⟨its, rv, p1, _⟩ := I1.list hqx
  obtain ⟨its2, rv2, p2, _⟩ := I1.tuple hqy
  have la : a < s1.heap.objs.size := p1.lt
  have lb : b < s1.heap.objs.size := by
    obtain ⟨o, ho, _⟩ := id p2
    exact Heap.lt_size ho
  refine zip_begins2 (begins_list a its.toArray) (begins_tuple b its2.toArray) p1.isList p2 fun h' hz hTI hTO g1 g2 hsz hk => wpAny_pyIter_zip hz ?_
  have I2 : Inv X pins σ H1 { s1 with heap := h' } := I1.kept (t' := s1.toks) hk
  have fp : ∀ c, c ∈ [s1.heap.objs.size + 4, s1.heap.objs.size + 2, s1.heap.objs.size + 3, s1.heap.objs.size, s1.heap.objs.size + 1] → s1.heap.objs.size ≤ c := fun c hcm => by
    rcases cells_mem hcm with q | q | q | q | q <;> rw [q] <;> first | exact Nat.le_add_right _ _ | exact Nat.le_refl _
  exact ⟨s1.heap.objs.size + 4, [s1.heap.objs.size + 4, s1.heap.objs.size + 2, s1.heap.objs.size + 3, s1.heap.objs.size, s1.heap.objs.size + 1], _, _, H1, rfl, I2, turn_zipM (sep_new _ a b la lb) (Nat.ne_of_lt la) (Nat.ne_of_lt (Nat.lt_succ_of_lt lb)), { z := hz, ti := hTI, tq := ⟨_, _, hTO⟩, l := ⟨_, g1, rfl, rfl⟩, t := ⟨_, g2, rfl, rfl⟩ }, fun c hcm => I1.fpOk (fp c hcm) (I1.hok.fresh (fp c hcm)), q⟩
theorem yld_zipM {K : PySem.W.Frag} {a b : Addr} {xs ys : List V} {ds es : List D} {F0 : Hp} {P : Hp → Hp → Prop} (r : RpL K F0 xs ds) (r2 : RpL K F0 ys es) (h : ∀ F H, P F H → Same F H → Same F0 F ∧ SqL K H a xs ∧ SqT K H b ys) : Yld K (ItzM K a b) P (zipL ds es) := fun F H p s => by
  obtain ⟨h1, h2, h3⟩ := h F H p s
  refine ⟨fun i d hd => ?_, ⟨xs, ys, h2, h3, by rw [zipL_len, r.length, r2.length]⟩⟩
  rw [zipL_get] at hd
  cases e1 : ds[i]? with
  | none => rw [e1] at hd; cases hd
  | some d1 =>
    cases e2 : es[i]? with
    | none => rw [e1, e2] at hd; cases hd
    | some d2 =>
      rw [e1, e2] at hd
      cases hd
      obtain ⟨x, hx, rx⟩ := r.get e1
      obtain ⟨y, hy, ry⟩ := r2.get e2
      refine ⟨⟨xs, ys, x, y, h2, h3, hx, hy⟩, fun v H' hv => ?_⟩
      obtain ⟨T, ob, x', y', rfl, nT, ⟨oc, oo⟩, rfl, ex, ey⟩ := hv
      have ex := Option.some.inj (hx.symm.trans (ex xs h2))
      have ey := Option.some.inj (hy.symm.trans (ey ys h3))
      subst ex ey
      have xx := Ext.new (o := .frz ob (.tup [x, y])) s nT
      exact ⟨_, xx, .tup (plT_new oc oo) (.cons ((rx.mono h1).mono xx.sF) (.one ((ry.mono h1).mono xx.sF)))⟩
section
variable {X : Cx} {E : St → XK} {G : List Sl} {a b : Expr} {pos : Pos} {F H : Hp}
def D.zipM : List D → M (List D)
  | [.lst l, .tup m] => .ok (zipL l m)
  | _ => stuck
theorem di_zipM {p tpos : Pos} {elts : List Expr} {kk : Nat} {ms : M (List D)} (hg : Gl X "zip") (hm : X.mg "zip" = none) (ha : DA X E G [a, b] ms) (hs : starEach [a, b] X.env = (false, eval a X.env) :: starEach [b] X.env := by rfl) (hpl : (backTo pos (starEach [b] X.env)).any (fun x => x.1) = false := by rfl) : DI X E G (.Tuple elts kk tpos) (.Call (.Name "zip" p) [a, b] [] pos) (ms >>= fun l => D.zipM l) := by
  obtain ⟨t, pp, w⟩ := ha
  refine ⟨_, pi_zipM hg hm pp hs hpl, fun B σ F H R s g q => w B σ F H _ s g (WpG.bind q fun l F1 H1 vs x1 r1 k1 => ?_)⟩
  cases r1 with
  | nil => exact k1.elim
  | @cons v vs d ds r1 r2 => cases r2 with
    | nil => cases d <;> exact k1.elim
    | @cons v2 vs2 d2 ds2 r3 r4 => cases r4 with
      | cons _ _ => cases d <;> cases d2 <;> exact k1.elim
      | nil => cases d with
        | lst l => cases d2 with
          | tup m => cases r1 with
            | lst h1 rr1 => cases r3 with
              | tup h2 rr2 =>
                exact ⟨_, _, _, _, rfl, SqL.of (x1.sFH _ _ h1), Same.seqT x1.sFH (h2).sqT, k1 F1 H1 _ (Ext.refl x1.sFH) (yld_zipM rr1 rr2 fun F2 H2 p s2 => ⟨p, SqL.of (s2 _ _ (p _ _ h1)), Same.seqT s2 (Same.seqT p (h2).sqT)⟩)⟩
          | _ => exact k1.elim
        | _ => exact k1.elim
end
end DL

set_option Elab.async false
set_option linter.all false
set_option maxRecDepth 100000
set_option maxHeartbeats 1000000
namespace DL
open PySem PySem.Spec L2
section
variable {X : Cx} {E : St → XK} {G : List Sl} {a b c : Expr} {ta ma mb : M Bool} {pos : Pos}
def tIfB (t u v : TT) : TT := fun σ H Q => t σ H fun c H1 => if c = true then u σ H1 Q else v σ H1 Q
theorem pt_ifExp {tc t1 t2 : TT} (hc : PT X c tc) (ha : PT X a t1) (hb : PT X b t2) : PT X (.IfExp c a b pos) (tIfB tc t1 t2) := by
  refine ⟨fun pins s σ H Q I h => ?_⟩
  refine PyProof.Rows.isTrue_IfExp (thn (hc.run pins s σ H _ I h) fun d s1 ⟨H1, I1, q1⟩ => ?_)
  cases d with
  | true => exact ha.run pins s1 σ H1 Q I1 q1
  | false => exact hb.run pins s1 σ H1 Q I1 q1
theorem dt_ifx (hc : DT X E G c ta) (ha : DT X E G a ma) (hb : DT X E G b mb) : DT X E G (.IfExp c a b pos) (ta >>= fun x => if x = true then ma else mb) := by
  obtain ⟨t0, p0, w0⟩ := hc
  obtain ⟨t1, p1, w1⟩ := ha
  obtain ⟨t2, p2, w2⟩ := hb
  refine ⟨_, pt_ifExp p0 p1 p2, fun B σ F H Q s g q => w0 B σ F H _ s g (q.bind fun x F1 H1 v x1 r1 q1 => ?_)⟩
  subst r1
  cases v with
  | true => exact w1 B σ F1 H1 _ x1.sFH (g.ext x1) q1
  | false => exact w2 B σ F1 H1 _ x1.sFH (g.ext x1) q1
end
def repS (x : Str) (n : Nat) : Str := ⟨(List.replicate n x.cps).foldl (· ++ ·) #[]⟩
theorem foldl_cps : ∀ (n : Nat) (y : Array Nat) (acc : Array Nat), ((List.replicate n y).foldl (· ++ ·) acc).toList = acc.toList ++ (List.replicate n y.toList).flatten
  | 0, y, acc => by simp
  | n + 1, y, acc => by
    rw [List.replicate_succ, List.foldl_cons, foldl_cps n y, List.replicate_succ, List.flatten_cons, Array.toList_append, List.append_assoc]
theorem repS_tl (x : Str) (n : Nat) : (repS x n).cps.toList = (List.replicate n x.cps.toList).flatten := by
  unfold repS
  rw [foldl_cps]
  rfl
theorem repS_one (x : Str) : repS x 1 = x := by
  have : (repS x 1).cps = x.cps := Array.ext' (by rw [repS_tl]; simp)
  cases x
  exact congrArg Str.mk this
theorem repS_len (x : Str) (n : Nat) : (repS x n).length = n * x.length := by
  show (repS x n).cps.size = n * x.cps.size
  rw [← Array.length_toList, repS_tl, List.length_flatten, List.map_replicate, List.sum_replicate_nat, Array.length_toList]
def D.mulS : D → D → M D
  | .int i, .int j => D.mul (.int i) (.int j)
  | .str x, .int j => do need (decide (0 < x.length ∧ 0 ≤ j ∧ j ≤ 1000000 ∧ j.toNat * x.length ≤ sizeLine)); .ok (.str (repS x j.toNat))
  | _, _ => stuck
def rRepS : V → V → Hp → VK → Prop := fun x y H Q => ∃ i j, x = .str i ∧ y = .int j ∧ 0 < i.length ∧ 0 ≤ j ∧ j ≤ 1000000 ∧ j.toNat * i.length ≤ sizeLine ∧ Q (.str (repS i j.toNat)) H
theorem op_repS {X : Cx} : OpR X (binaryOp .Mult) rRepS := by
  intro pins s σ H x y v u Q I rx ry h
  obtain ⟨i, j, rfl, rfl, h0, h1, h2, hz, q⟩ := h
  obtain ⟨t, rfl⟩ := rx
  obtain ⟨t', rfl⟩ := ry
  have hsz : (sizeLine : Nat) = 16777216 := by decide
  refine PySem.P.mul_str ?_ ?_ ?_ ?_
  · have a1 : ¬ j < -(2 ^ 63 : Int) := by omega
    have a2 : ¬ j ≥ 2 ^ 63 := by omega
    rw [decide_eq_false a1, decide_eq_false a2]
    rfl
  · intro h3 h4 hh
    have a1 : i.length ≤ j.toNat * i.length := Nat.le_mul_of_pos_left _ (by omega)
    have a2 : (i.length : Int) ≤ 16777216 := by omega
    have a3 : (i.length : Int) * j ≤ 2 ^ 63 - 1 := by
      have a4 : (i.length : Int) * j ≤ 16777216 * 1000000 := Int.mul_le_mul a2 h2 h1 (by decide)
      omega
    have a5 := Int.le_ediv_of_mul_le (c := j) (by omega) a3
    omega
  · intro h3 h4
    exact PyProof.Rows.short24 (by rw [Nat.mul_comm]; omega)
  · by_cases c1 : j < 1
    · rw [if_pos c1]
      have e : j.toNat = 0 := by omega
      rw [e] at q
      exact ⟨by decide, .str (repS i 0), H, I.tok _, ⟨_, rfl⟩, q⟩
    · rw [if_neg c1]
      by_cases c2 : j = 1
      · rw [if_pos (by rw [c2]; rfl)]
        rw [c2] at q
        have e : repS i (1 : Int).toNat = i := repS_one i
        rw [e] at q
        exact ⟨.str i, H, I, ⟨t, rfl⟩, q⟩
      · rw [if_neg (by
          have b1 : (j == 1) = false := by simpa using c2
          have b2 : (i.length == 0) = false := by simpa using (Nat.ne_of_gt h0)
          rw [b1, b2]
          decide)]
        refine ⟨?_, .str (repS i j.toNat), H, I.tok _, ⟨_, rfl⟩, q⟩
        have e := repS_len i j.toNat
        show (repS i j.toNat).length ≤ sizeLine
        omega
section
variable {X : Cx} {E : St → XK} {G : List Sl} {a b : Expr} {ma mb : M D} {pos : Pos}
theorem op2_mulS : Op2 X.K D.mulS (fun x y H Q => rI CMul (fun i j => .int (i * j)) x y H Q ∨ rRepS x y H Q) := fun E F H v u x y Q s rx ry q => by
  cases x with
  | int i => cases y with
    | int j =>
      obtain ⟨c, q⟩ := q.need
      have c := of_decide_eq_true c
      exact .inl ⟨i, j, rx.int, ry.int, c, q F H _ (Ext.refl s) (.int _)⟩
    | _ => exact q.elim
  | str i => cases y with
    | int j =>
      obtain ⟨c, q⟩ := q.need
      obtain ⟨c1, c2, c3, c4⟩ := of_decide_eq_true c
      obtain ⟨ev, ok⟩ := rx.str
      exact .inr ⟨i, j, ev, ry.int, c1, c2, c3, c4, q F H _ (Ext.refl s) (.str _ (strOk_tl.mpr fun c hc => by
        have hc : c ∈ (repS i j.toNat).cps.toList := hc
        rw [repS_tl] at hc
        obtain ⟨l, hl, hc⟩ := List.mem_flatten.mp hc
        rw [(List.mem_replicate.mp hl).2] at hc
        exact strOk_tl.mp ok c hc))⟩
    | _ => exact q.elim
  | _ => cases y <;> exact q.elim
theorem de_mulS (ha : DR X E G a ma) (hb : DR X E G b mb) : DE X E G (.BinOp a .Mult b pos) (ma >>= fun x => mb >>= fun y => D.mulS x y) := de_op (op_mul.or op_repS) op2_mulS ha hb
end
theorem mulS_s {x : Str} {j : Int} (h0 : 0 < x.length) (h1 : 0 ≤ j) (h2 : j ≤ 1000000) (h3 : j.toNat * x.length ≤ sizeLine) : D.mulS (.str x) (.int j) = .ok (.str (repS x j.toNat)) := by
  show (need (decide (0 < x.length ∧ 0 ≤ j ∧ j ≤ 1000000 ∧ j.toNat * x.length ≤ sizeLine)) >>= fun _ => _) = _
  rw [decide_eq_true ⟨h0, h1, h2, h3⟩]
  rfl
end DL

set_option Elab.async false
set_option linter.all false
set_option maxRecDepth 100000
set_option maxHeartbeats 4000000
namespace LawWalk
open PySem PySem.Spec L2 DL
def top (i : Nat) : Stmt := PySem.Challenge.pw_waypapers_k54_words_of_a_session.main.body.getD i (.Pass ⟨0, 0, 0, 0⟩)
def d_law_row : He.DefD := ⟨("_law_row", none), "_law_row", "_law_row", defArgs (top 14), defBody (top 14), defScope (top 14), [], []⟩
def d_law_numbers : He.DefD := ⟨("_law_numbers", none), "_law_numbers", "_law_numbers", defArgs (top 15), defBody (top 15), defScope (top 15), [], []⟩
def d_split_words : He.DefD := ⟨("split_words", none), "split_words", "split_words", defArgs (top 10), defBody (top 10), defScope (top 10), [], []⟩
def d_is_name : He.DefD := ⟨("is_name", none), "is_name", "is_name", defArgs (top 3), defBody (top 3), defScope (top 3), [], []⟩
def d_is_number : He.DefD := ⟨("is_number", none), "is_number", "is_number", defArgs (top 7), defBody (top 7), defScope (top 7), [], []⟩
def d_has_form : He.DefD := ⟨("has_form", none), "has_form", "has_form", defArgs (top 11), defBody (top 11), defScope (top 11), [], []⟩
def d_is_command : He.DefD := ⟨("is_command", none), "is_command", "is_command", defArgs (top 12), defBody (top 12), defScope (top 12), [], []⟩
def d_law_word : He.DefD := ⟨("_law_word", none), "_law_word", "_law_word", defArgs (top 16), defBody (top 16), defScope (top 16), [], []⟩
def d_law_form : He.DefD := ⟨("_law_form", none), "_law_form", "_law_form", defArgs (top 19), defBody (top 19), defScope (top 19), [], []⟩
def d_law_is_name : He.DefD := ⟨("_law_is_name", none), "_law_is_name", "_law_is_name", defArgs (top 17), defBody (top 17), defScope (top 17), [], []⟩
def d_law_is_number : He.DefD := ⟨("_law_is_number", none), "_law_is_number", "_law_is_number", defArgs (top 18), defBody (top 18), defScope (top 18), [], []⟩
def d_law_formed : He.DefD := ⟨("_law_formed", none), "_law_formed", "_law_formed", defArgs (top 21), defBody (top 21), defScope (top 21), [], []⟩
def d_law_command : He.DefD := ⟨("_law_command", none), "_law_command", "_law_command", defArgs (top 20), defBody (top 20), defScope (top 20), [], []⟩
def d_law : He.DefD := ⟨("law", none), "law", "law", defArgs (top 22), defBody (top 22), defScope (top 22), [], []⟩
def fn : List He.DefD := [d_law_row, d_law_numbers, d_split_words, d_is_name, d_is_number, d_has_form, d_is_command, d_law_word, d_law_form, d_law_is_name, d_law_is_number, d_law_formed, d_law_command, d_law]
def gt : List He.DefD := []
def fa : List He.Fa := [.free "abs", .free "int", .free "range", .free "len", .free "max", .glo "_law_row", .int "MOST_NAME_CHARS" (12), .str "NAME_CHARS" "abcdefghijklmnopqrstuvwxyz0123456789", .free "all", .str "DIGITS" "0123456789", .int "MOST_DIGITS" (6), .free "zip", .glo "is_name", .glo "is_number", .glo "FORMS", .glo "has_form", .glo "_law_is_name", .glo "_law_is_number", .glo "_law_form", .glo "_law_numbers", .glo "_law_word", .glo "_law_formed", .glo "split_words", .free "isinstance", .free "list", .glo "is_command", .glo "_law_command", .free "bool", .glo "law"]
theorem fa_0 : fa[0]? = some (.free "abs") := rfl
theorem fa_1 : fa[1]? = some (.free "int") := rfl
theorem fa_2 : fa[2]? = some (.free "range") := rfl
theorem fa_3 : fa[3]? = some (.free "len") := rfl
theorem fa_4 : fa[4]? = some (.free "max") := rfl
theorem fa_5 : fa[5]? = some (.glo "_law_row") := rfl
theorem fa_6 : fa[6]? = some (.int "MOST_NAME_CHARS" (12)) := rfl
theorem fa_7 : fa[7]? = some (.str "NAME_CHARS" "abcdefghijklmnopqrstuvwxyz0123456789") := rfl
theorem fa_8 : fa[8]? = some (.free "all") := rfl
theorem fa_9 : fa[9]? = some (.str "DIGITS" "0123456789") := rfl
theorem fa_10 : fa[10]? = some (.int "MOST_DIGITS" (6)) := rfl
theorem fa_11 : fa[11]? = some (.free "zip") := rfl
theorem fa_12 : fa[12]? = some (.glo "is_name") := rfl
theorem fa_13 : fa[13]? = some (.glo "is_number") := rfl
theorem fa_14 : fa[14]? = some (.glo "FORMS") := rfl
theorem fa_15 : fa[15]? = some (.glo "has_form") := rfl
theorem fa_16 : fa[16]? = some (.glo "_law_is_name") := rfl
theorem fa_17 : fa[17]? = some (.glo "_law_is_number") := rfl
theorem fa_18 : fa[18]? = some (.glo "_law_form") := rfl
theorem fa_19 : fa[19]? = some (.glo "_law_numbers") := rfl
theorem fa_20 : fa[20]? = some (.glo "_law_word") := rfl
theorem fa_21 : fa[21]? = some (.glo "_law_formed") := rfl
theorem fa_22 : fa[22]? = some (.glo "split_words") := rfl
theorem fa_23 : fa[23]? = some (.free "isinstance") := rfl
theorem fa_24 : fa[24]? = some (.free "list") := rfl
theorem fa_25 : fa[25]? = some (.glo "is_command") := rfl
theorem fa_26 : fa[26]? = some (.glo "_law_command") := rfl
theorem fa_27 : fa[27]? = some (.free "bool") := rfl
theorem fa_28 : fa[28]? = some (.glo "law") := rfl
def insC : List Str := []
def propC : List (Str × Str) := []
def tup0C : List ((Str × Option Str) × Str) := []
def exW (K : PySem.W.Frag) : Bool := insC.all (fun x => insB K (He.ga K x)) && (propC.all (fun p => propB K p.1 p.2) && tup0C.all (fun p => tup0B K (kwdAt p.1 p.2 K)))
def tl_FORMS : TabL := [("map", .tup [.str "name"]), ("set", .tup [.str "name", .str "name", .str "number"]), ("back", .tup [.str "name", .str "name", .str "number"]), ("print", .tup [.str "name", .str "number"]), ("journal", .tup [.str "name"]), ("version", .tup [.str "name"]), ("route", .tup [.str "name", .str "number", .str "name", .str "name", .str "name", .str "number"])]
def ts : List Tb := [("FORMS", tl_FORMS)]
abbrev DefOk (K : PySem.W.Frag) (d : He.DefD) (fd : FuncData) : Prop := FunD K d.name d.qual d.params d.body d.scope (d.dvs K) (d.kws K) (He.fAd K d.at_) fd
structure Lw (w : World) (K : PySem.W.Frag) (mg : Str → Option Value) : Prop where
  h : ∃ hp : Heap, K.In hp ∧ hp.Ns mainGlobals mg
  s : SaysG fa fn gt exW K
  t : seenTb ts K = dueTb ts w
theorem Lw.c {w : World} {K : PySem.W.Frag} {mg : Str → Option Value} (L : Lw w K mg) : He.SaysD fa fn K := L.s.d
section
variable {w : World} {K : PySem.W.Frag} {mg : Str → Option Value} (L : Lw w K mg) {i : Nat}
include L
theorem Lw.tab {t : Tb} (h : t ∈ ts) : TabOk K w (He.ga K t.1) t.2 := tab_of L.t h
theorem Lw.glo {x : Str} (e : fa[i]? = some (.glo x)) : mg x = some (.ref (He.ga K x)) := let ⟨_, X, G⟩ := L.h; He.glo_ok X G (L.c.fact i e)
theorem Lw.free {x : Str} (e : fa[i]? = some (.free x)) : mg x = none := let ⟨_, X, G⟩ := L.h; He.free_ok X G (L.c.fact i e)
theorem Lw.int {x : Str} {v : Int} (e : fa[i]? = some (.int x v)) : ∃ t, mg x = some (.int v t) := let ⟨_, X, G⟩ := L.h; He.int_ok X G (L.c.fact i e)
theorem Lw.str {x z : Str} (e : fa[i]? = some (.str x z)) : ∃ t, mg x = some (.str z t) := let ⟨_, X, G⟩ := L.h; He.str_ok X G (L.c.fact i e)
theorem Lw.cls {x : Str} (e : fa[i]? = some (.cls x)) : Cls K (He.ga K x) := He.cls_ok (L.c.fact i e)
theorem Lw.meth {x m : Str} (e : fa[i]? = some (.meth x m)) : Meth K (He.ga K x) m (He.ma K (He.ga K x) m) := He.meth_ok (L.c.fact i e)
end
end LawWalk

set_option Elab.async false
set_option linter.all false
set_option maxRecDepth 100000
set_option maxHeartbeats 0
namespace LawHead
open PySem PySem.Spec PyProof.Rows L2
abbrev R : PySem.W.OpenRow := PySem.W.OpenLaw.row PySem.Challenge.rw_waypapers_k54_words_of_a_session
abbrev hk : PySem.W.Hook := DL.hookGT 5 LawWalk.fa LawWalk.fn LawWalk.gt LawWalk.exW LawWalk.ts
def ob (s : PySem.W.SharedT) : DL.AlG × DL.AlTb := (DL.seen LawWalk.fa LawWalk.fn LawWalk.gt LawWalk.exW (He.frG (HandSHeadRun.getT s) (He.asD (HandSHeadRun.getT s) 5)), DL.seenTb LawWalk.ts (He.frG (HandSHeadRun.getT s) (He.asD (HandSHeadRun.getT s) 5)))
theorem ob_eq (s : PySem.W.SharedT) : ob s = hk.obs s.abs := DL.obsGT_eq (HandSHeadRun.getT_eq s)
def loose : List PySem.Str := (["NAME_CHARS", "MOST_NAME_CHARS", "is_name", "DIGITS", "MOST_DIGITS", "is_number", "FORMS", "split_words", "has_form", "is_command", "_law_row", "_law_numbers"] : List PySem.Str) ++ (["_law_word", "_law_is_name", "_law_is_number", "_law_form", "_law_command", "_law_formed"] : List PySem.Str)
theorem run (w : World) : HandSHeadRun.RunEq R (PySem.W.view R.prog [22]) hk ob 20000 loose w := by
  refine PySem.W.byRow2 "special-get-raises" (P := fun w => HandSHeadRun.RunEq R (PySem.W.view R.prog [22]) hk ob 20000 loose w) (fun w os => ?_) (fun w os => ?_) w
  · kernel_rfl
  · kernel_rfl
end LawHead

set_option Elab.async false
set_option linter.all false
set_option maxRecDepth 100000
set_option maxHeartbeats 4000000
namespace DL
open PySem L2
section
variable {α β : Type}
@[simp] theorem okb (a : α) (f : α → M β) : ((.ok a : M α) >>= f) = f a := rfl
@[simp] theorem erb (e : Er) (f : α → M β) : ((.error e : M α) >>= f) = .error e := rfl
@[simp] theorem need_t : need true = .ok () := rfl
@[simp] theorem need_f : need false = stuck := rfl

variable {i j : Int} {l m : List D} {x y : Str} {a b : Bool}
@[simp] theorem f1_1 (f : D → M D) (x : D) : f1 f [x] = f x := rfl
@[simp] theorem f2_2 (f : D → D → M D) (x y : D) : f2 f [x, y] = f x y := rfl
@[simp] theorem add_ii : D.add (.int i) (.int j) = .ok (.int (i + j)) := rfl
@[simp] theorem sub_ii : D.sub (.int i) (.int j) = .ok (.int (i - j)) := rfl
@[simp] theorem mul_ii : D.mul (.int i) (.int j) = (need (decide ((-(2 ^ 64) < i ∧ i < 2 ^ 64) ∨ (-(2 ^ 64) < j ∧ j < 2 ^ 64))) >>= fun _ => .ok (.int (i * j))) := rfl
@[simp] theorem mod_ii : D.mod (.int i) (.int j) = (need (decide (0 < j)) >>= fun _ => .ok (.int (i % j))) := rfl
@[simp] theorem fdiv_ii : D.fdiv (.int i) (.int j) = (need (decide (0 < j ∧ j < 1073741824)) >>= fun _ => .ok (.int (i / j))) := rfl
@[simp] theorem pow_ii : D.pow (.int i) (.int j) = (need (decide (0 ≤ j ∧ j ≤ 1000000 ∧ i.natAbs < 2 ^ 64)) >>= fun _ => .ok (.int (i ^ j.toNat))) := rfl
@[simp] theorem neg_i : D.neg (.int i) = .ok (.int (-i)) := rfl
@[simp] theorem toInt_i : D.toInt (.int i) = .ok (.int i) := rfl
@[simp] theorem abs_i : D.abs (.int i) = .ok (.int (if i < 0 then -i else i)) := rfl
@[simp] theorem lt_ii : D.lt (.int i) (.int j) = .ok (decide (i < j)) := rfl
@[simp] theorem le_ii : D.le (.int i) (.int j) = .ok (decide (i ≤ j)) := rfl
@[simp] theorem gt_ii : D.gt (.int i) (.int j) = .ok (decide (j < i)) := rfl
@[simp] theorem ge_ii : D.ge (.int i) (.int j) = .ok (decide (j ≤ i)) := rfl
@[simp] theorem max_ii : D.max2 (.int i) (.int j) = .ok (.int (if j > i then j else i)) := rfl
@[simp] theorem min_ii : D.min2 (.int i) (.int j) = .ok (.int (if j < i then j else i)) := rfl
@[simp] theorem len_l : D.len (.lst l) = .ok (.int l.length) := rfl
@[simp] theorem len_t : D.len (.tup l) = .ok (.int l.length) := rfl
@[simp] theorem len_scr {l : List Int} : D.len (.scr l) = .ok (.int l.length) := rfl
@[simp] theorem len_s : D.len (.str x) = (need (decide (x.length ≤ sizeLine)) >>= fun _ => .ok (.int x.length)) := rfl
@[simp] theorem tru_b : D.tru (.bl a) = .ok a := rfl
@[simp] theorem tru_i : D.tru (.int i) = .ok (i != 0) := rfl
@[simp] theorem tru_l : D.tru (.lst l) = .ok (!l.isEmpty) := rfl
@[simp] theorem tru_t : D.tru (.tup l) = .ok (!l.isEmpty) := rfl
@[simp] theorem items_l : D.items (.lst l) = .ok l := rfl
@[simp] theorem items_t : D.items (.tup l) = .ok l := rfl
@[simp] theorem items_s : D.items (.str x) = .ok (x.cps.toList.map fun c => D.str ⟨#[c]⟩) := rfl
@[simp] theorem bnd_i : D.bnd (.int i) = .ok (some i) := rfl
@[simp] theorem isN_n {d : D} : D.isN d .non = .ok d.isNon := rfl
@[simp] theorem notN_n {d : D} : D.notN d .non = .ok (!d.isNon) := rfl
@[simp] theorem isNon_n : D.isNon .non = true := rfl
@[simp] theorem isNon_l : D.isNon (.lst l) = false := rfl
@[simp] theorem isNon_t : D.isNon (.tup l) = false := rfl
@[simp] theorem isNon_i : D.isNon (.int i) = false := rfl
@[simp] theorem isNon_s : D.isNon (.str x) = false := rfl
@[simp] theorem bD_ok : bD (.ok a) = .ok (.bl a) := rfl
@[simp] theorem mkLst_l : D.mkLst l = (need (decide (l.length ≤ sizeLine)) >>= fun _ => .ok (.lst l)) := rfl
@[simp] theorem mkTup_l : D.mkTup l = (need (decide (l.length ≤ sizeLine)) >>= fun _ => .ok (.tup l)) := rfl
@[simp] theorem toTup_l : D.toTup (.lst l) = .ok (.tup l) := rfl
@[simp] theorem toTup_t : D.toTup (.tup l) = .ok (.tup l) := rfl
@[simp] theorem toList_l : D.toList (.lst l) = .ok (.lst l) := rfl
@[simp] theorem toList_t : D.toList (.tup l) = .ok (.lst l) := rfl
@[simp] theorem nList_l : nList (.ok [.lst l]) = .ok l := rfl
@[simp] theorem nList_t : nList (.ok [.tup l]) = .ok l := rfl
@[simp] theorem sl_l {lo hi : Option Int} : D.sl (.lst l) lo hi = .ok (.lst (cutL l lo hi)) := rfl
@[simp] theorem sl_t {lo hi : Option Int} : D.sl (.tup l) lo hi = .ok (.tup (cutL l lo hi)) := rfl
@[simp] theorem sl_scr {l : List Int} {lo hi : Option Int} : D.sl (.scr l) lo hi = .ok (.lst ((cutL l lo hi).map D.int)) := rfl
@[simp] theorem sl_s {lo hi : Option Int} : D.sl (.str x) lo hi = (need (decide (x.length ≤ sizeLine)) >>= fun _ => .ok (.str (cutS x lo hi))) := rfl
@[simp] theorem add_ss : D.add (.str x) (.str y) = (need (decide (x.length + y.length ≤ sizeLine)) >>= fun _ => .ok (.str (x ++ y))) := rfl
@[simp] theorem add_ll : D.add (.lst l) (.lst m) = (need (decide (l.length + m.length ≤ sizeLine)) >>= fun _ => .ok (.lst (l ++ m))) := rfl
@[simp] theorem add_tt : D.add (.tup l) (.tup m) = (need (decide (l.length + m.length ≤ sizeLine)) >>= fun _ => .ok (.tup (l ++ m))) := rfl
@[simp] theorem range1_i : D.range1 [.int j] = (need (smallI j) >>= fun _ => .ok (rangeL 0 j.toNat)) := rfl
@[simp] theorem range2_i : D.range2 [.int i, .int j] = (need (smallI i && smallI j) >>= fun _ => .ok (rangeL i (j - i).toNat)) := rfl
theorem ix_nat {n : Nat} {d : D} (h : l[n]? = some d) (e : i = (n : Int)) : D.ix (.lst l) (.int i) = .ok d := by
  subst e
  show (match atI l (n : Int) with | some d => (.ok d : M D) | none => stuck) = _
  have : atI l (n : Int) = some d := by
    have hl := (List.getElem?_eq_some_iff.mp h).1
    have e : ixN l.length (n : Int) = some n := by
      unfold ixN
      simp
      omega
    show (ixN l.length (n : Int)).bind (fun j => l[j]?) = some d
    rw [e]
    exact h
  rw [this]
theorem ix_natT {n : Nat} {d : D} (h : l[n]? = some d) (e : i = (n : Int)) : D.ix (.tup l) (.int i) = .ok d := ix_nat (l := l) h e
end
section
variable {α : Type}
theorem cut_take (xs : List α) {i : Int} (h : 0 ≤ i) : cutL xs none (some i) = xs.take i.toNat := by
  have e1 : HT.sIx xs.length 0 none = 0 := rfl
  have e2 : HT.sIx xs.length xs.length (some i) = min i.toNat xs.length := by
    unfold HT.sIx
    simp
    omega
  unfold cutL
  rw [e1, e2, List.drop_zero, Nat.sub_zero]
  apply List.ext_getElem?
  intro k
  rw [List.getElem?_take, List.getElem?_take]
  by_cases h1 : k < xs.length
  · by_cases h2 : k < i.toNat
    · rw [if_pos (by omega), if_pos h2]
    · rw [if_neg (by omega), if_neg h2]
  · rw [List.getElem?_eq_none (by omega)]
    simp
theorem cut_drop (xs : List α) {i : Int} (h : 0 ≤ i) : cutL xs (some i) none = xs.drop i.toNat := by
  have e1 : HT.sIx xs.length xs.length none = xs.length := rfl
  have e2 : HT.sIx xs.length 0 (some i) = min i.toNat xs.length := by
    unfold HT.sIx
    simp
    omega
  unfold cutL
  rw [e1, e2]
  by_cases h1 : i.toNat ≤ xs.length
  · rw [Nat.min_eq_left h1, List.take_of_length_le (by rw [List.length_drop]; omega)]
  · rw [Nat.min_eq_right (by omega), List.drop_eq_nil_of_le (Nat.le_refl _), List.drop_eq_nil_of_le (by omega), List.take_nil]
end
section
variable {S : Type}
theorem loopF_cons {f : S → D → M S} {s : S} {d : D} {ds : List D} : loopF f (d :: ds) s = (f s d >>= fun s => loopF f ds s) := rfl
theorem loopF_inv {f : S → D → M S} (I : Nat → S → Prop) : ∀ (ds : List D) (k : Nat) (s0 : S), I k s0 → (∀ i d s, ds[i]? = some d → I (k + i) s → ∃ s', f s d = .ok s' ∧ I (k + i + 1) s') → ∃ s', loopF f ds s0 = .ok s' ∧ I (k + ds.length) s'
  | [], k, s0, h, _ => ⟨s0, rfl, h⟩
  | d :: ds, k, s0, h, st => by
    obtain ⟨s1, e1, h1⟩ := st 0 d s0 rfl h
    obtain ⟨s', e2, h2⟩ := loopF_inv I ds (k + 1) s1 h1 (fun i d' s hd hi => by
      have hi' : I (k + (i + 1)) s := by
        have e : k + (i + 1) = k + 1 + i := by omega
        rw [e]
        exact hi
      obtain ⟨s', e, h'⟩ := st (i + 1) d' s (by simpa using hd) hi'
      refine ⟨s', e, ?_⟩
      have e : k + 1 + i + 1 = k + (i + 1) + 1 := by omega
      rw [e]
      exact h')
    refine ⟨s', ?_, ?_⟩
    · rw [loopF_cons, e1]
      exact e2
    · have e : k + (d :: ds).length = k + 1 + ds.length := by simp; omega
      rw [e]
      exact h2
theorem rangeL_len (lo : Int) (n : Nat) : (rangeL lo n).length = n := by simp [rangeL]
theorem rangeL_get {lo : Int} {n i : Nat} {d : D} (h : (rangeL lo n)[i]? = some d) : d = .int (lo + (i : Int)) ∧ i < n := by
  unfold rangeL at h
  rw [List.getElem?_map] at h
  by_cases hi : i < n
  · rw [List.getElem?_range hi] at h
    cases h
    exact ⟨rfl, hi⟩
  · rw [List.getElem?_eq_none (by simpa using hi)] at h
    cases h
theorem small_of {i : Int} (h1 : -4611686018427387904 ≤ i) (h2 : i < 4611686018427387904) : smallI i = true := by
  unfold smallI
  exact decide_eq_true ⟨h1, h2⟩
theorem whileF_inv {c : S → M Bool} {f : S → M S} (I : S → Prop) (μ : S → Nat) (hc : ∀ s, I s → ∃ b, c s = .ok b ∧ (b = true → ∃ s', f s = .ok s' ∧ I s' ∧ μ s' < μ s)) : ∀ (n : Nat) (s : S), I s → μ s < n → ∃ s', whileF c f n s = .ok s' ∧ I s' ∧ c s' = .ok false
  | 0, s, h, hm => absurd hm (Nat.not_lt_zero _)
  | n + 1, s, h, hm => by
    obtain ⟨b, e, hb⟩ := hc s h
    cases b with
    | false =>
      refine ⟨s, ?_, h, e⟩
      show (c s >>= fun b => if b = true then f s >>= fun s => whileF c f n s else .ok s) = _
      rw [e]
      rfl
    | true =>
      obtain ⟨s', e2, h2, h3⟩ := hb rfl
      obtain ⟨s'', e4, h4, h5⟩ := whileF_inv I μ hc n s' h2 (by omega)
      refine ⟨s'', ?_, h4, h5⟩
      show (c s >>= fun b => if b = true then f s >>= fun s => whileF c f n s else .ok s) = _
      rw [e]
      show (f s >>= fun s => whileF c f n s) = _
      rw [e2]
      exact e4
end
end DL

set_option Elab.async false
set_option linter.all false
set_option maxRecDepth 100000
set_option maxHeartbeats 4000000
namespace DL
open PySem L2
theorem need_p {p : Prop} [Decidable p] (h : p) : need (decide p) = .ok () := by
  rw [decide_eq_true h]
  rfl
theorem mul_okl {i j : Int} (h1 : -(2 ^ 64) < i) (h2 : i < 2 ^ 64) : D.mul (.int i) (.int j) = .ok (.int (i * j)) := by
  rw [mul_ii, need_p (.inl ⟨h1, h2⟩)]
  rfl
theorem mul_okr {i j : Int} (h1 : -(2 ^ 64) < j) (h2 : j < 2 ^ 64) : D.mul (.int i) (.int j) = .ok (.int (i * j)) := by
  rw [mul_ii, need_p (.inr ⟨h1, h2⟩)]
  rfl
theorem mod_ok {i j : Int} (h : 0 < j) : D.mod (.int i) (.int j) = .ok (.int (i % j)) := by
  rw [mod_ii, need_p h]
  rfl
abbrev tl (x : Str) : List Nat := TL.tl x
def mk (l : List Nat) : Str := ⟨l.toArray⟩
@[simp] theorem tl_mk (l : List Nat) : tl (mk l) = l := rfl
@[simp] theorem mk_tl (x : Str) : mk (tl x) = x := TL.mk_tl x
theorem len_mk (l : List Nat) : (mk l).length = l.length := TL.len_tl _
theorem mk_app (l m : List Nat) : mk l ++ mk m = mk (l ++ m) := TL.ext_tl (TL.tl_append _ _)
@[simp] theorem mk_inj {l m : List Nat} : mk l = mk m ↔ l = m := ⟨fun h => congrArg tl h, fun h => h ▸ rfl⟩
theorem tl_cut (z : Str) (lo hi : Option Int) : tl (cutS z lo hi) = cutL (tl z) lo hi := by
  unfold cutS cutL
  rw [TL.len_tl z]
theorem cutS_mk (l : List Nat) (lo hi : Option Int) : cutS (mk l) lo hi = mk (cutL l lo hi) := TL.ext_tl (tl_cut _ _ _)
theorem mem_char' (c : Nat) (z : Str) : D.mem (.str (mk [c])) (.str z) = .ok (decide (c ∈ tl z)) := rfl
theorem items_mk (l : List Nat) : D.items (.str (mk l)) = .ok (l.map fun c => D.str (mk [c])) := rfl
theorem ix_str {x : Str} {n : Nat} {c : Nat} {i : Int} (hl : x.length ≤ 16777216) (h : (tl x)[n]? = some c) (e : i = (n : Int)) : D.ix (.str x) (.int i) = .ok (.str (mk [c])) := by
  subst e
  have hn := (List.getElem?_eq_some_iff.mp h).1
  have e : atI x.cps.toList (n : Int) = some c := by
    have e : ixN (tl x).length (n : Int) = some n := by
      unfold ixN
      simp
      omega
    show (ixN (tl x).length (n : Int)).bind (fun j => (tl x)[j]?) = some c
    rw [e]
    exact h
  show (need (decide (x.length ≤ sizeLine)) >>= fun _ => match atI x.cps.toList (n : Int) with | some c => (.ok (.str ⟨#[c]⟩) : M D) | none => stuck) = _
  rw [PySem.sizeLine_eq, decide_eq_true hl, e]
  rfl
section
variable {α : Type}
theorem compL_mapA {f : D → M D} {k : α → D} {g : α → D} {l : List α} (hl : l.length ≤ 16777216) (h : ∀ a ∈ l, f (k a) = .ok (g a)) : compL (fElt noT f) (l.map k) = .ok (l.map g) := by
  unfold compL
  rw [PySem.sizeLine_eq, List.length_map, decide_eq_true hl]
  show comp _ _ = _
  clear hl
  induction l with
  | nil => rfl
  | cons a l ih =>
    have h1 := h a (List.mem_cons_self ..)
    have h2 := ih fun x hx => h x (List.mem_cons_of_mem _ hx)
    rw [List.map_cons]
    unfold comp
    have e : fElt noT f (k a) = .ok (some (g a)) := by
      unfold fElt
      simp [h1]
    rw [e]
    show (comp (fElt noT f) (l.map k) >>= fun ys => .ok (g a :: ys)) = _
    rw [h2]
    rfl
theorem compL_filterA {t : D → M Bool} {f : D → M D} {k : α → D} {p : α → Bool} {g : α → D} {l : List α} (hl : l.length ≤ 16777216) (ht : ∀ a ∈ l, t (k a) = .ok (p a)) (h : ∀ a ∈ l, p a = true → f (k a) = .ok (g a)) : compL (fElt t f) (l.map k) = .ok ((l.filter p).map g) := by
  unfold compL
  rw [PySem.sizeLine_eq, List.length_map, decide_eq_true hl]
  show comp _ _ = _
  clear hl
  induction l with
  | nil => rfl
  | cons a l ih =>
    have t1 := ht a (List.mem_cons_self ..)
    have h1 := h a (List.mem_cons_self ..)
    have h2 := ih (fun x hx => ht x (List.mem_cons_of_mem _ hx)) fun x hx => h x (List.mem_cons_of_mem _ hx)
    rw [List.map_cons]
    unfold comp
    cases e : p a with
    | true =>
      have e2 : fElt t f (k a) = .ok (some (g a)) := by
        unfold fElt
        simp [h1 e, t1, e]
      rw [e2, List.filter_cons, if_pos e]
      show (comp (fElt t f) (l.map k) >>= fun ys => .ok (g a :: ys)) = _
      rw [h2]
      rfl
    | false =>
      have e2 : fElt t f (k a) = .ok none := by
        unfold fElt
        simp [t1, e]
      rw [e2, List.filter_cons, if_neg (by rw [e]; exact Bool.false_ne_true)]
      exact h2
theorem bools_map {p : α → Bool} : ∀ l : List α, D.bools (l.map fun a => D.bl (p a)) = some (l.map p)
  | [] => rfl
  | a :: l => by
    show (D.bools (l.map fun a => D.bl (p a))).map (p a :: ·) = _
    rw [bools_map l]
    rfl
theorem all_map {p : α → Bool} (l : List α) : D.all (.lst (l.map fun a => D.bl (p a))) = .ok (.bl (l.all p)) := by
  show (match D.bools (l.map fun a => D.bl (p a)) with | some bs => (.ok (.bl (bs.all id)) : M D) | none => stuck) = _
  rw [bools_map]
  simp
theorem strs_map : ∀ l : List Str, D.strs (l.map D.str) = some l
  | [] => rfl
  | a :: l => by
    show (D.strs (l.map D.str)).map (a :: ·) = _
    rw [strs_map l]
    rfl
end
@[simp] theorem isStr_s {x : Str} : D.isStr (.str x) = true := rfl
@[simp] theorem meth_s {x : Str} {l : List D} {f : D → List D → M D} : meth D.isStr (.ok (.str x)) (.ok l) f = f (.str x) l := rfl
@[simp] theorem m1_1 {x y : D} {f : D → D → M D} : m1 f x [y] = f x y := rfl
theorem join_ok {y : Str} {l : List Str} (h : (l.map (·.length)).sum + l.length * y.length ≤ 16777216) : D.join (.str y) (.lst (l.map D.str)) = .ok (.str (Str.join y l)) := by
  unfold D.join
  simp only [strs_map]
  show (need (decide ((l.map (·.length)).sum + l.length * y.length ≤ 16777216)) >>= fun _ => (.ok (.str (Txt.join y l)) : M D)) = _
  rw [decide_eq_true h, TL.join_eq]
  rfl
theorem split_ok {x y : Str} (hy : y.length ≠ 0) (h : x.length + 2 ≤ 16777216) : D.split (.str x) (.str y) = .ok (.lst ((Txt.split x y).map D.str)) := by
  show (need (!(y.length == 0) && decide (x.length + 2 ≤ sizeLine)) >>= fun _ => (.ok (.lst ((Txt.split x y).map D.str)) : M D)) = _
  have e : (!(y.length == 0) && decide (x.length + 2 ≤ sizeLine)) = true := by
    rw [PySem.sizeLine_eq, decide_eq_true h]
    simp [hy]
  rw [e]
  rfl
theorem joinL_nil : ∀ l : List (List Nat), TL.joinL [] l = l.flatten
  | [] => rfl
  | [p] => by simp [TL.joinL]
  | p :: q :: r => by
    show p ++ ([] ++ TL.joinL [] (q :: r)) = _
    rw [joinL_nil (q :: r)]
    simp
theorem join0 (l : List Str) : Str.join "" l = mk (l.map tl).flatten := by
  apply TL.ext_tl
  rw [TL.tl_join]
  have : TL.tl ("" : Str) = [] := by decide
  rw [this, joinL_nil]
  rfl
theorem eq_ss {x y : Str} : D.eq (.str x) (.str y) = .ok (decide (x = y)) := by
  unfold D.eq
  simp [D.shp, D.leaf, D.beq]
theorem eq_ii {i j : Int} : D.eq (.int i) (.int j) = .ok (decide (i = j)) := by
  unfold D.eq
  simp [D.shp, D.leaf, D.beq]
theorem eq_of {x y : D} (hx : x.shp 20 = true) (hy : y.shp 20 = true) : D.eq x y = .ok (D.beq x y) := by
  unfold D.eq
  rw [hx, hy]
  rfl
theorem ne_of {x y : D} (hx : x.shp 20 = true) (hy : y.shp 20 = true) : D.ne x y = .ok (!D.beq x y) := by
  unfold D.ne
  rw [eq_of hx hy]
  rfl
theorem ne_ss {x y : Str} : D.ne (.str x) (.str y) = .ok (!decide (x = y)) := by
  unfold D.ne
  rw [eq_ss]
  rfl
theorem ne_ii {x y : Int} : D.ne (.int x) (.int y) = .ok (!decide (x = y)) := by
  unfold D.ne
  rw [eq_ii]
  rfl
theorem shp_leaf {d : D} (h : d.leaf = true) : ∀ n, d.shp n = true
  | 0 => h
  | n + 1 => by cases d <;> first | exact h | cases h
theorem shp_mono : ∀ {n : Nat} {d : D}, d.shp n = true → d.shp (n + 1) = true
  | n, d, h => by
    induction n generalizing d with
    | zero => exact shp_leaf h 1
    | succ n ih =>
      rcases D.shp_cases h with h1 | ⟨m, l, e, hd, hl⟩
      · exact shp_leaf h1 _
      · cases e
        have : l.all (D.shp (n + 1)) = true := List.all_eq_true.mpr fun x hx => ih _ (List.all_eq_true.mp hl x hx)
        rcases hd with rfl | rfl <;> exact this
theorem shp_le {n m : Nat} {d : D} (h : d.shp n = true) (hm : n ≤ m) : d.shp m = true := by
  induction m with
  | zero =>
    have : n = 0 := by omega
    subst this
    exact h
  | succ m ih =>
    by_cases e : n = m + 1
    · subst e
      exact h
    · exact shp_mono (ih (by omega))
theorem beq_refl : ∀ {n : Nat} {d : D}, d.shp n = true → D.beq d d = true
  | n, d, h => by
    induction n generalizing d with
    | zero => rcases D.leaf_cases h with rfl | ⟨b, rfl⟩ | ⟨i, rfl⟩ | ⟨x, rfl⟩ <;> simp [D.beq]
    | succ n ih =>
      have q : ∀ l : List D, l.all (D.shp n) = true → D.beqL l l = true := by
        intro l
        induction l with
        | nil => intro _; rfl
        | cons a l ihl =>
          intro h
          rw [List.all_cons, Bool.and_eq_true] at h
          simp only [D.beqL]
          rw [ih _ h.1, ihl h.2]
          rfl
      rcases D.shp_cases h with h1 | ⟨m, l, e, hd, hl⟩
      · rcases D.leaf_cases h1 with rfl | ⟨b, rfl⟩ | ⟨i, rfl⟩ | ⟨x, rfl⟩ <;> simp [D.beq]
      · cases e
        rcases hd with rfl | rfl <;> (simp only [D.beq]; exact q l hl)
theorem ne_self {d : D} (h : d.shp 20 = true) : D.ne d d = .ok false := by
  rw [ne_of h h, beq_refl h]
  rfl
theorem eq_self {d : D} (h : d.shp 20 = true) : D.eq d d = .ok true := by rw [eq_of h h, beq_refl h]
theorem shp_lst {l : List D} {n : Nat} (h : ∀ d ∈ l, d.shp n = true) : (D.lst l).shp (n + 1) = true := List.all_eq_true.mpr h
@[simp] theorem shp_str {x : Str} {n : Nat} : (D.str x).shp n = true := shp_leaf rfl n
@[simp] theorem shp_int {x : Int} {n : Nat} : (D.int x).shp n = true := shp_leaf rfl n
@[simp] theorem shp_non {n : Nat} : (D.non).shp n = true := shp_leaf rfl n
@[simp] theorem shp_bl {b : Bool} {n : Nat} : (D.bl b).shp n = true := shp_leaf rfl n
end DL

set_option Elab.async false
set_option linter.all false
set_option maxRecDepth 100000
set_option maxHeartbeats 4000000
namespace DL
open PySem L2
structure En {α : Type} [DecidableEq α] (n : Nat) (e : α → D) : Prop where
  beq : ∀ x y, D.beq (e x) (e y) = decide (x = y)
  shp : ∀ x, (e x).shp n = true
section
variable {α β : Type} [DecidableEq α] [DecidableEq β] {n m : Nat} {e : α → D} {e2 : β → D}
theorem En.le (h : En n e) (hm : n ≤ m) : En m e := ⟨h.beq, fun x => shp_le (h.shp x) hm⟩
theorem en_str : En n D.str := ⟨fun x y => by simp [D.beq], fun x => shp_str⟩
def optD (e : α → D) : Option α → D
  | none => .non
  | some x => e x
theorem beqL_map (h : ∀ x y, D.beq (e x) (e y) = decide (x = y)) : ∀ l m : List α, D.beqL (l.map e) (m.map e) = decide (l = m)
  | [], [] => by simp [D.beqL]
  | [], _ :: _ => by simp [D.beqL]
  | _ :: _, [] => by simp [D.beqL]
  | a :: l, b :: m => by
    simp only [List.map_cons, D.beqL, h, beqL_map h l m]
    by_cases e1 : a = b <;> by_cases e2 : l = m <;> simp [e1, e2]
theorem en_lst (h : En n e) : En (n + 1) (fun l : List α => D.lst (l.map e)) := ⟨fun x y => by simp only [D.beq]; exact beqL_map h.beq x y, fun x => shp_lst fun d hd => by
  obtain ⟨a, _, rfl⟩ := List.mem_map.mp hd
  exact h.shp a⟩
variable (h : En 15 e)
include h
theorem En.eq (x y : α) : D.eq (e x) (e y) = .ok (decide (x = y)) := by rw [eq_of (shp_le (h.shp x) (by omega)) (shp_le (h.shp y) (by omega)), h.beq]
theorem En.ne (x y : α) : D.ne (e x) (e y) = .ok (!decide (x = y)) := by
  unfold D.ne
  rw [h.eq]
  rfl
theorem En.any (x : α) (l : List α) : ((l.map e).any fun z => D.beq z (e x)) = decide (x ∈ l) := by
  induction l with
  | nil => simp
  | cons a l ih =>
    rw [List.map_cons, List.any_cons, h.beq, ih]
    by_cases e1 : a = x
    · simp [e1]
    · have e2 : ¬ x = a := fun z => e1 z.symm
      simp [e1, e2]
theorem En.all (l : List α) : (l.map e).all (D.shp 19) = true := List.all_eq_true.mpr fun d hd => by
  obtain ⟨a, _, rfl⟩ := List.mem_map.mp hd
  exact shp_le (h.shp a) (by omega)
theorem En.mem (x : α) (l : List α) [i : Decidable (x ∈ l)] : D.mem (e x) (.lst (l.map e)) = .ok (decide (x ∈ l)) := by
  have ei : i = List.instDecidableMemOfLawfulBEq x l := Subsingleton.elim _ _
  subst ei
  show (need ((e x).shp 19 && (l.map e).all (D.shp 19)) >>= fun _ => .ok ((l.map e).any fun z => D.beq z (e x))) = _
  rw [shp_le (h.shp x) (by omega), h.all, h.any]
  rfl
theorem En.memT (x : α) (l : List α) [Decidable (x ∈ l)] : D.mem (e x) (.tup (l.map e)) = .ok (decide (x ∈ l)) := h.mem x l
theorem En.nmem (x : α) (l : List α) [Decidable (x ∈ l)] : D.nmem (e x) (.lst (l.map e)) = .ok (!decide (x ∈ l)) := by
  unfold D.nmem
  rw [h.mem]
  rfl
theorem En.index {x : α} {l : List α} {j : Nat} (hj : l.idxOf x = j) (hx : x ∈ l) : D.index (.lst (l.map e)) (e x) = .ok (.int j) := by
  show (need ((l.map e).all (D.shp 19) && (e x).shp 19) >>= fun _ => match ixOf (l.map e) (e x) with | some j => (.ok (.int (j : Nat)) : M D) | none => stuck) = _
  rw [shp_le (h.shp x) (by omega), h.all]
  have e1 : ixOf (l.map e) (e x) = some j := by
    unfold ixOf
    rw [List.findIdx?_eq_some_iff_getElem]
    have hlt : l.idxOf x < l.length := List.idxOf_lt_length_of_mem hx
    subst hj
    refine ⟨by rw [List.length_map]; exact hlt, ?_, fun k hk => ?_⟩
    · rw [List.getElem_map, h.beq]
      exact decide_eq_true (List.getElem_idxOf hlt)
    · rw [List.getElem_map, h.beq]
      have : l[k] ≠ x := fun z => by
        have := List.not_of_lt_findIdx (p := (· == x)) (xs := l) (i := k) hk
        simp [z] at this
      simpa using this
  rw [e1]
  rfl
end
def prS (p : Str × Str) : D := .tup [.str p.1, .str p.2]
section
variable {S : Type}
theorem loopR_go {f : S → D → M (Rs S)} {s s' : S} {d : D} {ds : List D} (h : f s d = .ok (.go s')) : loopR f (d :: ds) s = loopR f ds s' := by
  show (f s d >>= _) = _
  rw [h]
  rfl
theorem loopR_rt {f : S → D → M (Rs S)} {s : S} {d x : D} {ds : List D} (h : f s d = .ok (.rt x)) : loopR f (d :: ds) s = .ok (.inr x) := by
  show (f s d >>= _) = _
  rw [h]
  rfl
end
end DL

set_option Elab.async false
set_option linter.all false
set_option maxRecDepth 100000
set_option maxHeartbeats 4000000
namespace LawWalk
open PySem PySem.Spec L2 DL
def m_law_row_l1 (cell_1 : D) : (List D × D × D) → D → M (List D × D × D) := fun s k_1 => match s with | (row_here_2, rest_2, mixed_2) => ((B2 D.mod (B1 (f1 D.toInt) (A1 (B2 D.add (B2 D.mul (.ok mixed_2) (.ok (.int 16807))) (B2 D.mul (.ok (.int 271)) (B2 D.add (.ok k_1) (.ok (.int 3))))) A0)) (.ok (.int 2147483629))) >>= fun mixed_3 => (mIf (B2 D.ge (B1 (f1 D.abs) (A1 (.ok cell_1) A0)) (B2 D.pow (.ok (.int 10)) (.ok (.int 18)))) (mPush row_here_2 (B2 D.mod (B1 (f1 D.toInt) (A1 (.ok rest_2) A0)) (.ok (.int 1009))) >>= fun row_here_3 => ((B2 D.fdiv (.ok rest_2) (.ok (.int 1009))) >>= fun rest_3 => (.ok (row_here_3, rest_3, mixed_3)))) (mPush row_here_2 (B2 D.mod (B1 (f1 D.toInt) (A1 (B2 D.fdiv (.ok mixed_3) (.ok (.int 7))) A0)) (.ok (.int 1009))) >>= fun row_here_4 => (.ok (row_here_4, rest_2, mixed_3)))))
def g_law_row : D → D → M (D) := fun cell_1 many_1 => ((nLst A0) >>= fun row_here_1 => ((B1 (f1 D.abs) (A1 (.ok cell_1) A0)) >>= fun rest_1 => ((B2 D.mod (B1 (f1 D.toInt) (A1 (B2 D.add (B2 D.mul (.ok rest_1) (.ok (.int 48271))) (.ok (.int 69621))) A0)) (.ok (.int 2147483647))) >>= fun mixed_1 => (((B1 D.range1 (A1 (.ok many_1) A0)) >>= fun ds => loopF (m_law_row_l1 cell_1) ds (row_here_1, rest_1, mixed_1)) >>= fun s => match s with | (row_here_5, rest_4, mixed_4) => (.ok (.lst row_here_5))))))
def m_law_row : List D → M (D) := a2 g_law_row
theorem e_law_row (cell_1 many_1 : D) : m_law_row [cell_1, many_1] = g_law_row cell_1 many_1 := a2_ g_law_row cell_1 many_1
theorem sc_law_row : FnScope ["_law_cell", "_law_many", "_law_row_here", "_law_rest", "_law_mixed", "_law_k"] ["_law_cell", "_law_many"] (d_law_row).scope := ⟨rfl, rfl, rfl, by decide +kernel, rfl, by decide +kernel, by decide +kernel⟩
theorem ok_law_row {P : Program} {w : World} {K : PySem.W.Frag} {mg : Str → Option Value} {base : Heap} (L : Lw w K mg) {fd : FuncData} (F : DefOk K d_law_row fd) : FnOk P w K mg base (L2.CX P w) 1 (He.fAd K d_law_row.at_) fd ["_law_cell", "_law_many"] (spD K [true, true] m_law_row) := by
  refine fn_def F sc_law_row rfl (fun cdv A outer s H E hr ds hl => ?_)
  match ds, hl with
  | [cell_1, many_1], _ =>
    first | rw [e_law_row] | skip
    exact db_G [.bor cell_1, .bor many_1, .un, .un, .un, .un] rfl <| db_step (fun row_here_1 => [.bor cell_1, .bor many_1, .own row_here_1, .un, .un, .un]) (ds_setN (dn_lst da_nil) (fun pe => ps_set (i := 2) sc_law_row.nd rfl (Or.inl rfl) pe)) (fun _ => rfl) fun row_here_1 => db_step (fun rest_1 => [.bor cell_1, .bor many_1, .own row_here_1, .val rest_1, .un, .un]) (ds_set (de_callB call_abs abs_op rfl (L.free (fa_0)) boot_abs_ (dra_cons (dr_bor (i := 0) rfl (pv 0)) dra_nil)) (fun pe => ps_set (i := 3) sc_law_row.nd rfl (Or.inl rfl) pe)) (fun _ => rfl) fun rest_1 => db_step (fun mixed_1 => [.bor cell_1, .bor many_1, .own row_here_1, .val rest_1, .val mixed_1, .un]) (ds_set (de_mod (DR.of (de_callTy int_R int_op rfl (L.free (fa_1)) boot_int_ (dra_cons (DR.of (de_add (DR.of (de_mul (dr_val (i := 3) rfl (pv 3)) (DR.of de_int))) (DR.of de_int))) dra_nil))) (DR.of de_int)) (fun pe => ps_set (i := 4) sc_law_row.nd rfl (Or.inl rfl) pe)) (fun _ => rfl) fun mixed_1 => db_any 5 <| db_step (fun (s : List D × D × D) => [.bor cell_1, .bor many_1, .own s.1, .val s.2.1, .val s.2.2, .any]) (ds_for1 (i := 5) (S := List D × D × D) (Γ := (fun (s : List D × D × D) => [.bor cell_1, .bor many_1, .own s.1, .val s.2.1, .val s.2.2, .any])) (f := (m_law_row_l1 cell_1)) (row_here_1, rest_1, mixed_1) rfl ctx_def (di_range1 rfl (L.free (fa_2)) (dra_cons (dr_bor (i := 1) rfl (pv 1)) dra_nil)) (pg_name (i := 5) sc_law_row.nd rfl (Or.inl rfl)) (fun s k_1 => match s with | (row_here_2, rest_2, mixed_2) => db_G [.bor cell_1, .bor many_1, .own row_here_2, .val rest_2, .val mixed_2, .val k_1] rfl <| db_step (fun mixed_3 => [.bor cell_1, .bor many_1, .own row_here_2, .val rest_2, .val mixed_3, .val k_1]) (ds_set (de_mod (DR.of (de_callTy int_R int_op rfl (L.free (fa_1)) boot_int_ (dra_cons (DR.of (de_add (DR.of (de_mul (dr_val (i := 4) rfl (pv 4)) (DR.of de_int))) (DR.of (de_mul (DR.of de_int) (DR.of (de_add (dr_val (i := 5) rfl (pv 5)) (DR.of de_int))))))) dra_nil))) (DR.of de_int)) (fun pe => ps_set (i := 4) sc_law_row.nd rfl (Or.inl rfl) pe)) (fun _ => rfl) fun mixed_3 => db_last (ds_if (dt_cmp op_ge cmp_ge (DR.of (de_callB call_abs abs_op rfl (L.free (fa_0)) boot_abs_ (dra_cons (dr_bor (i := 0) rfl (pv 0)) dra_nil))) (DR.of (de_pow (DR.of de_int) (DR.of de_int))) (nomark _)) (db_step (fun row_here_3 => [.bor cell_1, .bor many_1, .own row_here_3, .val rest_2, .val mixed_3, .val k_1]) (ds_pushO (i := 2) rfl (pv 2) (de_mod (DR.of (de_callTy int_R int_op rfl (L.free (fa_1)) boot_int_ (dra_cons (dr_val (i := 3) rfl (pv 3)) dra_nil))) (DR.of de_int))) (fun _ => rfl) fun row_here_3 => db_step (fun rest_3 => [.bor cell_1, .bor many_1, .own row_here_3, .val rest_3, .val mixed_3, .val k_1]) (ds_set (de_fdiv (dr_val (i := 3) rfl (pv 3)) (DR.of de_int)) (fun pe => ps_set (i := 3) sc_law_row.nd rfl (Or.inl rfl) pe)) (fun _ => rfl) fun rest_3 => db_any 5 <| db_nil rfl) (db_step (fun row_here_4 => [.bor cell_1, .bor many_1, .own row_here_4, .val rest_2, .val mixed_3, .val k_1]) (ds_pushO (i := 2) rfl (pv 2) (de_mod (DR.of (de_callTy int_R int_op rfl (L.free (fa_1)) boot_int_ (dra_cons (DR.of (de_fdiv (dr_val (i := 4) rfl (pv 4)) (DR.of de_int))) dra_nil))) (DR.of de_int))) (fun _ => rfl) fun row_here_4 => db_any 5 <| db_nil rfl)))) (fun _ => rfl) (fun s => match s with | (row_here_5, rest_4, mixed_4) => db_G [.bor cell_1, .bor many_1, .own row_here_5, .val rest_4, .val mixed_4, .any] rfl <| db_fzO 2 rfl <| db_last (ds_ret (de_val (i := 2) rfl (pv 2))))
def m_law_numbers_l1 : (List D) → D → M (List D) := fun numbers_here_3 number_1 => (mPush numbers_here_3 (.ok number_1) >>= fun numbers_here_4 => (.ok numbers_here_4))
def m_law_numbers_l2 (each_1 : D) : (List D) → D → M (List D) := fun numbers_here_2 cell_1 => (((B1 D.items (B1 m_law_row (A1 (.ok cell_1) (A1 (.ok each_1) A0)))) >>= fun ds => loopF m_law_numbers_l1 ds numbers_here_2) >>= fun numbers_here_5 => (.ok numbers_here_5))
def m_law_numbers_l3_c (many_1 : D) : (List D) → M Bool := fun numbers_here_7 => (B2 D.lt (B1 (f1 D.len) (A1 (.ok (.lst numbers_here_7)) A0)) (.ok many_1))
def m_law_numbers_l3 : (List D) → M (List D) := fun numbers_here_7 => (mPush numbers_here_7 (.ok (.int 0)) >>= fun numbers_here_8 => (.ok numbers_here_8))
def g_law_numbers : D → D → M (D) := fun script_1 many_1 => ((S3 (.ok script_1) oN (B1 D.bnd (.ok (.int 63)))) >>= fun cells_1 => ((B2 D.add (.ok (.int 1)) (B2 D.fdiv (.ok many_1) (B1 (f2 D.max2) (A1 (.ok (.int 1)) (A1 (B1 (f1 D.len) (A1 (.ok cells_1) A0)) A0))))) >>= fun each_1 => ((nLst A0) >>= fun numbers_here_1 => (((B1 D.items (.ok cells_1)) >>= fun ds => loopF (m_law_numbers_l2 each_1) ds numbers_here_1) >>= fun numbers_here_6 => ((whileF (m_law_numbers_l3_c many_1) m_law_numbers_l3 100000 numbers_here_6) >>= fun numbers_here_9 => (S3 (.ok (.lst numbers_here_9)) oN (B1 D.bnd (.ok many_1))))))))
def m_law_numbers : List D → M (D) := a2 g_law_numbers
theorem e_law_numbers (script_1 many_1 : D) : m_law_numbers [script_1, many_1] = g_law_numbers script_1 many_1 := a2_ g_law_numbers script_1 many_1
theorem sc_law_numbers : FnScope ["_law_script", "_law_many", "_law_cells", "_law_each", "_law_numbers_here", "_law_cell", "_law_number"] ["_law_script", "_law_many"] (d_law_numbers).scope := ⟨rfl, rfl, rfl, by decide +kernel, rfl, by decide +kernel, by decide +kernel⟩
theorem ok_law_numbers {P : Program} {w : World} {K : PySem.W.Frag} {mg : Str → Option Value} {base : Heap} (L : Lw w K mg) {fd : FuncData} (F : DefOk K d_law_numbers fd) : FnOk P w K mg base (L2.CX P w) 2 (He.fAd K d_law_numbers.at_) fd ["_law_script", "_law_many"] (spD K [true, true] m_law_numbers) := by
  obtain ⟨fd_law_row, F_law_row⟩ := L.c.def_ 0 (d := d_law_row) rfl
  have k_law_row := ok_law_row (P := P) (w := w) (base := base) L F_law_row
  have b_law_row : Binds K fd_law_row ["_law_cell", "_law_many"] [] := F_law_row.bindsN fun _ _ _ _ _ _ us hl => match us, hl with | [_, _], _ => rfl
  refine fn_def F sc_law_numbers rfl (fun cdv A outer s H E hr ds hl => ?_)
  match ds, hl with
  | [script_1, many_1], _ =>
    first | rw [e_law_numbers] | skip
    exact db_G [.bor script_1, .bor many_1, .un, .un, .un, .un, .un] rfl <| db_step (fun cells_1 => [.bor script_1, .bor many_1, .val cells_1, .un, .un, .un, .un]) (ds_set (de_sl (dr_bor (i := 0) rfl (pv 0)) do_none (do_some (DR.of de_int))) (fun pe => ps_set (i := 2) sc_law_numbers.nd rfl (Or.inl rfl) pe)) (fun _ => rfl) fun cells_1 => db_step (fun each_1 => [.bor script_1, .bor many_1, .val cells_1, .val each_1, .un, .un, .un]) (ds_set (de_add (DR.of de_int) (DR.of (de_fdiv (dr_bor (i := 1) rfl (pv 1)) (DR.of (de_callB (call_max2 (CtxOk.calm ctx_def)) max_op rfl (L.free (fa_4)) boot_max_ (dra_cons (DR.of de_int) (dra_cons (DR.of (de_callB lenR len_op rfl (L.free (fa_3)) boot_len_ (dra_cons (dr_val (i := 2) rfl (pv 2)) dra_nil))) dra_nil))))))) (fun pe => ps_set (i := 3) sc_law_numbers.nd rfl (Or.inl rfl) pe)) (fun _ => rfl) fun each_1 => db_step (fun numbers_here_1 => [.bor script_1, .bor many_1, .val cells_1, .val each_1, .own numbers_here_1, .un, .un]) (ds_setN (dn_lst da_nil) (fun pe => ps_set (i := 4) sc_law_numbers.nd rfl (Or.inl rfl) pe)) (fun _ => rfl) fun numbers_here_1 => db_any 5 <| db_any 6 <| db_step (fun (s : List D) => [.bor script_1, .bor many_1, .val cells_1, .val each_1, .own s, .any, .any]) (ds_for1 (i := 5) (S := List D) (Γ := (fun (s : List D) => [.bor script_1, .bor many_1, .val cells_1, .val each_1, .own s, .any, .any])) (f := (m_law_numbers_l2 each_1)) numbers_here_1 rfl ctx_def (di_seq (de_val (i := 2) rfl (pv 2))) (pg_name (i := 5) sc_law_numbers.nd rfl (Or.inl rfl)) (fun numbers_here_2 cell_1 => db_G [.bor script_1, .bor many_1, .val cells_1, .val each_1, .own numbers_here_2, .val cell_1, .any] rfl <| db_step (fun (s : List D) => [.bor script_1, .bor many_1, .val cells_1, .val each_1, .own s, .val cell_1, .any]) (ds_for1 (i := 6) (S := List D) (Γ := (fun (s : List D) => [.bor script_1, .bor many_1, .val cells_1, .val each_1, .own s, .val cell_1, .any])) (f := m_law_numbers_l1) numbers_here_2 rfl ctx_def (di_seq (de_call ctx_def k_law_row (hr.mono (by decide)) rfl (L.glo (fa_5)) F_law_row.kp b_law_row (dam_bor (dr_val (i := 5) rfl (pv 5)) (dam_bor (dr_val (i := 3) rfl (pv 3)) dam_nil)))) (pg_name (i := 6) sc_law_numbers.nd rfl (Or.inl rfl)) (fun numbers_here_3 number_1 => db_G [.bor script_1, .bor many_1, .val cells_1, .val each_1, .own numbers_here_3, .val cell_1, .val number_1] rfl <| db_step (fun numbers_here_4 => [.bor script_1, .bor many_1, .val cells_1, .val each_1, .own numbers_here_4, .val cell_1, .val number_1]) (ds_pushO (i := 4) rfl (pv 4) (de_val (i := 6) rfl (pv 6))) (fun _ => rfl) fun numbers_here_4 => db_any 6 <| db_nil rfl)) (fun _ => rfl) (fun numbers_here_5 => db_G [.bor script_1, .bor many_1, .val cells_1, .val each_1, .own numbers_here_5, .val cell_1, .any] rfl <| db_any 5 <| db_nil rfl))) (fun _ => rfl) (fun numbers_here_6 => db_G [.bor script_1, .bor many_1, .val cells_1, .val each_1, .own numbers_here_6, .any, .any] rfl <| db_step (fun (s : List D) => [.bor script_1, .bor many_1, .val cells_1, .val each_1, .own s, .any, .any]) (ds_whileF (S := List D) (Γ := (fun (s : List D) => [.bor script_1, .bor many_1, .val cells_1, .val each_1, .own s, .any, .any])) (mc := (m_law_numbers_l3_c many_1)) (f := m_law_numbers_l3) 100000 numbers_here_6 rfl (CtxOk.own ctx_def) (fun numbers_here_7 => dt_G [.bor script_1, .bor many_1, .val cells_1, .val each_1, .own numbers_here_7, .any, .any] rfl <| (dt_cmp (op_lt.or op_lt_str) cmp_lt (DR.of (de_callB lenR len_op rfl (L.free (fa_3)) boot_len_ (dra_cons (dr_own (i := 4) rfl (pv 4)) dra_nil))) (dr_bor (i := 1) rfl (pv 1)) (nomark _))) (fun numbers_here_7 => db_G [.bor script_1, .bor many_1, .val cells_1, .val each_1, .own numbers_here_7, .any, .any] rfl <| db_step (fun numbers_here_8 => [.bor script_1, .bor many_1, .val cells_1, .val each_1, .own numbers_here_8, .any, .any]) (ds_pushO (i := 4) rfl (pv 4) de_int) (fun _ => rfl) fun numbers_here_8 => db_nil rfl)) (fun _ => rfl) (fun numbers_here_9 => db_G [.bor script_1, .bor many_1, .val cells_1, .val each_1, .own numbers_here_9, .any, .any] rfl <| db_last (ds_ret (de_sl (dr_own (i := 4) rfl (pv 4)) do_none (do_some (dr_bor (i := 1) rfl (pv 1)))))))
def g_split_words : D → M (D) := fun line_1 => (L1 ((B1 D.items (meth D.isStr (.ok line_1) (A1 (.ok (.str " ")) A0) (m1 D.split))) >>= fun ds => compL (fElt (fun word_1 => (B2 D.ne (.ok word_1) (.ok (.str "")))) (fun word_1 => (.ok word_1))) ds))
def m_split_words : List D → M (D) := a1 g_split_words
theorem e_split_words (line_1 : D) : m_split_words [line_1] = g_split_words line_1 := a1_ g_split_words line_1
theorem sc_split_words : FnScope ["line", "word"] ["line"] (d_split_words).scope := ⟨rfl, rfl, rfl, by decide +kernel, rfl, by decide +kernel, by decide +kernel⟩
theorem ok_split_words {P : Program} {w : World} {K : PySem.W.Frag} {mg : Str → Option Value} {base : Heap} (L : Lw w K mg) {fd : FuncData} (F : DefOk K d_split_words fd) : FnOk P w K mg base (L2.CX P w) 1 (He.fAd K d_split_words.at_) fd ["line"] (spD K [true] m_split_words) := by
  refine fn_def F sc_split_words rfl (fun cdv A outer s H E hr ds hl => ?_)
  match ds, hl with
  | [line_1], _ =>
    first | rw [e_split_words] | skip
    exact db_G [.bor line_1, .un] rfl <| db_last (ds_ret (DNL.de (dn_lc2 (own := [("word", 1)]) (i := 1) (mt := fun word_1 => (B2 D.ne (.ok word_1) (.ok (.str "")))) (me := fun word_1 => (.ok word_1)) (CtxOk.calm ctx_def) sc_split_words.nd (dir_seq (DR.of (de_split (dr_bor (i := 0) rfl (pv 0)) (dra_cons (DR.of (de_str (by decide +kernel))) dra_nil)))) (blkOk_by (by kernel_rfl)) rfl (fun _ _ _ _ _ => pg_name (i := 1) sc_split_words.nd rfl (Or.inl rfl)) (fun _ _ _ _ _ word_1 => (dt_cmp (op_neD hr.u64) cmp_ne (dr_val (i := 1) rfl (pv 1)) (DR.of (de_str (by decide +kernel))) (nomark _))) (fun _ _ _ _ _ word_1 => (de_val (i := 1) rfl (pv 1))))))
def g_is_name : D → M (D) := fun text_1 => (mIf (mOr (mNot (T3 D.le D.le (.ok (.int 1)) (B1 (f1 D.len) (A1 (.ok text_1) A0)) (.ok (.int 12)))) (B2 D.mem (B2 D.ix (.ok text_1) (.ok (.int 0))) (.ok (.str "0123456789")))) (.ok (.bl false)) (B1 (f1 D.all) (A1 (L1 ((B1 D.items (.ok text_1)) >>= fun ds => compL (fElt noT (fun char_1 => (C2 D.mem (.ok char_1) (.ok (.str "abcdefghijklmnopqrstuvwxyz0123456789"))))) ds)) A0)))
def m_is_name : List D → M (D) := a1 g_is_name
theorem e_is_name (text_1 : D) : m_is_name [text_1] = g_is_name text_1 := a1_ g_is_name text_1
theorem sc_is_name : FnScope ["text", "char"] ["text"] (d_is_name).scope := ⟨rfl, rfl, rfl, by decide +kernel, rfl, by decide +kernel, by decide +kernel⟩
theorem ok_is_name {P : Program} {w : World} {K : PySem.W.Frag} {mg : Str → Option Value} {base : Heap} (L : Lw w K mg) {fd : FuncData} (F : DefOk K d_is_name fd) : FnOk P w K mg base (L2.CX P w) 1 (He.fAd K d_is_name.at_) fd ["text"] (spD K [true] m_is_name) := by
  refine fn_def F sc_is_name rfl (fun cdv A outer s H E hr ds hl => ?_)
  match ds, hl with
  | [text_1], _ =>
    first | rw [e_is_name] | skip
    exact db_G [.bor text_1, .un] rfl <| db_ifr (DW.dt (dw_or (dt_not (dt_chain op_le op_le cmp_le cmp_le (DR.of de_int) (DR.of (de_callB lenR len_op rfl (L.free (fa_3)) boot_len_ (dra_cons (dr_bor (i := 0) rfl (pv 0)) dra_nil))) (DR.of (de_gintE rfl (L.int (fa_6)))))) (dw_or1 (dt_cmp (op_inAll hr.u70) cmp_in (DR.of (de_ix hr.u70 (dr_bor (i := 0) rfl (pv 0)) (DR.of de_int))) (DR.of (de_str (by decide +kernel))) rfl)))) (db_last (ds_ret de_bl)) (db_last (ds_ret (de_callB (cr_all (CtxOk.calm ctx_def)) all_op rfl (L.free (fa_8)) boot_all_ (dra_cons (DR.of (DNL.de (dn_lc1 (own := [("char", 1)]) (i := 1) (me := fun char_1 => (C2 D.mem (.ok char_1) (.ok (.str "abcdefghijklmnopqrstuvwxyz0123456789")))) (CtxOk.calm ctx_def) sc_is_name.nd (dir_seq (dr_bor (i := 0) rfl (pv 0))) (blkOk_by (by kernel_rfl)) rfl (fun _ _ _ _ _ => pg_name (i := 1) sc_is_name.nd rfl (Or.inl rfl)) (fun _ _ _ _ _ char_1 => (de_cmp (op_inAll hr.u70) cmp_in (dr_val (i := 1) rfl (pv 1)) (DR.of (de_gstrE rfl (L.str (fa_7)) (by decide +kernel))) rfl))))) dra_nil))))
def g_is_number : D → M (D) := fun word_1 => (mIf (mOr (mNot (T3 D.le D.le (.ok (.int 1)) (B1 (f1 D.len) (A1 (.ok word_1) A0)) (.ok (.int 6)))) (mNot (B1 D.tru (B1 (f1 D.all) (A1 (L1 ((B1 D.items (.ok word_1)) >>= fun ds => compL (fElt noT (fun char_1 => (C2 D.mem (.ok char_1) (.ok (.str "0123456789"))))) ds)) A0))))) (.ok (.bl false)) (vOr (C2 D.eq (.ok word_1) (.ok (.str "0"))) (C2 D.ne (B2 D.ix (.ok word_1) (.ok (.int 0))) (.ok (.str "0")))))
def m_is_number : List D → M (D) := a1 g_is_number
theorem e_is_number (word_1 : D) : m_is_number [word_1] = g_is_number word_1 := a1_ g_is_number word_1
theorem sc_is_number : FnScope ["word", "char"] ["word"] (d_is_number).scope := ⟨rfl, rfl, rfl, by decide +kernel, rfl, by decide +kernel, by decide +kernel⟩
theorem ok_is_number {P : Program} {w : World} {K : PySem.W.Frag} {mg : Str → Option Value} {base : Heap} (L : Lw w K mg) {fd : FuncData} (F : DefOk K d_is_number fd) : FnOk P w K mg base (L2.CX P w) 1 (He.fAd K d_is_number.at_) fd ["word"] (spD K [true] m_is_number) := by
  refine fn_def F sc_is_number rfl (fun cdv A outer s H E hr ds hl => ?_)
  match ds, hl with
  | [word_1], _ =>
    first | rw [e_is_number] | skip
    exact db_G [.bor word_1, .un] rfl <| db_ifr (DW.dt (dw_or (dt_not (dt_chain op_le op_le cmp_le cmp_le (DR.of de_int) (DR.of (de_callB lenR len_op rfl (L.free (fa_3)) boot_len_ (dra_cons (dr_bor (i := 0) rfl (pv 0)) dra_nil))) (DR.of (de_gintE rfl (L.int (fa_10)))))) (dw_or1 (dt_not (dt_val (DR.of (de_callB (cr_all (CtxOk.calm ctx_def)) all_op rfl (L.free (fa_8)) boot_all_ (dra_cons (DR.of (DNL.de (dn_lc1 (own := [("char", 1)]) (i := 1) (me := fun char_1 => (C2 D.mem (.ok char_1) (.ok (.str "0123456789")))) (CtxOk.calm ctx_def) sc_is_number.nd (dir_seq (dr_bor (i := 0) rfl (pv 0))) (blkOk_by (by kernel_rfl)) rfl (fun _ _ _ _ _ => pg_name (i := 1) sc_is_number.nd rfl (Or.inl rfl)) (fun _ _ _ _ _ char_1 => (de_cmp (op_inAll hr.u70) cmp_in (dr_val (i := 1) rfl (pv 1)) (DR.of (de_gstrE rfl (L.str (fa_9)) (by decide +kernel))) rfl))))) dra_nil)))))))) (db_last (ds_ret de_bl)) (db_last (ds_ret (de_or (de_cmp (op_eqD hr.u64) cmp_eq (dr_bor (i := 0) rfl (pv 0)) (DR.of (de_str (by decide +kernel))) (nomark _)) (de_one (de_cmp (op_neD hr.u64) cmp_ne (DR.of (de_ix hr.u70 (dr_bor (i := 0) rfl (pv 0)) (DR.of de_int))) (DR.of (de_str (by decide +kernel))) (nomark _))))))
def m_has_form_l1 : (Unit) → D → D → M (Rs (Unit)) := fun _ word_1 sort_1 => (mIf (mNot (mIf (B2 D.eq (.ok sort_1) (.ok (.str "name"))) (B1 D.tru (B1 m_is_name (A1 (.ok word_1) A0))) (B1 D.tru (B1 m_is_number (A1 (.ok word_1) A0))))) ((.ok (.bl false)) >>= fun d => .ok (.rt d)) (.ok (.go ())))
def g_has_form : D → D → M (D) := fun words_1 form_1 => (mIf (B2 D.ne (B1 (f1 D.len) (A1 (.ok words_1) A0)) (B1 (f1 D.len) (A1 (.ok form_1) A0))) (.ok (.bl false)) (((B1 D.zipM (A1 (.ok words_1) (A1 (.ok form_1) A0))) >>= fun ds => loopR (fun s => on2 (m_has_form_l1 s)) ds ()) >>= fun r => sFin r (fun _ => (.ok (.bl true)))))
def m_has_form : List D → M (D) := a2 g_has_form
theorem e_has_form (words_1 form_1 : D) : m_has_form [words_1, form_1] = g_has_form words_1 form_1 := a2_ g_has_form words_1 form_1
theorem sc_has_form : FnScope ["words", "form", "word", "sort"] ["words", "form"] (d_has_form).scope := ⟨rfl, rfl, rfl, by decide +kernel, rfl, by decide +kernel, by decide +kernel⟩
theorem ok_has_form {P : Program} {w : World} {K : PySem.W.Frag} {mg : Str → Option Value} {base : Heap} (L : Lw w K mg) {fd : FuncData} (F : DefOk K d_has_form fd) : FnOk P w K mg base (L2.CX P w) 2 (He.fAd K d_has_form.at_) fd ["words", "form"] (spD K [false, false] m_has_form) := by
  obtain ⟨fd_is_name, F_is_name⟩ := L.c.def_ 3 (d := d_is_name) rfl
  have k_is_name := ok_is_name (P := P) (w := w) (base := base) L F_is_name
  have b_is_name : Binds K fd_is_name ["text"] [] := F_is_name.bindsN fun _ _ _ _ _ _ us hl => match us, hl with | [_], _ => rfl
  obtain ⟨fd_is_number, F_is_number⟩ := L.c.def_ 4 (d := d_is_number) rfl
  have k_is_number := ok_is_number (P := P) (w := w) (base := base) L F_is_number
  have b_is_number : Binds K fd_is_number ["word"] [] := F_is_number.bindsN fun _ _ _ _ _ _ us hl => match us, hl with | [_], _ => rfl
  refine fn_def F sc_has_form rfl (fun cdv A outer s H E hr ds hl => ?_)
  match ds, hl with
  | [words_1, form_1], _ =>
    first | rw [e_has_form] | skip
    exact db_G [.val words_1, .val form_1, .un, .un] rfl <| db_ifr (dt_cmp (op_neD hr.u64) cmp_ne (DR.of (de_callB lenR len_op rfl (L.free (fa_3)) boot_len_ (dra_cons (dr_val (i := 0) rfl (pv 0)) dra_nil))) (DR.of (de_callB lenR len_op rfl (L.free (fa_3)) boot_len_ (dra_cons (dr_val (i := 1) rfl (pv 1)) dra_nil))) (nomark _)) (db_last (ds_ret de_bl)) (db_any 2 <| db_any 3 <| db_sumF (ds_for2R (i := 2) (j := 3) (S := Unit) (Γ := (fun (s : Unit) => [.val words_1, .val form_1, .any, .any])) (f := m_has_form_l1) () rfl ctx_def (di_zipM rfl (L.free (fa_11)) (da_cons (de_val (i := 0) rfl (pv 0)) (da_cons (de_val (i := 1) rfl (pv 1)) da_nil))) (pg_tup rfl (pgs_cons (pg_name (i := 2) sc_has_form.nd rfl (Or.inl rfl)) (pgs_cons (pg_name (i := 3) sc_has_form.nd rfl (Or.inl rfl)) pgs_nil))) (fun _ word_1 sort_1 => db_G [.val words_1, .val form_1, .val word_1, .val sort_1] rfl <| db_last (ds_if (dt_not (dt_ifx (dt_cmp (op_eqD hr.u64) cmp_eq (dr_val (i := 3) rfl (pv 3)) (DR.of (de_str (by decide +kernel))) (nomark _)) (dt_val (DR.of (de_call ctx_def k_is_name (hr.mono (by decide)) rfl (L.glo (fa_12)) F_is_name.kp b_is_name (dam_bor (dr_val (i := 2) rfl (pv 2)) dam_nil)))) (dt_val (DR.of (de_call ctx_def k_is_number (hr.mono (by decide)) rfl (L.glo (fa_13)) F_is_number.kp b_is_number (dam_bor (dr_val (i := 2) rfl (pv 2)) dam_nil)))))) (db_map Rx.rt (db_last (ds_ret de_bl)) (fun _ => rfl)) (db_any 2 <| db_any 3 <| db_nil rfl)))) (fun _ => db_G [.val words_1, .val form_1, .any, .any] rfl <| db_last (ds_ret de_bl)))
def g_is_command : D → M (D) := fun words_1 => (mIf (B1 (D.inTab tl_FORMS) (B2 D.ix (.ok words_1) (.ok (.int 0)))) (B1 m_has_form (A1 (S3 (.ok words_1) (B1 D.bnd (.ok (.int 1))) oN) (A1 (B1 (D.ixTab tl_FORMS) (B2 D.ix (.ok words_1) (.ok (.int 0)))) A0))) (C2 D.eq (.ok words_1) (B1 D.mkLst (A1 (.ok (.str "maps")) A0))))
def m_is_command : List D → M (D) := a1 g_is_command
theorem e_is_command (words_1 : D) : m_is_command [words_1] = g_is_command words_1 := a1_ g_is_command words_1
theorem sc_is_command : FnScope ["words"] ["words"] (d_is_command).scope := ⟨rfl, rfl, rfl, by decide +kernel, rfl, by decide +kernel, by decide +kernel⟩
theorem ok_is_command {P : Program} {w : World} {K : PySem.W.Frag} {mg : Str → Option Value} {base : Heap} (L : Lw w K mg) {fd : FuncData} (F : DefOk K d_is_command fd) : FnOk P w K mg base (L2.CX P w) 3 (He.fAd K d_is_command.at_) fd ["words"] (spD K [true] m_is_command) := by
  obtain ⟨fd_has_form, F_has_form⟩ := L.c.def_ 5 (d := d_has_form) rfl
  have k_has_form := ok_has_form (P := P) (w := w) (base := base) L F_has_form
  have b_has_form : Binds K fd_has_form ["words", "form"] [] := F_has_form.bindsN fun _ _ _ _ _ _ us hl => match us, hl with | [_, _], _ => rfl
  refine fn_def F sc_is_command rfl (fun cdv A outer s H E hr ds hl => ?_)
  match ds, hl with
  | [words_1], _ =>
    first | rw [e_is_command] | skip
    exact db_G [.bor words_1] rfl <| db_ifr (dt_inTab (L.tab (t := ("FORMS", tl_FORMS)) (List.mem_of_getElem? (i := 0) rfl)) (pe_cls_ rfl (L.glo (fa_14))) (DR.of (de_ix hr.u70 (dr_bor (i := 0) rfl (pv 0)) (DR.of de_int)))) (db_last (ds_ret (de_call ctx_def k_has_form (hr.mono (by decide)) rfl (L.glo (fa_15)) F_has_form.kp b_has_form (dam_frz (de_sl (dr_bor (i := 0) rfl (pv 0)) (do_some (DR.of de_int)) do_none) (dam_frz (de_ixTab (L.tab (t := ("FORMS", tl_FORMS)) (List.mem_of_getElem? (i := 0) rfl)) (pe_cls_ rfl (L.glo (fa_14))) (DR.of (de_ix hr.u70 (dr_bor (i := 0) rfl (pv 0)) (DR.of de_int)))) dam_nil))))) (db_last (ds_ret (de_cmp (op_eqD hr.u64) cmp_eq (dr_bor (i := 0) rfl (pv 0)) (DR.of (de_lst (da_cons (de_str (by decide +kernel)) da_nil))) (nomark _))))
def g_law_word : D → D → M (D) := fun number_1 more_1 => ((B1 D.mkTup (A1 (.ok (.str "map")) (A1 (.ok (.str "set")) (A1 (.ok (.str "back")) (A1 (.ok (.str "print")) (A1 (.ok (.str "journal")) (A1 (.ok (.str "version")) (A1 (.ok (.str "route")) (A1 (.ok (.str "maps")) (A1 (.ok (.str "done")) (A1 (.ok (.str "road")) (A1 (.ok (.str "01")) (A1 (.ok (.str "+1")) (A1 (.ok (.str "1_0")) A0)))))))))))))) >>= fun words_1 => ((.ok (.str "abcdefghijklmnopqrstuvwxyz0123456789")) >>= fun letters_1 => (mIf (B2 D.eq (B2 D.mod (B1 (f1 D.toInt) (A1 (.ok number_1) A0)) (.ok (.int 4))) (.ok (.int 0))) (B2 D.ix (.ok words_1) (B2 D.mod (B2 D.fdiv (.ok number_1) (.ok (.int 4))) (.ok (.int 13)))) ((B2 D.mod (B2 D.fdiv (.ok number_1) (.ok (.int 4))) (.ok (.int 7))) >>= fun size_1 => (mIf (B2 D.eq (B2 D.mod (B1 (f1 D.toInt) (A1 (.ok number_1) A0)) (.ok (.int 4))) (.ok (.int 1))) (meth D.isStr (.ok (.str "")) (A1 (L1 ((B1 D.range1 (A1 (B2 D.add (.ok (.int 1)) (.ok size_1)) A0)) >>= fun ds => compL (fElt noT (fun k_1 => (B2 D.ix (.ok letters_1) (B2 D.add (.ok (.int 26)) (B2 D.mod (B1 (f1 D.toInt) (A1 (B2 D.add (B2 D.add (.ok more_1) (B2 D.mul (B2 D.mul (.ok k_1) (.ok k_1)) (.ok (.int 3)))) (B2 D.fdiv (.ok number_1) (.ok (.int 28)))) A0)) (.ok (.int 10))))))) ds)) A0) (m1 D.join)) ((B2 D.add (B2 D.ix (.ok letters_1) (B2 D.mod (B1 (f1 D.toInt) (A1 (.ok more_1) A0)) (.ok (.int 36)))) (meth D.isStr (.ok (.str "")) (A1 (L1 ((B1 D.range1 (A1 (B2 D.mul (.ok size_1) (.ok (.int 2))) A0)) >>= fun ds => compL (fElt noT (fun k_2 => (B2 D.ix (.ok letters_1) (B2 D.mod (B1 (f1 D.toInt) (A1 (B2 D.add (B2 D.add (.ok more_1) (B2 D.mul (B2 D.mul (.ok (.int 11)) (.ok k_2)) (.ok number_1))) (.ok k_2)) A0)) (.ok (.int 36)))))) ds)) A0) (m1 D.join))) >>= fun word_here_1 => (mIf (B2 D.eq (B2 D.mod (B1 (f1 D.toInt) (A1 (.ok more_1) A0)) (.ok (.int 9))) (.ok (.int 0))) (B2 D.add (B2 D.add (S3 (.ok word_here_1) oN (B1 D.bnd (.ok (.int 2)))) (.ok (.str "_"))) (S3 (.ok word_here_1) (B1 D.bnd (.ok (.int 2))) oN)) (.ok word_here_1))))))))
def m_law_word : List D → M (D) := a2 g_law_word
theorem e_law_word (number_1 more_1 : D) : m_law_word [number_1, more_1] = g_law_word number_1 more_1 := a2_ g_law_word number_1 more_1
theorem sc_law_word : FnScope ["_law_number", "_law_more", "_law_words", "_law_letters", "_law_size", "_law_word_here", "_law_k"] ["_law_number", "_law_more"] (d_law_word).scope := ⟨rfl, rfl, rfl, by decide +kernel, rfl, by decide +kernel, by decide +kernel⟩
theorem ok_law_word {P : Program} {w : World} {K : PySem.W.Frag} {mg : Str → Option Value} {base : Heap} (L : Lw w K mg) {fd : FuncData} (F : DefOk K d_law_word fd) : FnOk P w K mg base (L2.CX P w) 1 (He.fAd K d_law_word.at_) fd ["_law_number", "_law_more"] (spD K [true, true] m_law_word) := by
  refine fn_def F sc_law_word rfl (fun cdv A outer s H E hr ds hl => ?_)
  match ds, hl with
  | [number_1, more_1], _ =>
    first | rw [e_law_word] | skip
    exact db_G [.bor number_1, .bor more_1, .un, .un, .un, .un, .un] rfl <| db_step (fun words_1 => [.bor number_1, .bor more_1, .val words_1, .un, .un, .un, .un]) (ds_set (de_tup (da_cons (de_str (by decide +kernel)) (da_cons (de_str (by decide +kernel)) (da_cons (de_str (by decide +kernel)) (da_cons (de_str (by decide +kernel)) (da_cons (de_str (by decide +kernel)) (da_cons (de_str (by decide +kernel)) (da_cons (de_str (by decide +kernel)) (da_cons (de_str (by decide +kernel)) (da_cons (de_str (by decide +kernel)) (da_cons (de_str (by decide +kernel)) (da_cons (de_str (by decide +kernel)) (da_cons (de_str (by decide +kernel)) (da_cons (de_str (by decide +kernel)) da_nil)))))))))))))) (fun pe => ps_set (i := 2) sc_law_word.nd rfl (Or.inl rfl) pe)) (fun _ => rfl) fun words_1 => db_step (fun letters_1 => [.bor number_1, .bor more_1, .val words_1, .val letters_1, .un, .un, .un]) (ds_set (de_str (by decide +kernel)) (fun pe => ps_set (i := 3) sc_law_word.nd rfl (Or.inr rfl) pe)) (fun _ => rfl) fun letters_1 => db_ifr (dt_cmp (op_eqD hr.u64) cmp_eq (DR.of (de_mod (DR.of (de_callTy int_R int_op rfl (L.free (fa_1)) boot_int_ (dra_cons (dr_bor (i := 0) rfl (pv 0)) dra_nil))) (DR.of de_int))) (DR.of de_int) (nomark _)) (db_last (ds_ret (de_ix hr.u70 (dr_val (i := 2) rfl (pv 2)) (DR.of (de_mod (DR.of (de_fdiv (dr_bor (i := 0) rfl (pv 0)) (DR.of de_int))) (DR.of de_int)))))) (db_step (fun size_1 => [.bor number_1, .bor more_1, .val words_1, .val letters_1, .val size_1, .un, .un]) (ds_set (de_mod (DR.of (de_fdiv (dr_bor (i := 0) rfl (pv 0)) (DR.of de_int))) (DR.of de_int)) (fun pe => ps_set (i := 4) sc_law_word.nd rfl (Or.inl rfl) pe)) (fun _ => rfl) fun size_1 => db_ifr (dt_cmp (op_eqD hr.u64) cmp_eq (DR.of (de_mod (DR.of (de_callTy int_R int_op rfl (L.free (fa_1)) boot_int_ (dra_cons (dr_bor (i := 0) rfl (pv 0)) dra_nil))) (DR.of de_int))) (DR.of de_int) (nomark _)) (db_last (ds_ret (de_join (DR.of (de_str (by decide +kernel))) (dra_cons (DR.of (DNL.de (dn_lc1 (own := [("_law_k", 6)]) (i := 6) (me := fun k_1 => (B2 D.ix (.ok letters_1) (B2 D.add (.ok (.int 26)) (B2 D.mod (B1 (f1 D.toInt) (A1 (B2 D.add (B2 D.add (.ok more_1) (B2 D.mul (B2 D.mul (.ok k_1) (.ok k_1)) (.ok (.int 3)))) (B2 D.fdiv (.ok number_1) (.ok (.int 28)))) A0)) (.ok (.int 10)))))) (CtxOk.calm ctx_def) sc_law_word.nd (DIR.of (di_range1 rfl (L.free (fa_2)) (dra_cons (DR.of (de_add (DR.of de_int) (dr_val (i := 4) rfl (pv 4)))) dra_nil))) (blkOk_by (by kernel_rfl)) rfl (fun _ _ _ _ _ => pg_name (i := 6) sc_law_word.nd rfl (Or.inl rfl)) (fun _ _ _ _ _ k_1 => (de_ix hr.u70 (dr_val (i := 3) rfl (pv 3)) (DR.of (de_add (DR.of de_int) (DR.of (de_mod (DR.of (de_callTy int_R int_op rfl (L.free (fa_1)) boot_int_ (dra_cons (DR.of (de_add (DR.of (de_add (dr_bor (i := 1) rfl (pv 1)) (DR.of (de_mul (DR.of (de_mul (dr_val (i := 6) rfl (pv 6)) (dr_val (i := 6) rfl (pv 6)))) (DR.of de_int))))) (DR.of (de_fdiv (dr_bor (i := 0) rfl (pv 0)) (DR.of de_int))))) dra_nil))) (DR.of de_int)))))))))) dra_nil)))) (db_step (fun word_here_1 => [.bor number_1, .bor more_1, .val words_1, .val letters_1, .val size_1, .val word_here_1, .un]) (ds_set (de_add (DR.of (de_ix hr.u70 (dr_val (i := 3) rfl (pv 3)) (DR.of (de_mod (DR.of (de_callTy int_R int_op rfl (L.free (fa_1)) boot_int_ (dra_cons (dr_bor (i := 1) rfl (pv 1)) dra_nil))) (DR.of de_int))))) (DR.of (de_join (DR.of (de_str (by decide +kernel))) (dra_cons (DR.of (DNL.de (dn_lc1 (own := [("_law_k", 6)]) (i := 6) (me := fun k_2 => (B2 D.ix (.ok letters_1) (B2 D.mod (B1 (f1 D.toInt) (A1 (B2 D.add (B2 D.add (.ok more_1) (B2 D.mul (B2 D.mul (.ok (.int 11)) (.ok k_2)) (.ok number_1))) (.ok k_2)) A0)) (.ok (.int 36))))) (CtxOk.calm ctx_def) sc_law_word.nd (DIR.of (di_range1 rfl (L.free (fa_2)) (dra_cons (DR.of (de_mul (dr_val (i := 4) rfl (pv 4)) (DR.of de_int))) dra_nil))) (blkOk_by (by kernel_rfl)) rfl (fun _ _ _ _ _ => pg_name (i := 6) sc_law_word.nd rfl (Or.inl rfl)) (fun _ _ _ _ _ k_2 => (de_ix hr.u70 (dr_val (i := 3) rfl (pv 3)) (DR.of (de_mod (DR.of (de_callTy int_R int_op rfl (L.free (fa_1)) boot_int_ (dra_cons (DR.of (de_add (DR.of (de_add (dr_bor (i := 1) rfl (pv 1)) (DR.of (de_mul (DR.of (de_mul (DR.of de_int) (dr_val (i := 6) rfl (pv 6)))) (dr_bor (i := 0) rfl (pv 0)))))) (dr_val (i := 6) rfl (pv 6)))) dra_nil))) (DR.of de_int)))))))) dra_nil)))) (fun pe => ps_set (i := 5) sc_law_word.nd rfl (Or.inl rfl) pe)) (fun _ => rfl) fun word_here_1 => db_ifr (dt_cmp (op_eqD hr.u64) cmp_eq (DR.of (de_mod (DR.of (de_callTy int_R int_op rfl (L.free (fa_1)) boot_int_ (dra_cons (dr_bor (i := 1) rfl (pv 1)) dra_nil))) (DR.of de_int))) (DR.of de_int) (nomark _)) (db_last (ds_ret (de_add (DR.of (de_add (DR.of (de_sl (dr_val (i := 5) rfl (pv 5)) do_none (do_some (DR.of de_int)))) (DR.of (de_str (by decide +kernel))))) (DR.of (de_sl (dr_val (i := 5) rfl (pv 5)) (do_some (DR.of de_int)) do_none))))) (db_last (ds_ret (de_val (i := 5) rfl (pv 5))))))
def g_law_form : D → M (D) := fun word_here_1 => ((B1 D.mkTup (A1 (.ok (.str "map")) (A1 (.ok (.str "set")) (A1 (.ok (.str "back")) (A1 (.ok (.str "print")) (A1 (.ok (.str "journal")) (A1 (.ok (.str "version")) (A1 (.ok (.str "route")) (A1 (.ok (.str "maps")) A0))))))))) >>= fun names_1 => ((B1 D.mkTup (A1 (.ok (.str "n")) (A1 (.ok (.str "nnd")) (A1 (.ok (.str "nnd")) (A1 (.ok (.str "nd")) (A1 (.ok (.str "n")) (A1 (.ok (.str "n")) (A1 (.ok (.str "ndnnnd")) (A1 (.ok (.str "")) A0))))))))) >>= fun forms_1 => (mIf (B2 D.mem (.ok word_here_1) (.ok names_1)) (B2 D.ix (.ok forms_1) (meth D.isTup (.ok names_1) (A1 (.ok word_here_1) A0) (m1 D.indexT))) (.ok .non))))
def m_law_form : List D → M (D) := a1 g_law_form
theorem e_law_form (word_here_1 : D) : m_law_form [word_here_1] = g_law_form word_here_1 := a1_ g_law_form word_here_1
theorem sc_law_form : FnScope ["_law_word_here", "_law_names", "_law_forms"] ["_law_word_here"] (d_law_form).scope := ⟨rfl, rfl, rfl, by decide +kernel, rfl, by decide +kernel, by decide +kernel⟩
theorem ok_law_form {P : Program} {w : World} {K : PySem.W.Frag} {mg : Str → Option Value} {base : Heap} (L : Lw w K mg) {fd : FuncData} (F : DefOk K d_law_form fd) : FnOk P w K mg base (L2.CX P w) 1 (He.fAd K d_law_form.at_) fd ["_law_word_here"] (spD K [true] m_law_form) := by
  refine fn_def F sc_law_form rfl (fun cdv A outer s H E hr ds hl => ?_)
  match ds, hl with
  | [word_here_1], _ =>
    first | rw [e_law_form] | skip
    exact db_G [.bor word_here_1, .un, .un] rfl <| db_step (fun names_1 => [.bor word_here_1, .val names_1, .un]) (ds_set (de_tup (da_cons (de_str (by decide +kernel)) (da_cons (de_str (by decide +kernel)) (da_cons (de_str (by decide +kernel)) (da_cons (de_str (by decide +kernel)) (da_cons (de_str (by decide +kernel)) (da_cons (de_str (by decide +kernel)) (da_cons (de_str (by decide +kernel)) (da_cons (de_str (by decide +kernel)) da_nil))))))))) (fun pe => ps_set (i := 1) sc_law_form.nd rfl (Or.inl rfl) pe)) (fun _ => rfl) fun names_1 => db_step (fun forms_1 => [.bor word_here_1, .val names_1, .val forms_1]) (ds_set (de_tup (da_cons (de_str (by decide +kernel)) (da_cons (de_str (by decide +kernel)) (da_cons (de_str (by decide +kernel)) (da_cons (de_str (by decide +kernel)) (da_cons (de_str (by decide +kernel)) (da_cons (de_str (by decide +kernel)) (da_cons (de_str (by decide +kernel)) (da_cons (de_str (by decide +kernel)) da_nil))))))))) (fun pe => ps_set (i := 2) sc_law_form.nd rfl (Or.inl rfl) pe)) (fun _ => rfl) fun forms_1 => db_ifr (dt_cmp (op_inAll hr.u70) cmp_in (dr_bor (i := 0) rfl (pv 0)) (dr_val (i := 1) rfl (pv 1)) rfl) (db_last (ds_ret (de_ix hr.u70 (dr_val (i := 2) rfl (pv 2)) (DR.of (de_indexT (dr_val (i := 1) rfl (pv 1)) (dra_cons (dr_bor (i := 0) rfl (pv 0)) dra_nil)))))) (db_last (ds_ret de_non))
def g_law_is_name : D → M (D) := fun word_here_1 => (mIf (mOr (B2 D.lt (B1 (f1 D.len) (A1 (.ok word_here_1) A0)) (.ok (.int 1))) (mOr (B2 D.gt (B1 (f1 D.len) (A1 (.ok word_here_1) A0)) (.ok (.int 12))) (B2 D.nmem (B2 D.ix (.ok word_here_1) (.ok (.int 0))) (.ok (.str "abcdefghijklmnopqrstuvwxyz"))))) (.ok (.bl false)) (B1 (f1 D.all) (A1 (L1 ((B1 D.items (.ok word_here_1)) >>= fun ds => compL (fElt noT (fun char_1 => (C2 D.mem (.ok char_1) (.ok (.str "abcdefghijklmnopqrstuvwxyz0123456789"))))) ds)) A0)))
def m_law_is_name : List D → M (D) := a1 g_law_is_name
theorem e_law_is_name (word_here_1 : D) : m_law_is_name [word_here_1] = g_law_is_name word_here_1 := a1_ g_law_is_name word_here_1
theorem sc_law_is_name : FnScope ["_law_word_here", "_law_char"] ["_law_word_here"] (d_law_is_name).scope := ⟨rfl, rfl, rfl, by decide +kernel, rfl, by decide +kernel, by decide +kernel⟩
theorem ok_law_is_name {P : Program} {w : World} {K : PySem.W.Frag} {mg : Str → Option Value} {base : Heap} (L : Lw w K mg) {fd : FuncData} (F : DefOk K d_law_is_name fd) : FnOk P w K mg base (L2.CX P w) 1 (He.fAd K d_law_is_name.at_) fd ["_law_word_here"] (spD K [true] m_law_is_name) := by
  refine fn_def F sc_law_is_name rfl (fun cdv A outer s H E hr ds hl => ?_)
  match ds, hl with
  | [word_here_1], _ =>
    first | rw [e_law_is_name] | skip
    exact db_G [.bor word_here_1, .un] rfl <| db_ifr (DW.dt (dw_or (dt_cmp (op_lt.or op_lt_str) cmp_lt (DR.of (de_callB lenR len_op rfl (L.free (fa_3)) boot_len_ (dra_cons (dr_bor (i := 0) rfl (pv 0)) dra_nil))) (DR.of de_int) (nomark _)) (dw_or (dt_cmp op_gt cmp_gt (DR.of (de_callB lenR len_op rfl (L.free (fa_3)) boot_len_ (dra_cons (dr_bor (i := 0) rfl (pv 0)) dra_nil))) (DR.of de_int) (nomark _)) (dw_or1 (dt_cmp (rNinAll_op hr.u70) cmp_nin (DR.of (de_ix hr.u70 (dr_bor (i := 0) rfl (pv 0)) (DR.of de_int))) (DR.of (de_str (by decide +kernel))) rfl))))) (db_last (ds_ret de_bl)) (db_last (ds_ret (de_callB (cr_all (CtxOk.calm ctx_def)) all_op rfl (L.free (fa_8)) boot_all_ (dra_cons (DR.of (DNL.de (dn_lc1 (own := [("_law_char", 1)]) (i := 1) (me := fun char_1 => (C2 D.mem (.ok char_1) (.ok (.str "abcdefghijklmnopqrstuvwxyz0123456789")))) (CtxOk.calm ctx_def) sc_law_is_name.nd (dir_seq (dr_bor (i := 0) rfl (pv 0))) (blkOk_by (by kernel_rfl)) rfl (fun _ _ _ _ _ => pg_name (i := 1) sc_law_is_name.nd rfl (Or.inl rfl)) (fun _ _ _ _ _ char_1 => (de_cmp (op_inAll hr.u70) cmp_in (dr_val (i := 1) rfl (pv 1)) (DR.of (de_str (by decide +kernel))) rfl))))) dra_nil))))
def g_law_is_number : D → M (D) := fun word_here_1 => (mIf (mOr (B2 D.lt (B1 (f1 D.len) (A1 (.ok word_here_1) A0)) (.ok (.int 1))) (mOr (B2 D.gt (B1 (f1 D.len) (A1 (.ok word_here_1) A0)) (.ok (.int 6))) (mAnd (B2 D.gt (B1 (f1 D.len) (A1 (.ok word_here_1) A0)) (.ok (.int 1))) (B2 D.eq (B2 D.ix (.ok word_here_1) (.ok (.int 0))) (.ok (.str "0")))))) (.ok (.bl false)) (B1 (f1 D.all) (A1 (L1 ((B1 D.items (.ok word_here_1)) >>= fun ds => compL (fElt noT (fun char_1 => (C2 D.mem (.ok char_1) (.ok (.str "0123456789"))))) ds)) A0)))
def m_law_is_number : List D → M (D) := a1 g_law_is_number
theorem e_law_is_number (word_here_1 : D) : m_law_is_number [word_here_1] = g_law_is_number word_here_1 := a1_ g_law_is_number word_here_1
theorem sc_law_is_number : FnScope ["_law_word_here", "_law_char"] ["_law_word_here"] (d_law_is_number).scope := ⟨rfl, rfl, rfl, by decide +kernel, rfl, by decide +kernel, by decide +kernel⟩
theorem ok_law_is_number {P : Program} {w : World} {K : PySem.W.Frag} {mg : Str → Option Value} {base : Heap} (L : Lw w K mg) {fd : FuncData} (F : DefOk K d_law_is_number fd) : FnOk P w K mg base (L2.CX P w) 1 (He.fAd K d_law_is_number.at_) fd ["_law_word_here"] (spD K [true] m_law_is_number) := by
  refine fn_def F sc_law_is_number rfl (fun cdv A outer s H E hr ds hl => ?_)
  match ds, hl with
  | [word_here_1], _ =>
    first | rw [e_law_is_number] | skip
    exact db_G [.bor word_here_1, .un] rfl <| db_ifr (DW.dt (dw_or (dt_cmp (op_lt.or op_lt_str) cmp_lt (DR.of (de_callB lenR len_op rfl (L.free (fa_3)) boot_len_ (dra_cons (dr_bor (i := 0) rfl (pv 0)) dra_nil))) (DR.of de_int) (nomark _)) (dw_or (dt_cmp op_gt cmp_gt (DR.of (de_callB lenR len_op rfl (L.free (fa_3)) boot_len_ (dra_cons (dr_bor (i := 0) rfl (pv 0)) dra_nil))) (DR.of de_int) (nomark _)) (dw_or1 (DW.dt (dw_and (dt_cmp op_gt cmp_gt (DR.of (de_callB lenR len_op rfl (L.free (fa_3)) boot_len_ (dra_cons (dr_bor (i := 0) rfl (pv 0)) dra_nil))) (DR.of de_int) (nomark _)) (dw_and1 (dt_cmp (op_eqD hr.u64) cmp_eq (DR.of (de_ix hr.u70 (dr_bor (i := 0) rfl (pv 0)) (DR.of de_int))) (DR.of (de_str (by decide +kernel))) (nomark _))))))))) (db_last (ds_ret de_bl)) (db_last (ds_ret (de_callB (cr_all (CtxOk.calm ctx_def)) all_op rfl (L.free (fa_8)) boot_all_ (dra_cons (DR.of (DNL.de (dn_lc1 (own := [("_law_char", 1)]) (i := 1) (me := fun char_1 => (C2 D.mem (.ok char_1) (.ok (.str "0123456789")))) (CtxOk.calm ctx_def) sc_law_is_number.nd (dir_seq (dr_bor (i := 0) rfl (pv 0))) (blkOk_by (by kernel_rfl)) rfl (fun _ _ _ _ _ => pg_name (i := 1) sc_law_is_number.nd rfl (Or.inl rfl)) (fun _ _ _ _ _ char_1 => (de_cmp (op_inAll hr.u70) cmp_in (dr_val (i := 1) rfl (pv 1)) (DR.of (de_str (by decide +kernel))) rfl))))) dra_nil))))
def m_law_formed_l1 (names_1 : D) (figures_1 : D) : (List D) → D → M (List D) := fun line_2 sort_1 => (mIf (B2 D.eq (.ok sort_1) (.ok (.str "n"))) (mPush line_2 (B2 D.ix (.ok names_1) (B2 D.mod (B1 (f1 D.len) (A1 (.ok (.lst line_2)) A0)) (B1 (f1 D.len) (A1 (.ok names_1) A0)))) >>= fun line_3 => (.ok line_3)) (mPush line_2 (B2 D.ix (.ok figures_1) (B2 D.mod (B1 (f1 D.len) (A1 (.ok (.lst line_2)) A0)) (B1 (f1 D.len) (A1 (.ok figures_1) A0)))) >>= fun line_4 => (.ok line_4)))
def g_law_formed : D → D → M (List D) := fun numbers_here_1 words_1 => ((B2 D.add (L1 ((B1 D.items (.ok words_1)) >>= fun ds => compL (fElt (fun word_here_1 => (B1 D.tru (B1 m_law_is_name (A1 (.ok word_here_1) A0)))) (fun word_here_1 => (.ok word_here_1))) ds)) (B1 D.mkLst (A1 (.ok (.str "a")) (A1 (.ok (.str "b")) (A1 (.ok (.str "c")) (A1 (.ok (.str "d")) A0)))))) >>= fun names_1 => ((B2 D.add (L1 ((B1 D.items (.ok words_1)) >>= fun ds => compL (fElt (fun word_here_2 => (B1 D.tru (B1 m_law_is_number (A1 (.ok word_here_2) A0)))) (fun word_here_2 => (.ok word_here_2))) ds)) (B1 D.mkLst (A1 (.ok (.str "0")) (A1 (.ok (.str "7")) (A1 (.ok (.str "123456")) A0))))) >>= fun figures_1 => ((B2 D.ix (B1 D.mkTup (A1 (.ok (.str "map")) (A1 (.ok (.str "set")) (A1 (.ok (.str "back")) (A1 (.ok (.str "print")) (A1 (.ok (.str "journal")) (A1 (.ok (.str "version")) (A1 (.ok (.str "route")) (A1 (.ok (.str "maps")) A0))))))))) (B2 D.mod (B1 (f1 D.toInt) (A1 (B2 D.ix (.ok numbers_here_1) (.ok (.int 42))) A0)) (.ok (.int 8)))) >>= fun head_1 => ((nLst (A1 (.ok head_1) A0)) >>= fun line_1 => (((B1 D.items (B1 m_law_form (A1 (.ok head_1) A0))) >>= fun ds => loopF (m_law_formed_l1 names_1 figures_1) ds line_1) >>= fun line_5 => (.ok line_5))))))
def m_law_formed : List D → M (List D) := a2 g_law_formed
theorem e_law_formed (numbers_here_1 words_1 : D) : m_law_formed [numbers_here_1, words_1] = g_law_formed numbers_here_1 words_1 := a2_ g_law_formed numbers_here_1 words_1
theorem sc_law_formed : FnScope ["_law_numbers_here", "_law_words", "_law_names", "_law_figures", "_law_head", "_law_line", "_law_sort", "_law_word_here"] ["_law_numbers_here", "_law_words"] (d_law_formed).scope := ⟨rfl, rfl, rfl, by decide +kernel, rfl, by decide +kernel, by decide +kernel⟩
theorem ok_law_formed {P : Program} {w : World} {K : PySem.W.Frag} {mg : Str → Option Value} {base : Heap} (L : Lw w K mg) {fd : FuncData} (F : DefOk K d_law_formed fd) : FnOk P w K mg base (L2.CX P w) 2 (He.fAd K d_law_formed.at_) fd ["_law_numbers_here", "_law_words"] (spO K [true, true] m_law_formed) := by
  obtain ⟨fd_law_is_name, F_law_is_name⟩ := L.c.def_ 9 (d := d_law_is_name) rfl
  have k_law_is_name := ok_law_is_name (P := P) (w := w) (base := base) L F_law_is_name
  have b_law_is_name : Binds K fd_law_is_name ["_law_word_here"] [] := F_law_is_name.bindsN fun _ _ _ _ _ _ us hl => match us, hl with | [_], _ => rfl
  obtain ⟨fd_law_is_number, F_law_is_number⟩ := L.c.def_ 10 (d := d_law_is_number) rfl
  have k_law_is_number := ok_law_is_number (P := P) (w := w) (base := base) L F_law_is_number
  have b_law_is_number : Binds K fd_law_is_number ["_law_word_here"] [] := F_law_is_number.bindsN fun _ _ _ _ _ _ us hl => match us, hl with | [_], _ => rfl
  obtain ⟨fd_law_form, F_law_form⟩ := L.c.def_ 8 (d := d_law_form) rfl
  have k_law_form := ok_law_form (P := P) (w := w) (base := base) L F_law_form
  have b_law_form : Binds K fd_law_form ["_law_word_here"] [] := F_law_form.bindsN fun _ _ _ _ _ _ us hl => match us, hl with | [_], _ => rfl
  refine fn_defO F sc_law_formed rfl (fun cdv A outer s H E hr ds hl => ?_)
  match ds, hl with
  | [numbers_here_1, words_1], _ =>
    first | rw [e_law_formed] | skip
    exact db_G [.bor numbers_here_1, .bor words_1, .un, .un, .un, .un, .un, .un] rfl <| db_step (fun names_1 => [.bor numbers_here_1, .bor words_1, .val names_1, .un, .un, .un, .un, .un]) (ds_set (de_add (DR.of (DNL.de (dn_lc2 (own := [("_law_word_here", 7)]) (i := 7) (mt := fun word_here_1 => (B1 D.tru (B1 m_law_is_name (A1 (.ok word_here_1) A0)))) (me := fun word_here_1 => (.ok word_here_1)) (CtxOk.calm ctx_def) sc_law_formed.nd (dir_seq (dr_bor (i := 1) rfl (pv 1))) (blkOk_by (by kernel_rfl)) rfl (fun _ _ _ _ _ => pg_name (i := 7) sc_law_formed.nd rfl (Or.inl rfl)) (fun _ _ _ _ _ word_here_1 => (dt_val (DR.of (de_call (CtxOk.blk ctx_def) k_law_is_name (hr.mono (by decide)) rfl (L.glo (fa_16)) F_law_is_name.kp b_law_is_name (dam_bor (dr_val (i := 7) rfl (pv 7)) dam_nil))))) (fun _ _ _ _ _ word_here_1 => (de_val (i := 7) rfl (pv 7)))))) (DR.of (de_lst (da_cons (de_str (by decide +kernel)) (da_cons (de_str (by decide +kernel)) (da_cons (de_str (by decide +kernel)) (da_cons (de_str (by decide +kernel)) da_nil))))))) (fun pe => ps_set (i := 2) sc_law_formed.nd rfl (Or.inl rfl) pe)) (fun _ => rfl) fun names_1 => db_step (fun figures_1 => [.bor numbers_here_1, .bor words_1, .val names_1, .val figures_1, .un, .un, .un, .un]) (ds_set (de_add (DR.of (DNL.de (dn_lc2 (own := [("_law_word_here", 7)]) (i := 7) (mt := fun word_here_2 => (B1 D.tru (B1 m_law_is_number (A1 (.ok word_here_2) A0)))) (me := fun word_here_2 => (.ok word_here_2)) (CtxOk.calm ctx_def) sc_law_formed.nd (dir_seq (dr_bor (i := 1) rfl (pv 1))) (blkOk_by (by kernel_rfl)) rfl (fun _ _ _ _ _ => pg_name (i := 7) sc_law_formed.nd rfl (Or.inl rfl)) (fun _ _ _ _ _ word_here_2 => (dt_val (DR.of (de_call (CtxOk.blk ctx_def) k_law_is_number (hr.mono (by decide)) rfl (L.glo (fa_17)) F_law_is_number.kp b_law_is_number (dam_bor (dr_val (i := 7) rfl (pv 7)) dam_nil))))) (fun _ _ _ _ _ word_here_2 => (de_val (i := 7) rfl (pv 7)))))) (DR.of (de_lst (da_cons (de_str (by decide +kernel)) (da_cons (de_str (by decide +kernel)) (da_cons (de_str (by decide +kernel)) da_nil)))))) (fun pe => ps_set (i := 3) sc_law_formed.nd rfl (Or.inl rfl) pe)) (fun _ => rfl) fun figures_1 => db_step (fun head_1 => [.bor numbers_here_1, .bor words_1, .val names_1, .val figures_1, .val head_1, .un, .un, .un]) (ds_set (de_ix hr.u70 (DR.of (de_tup (da_cons (de_str (by decide +kernel)) (da_cons (de_str (by decide +kernel)) (da_cons (de_str (by decide +kernel)) (da_cons (de_str (by decide +kernel)) (da_cons (de_str (by decide +kernel)) (da_cons (de_str (by decide +kernel)) (da_cons (de_str (by decide +kernel)) (da_cons (de_str (by decide +kernel)) da_nil)))))))))) (DR.of (de_mod (DR.of (de_callTy int_R int_op rfl (L.free (fa_1)) boot_int_ (dra_cons (DR.of (de_ix hr.u70 (dr_bor (i := 0) rfl (pv 0)) (DR.of de_int))) dra_nil))) (DR.of de_int)))) (fun pe => ps_set (i := 4) sc_law_formed.nd rfl (Or.inl rfl) pe)) (fun _ => rfl) fun head_1 => db_step (fun line_1 => [.bor numbers_here_1, .bor words_1, .val names_1, .val figures_1, .val head_1, .own line_1, .un, .un]) (ds_setN (dn_lst (da_cons (de_val (i := 4) rfl (pv 4)) da_nil)) (fun pe => ps_set (i := 5) sc_law_formed.nd rfl (Or.inl rfl) pe)) (fun _ => rfl) fun line_1 => db_any 6 <| db_step (fun (s : List D) => [.bor numbers_here_1, .bor words_1, .val names_1, .val figures_1, .val head_1, .own s, .any, .un]) (ds_for1 (i := 6) (S := List D) (Γ := (fun (s : List D) => [.bor numbers_here_1, .bor words_1, .val names_1, .val figures_1, .val head_1, .own s, .any, .un])) (f := (m_law_formed_l1 names_1 figures_1)) line_1 rfl ctx_def (di_seq (de_call ctx_def k_law_form (hr.mono (by decide)) rfl (L.glo (fa_18)) F_law_form.kp b_law_form (dam_bor (dr_val (i := 4) rfl (pv 4)) dam_nil))) (pg_name (i := 6) sc_law_formed.nd rfl (Or.inl rfl)) (fun line_2 sort_1 => db_G [.bor numbers_here_1, .bor words_1, .val names_1, .val figures_1, .val head_1, .own line_2, .val sort_1, .un] rfl <| db_last (ds_if (dt_cmp (op_eqD hr.u64) cmp_eq (dr_val (i := 6) rfl (pv 6)) (DR.of (de_str (by decide +kernel))) (nomark _)) (db_step (fun line_3 => [.bor numbers_here_1, .bor words_1, .val names_1, .val figures_1, .val head_1, .own line_3, .val sort_1, .un]) (ds_pushO (i := 5) rfl (pv 5) (de_ix hr.u70 (dr_val (i := 2) rfl (pv 2)) (DR.of (de_mod (DR.of (de_callB lenR len_op rfl (L.free (fa_3)) boot_len_ (dra_cons (dr_own (i := 5) rfl (pv 5)) dra_nil))) (DR.of (de_callB lenR len_op rfl (L.free (fa_3)) boot_len_ (dra_cons (dr_val (i := 2) rfl (pv 2)) dra_nil))))))) (fun _ => rfl) fun line_3 => db_any 6 <| db_nil rfl) (db_step (fun line_4 => [.bor numbers_here_1, .bor words_1, .val names_1, .val figures_1, .val head_1, .own line_4, .val sort_1, .un]) (ds_pushO (i := 5) rfl (pv 5) (de_ix hr.u70 (dr_val (i := 3) rfl (pv 3)) (DR.of (de_mod (DR.of (de_callB lenR len_op rfl (L.free (fa_3)) boot_len_ (dra_cons (dr_own (i := 5) rfl (pv 5)) dra_nil))) (DR.of (de_callB lenR len_op rfl (L.free (fa_3)) boot_len_ (dra_cons (dr_val (i := 3) rfl (pv 3)) dra_nil))))))) (fun _ => rfl) fun line_4 => db_any 6 <| db_nil rfl)))) (fun _ => rfl) (fun line_5 => db_G [.bor numbers_here_1, .bor words_1, .val names_1, .val figures_1, .val head_1, .own line_5, .any, .un] rfl <| db_last (ds_retOwn (i := 5) rfl (pv 5)))
def m_law_command_l1 (words_1 : D) (form_here_1 : D) : (Unit) → D → M (Rs (Unit)) := fun _ k_1 => (mIf (mAnd (B2 D.eq (B2 D.ix (.ok form_here_1) (.ok k_1)) (.ok (.str "n"))) (mNot (B1 D.tru (B1 m_law_is_name (A1 (B2 D.ix (.ok words_1) (B2 D.add (.ok (.int 1)) (.ok k_1))) A0))))) ((.ok (.bl false)) >>= fun d => .ok (.rt d)) (mIf (mAnd (B2 D.eq (B2 D.ix (.ok form_here_1) (.ok k_1)) (.ok (.str "d"))) (mNot (B1 D.tru (B1 m_law_is_number (A1 (B2 D.ix (.ok words_1) (B2 D.add (.ok (.int 1)) (.ok k_1))) A0))))) ((.ok (.bl false)) >>= fun d => .ok (.rt d)) (.ok (.go ()))))
def g_law_command : D → M (D) := fun words_1 => ((B1 m_law_form (A1 (B2 D.ix (.ok words_1) (.ok (.int 0))) A0)) >>= fun form_here_1 => (mIf (mOr (B2 D.isN (.ok form_here_1) (.ok .non)) (B2 D.ne (B1 (f1 D.len) (A1 (.ok form_here_1) A0)) (B2 D.sub (B1 (f1 D.len) (A1 (.ok words_1) A0)) (.ok (.int 1))))) (.ok (.bl false)) (((B1 D.range1 (A1 (B1 (f1 D.len) (A1 (.ok form_here_1) A0)) A0)) >>= fun ds => loopR (m_law_command_l1 words_1 form_here_1) ds ()) >>= fun r => sFin r (fun _ => (.ok (.bl true))))))
def m_law_command : List D → M (D) := a1 g_law_command
theorem e_law_command (words_1 : D) : m_law_command [words_1] = g_law_command words_1 := a1_ g_law_command words_1
theorem sc_law_command : FnScope ["_law_words", "_law_form_here", "_law_k"] ["_law_words"] (d_law_command).scope := ⟨rfl, rfl, rfl, by decide +kernel, rfl, by decide +kernel, by decide +kernel⟩
theorem ok_law_command {P : Program} {w : World} {K : PySem.W.Frag} {mg : Str → Option Value} {base : Heap} (L : Lw w K mg) {fd : FuncData} (F : DefOk K d_law_command fd) : FnOk P w K mg base (L2.CX P w) 2 (He.fAd K d_law_command.at_) fd ["_law_words"] (spD K [true] m_law_command) := by
  obtain ⟨fd_law_form, F_law_form⟩ := L.c.def_ 8 (d := d_law_form) rfl
  have k_law_form := ok_law_form (P := P) (w := w) (base := base) L F_law_form
  have b_law_form : Binds K fd_law_form ["_law_word_here"] [] := F_law_form.bindsN fun _ _ _ _ _ _ us hl => match us, hl with | [_], _ => rfl
  obtain ⟨fd_law_is_name, F_law_is_name⟩ := L.c.def_ 9 (d := d_law_is_name) rfl
  have k_law_is_name := ok_law_is_name (P := P) (w := w) (base := base) L F_law_is_name
  have b_law_is_name : Binds K fd_law_is_name ["_law_word_here"] [] := F_law_is_name.bindsN fun _ _ _ _ _ _ us hl => match us, hl with | [_], _ => rfl
  obtain ⟨fd_law_is_number, F_law_is_number⟩ := L.c.def_ 10 (d := d_law_is_number) rfl
  have k_law_is_number := ok_law_is_number (P := P) (w := w) (base := base) L F_law_is_number
  have b_law_is_number : Binds K fd_law_is_number ["_law_word_here"] [] := F_law_is_number.bindsN fun _ _ _ _ _ _ us hl => match us, hl with | [_], _ => rfl
  refine fn_def F sc_law_command rfl (fun cdv A outer s H E hr ds hl => ?_)
  match ds, hl with
  | [words_1], _ =>
    first | rw [e_law_command] | skip
    exact db_G [.bor words_1, .un, .un] rfl <| db_step (fun form_here_1 => [.bor words_1, .val form_here_1, .un]) (ds_set (de_call ctx_def k_law_form (hr.mono (by decide)) rfl (L.glo (fa_18)) F_law_form.kp b_law_form (dam_bor (DR.of (de_ix hr.u70 (dr_bor (i := 0) rfl (pv 0)) (DR.of de_int))) dam_nil)) (fun pe => ps_set (i := 1) sc_law_command.nd rfl (Or.inl rfl) pe)) (fun _ => rfl) fun form_here_1 => db_ifr (DW.dt (dw_or (dt_cmp op_isN cmp_isN (dr_val (i := 1) rfl (pv 1)) (DR.of de_non) (nomark _)) (dw_or1 (dt_cmp (op_neD hr.u64) cmp_ne (DR.of (de_callB lenR len_op rfl (L.free (fa_3)) boot_len_ (dra_cons (dr_val (i := 1) rfl (pv 1)) dra_nil))) (DR.of (de_sub (DR.of (de_callB lenR len_op rfl (L.free (fa_3)) boot_len_ (dra_cons (dr_bor (i := 0) rfl (pv 0)) dra_nil))) (DR.of de_int))) (nomark _))))) (db_last (ds_ret de_bl)) (db_any 2 <| db_sumF (ds_for1R (i := 2) (S := Unit) (Γ := (fun (s : Unit) => [.bor words_1, .val form_here_1, .any])) (f := (m_law_command_l1 words_1 form_here_1)) () rfl ctx_def (di_range1 rfl (L.free (fa_2)) (dra_cons (DR.of (de_callB lenR len_op rfl (L.free (fa_3)) boot_len_ (dra_cons (dr_val (i := 1) rfl (pv 1)) dra_nil))) dra_nil)) (pg_name (i := 2) sc_law_command.nd rfl (Or.inl rfl)) (fun _ k_1 => db_G [.bor words_1, .val form_here_1, .val k_1] rfl <| db_ifRt (DW.dt (dw_and (dt_cmp (op_eqD hr.u64) cmp_eq (DR.of (de_ix hr.u70 (dr_val (i := 1) rfl (pv 1)) (dr_val (i := 2) rfl (pv 2)))) (DR.of (de_str (by decide +kernel))) (nomark _)) (dw_and1 (dt_not (dt_val (DR.of (de_call ctx_def k_law_is_name (hr.mono (by decide)) rfl (L.glo (fa_16)) F_law_is_name.kp b_law_is_name (dam_bor (DR.of (de_ix hr.u70 (dr_bor (i := 0) rfl (pv 0)) (DR.of (de_add (DR.of de_int) (dr_val (i := 2) rfl (pv 2)))))) dam_nil)))))))) (db_last (ds_ret de_bl)) (db_last (ds_if (DW.dt (dw_and (dt_cmp (op_eqD hr.u64) cmp_eq (DR.of (de_ix hr.u70 (dr_val (i := 1) rfl (pv 1)) (dr_val (i := 2) rfl (pv 2)))) (DR.of (de_str (by decide +kernel))) (nomark _)) (dw_and1 (dt_not (dt_val (DR.of (de_call ctx_def k_law_is_number (hr.mono (by decide)) rfl (L.glo (fa_17)) F_law_is_number.kp b_law_is_number (dam_bor (DR.of (de_ix hr.u70 (dr_bor (i := 0) rfl (pv 0)) (DR.of (de_add (DR.of de_int) (dr_val (i := 2) rfl (pv 2)))))) dam_nil)))))))) (db_map Rx.rt (db_last (ds_ret de_bl)) (fun _ => rfl)) (db_any 2 <| db_nil rfl))))) (fun _ => db_G [.bor words_1, .val form_here_1, .any] rfl <| db_last (ds_ret de_bl)))
def m_law_l1 (numbers_here_1 : D) (words_3 : D) : (D) → D → M (D) := fun text_2 k_2 => ((B2 D.add (.ok text_2) (B2 D.ix (.ok words_3) (.ok k_2))) >>= fun text_3 => (mIf (B2 D.lt (B2 D.add (.ok k_2) (.ok (.int 1))) (B1 (f1 D.len) (A1 (.ok words_3) A0))) ((B2 D.add (.ok text_3) (B2 D.mulS (.ok (.str " ")) (B2 D.add (.ok (.int 1)) (B2 D.mod (B1 (f1 D.toInt) (A1 (B2 D.add (B2 D.ix (.ok numbers_here_1) (.ok (.int 46))) (B2 D.mul (.ok k_2) (B2 D.ix (.ok numbers_here_1) (.ok (.int 47))))) A0)) (.ok (.int 3)))))) >>= fun text_4 => (.ok text_4)) (.ok text_3)))
def g_law : D → M (D) := fun script_1 => ((B1 m_law_numbers (A1 (.ok script_1) (A1 (.ok (.int 60)) A0))) >>= fun numbers_here_1 => ((L1 ((B1 D.range1 (A1 (B2 D.add (.ok (.int 1)) (B2 D.mod (B1 (f1 D.toInt) (A1 (B2 D.ix (.ok numbers_here_1) (.ok (.int 40))) A0)) (.ok (.int 9)))) A0)) >>= fun ds => compL (fElt noT (fun k_1 => (B1 m_law_word (A1 (B2 D.ix (.ok numbers_here_1) (B2 D.mul (.ok (.int 2)) (.ok k_1))) (A1 (B2 D.ix (.ok numbers_here_1) (B2 D.add (B2 D.mul (.ok (.int 2)) (.ok k_1)) (.ok (.int 1)))) A0))))) ds)) >>= fun words_1 => ((mIf (B2 D.gt (B2 D.mod (B1 (f1 D.toInt) (A1 (B2 D.ix (.ok numbers_here_1) (.ok (.int 41))) A0)) (.ok (.int 3))) (.ok (.int 0))) ((B1 m_law_formed (A1 (.ok numbers_here_1) (A1 (.ok words_1) A0))) >>= fun line_1 => ((B2 D.mod (B1 (f1 D.toInt) (A1 (B2 D.ix (.ok numbers_here_1) (.ok (.int 43))) A0)) (B1 (f1 D.len) (A1 (.ok (.lst line_1)) A0))) >>= fun place_1 => ((mIf (B2 D.eq (B2 D.mod (B1 (f1 D.toInt) (A1 (B2 D.ix (.ok numbers_here_1) (.ok (.int 44))) A0)) (.ok (.int 6))) (.ok (.int 0))) (mSetI line_1 (B2 D.ix (.ok words_1) (.ok (.int 0))) (.ok place_1) >>= fun line_2 => (.ok line_2)) (.ok line_1) : M (List D)) >>= fun line_3 => ((mIf (mAnd (B2 D.eq (B2 D.mod (B1 (f1 D.toInt) (A1 (B2 D.ix (.ok numbers_here_1) (.ok (.int 44))) A0)) (.ok (.int 6))) (.ok (.int 1))) (B2 D.gt (B1 (f1 D.len) (A1 (.ok (.lst line_3)) A0)) (.ok (.int 1)))) (((S3 (.ok (.lst line_3)) oN (B1 D.bnd (.ok place_1))) >>= fun x => (S3 (.ok (.lst line_3)) (B1 D.bnd (B2 D.add (.ok place_1) (.ok (.int 1)))) oN) >>= fun y => D.addN x y) >>= fun line_4 => (.ok line_4)) (.ok line_3) : M (List D)) >>= fun line_5 => ((mIf (B2 D.eq (B2 D.mod (B1 (f1 D.toInt) (A1 (B2 D.ix (.ok numbers_here_1) (.ok (.int 44))) A0)) (.ok (.int 6))) (.ok (.int 2))) (mPush line_5 (B2 D.ix (.ok words_1) (.ok (.int 0))) >>= fun line_6 => (.ok line_6)) (.ok line_5) : M (List D)) >>= fun line_7 => ((.ok (.lst line_7)) >>= fun words_2 => (.ok words_2))))))) (.ok words_1) : M (D)) >>= fun words_3 => ((B2 D.mulS (.ok (.str " ")) (B2 D.mod (B1 (f1 D.toInt) (A1 (B2 D.ix (.ok numbers_here_1) (.ok (.int 45))) A0)) (.ok (.int 3)))) >>= fun text_1 => (((B1 D.range1 (A1 (B1 (f1 D.len) (A1 (.ok words_3) A0)) A0)) >>= fun ds => loopF (m_law_l1 numbers_here_1 words_3) ds text_1) >>= fun text_5 => ((B2 D.add (.ok text_5) (B2 D.mulS (.ok (.str " ")) (B2 D.mod (B1 (f1 D.toInt) (A1 (B2 D.ix (.ok numbers_here_1) (.ok (.int 48))) A0)) (.ok (.int 3))))) >>= fun text_6 => ((B1 m_split_words (A1 (.ok text_6) A0)) >>= fun told_1 => (mIf (mOr (mNot (B1 D.tru (B1 (D.isB "list") (.ok told_1)))) (mOr (B2 D.ne (.ok told_1) (.ok words_3)) (B2 D.ne (B1 m_split_words (A1 (B2 D.mulS (.ok (.str " ")) (B2 D.mod (B1 (f1 D.toInt) (A1 (B2 D.ix (.ok numbers_here_1) (.ok (.int 49))) A0)) (.ok (.int 4)))) A0)) (B1 D.mkLst A0)))) (.ok (.bl false)) (mIf (B2 D.ne (B1 m_split_words (A1 (.ok (.str "a\tb \t")) A0)) (B1 D.mkLst (A1 (.ok (.str "a\tb")) (A1 (.ok (.str "\t")) A0)))) (.ok (.bl false)) ((B1 (f1 D.toList) (A1 (.ok words_3) A0)) >>= fun passed_1 => ((B1 m_is_command (A1 (.ok passed_1) A0)) >>= fun actual_1 => (vAnd (B1 (D.isB "bool") (.ok actual_1)) (vAnd (C2 D.eq (.ok actual_1) (B1 m_law_command (A1 (.ok words_3) A0))) (C2 D.eq (.ok passed_1) (.ok words_3)))))))))))))))
def m_law : List D → M (D) := a1 g_law
theorem e_law (script_1 : D) : m_law [script_1] = g_law script_1 := a1_ g_law script_1
theorem sc_law : FnScope ["_law_script", "_law_numbers_here", "_law_words", "_law_line", "_law_place", "_law_text", "_law_k", "_law_told", "_law_passed", "_law_actual"] ["_law_script"] (d_law).scope := ⟨rfl, rfl, rfl, by decide +kernel, rfl, by decide +kernel, by decide +kernel⟩
theorem ok_law {P : Program} {w : World} {K : PySem.W.Frag} {mg : Str → Option Value} {base : Heap} (L : Lw w K mg) {fd : FuncData} (F : DefOk K d_law fd) : FnOk P w K mg base (L2.CX P w) 4 (He.fAd K d_law.at_) fd ["_law_script"] (spD K [true] m_law) := by
  obtain ⟨fd_law_numbers, F_law_numbers⟩ := L.c.def_ 1 (d := d_law_numbers) rfl
  have k_law_numbers := ok_law_numbers (P := P) (w := w) (base := base) L F_law_numbers
  have b_law_numbers : Binds K fd_law_numbers ["_law_script", "_law_many"] [] := F_law_numbers.bindsN fun _ _ _ _ _ _ us hl => match us, hl with | [_, _], _ => rfl
  obtain ⟨fd_law_word, F_law_word⟩ := L.c.def_ 7 (d := d_law_word) rfl
  have k_law_word := ok_law_word (P := P) (w := w) (base := base) L F_law_word
  have b_law_word : Binds K fd_law_word ["_law_number", "_law_more"] [] := F_law_word.bindsN fun _ _ _ _ _ _ us hl => match us, hl with | [_, _], _ => rfl
  obtain ⟨fd_law_formed, F_law_formed⟩ := L.c.def_ 11 (d := d_law_formed) rfl
  have k_law_formed := ok_law_formed (P := P) (w := w) (base := base) L F_law_formed
  have b_law_formed : Binds K fd_law_formed ["_law_numbers_here", "_law_words"] [] := F_law_formed.bindsN fun _ _ _ _ _ _ us hl => match us, hl with | [_, _], _ => rfl
  obtain ⟨fd_split_words, F_split_words⟩ := L.c.def_ 2 (d := d_split_words) rfl
  have k_split_words := ok_split_words (P := P) (w := w) (base := base) L F_split_words
  have b_split_words : Binds K fd_split_words ["line"] [] := F_split_words.bindsN fun _ _ _ _ _ _ us hl => match us, hl with | [_], _ => rfl
  obtain ⟨fd_is_command, F_is_command⟩ := L.c.def_ 6 (d := d_is_command) rfl
  have k_is_command := ok_is_command (P := P) (w := w) (base := base) L F_is_command
  have b_is_command : Binds K fd_is_command ["words"] [] := F_is_command.bindsN fun _ _ _ _ _ _ us hl => match us, hl with | [_], _ => rfl
  obtain ⟨fd_law_command, F_law_command⟩ := L.c.def_ 12 (d := d_law_command) rfl
  have k_law_command := ok_law_command (P := P) (w := w) (base := base) L F_law_command
  have b_law_command : Binds K fd_law_command ["_law_words"] [] := F_law_command.bindsN fun _ _ _ _ _ _ us hl => match us, hl with | [_], _ => rfl
  refine fn_def F sc_law rfl (fun cdv A outer s H E hr ds hl => ?_)
  match ds, hl with
  | [script_1], _ =>
    first | rw [e_law] | skip
    exact db_G [.bor script_1, .un, .un, .un, .un, .un, .un, .un, .un, .un] rfl <| db_step (fun numbers_here_1 => [.bor script_1, .val numbers_here_1, .un, .un, .un, .un, .un, .un, .un, .un]) (ds_set (de_call ctx_def k_law_numbers (hr.mono (by decide)) rfl (L.glo (fa_19)) F_law_numbers.kp b_law_numbers (dam_bor (dr_bor (i := 0) rfl (pv 0)) (dam_bor (DR.of de_int) dam_nil))) (fun pe => ps_set (i := 1) sc_law.nd rfl (Or.inr rfl) pe)) (fun _ => rfl) fun numbers_here_1 => db_step (fun words_1 => [.bor script_1, .val numbers_here_1, .val words_1, .un, .un, .un, .un, .un, .un, .un]) (ds_setLc (i := 2) (dn_lc1 (own := [("_law_k", 6)]) (i := 6) (me := fun k_1 => (B1 m_law_word (A1 (B2 D.ix (.ok numbers_here_1) (B2 D.mul (.ok (.int 2)) (.ok k_1))) (A1 (B2 D.ix (.ok numbers_here_1) (B2 D.add (B2 D.mul (.ok (.int 2)) (.ok k_1)) (.ok (.int 1)))) A0)))) (CtxOk.calm ctx_def) sc_law.nd (DIR.of (di_range1 rfl (L.free (fa_2)) (dra_cons (DR.of (de_add (DR.of de_int) (DR.of (de_mod (DR.of (de_callTy int_R int_op rfl (L.free (fa_1)) boot_int_ (dra_cons (DR.of (de_ix hr.u70 (dr_val (i := 1) rfl (pv 1)) (DR.of de_int))) dra_nil))) (DR.of de_int))))) dra_nil))) (blkOk_by (by kernel_rfl)) rfl (fun _ _ _ _ _ => pg_name (i := 6) sc_law.nd rfl (Or.inl rfl)) (fun _ _ _ _ _ k_1 => (de_call (CtxOk.blk ctx_def) k_law_word (hr.mono (by decide)) rfl (L.glo (fa_20)) F_law_word.kp b_law_word (dam_bor (DR.of (de_ix hr.u70 (dr_val (i := 1) rfl (pv 1)) (DR.of (de_mul (DR.of de_int) (dr_val (i := 6) rfl (pv 6)))))) (dam_bor (DR.of (de_ix hr.u70 (dr_val (i := 1) rfl (pv 1)) (DR.of (de_add (DR.of (de_mul (DR.of de_int) (dr_val (i := 6) rfl (pv 6)))) (DR.of de_int))))) dam_nil))))) rfl rfl rfl) (fun _ => rfl) fun words_1 => db_step (fun (s : D) => [.bor script_1, .val numbers_here_1, .val s, .any, .any, .un, .un, .un, .un, .un]) (ds_if (dt_cmp op_gt cmp_gt (DR.of (de_mod (DR.of (de_callTy int_R int_op rfl (L.free (fa_1)) boot_int_ (dra_cons (DR.of (de_ix hr.u70 (dr_val (i := 1) rfl (pv 1)) (DR.of de_int))) dra_nil))) (DR.of de_int))) (DR.of de_int) (nomark _)) (db_step (fun line_1 => [.bor script_1, .val numbers_here_1, .val words_1, .own line_1, .un, .un, .un, .un, .un, .un]) (ds_setN (dn_callO ctx_def k_law_formed (hr.mono (by decide)) rfl (L.glo (fa_21)) F_law_formed.kp b_law_formed (dam_bor (dr_val (i := 1) rfl (pv 1)) (dam_bor (dr_val (i := 2) rfl (pv 2)) dam_nil))) (fun pe => ps_set (i := 3) sc_law.nd rfl (Or.inl rfl) pe)) (fun _ => rfl) fun line_1 => db_step (fun place_1 => [.bor script_1, .val numbers_here_1, .val words_1, .own line_1, .val place_1, .un, .un, .un, .un, .un]) (ds_set (de_mod (DR.of (de_callTy int_R int_op rfl (L.free (fa_1)) boot_int_ (dra_cons (DR.of (de_ix hr.u70 (dr_val (i := 1) rfl (pv 1)) (DR.of de_int))) dra_nil))) (DR.of (de_callB lenR len_op rfl (L.free (fa_3)) boot_len_ (dra_cons (dr_own (i := 3) rfl (pv 3)) dra_nil)))) (fun pe => ps_set (i := 4) sc_law.nd rfl (Or.inl rfl) pe)) (fun _ => rfl) fun place_1 => db_step (fun (s : List D) => [.bor script_1, .val numbers_here_1, .val words_1, .own s, .val place_1, .un, .un, .un, .un, .un]) (ds_if (dt_cmp (op_eqD hr.u64) cmp_eq (DR.of (de_mod (DR.of (de_callTy int_R int_op rfl (L.free (fa_1)) boot_int_ (dra_cons (DR.of (de_ix hr.u70 (dr_val (i := 1) rfl (pv 1)) (DR.of de_int))) dra_nil))) (DR.of de_int))) (DR.of de_int) (nomark _)) (db_step (fun line_2 => [.bor script_1, .val numbers_here_1, .val words_1, .own line_2, .val place_1, .un, .un, .un, .un, .un]) (ds_setI (i := 3) rfl (pv 3) (de_ix hr.u70 (dr_val (i := 2) rfl (pv 2)) (DR.of de_int)) (dr_val (i := 4) rfl (pv 4)) rfl rfl rfl) (fun _ => rfl) fun line_2 => db_nil rfl) (db_nil rfl)) (fun _ => rfl) (fun line_3 => db_G [.bor script_1, .val numbers_here_1, .val words_1, .own line_3, .val place_1, .un, .un, .un, .un, .un] rfl <| db_step (fun (s : List D) => [.bor script_1, .val numbers_here_1, .val words_1, .own s, .val place_1, .un, .un, .un, .un, .un]) (ds_if (DW.dt (dw_and (dt_cmp (op_eqD hr.u64) cmp_eq (DR.of (de_mod (DR.of (de_callTy int_R int_op rfl (L.free (fa_1)) boot_int_ (dra_cons (DR.of (de_ix hr.u70 (dr_val (i := 1) rfl (pv 1)) (DR.of de_int))) dra_nil))) (DR.of de_int))) (DR.of de_int) (nomark _)) (dw_and1 (dt_cmp op_gt cmp_gt (DR.of (de_callB lenR len_op rfl (L.free (fa_3)) boot_len_ (dra_cons (dr_own (i := 3) rfl (pv 3)) dra_nil))) (DR.of de_int) (nomark _))))) (db_step (fun line_4 => [.bor script_1, .val numbers_here_1, .val words_1, .own line_4, .val place_1, .un, .un, .un, .un, .un]) (ds_setN (dn_addN (DR.of (de_sl (dr_own (i := 3) rfl (pv 3)) do_none (do_some (dr_val (i := 4) rfl (pv 4))))) (DR.of (de_sl (dr_own (i := 3) rfl (pv 3)) (do_some (DR.of (de_add (dr_val (i := 4) rfl (pv 4)) (DR.of de_int)))) do_none))) (fun pe => ps_set (i := 3) sc_law.nd rfl (Or.inl rfl) pe)) (fun _ => rfl) fun line_4 => db_nil rfl) (db_nil rfl)) (fun _ => rfl) (fun line_5 => db_G [.bor script_1, .val numbers_here_1, .val words_1, .own line_5, .val place_1, .un, .un, .un, .un, .un] rfl <| db_step (fun (s : List D) => [.bor script_1, .val numbers_here_1, .val words_1, .own s, .val place_1, .un, .un, .un, .un, .un]) (ds_if (dt_cmp (op_eqD hr.u64) cmp_eq (DR.of (de_mod (DR.of (de_callTy int_R int_op rfl (L.free (fa_1)) boot_int_ (dra_cons (DR.of (de_ix hr.u70 (dr_val (i := 1) rfl (pv 1)) (DR.of de_int))) dra_nil))) (DR.of de_int))) (DR.of de_int) (nomark _)) (db_step (fun line_6 => [.bor script_1, .val numbers_here_1, .val words_1, .own line_6, .val place_1, .un, .un, .un, .un, .un]) (ds_pushO (i := 3) rfl (pv 3) (de_ix hr.u70 (dr_val (i := 2) rfl (pv 2)) (DR.of de_int))) (fun _ => rfl) fun line_6 => db_nil rfl) (db_nil rfl)) (fun _ => rfl) (fun line_7 => db_G [.bor script_1, .val numbers_here_1, .val words_1, .own line_7, .val place_1, .un, .un, .un, .un, .un] rfl <| db_fzO 3 rfl <| db_step (fun words_2 => [.bor script_1, .val numbers_here_1, .val words_2, .val (.lst line_7), .val place_1, .un, .un, .un, .un, .un]) (ds_set (de_val (i := 3) rfl (pv 3)) (fun pe => ps_set (i := 2) sc_law.nd rfl (Or.inl rfl) pe)) (fun _ => rfl) fun words_2 => db_any 3 <| db_any 4 <| db_nil rfl)))) (db_any 3 <| db_any 4 <| db_nil rfl)) (fun _ => rfl) (fun words_3 => db_G [.bor script_1, .val numbers_here_1, .val words_3, .any, .any, .un, .un, .un, .un, .un] rfl <| db_step (fun text_1 => [.bor script_1, .val numbers_here_1, .val words_3, .any, .any, .val text_1, .un, .un, .un, .un]) (ds_set (de_mulS (DR.of (de_str (by decide +kernel))) (DR.of (de_mod (DR.of (de_callTy int_R int_op rfl (L.free (fa_1)) boot_int_ (dra_cons (DR.of (de_ix hr.u70 (dr_val (i := 1) rfl (pv 1)) (DR.of de_int))) dra_nil))) (DR.of de_int)))) (fun pe => ps_set (i := 5) sc_law.nd rfl (Or.inl rfl) pe)) (fun _ => rfl) fun text_1 => db_any 6 <| db_step (fun (s : D) => [.bor script_1, .val numbers_here_1, .val words_3, .any, .any, .val s, .any, .un, .un, .un]) (ds_for1 (i := 6) (S := D) (Γ := (fun (s : D) => [.bor script_1, .val numbers_here_1, .val words_3, .any, .any, .val s, .any, .un, .un, .un])) (f := (m_law_l1 numbers_here_1 words_3)) text_1 rfl ctx_def (di_range1 rfl (L.free (fa_2)) (dra_cons (DR.of (de_callB lenR len_op rfl (L.free (fa_3)) boot_len_ (dra_cons (dr_val (i := 2) rfl (pv 2)) dra_nil))) dra_nil)) (pg_name (i := 6) sc_law.nd rfl (Or.inl rfl)) (fun text_2 k_2 => db_G [.bor script_1, .val numbers_here_1, .val words_3, .any, .any, .val text_2, .val k_2, .un, .un, .un] rfl <| db_step (fun text_3 => [.bor script_1, .val numbers_here_1, .val words_3, .any, .any, .val text_3, .val k_2, .un, .un, .un]) (ds_set (de_add (dr_val (i := 5) rfl (pv 5)) (DR.of (de_ix hr.u70 (dr_val (i := 2) rfl (pv 2)) (dr_val (i := 6) rfl (pv 6))))) (fun pe => ps_set (i := 5) sc_law.nd rfl (Or.inl rfl) pe)) (fun _ => rfl) fun text_3 => db_last (ds_if (dt_cmp (op_lt.or op_lt_str) cmp_lt (DR.of (de_add (dr_val (i := 6) rfl (pv 6)) (DR.of de_int))) (DR.of (de_callB lenR len_op rfl (L.free (fa_3)) boot_len_ (dra_cons (dr_val (i := 2) rfl (pv 2)) dra_nil))) (nomark _)) (db_step (fun text_4 => [.bor script_1, .val numbers_here_1, .val words_3, .any, .any, .val text_4, .val k_2, .un, .un, .un]) (ds_set (de_add (dr_val (i := 5) rfl (pv 5)) (DR.of (de_mulS (DR.of (de_str (by decide +kernel))) (DR.of (de_add (DR.of de_int) (DR.of (de_mod (DR.of (de_callTy int_R int_op rfl (L.free (fa_1)) boot_int_ (dra_cons (DR.of (de_add (DR.of (de_ix hr.u70 (dr_val (i := 1) rfl (pv 1)) (DR.of de_int))) (DR.of (de_mul (dr_val (i := 6) rfl (pv 6)) (DR.of (de_ix hr.u70 (dr_val (i := 1) rfl (pv 1)) (DR.of de_int))))))) dra_nil))) (DR.of de_int)))))))) (fun pe => ps_set (i := 5) sc_law.nd rfl (Or.inl rfl) pe)) (fun _ => rfl) fun text_4 => db_any 6 <| db_nil rfl) (db_any 6 <| db_nil rfl)))) (fun _ => rfl) (fun text_5 => db_G [.bor script_1, .val numbers_here_1, .val words_3, .any, .any, .val text_5, .any, .un, .un, .un] rfl <| db_step (fun text_6 => [.bor script_1, .val numbers_here_1, .val words_3, .any, .any, .val text_6, .any, .un, .un, .un]) (ds_set (de_add (dr_val (i := 5) rfl (pv 5)) (DR.of (de_mulS (DR.of (de_str (by decide +kernel))) (DR.of (de_mod (DR.of (de_callTy int_R int_op rfl (L.free (fa_1)) boot_int_ (dra_cons (DR.of (de_ix hr.u70 (dr_val (i := 1) rfl (pv 1)) (DR.of de_int))) dra_nil))) (DR.of de_int)))))) (fun pe => ps_set (i := 5) sc_law.nd rfl (Or.inl rfl) pe)) (fun _ => rfl) fun text_6 => db_step (fun told_1 => [.bor script_1, .val numbers_here_1, .val words_3, .any, .any, .val text_6, .any, .val told_1, .un, .un]) (ds_set (de_call ctx_def k_split_words (hr.mono (by decide)) rfl (L.glo (fa_22)) F_split_words.kp b_split_words (dam_bor (dr_val (i := 5) rfl (pv 5)) dam_nil)) (fun pe => ps_set (i := 7) sc_law.nd rfl (Or.inl rfl) pe)) (fun _ => rfl) fun told_1 => db_ifr (DW.dt (dw_or (dt_not (dt_val (DR.of (de_isB (T := "list") rfl (L.free (fa_23)) boot_isinstance_ (pe_ty_ rfl (L.free (fa_24)) boot_list_) (dr_val (i := 7) rfl (pv 7)))))) (dw_or (dt_cmp (op_neD hr.u64) cmp_ne (dr_val (i := 7) rfl (pv 7)) (dr_val (i := 2) rfl (pv 2)) (nomark _)) (dw_or1 (dt_cmp (op_neD hr.u64) cmp_ne (DR.of (de_call ctx_def k_split_words (hr.mono (by decide)) rfl (L.glo (fa_22)) F_split_words.kp b_split_words (dam_bor (DR.of (de_mulS (DR.of (de_str (by decide +kernel))) (DR.of (de_mod (DR.of (de_callTy int_R int_op rfl (L.free (fa_1)) boot_int_ (dra_cons (DR.of (de_ix hr.u70 (dr_val (i := 1) rfl (pv 1)) (DR.of de_int))) dra_nil))) (DR.of de_int))))) dam_nil))) (DR.of (de_lst da_nil)) (nomark _)))))) (db_last (ds_ret de_bl)) (db_ifr (dt_cmp (op_neD hr.u64) cmp_ne (DR.of (de_call ctx_def k_split_words (hr.mono (by decide)) rfl (L.glo (fa_22)) F_split_words.kp b_split_words (dam_bor (DR.of (de_str (by decide +kernel))) dam_nil))) (DR.of (de_lst (da_cons (de_str (by decide +kernel)) (da_cons (de_str (by decide +kernel)) da_nil)))) (nomark _)) (db_last (ds_ret de_bl)) (db_step (fun passed_1 => [.bor script_1, .val numbers_here_1, .val words_3, .any, .any, .val text_6, .any, .val told_1, .val passed_1, .un]) (ds_set (de_callTy call_list_of list_op rfl (L.free (fa_24)) boot_list_ (dra_cons (dr_val (i := 2) rfl (pv 2)) dra_nil)) (fun pe => ps_set (i := 8) sc_law.nd rfl (Or.inl rfl) pe)) (fun _ => rfl) fun passed_1 => db_step (fun actual_1 => [.bor script_1, .val numbers_here_1, .val words_3, .any, .any, .val text_6, .any, .val told_1, .val passed_1, .val actual_1]) (ds_set (de_call ctx_def k_is_command (hr.mono (by decide)) rfl (L.glo (fa_25)) F_is_command.kp b_is_command (dam_bor (dr_val (i := 8) rfl (pv 8)) dam_nil)) (fun pe => ps_set (i := 9) sc_law.nd rfl (Or.inl rfl) pe)) (fun _ => rfl) fun actual_1 => db_last (ds_ret (de_and (de_isB (T := "bool") rfl (L.free (fa_23)) boot_isinstance_ (pe_ty_ rfl (L.free (fa_27)) boot_bool_) (dr_val (i := 9) rfl (pv 9))) (de_and (de_cmp (op_eqD hr.u64) cmp_eq (dr_val (i := 9) rfl (pv 9)) (DR.of (de_call ctx_def k_law_command (hr.mono (by decide)) rfl (L.glo (fa_26)) F_law_command.kp b_law_command (dam_bor (dr_val (i := 2) rfl (pv 2)) dam_nil))) (nomark _)) (de_one (de_cmp (op_eqD hr.u64) cmp_eq (dr_val (i := 8) rfl (pv 8)) (dr_val (i := 2) rfl (pv 2)) (nomark _))))))))))
end LawWalk

set_option Elab.async false
set_option linter.all false
set_option maxRecDepth 100000
set_option maxHeartbeats 4000000
namespace LawMath
open PySem DL LawWalk
def nums (l : List Int) : List D := l.map D.int
theorem nums_len (l : List Int) : (nums l).length = l.length := by simp [nums]
theorem nums_app (l m : List Int) : nums (l ++ m) = nums l ++ nums m := by simp [nums]
def Sm (l : List Int) : Prop := ∀ x ∈ l, 0 ≤ x ∧ x < 1009
theorem Sm.app {l m : List Int} (h : Sm l) (h2 : Sm m) : Sm (l ++ m) := fun x hx => by
  rcases List.mem_append.mp hx with h1 | h1
  · exact h x h1
  · exact h2 x h1
theorem Sm.one {x : Int} (h : 0 ≤ x ∧ x < 1009) : Sm [x] := fun y hy => by
  rw [List.mem_singleton.mp hy]
  exact h
theorem row_ok (c n : Int) (h0 : 0 ≤ n) (h1 : n < 100000) : ∃ l : List Int, m_law_row [.int c, .int n] = .ok (.lst (nums l)) ∧ l.length = n.toNat ∧ Sm l := by
  rw [e_law_row]
  unfold g_law_row
  have hr : smallI n = true := small_of (by omega) (by omega)
  obtain ⟨s', e, hI⟩ := loopF_inv (f := m_law_row_l1 (.int c)) (fun k s => ∃ (l : List Int) (r m : Int), s = (nums l, .int r, .int m) ∧ l.length = k ∧ Sm l ∧ 0 ≤ m) (rangeL 0 n.toNat) 0 ([], .int (if c < 0 then -c else c), .int (((if c < 0 then -c else c) * 48271 + 69621) % 2147483647))
    ⟨[], _, _, rfl, rfl, (fun x hx => by cases hx), by omega⟩ (fun i d s hd hi => by
      obtain ⟨l, r, m, rfl, hl, hs, hm⟩ := hi
      obtain ⟨rfl, hin⟩ := rangeL_get hd
      have hlt : l.length < sizeLine := by
        rw [PySem.sizeLine_eq]
        omega
      unfold m_law_row_l1
      by_cases hc : (10 : Int) ^ 18 ≤ (if c < 0 then -c else c)
      · refine ⟨(nums (l ++ [r % 1009]), .int (r / 1009), .int ((m * 16807 + 271 * (0 + (i : Int) + 3)) % 2147483629)), ?_, _, _, _, rfl, by simp [hl], hs.app (.one (by omega)), by omega⟩
        have hc' : decide ((10 : Int) ^ 18 ≤ (if c < 0 then -c else c)) = true := decide_eq_true hc
        simp at hc'
        simp [hlt, nums_app, nums, hc']
      · refine ⟨(nums (l ++ [(m * 16807 + 271 * (0 + (i : Int) + 3)) % 2147483629 / 7 % 1009]), .int r, .int ((m * 16807 + 271 * (0 + (i : Int) + 3)) % 2147483629)), ?_, _, _, _, rfl, by simp [hl], hs.app (.one (by omega)), by omega⟩
        have hc' : ¬ ((10 : Int) ^ 18 ≤ (if c < 0 then -c else c)) := hc
        simp at hc'
        simp [hlt, nums_app, nums, Int.not_le.mpr hc'])
  obtain ⟨l, r, m, rfl, hl, hs, _⟩ := hI
  refine ⟨l, ?_, by rw [hl, rangeL_len]; omega, hs⟩
  simp [hr, e]
theorem push1_ok (l : List D) (d : D) (h : l.length < 16777216) : m_law_numbers_l1 l d = .ok (l ++ [d]) := by
  unfold m_law_numbers_l1
  have : l.length < sizeLine := by rw [PySem.sizeLine_eq]; exact h
  simp [this]
theorem push3_ok (l : List D) (h : l.length < 16777216) : m_law_numbers_l3 l = .ok (l ++ [.int 0]) := by
  unfold m_law_numbers_l3
  have : l.length < sizeLine := by rw [PySem.sizeLine_eq]; exact h
  simp [this]
theorem pushAll (ds l : List D) (h : l.length + ds.length ≤ 16777216) : loopF m_law_numbers_l1 ds l = .ok (l ++ ds) := by
  obtain ⟨s', e, hI⟩ := loopF_inv (f := m_law_numbers_l1) (fun k s => s = l ++ ds.take k) ds 0 l (by simp) (fun i d s hd hi => by
    subst hi
    have hi := (List.getElem?_eq_some_iff.mp hd).1
    refine ⟨_, push1_ok _ _ (by rw [List.length_append, List.length_take]; omega), ?_⟩
    rw [List.append_assoc]
    congr 1
    have : 0 + i + 1 = i + 1 := by omega
    rw [this, Nat.zero_add, List.take_add_one, hd]
    rfl)
  rw [e, hI]
  simp
theorem numbers_ok (l : List Int) (h : l.length ≤ 63) (n : Int) (h0 : 0 ≤ n) (h1 : n ≤ 1000) : ∃ ns : List Int, m_law_numbers [.scr l, .int n] = .ok (.lst (nums ns)) ∧ ns.length = n.toNat ∧ Sm ns := by
  rw [e_law_numbers]
  have hc : (cutL l none (some 63)).length ≤ 63 := by
    rw [cut_take l (by omega), List.length_take]
    omega
  generalize hcs : cutL l none (some 63) = cs at hc
  have hm : ∀ c : Nat, (0 : Int) < (if (1 : Int) < (c : Int) then (c : Int) else 1) ∧ (c ≤ 63 → (if (1 : Int) < (c : Int) then (c : Int) else 1) < 1073741824) := fun c => by
    split <;> omega
  obtain ⟨hm1, hm2⟩ := hm cs.length
  have hm2 := hm2 hc
  generalize hmm : (if (1 : Int) < (cs.length : Int) then (cs.length : Int) else 1) = mm at hm1 hm2
  have hq0 : 0 ≤ n / mm := Int.ediv_nonneg h0 (by omega)
  have hq1 : n / mm ≤ n := Int.ediv_le_self _ h0
  generalize hq : n / mm = q at hq0 hq1
  obtain ⟨s1, e1, l1, rfl, hl1, hs1⟩ := loopF_inv (f := m_law_numbers_l2 (.int (1 + q))) (fun k s => ∃ ns : List Int, s = nums ns ∧ ns.length = k * (1 + q).toNat ∧ Sm ns) (nums cs) 0 [] ⟨[], rfl, by simp, fun x hx => by cases hx⟩ (fun i d s hd hi => by
    obtain ⟨ns, rfl, hl, hs⟩ := hi
    have hi := (List.getElem?_eq_some_iff.mp hd).1
    rw [nums_len] at hi
    have hd' : ∃ c, d = .int c := by
      unfold nums at hd
      rw [List.getElem?_map] at hd
      cases e : cs[i]? with
      | none => rw [e] at hd; cases hd
      | some c =>
        rw [e] at hd
        cases hd
        exact ⟨c, rfl⟩
    obtain ⟨c, rfl⟩ := hd'
    obtain ⟨r, er, hr, hrs⟩ := row_ok c (1 + q) (by omega) (by omega)
    have hb : i * (1 + q).toNat ≤ 63 * 1001 := Nat.mul_le_mul (by omega) (by omega)
    refine ⟨nums (ns ++ r), ?_, ns ++ r, rfl, ?_, hs.app hrs⟩
    · unfold m_law_numbers_l2
      simp only [B1, A1, A0, okb]
      rw [er]
      simp only [okb, items_l]
      rw [pushAll _ _ (by
        rw [nums_len, nums_len, hl, hr]
        have : (0 + i) * (1 + q).toNat = i * (1 + q).toNat := by rw [Nat.zero_add]
        omega), nums_app]
      rfl
    · rw [List.length_append, hl, hr, Nat.zero_add, Nat.succ_mul])
  have hb : cs.length * (1 + q).toNat ≤ 63 * 1001 := Nat.mul_le_mul (by omega) (by omega)
  rw [nums_len, Nat.zero_add] at hl1
  obtain ⟨s2, e2, ⟨l2, rfl, hl2, hs2⟩, hf⟩ := whileF_inv (c := m_law_numbers_l3_c (.int n)) (f := m_law_numbers_l3) (fun s => ∃ ns : List Int, s = nums ns ∧ ns.length ≤ 100000 ∧ Sm ns) (fun s => n.toNat - s.length) (fun s hs => by
    obtain ⟨ns, rfl, hl, hs⟩ := hs
    refine ⟨decide ((ns.length : Int) < n), ?_, fun hb => ?_⟩
    · unfold m_law_numbers_l3_c
      simp [nums_len]
    · have hb := of_decide_eq_true hb
      refine ⟨nums (ns ++ [0]), ?_, ⟨_, rfl, by simp; omega, hs.app (.one (by omega))⟩, ?_⟩
      · rw [push3_ok _ (by rw [nums_len]; omega), nums_app]
        rfl
      · rw [nums_len, nums_len, List.length_append, List.length_singleton]
        omega) 100000 (nums l1) ⟨l1, rfl, by omega, hs1⟩ (by rw [nums_len]; omega)
  have hge : n ≤ (l2.length : Int) := by
    unfold m_law_numbers_l3_c at hf
    simp [nums_len] at hf
    exact hf
  refine ⟨l2.take n.toNat, ?_, by rw [List.length_take]; omega, fun x hx => hs2 x (List.mem_of_mem_take hx)⟩
  have hcl : (cs.map D.int) = nums cs := rfl
  unfold g_law_numbers
  simp [hcs, hmm, hm1, hm2, hq]
  rw [hcl, e1]
  simp [e2, cut_take _ h0]
  simp [nums]
end LawMath

set_option Elab.async false
set_option linter.all false
set_option maxRecDepth 100000
set_option maxHeartbeats 4000000
namespace LawMath
open PySem DL LawWalk
def letS : Str := "abcdefghijklmnopqrstuvwxyz0123456789"
def lets : List Nat := tl letS
def digs : List Nat := tl "0123456789"
theorem lets_eq : lets = [97, 98, 99, 100, 101, 102, 103, 104, 105, 106, 107, 108, 109, 110, 111, 112, 113, 114, 115, 116, 117, 118, 119, 120, 121, 122, 48, 49, 50, 51, 52, 53, 54, 55, 56, 57] := by decide +kernel
def isNm (l : List Nat) : Bool := match l with
  | [] => false
  | c :: r => decide (r.length < 12) && (!decide (c ∈ digs) && (c :: r).all fun c => decide (c ∈ lets))
end LawMath

set_option Elab.async false
set_option linter.all false
set_option maxRecDepth 100000
set_option maxHeartbeats 4000000
namespace LawMath
open PySem DL LawWalk
theorem is_name_eq (l : List Nat) (h : l.length ≤ 16777216) : m_is_name [.str (mk l)] = .ok (.bl (isNm l)) := by
  rw [e_is_name]
  unfold g_is_name
  have hs' : ("abcdefghijklmnopqrstuvwxyz0123456789" : Str) = letS := rfl
  rw [hs']
  cases l with
  | nil => simp [len_mk, isNm]
  | cons c r =>
    have hs : r.length + 1 ≤ sizeLine := by rw [PySem.sizeLine_eq]; exact h
    have hc : compL (fElt noT fun char_1 => bD (D.mem char_1 (.str letS))) (D.str (mk [c]) :: r.map fun c => D.str (mk [c])) = .ok (D.bl (decide (c ∈ lets)) :: r.map fun c => D.bl (decide (c ∈ lets))) := compL_mapA (l := c :: r) (k := fun c => D.str (mk [c])) (g := fun c => D.bl (decide (c ∈ lets))) h fun a _ => by
      simp [mem_char', lets]
    have ha : D.all (.lst (D.bl (decide (c ∈ lets)) :: r.map fun c => D.bl (decide (c ∈ lets)))) = .ok (.bl ((c :: r).all fun c => decide (c ∈ lets))) := all_map (c :: r)
    have hi : D.ix (.str (mk (c :: r))) (.int 0) = .ok (.str (mk [c])) := ix_str (n := 0) (by rw [len_mk]; exact h) rfl rfl
    have h1 : (1 : Int) ≤ (r.length : Int) + 1 := by omega
    have hx : ((r.length : Int) + 1 ≤ 12) ↔ r.length < 12 := by omega
    by_cases h12 : r.length < 12
    · by_cases hd : c ∈ digs
      · have hd' : c ∈ tl "0123456789" := hd
        simp [len_mk, hs, h1, hx, h12, hi, mem_char', isNm, hd, hd']
      · have hd' : ¬ c ∈ tl "0123456789" := hd
        have hi2 : D.items (.str (mk (c :: r))) = .ok ((c :: r).map fun c => D.str (mk [c])) := items_mk _
        simp [len_mk, hs, h1, hx, h12, hi, mem_char', isNm, hd, hd', hi2, hc, ha]
    · simp [len_mk, hs, h1, hx, h12, isNm]
end LawMath

set_option Elab.async false
set_option linter.all false
set_option maxRecDepth 100000
set_option maxHeartbeats 4000000
namespace LawMath
open PySem DL LawWalk L2
structure Rd where
  nm : Str
  st : Str
  en : Str
  mi : Int
  ks : List Str
  hs : Option (List (Int × Int))
  deriving DecidableEq
def prI (p : Int × Int) : D := .tup [.int p.1, .int p.2]
def tupD {α : Type} (e : α → D) (l : List α) : D := .tup (l.map e)
def hsD : Option (List (Int × Int)) → D := optD (tupD prI)
def Rd.d (r : Rd) : D := .tup [.str r.nm, .str r.st, .str r.en, .int r.mi, tupD D.str r.ks, hsD r.hs]
structure Ch where
  day : Int
  pl : List Str
  ki : List Str
  ro : List Rd
  ba : List (Str × Str)
def Ch.f3 (c : Ch) : List (String × D) := [("day", .int c.day), ("places", tupD D.str c.pl), ("kinds", tupD D.str c.ki)]
def Ch.f4 (c : Ch) : List (String × D) := [("day", .int c.day), ("places", tupD D.str c.pl), ("kinds", tupD D.str c.ki), ("roads", tupD Rd.d c.ro)]
def Ch.f5 (c : Ch) : List (String × D) := [("day", .int c.day), ("places", tupD D.str c.pl), ("kinds", tupD D.str c.ki), ("roads", tupD Rd.d c.ro), ("bars", tupD prS c.ba)]
def Ch.d (c : Ch) : D := .ins "Map" c.f5
section
variable {cs : List String} {c : Ch}
end
section
variable {r : Rd}
theorem r1 : D.ix r.d (.int 1) = .ok (.str r.st) := ix_natT (n := 1) rfl rfl
theorem r2 : D.ix r.d (.int 2) = .ok (.str r.en) := ix_natT (n := 2) rfl rfl
theorem r3 : D.ix r.d (.int 3) = .ok (.int r.mi) := ix_natT (n := 3) rfl rfl
theorem r4 : D.ix r.d (.int 4) = .ok (tupD D.str r.ks) := ix_natT (n := 4) rfl rfl
end
end LawMath

set_option Elab.async false
set_option linter.all false
set_option maxRecDepth 100000
set_option maxHeartbeats 4000000
namespace LawMath
open PySem DL LawWalk L2
theorem lets_len : lets.length = 36 := by rw [lets_eq]; rfl
def lt (i : Int) : Nat := lets.getD i.toNat 0
theorem lt_mem {i : Int} (h1 : i < 36) : lt i ∈ lets := by
  have : i.toNat < lets.length := by rw [lets_len]; omega
  unfold lt
  rw [List.getD_eq_getElem?_getD, List.getElem?_eq_getElem this]
  exact List.getElem_mem this
theorem let_ix {i : Int} (h0 : 0 ≤ i) (h1 : i < 36) : D.ix (.str letS) (.int i) = .ok (.str (mk [lt i])) := by
  have hl : i.toNat < lets.length := by rw [lets_len]; omega
  refine ix_str (n := i.toNat) (by decide +kernel) ?_ (by omega)
  have h2 : lets[i.toNat]? = some (lt i) := by
    unfold lt
    rw [List.getD_eq_getElem?_getD, List.getElem?_eq_getElem hl]
    rfl
  exact h2
def Al (l : List Nat) : Prop := ∀ c ∈ l, c ∈ lets
theorem flat1 : ∀ cs : List Nat, (cs.map fun c => [c]).flatten = cs
  | [] => rfl
  | c :: cs => by rw [List.map_cons, List.flatten_cons, flat1 cs]; rfl
theorem join1 (cs : List Nat) (h : cs.length ≤ 1000) : D.join (.str "") (.lst ((cs.map fun c => mk [c]).map D.str)) = .ok (.str (mk cs)) := by
  have e1 : (((cs.map fun c => mk [c]).map (·.length)).sum) = cs.length := by
    rw [List.map_map]
    clear h
    induction cs with
    | nil => rfl
    | cons c cs ih =>
      rw [List.map_cons, List.sum_cons, ih, List.length_cons]
      have : (Str.length ∘ fun c => mk [c]) c = 1 := len_mk [c]
      rw [this]
      omega
  have e0 : ("" : Str).length = 0 := by decide +kernel
  rw [join_ok (by rw [e1, e0]; omega), join0]
  have e2 : (cs.map fun c => mk [c]).map tl = cs.map fun c => [c] := by
    rw [List.map_map]
    exact List.map_congr_left fun x _ => tl_mk _
  rw [e2, flat1]
def ltL (f : Nat → Int) (n : Nat) : List Nat := (List.range n).map fun k => lt (f k)
theorem ltL_al {f : Nat → Int} {n : Nat} (h : ∀ k, k < n → f k < 36) : Al (ltL f n) := fun c hc => by
  obtain ⟨k, hk, rfl⟩ := List.mem_map.mp hc
  exact lt_mem (h k (List.mem_range.mp hk))
theorem ltL_len (f : Nat → Int) (n : Nat) : (ltL f n).length = n := by
  unfold ltL
  rw [List.length_map, List.length_range]
theorem ltL_comp {f : Nat → Int} {n : Nat} {g : D → M D} (hn : n ≤ 1000) (h : ∀ k, k < n → g (.int (0 + (k : Int))) = .ok (.str (mk [lt (f k)]))) : compL (fElt noT g) (rangeL 0 n) = .ok (((ltL f n).map fun c => mk [c]).map D.str) := by
  unfold ltL
  rw [List.map_map, List.map_map]
  exact compL_mapA (by rw [List.length_range]; omega) fun k hk => h k (List.mem_range.mp hk)
end LawMath

set_option Elab.async false
set_option linter.all false
set_option maxRecDepth 100000
set_option maxHeartbeats 4000000
namespace LawMath
open PySem DL LawWalk L2
theorem num_ix {ns : List Int} {i : Int} {j : Nat} (hi : i = (j : Int)) (h : j < ns.length) : D.ix (.lst (nums ns)) (.int i) = .ok (.int (ns.getD j 0)) :=
  ix_nat (n := j) (by
    unfold nums
    rw [List.getElem?_map, List.getElem?_eq_getElem h, List.getD_eq_getElem?_getD, List.getElem?_eq_getElem h]
    rfl) hi
theorem num_sm {ns : List Int} (hs : Sm ns) (j : Nat) : 0 ≤ ns.getD j 0 ∧ ns.getD j 0 < 1009 := by
  rw [List.getD_eq_getElem?_getD]
  cases e : ns[j]? with
  | none => simp
  | some x => exact hs x (List.mem_of_getElem? e)
end LawMath

set_option Elab.async false
set_option linter.all false
set_option maxRecDepth 100000
set_option maxHeartbeats 4000000
namespace LawMath
open PySem DL LawWalk L2
def isNo (l : List Nat) : Bool := match l with
  | [] => false
  | c :: r => decide (r.length < 6) && ((c :: r).all (fun c => decide (c ∈ digs)) && (!decide (c = 48) || decide (r = [])))
def azS : Str := "abcdefghijklmnopqrstuvwxyz"
def az : List Nat := tl azS
theorem lets_az : lets = az ++ digs := by decide +kernel
theorem az_no : ∀ c ∈ az, c ∉ digs := by decide +kernel
theorem az_iff {c : Nat} : c ∈ az ↔ c ∈ lets ∧ c ∉ digs := by
  rw [lets_az, List.mem_append]
  exact ⟨fun h => ⟨.inl h, az_no c h⟩, fun h => h.1.resolve_right h.2⟩
section
variable {l : List Nat} (h : l.length ≤ 1000)
include h
theorem is_number_eq : m_is_number [.str (mk l)] = .ok (.bl (isNo l)) := by
  rw [e_is_number]
  unfold g_is_number
  cases l with
  | nil => simp [len_mk, isNo]
  | cons c r =>
    have hs : r.length + 1 ≤ sizeLine := by rw [PySem.sizeLine_eq]; rw [List.length_cons] at h; omega
    have hc : compL (fElt noT fun char_1 => bD (D.mem char_1 (.str "0123456789"))) (D.str (mk [c]) :: r.map fun c => D.str (mk [c])) = .ok (D.bl (decide (c ∈ digs)) :: r.map fun c => D.bl (decide (c ∈ digs))) := compL_mapA (l := c :: r) (k := fun c => D.str (mk [c])) (g := fun c => D.bl (decide (c ∈ digs))) (by omega) fun a _ => by
      simp [mem_char', digs]
    have ha : D.all (.lst (D.bl (decide (c ∈ digs)) :: r.map fun c => D.bl (decide (c ∈ digs)))) = .ok (.bl ((c :: r).all fun c => decide (c ∈ digs))) := all_map (c :: r)
    have hi : D.ix (.str (mk (c :: r))) (.int 0) = .ok (.str (mk [c])) := ix_str (n := 0) (by rw [len_mk]; omega) rfl rfl
    have hi2 : D.items (.str (mk (c :: r))) = .ok ((c :: r).map fun c => D.str (mk [c])) := items_mk _
    have h1 : (1 : Int) ≤ (r.length : Int) + 1 := by omega
    have hx : ((r.length : Int) + 1 ≤ 6) ↔ r.length < 6 := by omega
    have q0 : D.eq (.str (mk (c :: r))) (.str "0") = .ok (decide (c = 48 ∧ r = [])) := by
      rw [eq_ss]
      congr 1
      refine decide_eq_decide.mpr ?_
      have e0 : ("0" : Str) = mk [48] := rfl
      rw [e0, mk_inj]
      simp
    have q1 : D.ne (.str (mk [c])) (.str "0") = .ok (!decide (c = 48)) := by
      rw [ne_ss]
      have e0 : ("0" : Str) = mk [48] := rfl
      congr 2
      refine decide_eq_decide.mpr ?_
      rw [e0, mk_inj]
      simp
    by_cases h6 : r.length < 6
    · cases hd : (c :: r).all fun c => decide (c ∈ digs) with
      | false =>
        rw [hd] at ha
        simp -implicitDefEqProofs [len_mk, hs, h1, hx, h6, hi2, hc, ha, isNo, hd, -List.all_cons]
      | true =>
        rw [hd] at ha
        by_cases c0 : c = 48 ∧ r = []
        · obtain ⟨rfl, rfl⟩ := c0
          rfl
        · rw [decide_eq_false c0] at q0
          have e : (!decide (c = 48) || decide (r = [])) = !decide (c = 48) := by
            by_cases z : c = 48
            · have : r ≠ [] := fun w => c0 ⟨z, w⟩
              simp [z, this]
            · simp [z]
          simp -implicitDefEqProofs [len_mk, hs, h1, hx, h6, hi2, hc, ha, isNo, hd, q0, hi, q1, e, -List.all_cons]
    · simp -implicitDefEqProofs [len_mk, hs, h1, hx, h6, isNo]
theorem lname_eq : m_law_is_name [.str (mk l)] = .ok (.bl (isNm l)) := by
  rw [e_law_is_name]
  unfold g_law_is_name
  have hs' : ("abcdefghijklmnopqrstuvwxyz0123456789" : Str) = letS := rfl
  have ha' : ("abcdefghijklmnopqrstuvwxyz" : Str) = azS := rfl
  rw [hs', ha']
  cases l with
  | nil => simp [len_mk, isNm]
  | cons c r =>
    have hs : r.length + 1 ≤ sizeLine := by rw [PySem.sizeLine_eq]; rw [List.length_cons] at h; omega
    have hc : compL (fElt noT fun char_1 => bD (D.mem char_1 (.str letS))) (D.str (mk [c]) :: r.map fun c => D.str (mk [c])) = .ok (D.bl (decide (c ∈ lets)) :: r.map fun c => D.bl (decide (c ∈ lets))) := compL_mapA (l := c :: r) (k := fun c => D.str (mk [c])) (g := fun c => D.bl (decide (c ∈ lets))) (by omega) fun a _ => by
      simp [mem_char', lets]
    have ha : D.all (.lst (D.bl (decide (c ∈ lets)) :: r.map fun c => D.bl (decide (c ∈ lets)))) = .ok (.bl ((c :: r).all fun c => decide (c ∈ lets))) := all_map (c :: r)
    have hi : D.ix (.str (mk (c :: r))) (.int 0) = .ok (.str (mk [c])) := ix_str (n := 0) (by rw [len_mk]; omega) rfl rfl
    have hi2 : D.items (.str (mk (c :: r))) = .ok ((c :: r).map fun c => D.str (mk [c])) := items_mk _
    have h1 : ¬ ((r.length : Int) + 1 < 1) := by omega
    have hx : (12 < (r.length : Int) + 1) ↔ ¬ r.length < 12 := by omega
    have nm : D.nmem (.str (mk [c])) (.str azS) = .ok (!decide (c ∈ az)) := rfl
    by_cases h12 : r.length < 12
    · by_cases hd : c ∈ az
      · obtain ⟨d1, d2⟩ := az_iff.mp hd
        simp -implicitDefEqProofs [len_mk, hs, h1, hx, h12, hi, nm, hd, isNm, d2, hi2, hc, ha]
      · have e : (!decide (c ∈ digs) && (c :: r).all fun c => decide (c ∈ lets)) = false := by
          by_cases z : c ∈ digs
          · simp [z]
          · have : c ∉ lets := fun w => hd (az_iff.mpr ⟨w, z⟩)
            simp [this]
        simp -implicitDefEqProofs only [isNm, e, Bool.and_false]
        simp -implicitDefEqProofs [len_mk, hs, h1, hx, h12, hi, nm, hd]
    · simp -implicitDefEqProofs [len_mk, hs, h1, hx, h12, isNm]
theorem lnumber_eq : m_law_is_number [.str (mk l)] = .ok (.bl (isNo l)) := by
  rw [e_law_is_number]
  unfold g_law_is_number
  cases l with
  | nil => simp [len_mk, isNo]
  | cons c r =>
    have hs : r.length + 1 ≤ sizeLine := by rw [PySem.sizeLine_eq]; rw [List.length_cons] at h; omega
    have hc : compL (fElt noT fun char_1 => bD (D.mem char_1 (.str "0123456789"))) (D.str (mk [c]) :: r.map fun c => D.str (mk [c])) = .ok (D.bl (decide (c ∈ digs)) :: r.map fun c => D.bl (decide (c ∈ digs))) := compL_mapA (l := c :: r) (k := fun c => D.str (mk [c])) (g := fun c => D.bl (decide (c ∈ digs))) (by omega) fun a _ => by
      simp [mem_char', digs]
    have ha : D.all (.lst (D.bl (decide (c ∈ digs)) :: r.map fun c => D.bl (decide (c ∈ digs)))) = .ok (.bl ((c :: r).all fun c => decide (c ∈ digs))) := all_map (c :: r)
    have hi : D.ix (.str (mk (c :: r))) (.int 0) = .ok (.str (mk [c])) := ix_str (n := 0) (by rw [len_mk]; omega) rfl rfl
    have hi2 : D.items (.str (mk (c :: r))) = .ok ((c :: r).map fun c => D.str (mk [c])) := items_mk _
    have h1 : ¬ ((r.length : Int) + 1 < 1) := by omega
    have hx : (6 < (r.length : Int) + 1) ↔ ¬ r.length < 6 := by omega
    have hy : (1 < (r.length : Int) + 1) ↔ r ≠ [] := by
      cases r with
      | nil => simp
      | cons a r => simp; omega
    have q1 : D.eq (.str (mk [c])) (.str "0") = .ok (decide (c = 48)) := by
      rw [eq_ss]
      have e0 : ("0" : Str) = mk [48] := rfl
      congr 1
      refine decide_eq_decide.mpr ?_
      rw [e0, mk_inj]
      simp
    by_cases h6 : r.length < 6
    · by_cases z : r = []
      · subst z
        simp -implicitDefEqProofs [len_mk, hi2, hc, ha, isNo] at *
        simp -implicitDefEqProofs [len_mk, hi2, hc, ha, isNo, show (1 : Nat) ≤ sizeLine by decide]
      · by_cases w : c = 48
        · subst w
          rw [decide_eq_true rfl] at q1
          simp -implicitDefEqProofs [len_mk, hs, h1, hx, h6, hy, z, isNo]
          rw [hi]
          simp -implicitDefEqProofs only [okb, q1, if_true]
        · simp -implicitDefEqProofs [len_mk, hs, h1, hx, h6, hy, z, hi, q1, w, isNo, hi2, hc, ha]
    · simp -implicitDefEqProofs [len_mk, hs, h1, hx, h6, isNo]
end
def wd (l : List Nat) : D := .str (mk l)
structure WOk (l : List Nat) : Prop where
  ne : l ≠ []
  sp : 32 ∉ l
  le : l.length ≤ 20
theorem wd_tl (x : Str) : D.str x = wd (tl x) := by
  unfold wd
  rw [mk_tl]
def sortD (b : Bool) : D := .str (if b = true then "name" else "number")
def fitB (b : Bool) (l : List Nat) : Bool := if b = true then isNm l else isNo l
def fitsB : List (List Nat) → List Bool → Bool
  | [], [] => true
  | x :: xs, b :: bs => fitB b x && fitsB xs bs
  | _, _ => false
theorem fitsB_len : ∀ {ws : List (List Nat)} {fs : List Bool}, ws.length ≠ fs.length → fitsB ws fs = false
  | [], [], h => absurd rfl h
  | [], _ :: _, _ => rfl
  | _ :: _, [], _ => rfl
  | x :: xs, b :: bs, h => by
    show (fitB b x && fitsB xs bs) = false
    rw [fitsB_len (fun e => h (by rw [List.length_cons, List.length_cons, e])), Bool.and_false]
theorem hf_turn {b : Bool} {l : List Nat} (h : l.length ≤ 1000) : on2 (m_has_form_l1 ()) (.tup [wd l, sortD b]) = .ok (if fitB b l = true then .go () else .rt (.bl false)) := by
  show m_has_form_l1 () (wd l) (sortD b) = _
  have nm : m_is_name [wd l] = .ok (.bl (isNm l)) := is_name_eq l (by omega)
  have no : m_is_number [wd l] = .ok (.bl (isNo l)) := is_number_eq h
  unfold m_has_form_l1
  cases b with
  | true =>
    have e : D.eq (sortD true) (.str "name") = .ok true := rfl
    simp -implicitDefEqProofs only [B1, B2, A0, A1, mIf, mNot, okb, e, if_true, nm, tru_b, fitB]
    cases isNm l <;> rfl
  | false =>
    have e : D.eq (sortD false) (.str "name") = .ok false := rfl
    simp -implicitDefEqProofs only [B1, B2, A0, A1, mIf, mNot, okb, e, Bool.false_eq_true, if_false, no, tru_b, fitB]
    cases isNo l <;> rfl
theorem hf_loop : ∀ {ws : List (List Nat)} {fs : List Bool}, (∀ l ∈ ws, l.length ≤ 1000) → ws.length = fs.length → loopR (fun s => on2 (m_has_form_l1 s)) (zipL (ws.map wd) (fs.map sortD)) () = .ok (if fitsB ws fs = true then .inl () else .inr (.bl false))
  | [], [], _, _ => rfl
  | [], _ :: _, _, h => by cases h
  | _ :: _, [], _, h => by cases h
  | x :: xs, b :: bs, hw, h => by
    have t := hf_turn (b := b) (hw x (List.mem_cons_self ..))
    have h : xs.length = bs.length := Nat.succ.inj h
    show loopR (fun s => on2 (m_has_form_l1 s)) (.tup [wd x, sortD b] :: zipL (xs.map wd) (bs.map sortD)) () = .ok (if (fitB b x && fitsB xs bs) = true then .inl () else .inr (.bl false))
    cases e : fitB b x with
    | true =>
      rw [e] at t
      rw [loopR_go t, Bool.true_and]
      exact hf_loop (fun l hl => hw l (List.mem_cons_of_mem _ hl)) h
    | false =>
      rw [e] at t
      rw [loopR_rt t, Bool.false_and]
      rfl
theorem has_form_ok {ws : List (List Nat)} {fs : List Bool} (hw : ∀ l ∈ ws, l.length ≤ 1000) (h1 : ws.length ≤ 1000) : m_has_form [.lst (ws.map wd), .tup (fs.map sortD)] = .ok (.bl (fitsB ws fs)) := by
  have l1 : D.len (.lst (ws.map wd)) = .ok (.int (ws.length : Nat)) := by rw [len_l, List.length_map]
  have l2 : D.len (.tup (fs.map sortD)) = .ok (.int (fs.length : Nat)) := by rw [len_t, List.length_map]
  have q : D.ne (.int (ws.length : Nat)) (.int (fs.length : Nat)) = .ok (!decide (ws.length = fs.length)) := by
    rw [ne_ii]
    congr 2
    exact decide_eq_decide.mpr (by omega)
  have z : D.zipM [.lst (ws.map wd), .tup (fs.map sortD)] = .ok (zipL (ws.map wd) (fs.map sortD)) := rfl
  rw [e_has_form]
  unfold g_has_form
  by_cases c : ws.length = fs.length
  · rw [decide_eq_true c] at q
    have lo := hf_loop hw c
    generalize zipL (ws.map wd) (fs.map sortD) = Z at *
    simp -implicitDefEqProofs only [B1, B2, A0, A1, mIf, okb, f1_1, l1, l2, q, Bool.not_true, Bool.false_eq_true, if_false, z, lo]
    cases fitsB ws fs <;> rfl
  · rw [decide_eq_false c] at q
    rw [fitsB_len c]
    simp -implicitDefEqProofs only [B1, B2, A0, A1, mIf, okb, f1_1, l1, l2, q, Bool.not_false, if_true]
def formOf (x : Str) : Option (List Bool) :=
  if x = "map" then some [true] else if x = "set" then some [true, true, false] else if x = "back" then some [true, true, false] else if x = "print" then some [true, false]
  else if x = "journal" then some [true] else if x = "version" then some [true] else if x = "route" then some [true, false, true, true, true, false] else none
def cmdB (x : Str) (ws : List (List Nat)) : Bool := match formOf x with
  | some fs => fitsB ws fs
  | none => decide (x = "maps") && decide (ws = [])
theorem is_command_ok {x : Str} {ws : List (List Nat)} (hx : (tl x).length ≤ 1000) (hw : ∀ l ∈ ws, l.length ≤ 1000) (h1 : ws.length ≤ 900) : m_is_command [.lst ((tl x :: ws).map wd)] = .ok (.bl (cmdB x ws)) := by
  have i0 : D.ix (.lst ((tl x :: ws).map wd)) (.int 0) = .ok (.str x) := ix_nat (n := 0) (by
    show some (wd (tl x)) = some (.str x)
    rw [wd_tl x]) rfl
  have s1 : D.sl (.lst ((tl x :: ws).map wd)) (some 1) none = .ok (.lst (ws.map wd)) := by
    rw [sl_l, cut_drop _ (by omega)]
    rfl
  have hf := fun fs => has_form_ok (fs := fs) hw (by omega)
  have key : ∀ fs : List Bool, D.inTab tl_FORMS (.str x) = .ok true → D.ixTab tl_FORMS (.str x) = .ok (.tup (fs.map sortD)) → m_is_command [.lst ((tl x :: ws).map wd)] = .ok (.bl (fitsB ws fs)) := fun fs a b => by
    have c := hf fs
    rw [e_is_command]
    unfold g_is_command
    generalize D.lst ((tl x :: ws).map wd) = W at *
    generalize D.lst (ws.map wd) = V at *
    simp -implicitDefEqProofs only [B1, B2, A0, A1, S3, oN, mIf, okb, i0, a, if_true, bnd_i, s1, b, c]
  by_cases c1 : x = "map"
  · subst c1; exact key [true] rfl rfl
  by_cases c2 : x = "set"
  · subst c2; exact key [true, true, false] rfl rfl
  by_cases c3 : x = "back"
  · subst c3; exact key [true, true, false] rfl rfl
  by_cases c4 : x = "print"
  · subst c4; exact key [true, false] rfl rfl
  by_cases c5 : x = "journal"
  · subst c5; exact key [true] rfl rfl
  by_cases c6 : x = "version"
  · subst c6; exact key [true] rfl rfl
  by_cases c7 : x = "route"
  · subst c7; exact key [true, false, true, true, true, false] rfl rfl
  have fo : formOf x = none := by
    unfold formOf
    rw [if_neg c1, if_neg c2, if_neg c3, if_neg c4, if_neg c5, if_neg c6, if_neg c7]
  have a : D.inTab tl_FORMS (.str x) = .ok false := by
    have n : ∀ s : Str, x ≠ s → decide (s = x) = false := fun s h => decide_eq_false fun e => h e.symm
    show (.ok (decide (("map" : Str) = x) || (decide (("set" : Str) = x) || (decide (("back" : Str) = x) || (decide (("print" : Str) = x) || (decide (("journal" : Str) = x) || (decide (("version" : Str) = x) || (decide (("route" : Str) = x) || false))))))) : M Bool) = .ok false
    rw [n _ c1, n _ c2, n _ c3, n _ c4, n _ c5, n _ c6, n _ c7]
    rfl
  have mk1 : D.mkLst [.str "maps"] = .ok (.lst ([("maps" : Str)].map D.str)) := rfl
  have el : (tl x :: ws).map wd = (x :: ws.map mk).map D.str := by
    rw [List.map_cons, List.map_cons, List.map_map, wd_tl x]
    rfl
  have q : D.eq (.lst ((x :: ws.map mk).map D.str)) (.lst ([("maps" : Str)].map D.str)) = .ok (decide (x :: ws.map mk = [("maps" : Str)])) := ((en_lst (n := 0) en_str).le (m := 15) (by omega)).eq _ _
  have e : decide (x :: ws.map mk = [("maps" : Str)]) = (decide (x = "maps") && decide (ws = [])) := by
    rw [← Bool.decide_and]
    refine decide_eq_decide.mpr ?_
    cases ws with
    | nil => simp
    | cons a r => simp
  rw [el] at i0 ⊢
  unfold cmdB
  rw [fo, e_is_command]
  unfold g_is_command
  rw [e] at q
  generalize D.lst ((x :: ws.map mk).map D.str) = W at *
  simp -implicitDefEqProofs only [B1, B2, C2, A0, A1, mIf, okb, i0, a, Bool.false_eq_true, if_false, mk1, q, bD_ok]
end LawMath

set_option Elab.async false
set_option linter.all false
set_option maxRecDepth 100000
set_option maxHeartbeats 4000000
namespace LawMath
open PySem DL LawWalk L2
theorem rangeL_hd (lo : Int) (n : Nat) : rangeL lo (n + 1) = .int lo :: rangeL (lo + 1) n := by
  unfold rangeL
  rw [List.range_succ_eq_map, List.map_cons, List.map_map]
  congr 1
  · simp
  · refine List.map_congr_left fun k _ => ?_
    show D.int (lo + ((k + 1 : Nat) : Int)) = D.int (lo + 1 + (k : Nat))
    congr 1
    omega
def chB (b : Bool) : Nat := if b = true then 110 else 100
def formL (x : Str) : Option (List Bool) := if x = "maps" then some [] else formOf x
def fmD : Option (List Bool) → D
  | some fs => .str (mk (fs.map chB))
  | none => .non
theorem lform_ok (x : Str) : m_law_form [.str x] = .ok (fmD (formL x)) := by
  by_cases c1 : x = "map"
  · subst c1; rfl
  by_cases c2 : x = "set"
  · subst c2; rfl
  by_cases c3 : x = "back"
  · subst c3; rfl
  by_cases c4 : x = "print"
  · subst c4; rfl
  by_cases c5 : x = "journal"
  · subst c5; rfl
  by_cases c6 : x = "version"
  · subst c6; rfl
  by_cases c7 : x = "route"
  · subst c7; rfl
  by_cases c8 : x = "maps"
  · subst c8; rfl
  have fo : formL x = none := by
    unfold formL formOf
    rw [if_neg c8, if_neg c1, if_neg c2, if_neg c3, if_neg c4, if_neg c5, if_neg c6, if_neg c7]
  have mk1 : D.mkTup [.str "map", .str "set", .str "back", .str "print", .str "journal", .str "version", .str "route", .str "maps"] = .ok (.tup ([("map" : Str), "set", "back", "print", "journal", "version", "route", "maps"].map D.str)) := rfl
  have mk2 : D.mkTup [.str "n", .str "nnd", .str "nnd", .str "nd", .str "n", .str "n", .str "ndnnnd", .str ""] = .ok (.tup [.str "n", .str "nnd", .str "nnd", .str "nd", .str "n", .str "n", .str "ndnnnd", .str ""]) := rfl
  have m : D.mem (.str x) (.tup ([("map" : Str), "set", "back", "print", "journal", "version", "route", "maps"].map D.str)) = .ok false := by
    have h := (en_str (n := 15)).memT x [("map" : Str), "set", "back", "print", "journal", "version", "route", "maps"]
    rw [h, decide_eq_false]
    simp only [List.mem_cons, List.not_mem_nil, or_false]
    rintro (h | h | h | h | h | h | h | h)
    · exact c1 h
    · exact c2 h
    · exact c3 h
    · exact c4 h
    · exact c5 h
    · exact c6 h
    · exact c7 h
    · exact c8 h
  rw [e_law_form, fo]
  unfold g_law_form
  generalize [("map" : Str), "set", "back", "print", "journal", "version", "route", "maps"].map D.str = NL at *
  simp -implicitDefEqProofs only [B2, A0, A1, B1, mIf, okb, mk1, mk2, m, Bool.false_eq_true, if_false]
  rfl
theorem lc_loop {x : Str} : ∀ (suf pre : List Bool) (sw pw : List (List Nat)), pre.length = pw.length → suf.length = sw.length → (∀ l ∈ sw, l.length ≤ 1000) → pre.length + suf.length ≤ 1000 →
    loopR (m_law_command_l1 (.lst ((tl x :: (pw ++ sw)).map wd)) (.str (mk ((pre ++ suf).map chB)))) (rangeL (pre.length : Nat) suf.length) () = .ok (if fitsB sw suf = true then .inl () else .inr (.bl false))
  | [], pre, [], pw, _, _, _, _ => rfl
  | [], _, _ :: _, _, _, h, _, _ => by cases h
  | _ :: _, _, [], _, _, h, _, _ => by cases h
  | b :: suf, pre, l :: sw, pw, hp, hs, hw, hl => by
    have hll := hw l (List.mem_cons_self ..)
    have hs : suf.length = sw.length := Nat.succ.inj hs
    rw [List.length_cons] at hl
    have i1 : D.ix (.str (mk ((pre ++ b :: suf).map chB))) (.int (pre.length : Nat)) = .ok (.str (mk [chB b])) := ix_str (n := pre.length) (by rw [len_mk, List.length_map, List.length_append, List.length_cons]; omega) (by
      rw [tl_mk, List.getElem?_map, List.getElem?_append_right (Nat.le_refl _), Nat.sub_self]
      rfl) rfl
    have i2 : D.ix (.lst ((tl x :: (pw ++ l :: sw)).map wd)) (.int (1 + (pre.length : Nat))) = .ok (wd l) := ix_nat (n := pre.length + 1) (by
      rw [hp, List.map_cons, List.getElem?_cons_succ, List.getElem?_map, List.getElem?_append_right (Nat.le_refl _), Nat.sub_self]
      rfl) (by omega)
    have nm : m_law_is_name [wd l] = .ok (.bl (isNm l)) := lname_eq hll
    have no : m_law_is_number [wd l] = .ok (.bl (isNo l)) := lnumber_eq hll
    have t : m_law_command_l1 (.lst ((tl x :: (pw ++ l :: sw)).map wd)) (.str (mk ((pre ++ b :: suf).map chB))) () (.int (pre.length : Nat)) = .ok (if fitB b l = true then .go () else .rt (.bl false)) := by
      unfold m_law_command_l1
      generalize D.lst ((tl x :: (pw ++ l :: sw)).map wd) = W at *
      generalize (D.str (mk ((pre ++ b :: suf).map chB))) = F at *
      cases b with
      | true =>
        have e1 : D.eq (.str (mk [chB true])) (.str "n") = .ok true := rfl
        have e2 : D.eq (.str (mk [chB true])) (.str "d") = .ok false := rfl
        cases hn : isNm l with
        | true =>
          rw [hn] at nm
          simp -implicitDefEqProofs only [B1, B2, A0, A1, mIf, mAnd, mNot, okb, i1, e1, e2, if_true, add_ii, i2, nm, tru_b, Bool.not_true, Bool.false_eq_true, if_false, fitB, hn]
        | false =>
          rw [hn] at nm
          simp -implicitDefEqProofs only [B1, B2, A0, A1, mIf, mAnd, mNot, okb, i1, e1, e2, if_true, add_ii, i2, nm, tru_b, Bool.not_false, Bool.false_eq_true, if_false, fitB, hn]
      | false =>
        have e1 : D.eq (.str (mk [chB false])) (.str "n") = .ok false := rfl
        have e2 : D.eq (.str (mk [chB false])) (.str "d") = .ok true := rfl
        cases hn : isNo l with
        | true =>
          rw [hn] at no
          simp -implicitDefEqProofs only [B1, B2, A0, A1, mIf, mAnd, mNot, okb, i1, e1, e2, if_true, add_ii, i2, no, tru_b, Bool.not_true, Bool.false_eq_true, if_false, fitB, hn]
        | false =>
          rw [hn] at no
          simp -implicitDefEqProofs only [B1, B2, A0, A1, mIf, mAnd, mNot, okb, i1, e1, e2, if_true, add_ii, i2, no, tru_b, Bool.not_false, Bool.false_eq_true, if_false, fitB, hn]
    rw [List.length_cons, rangeL_hd]
    show _ = (Except.ok (if (fitB b l && fitsB sw suf) = true then Sum.inl () else Sum.inr (D.bl false)) : M (Unit ⊕ D))
    cases e : fitB b l with
    | false =>
      rw [e] at t
      rw [loopR_rt t, Bool.false_and]
      rfl
    | true =>
      rw [e] at t
      rw [loopR_go t, Bool.true_and]
      have ih := lc_loop (x := x) suf (pre ++ [b]) sw (pw ++ [l]) (by rw [List.length_append, List.length_append, hp]; rfl) hs (fun z hz => hw z (List.mem_cons_of_mem _ hz)) (by rw [List.length_append, List.length_singleton]; omega)
      rw [List.append_assoc, List.append_assoc, List.length_append] at ih
      exact ih
theorem lcommand_ok {x : Str} {ws : List (List Nat)} (hw : ∀ l ∈ ws, l.length ≤ 1000) (h1 : ws.length ≤ 900) : m_law_command [.lst ((tl x :: ws).map wd)] = .ok (.bl (cmdB x ws)) := by
  have i0 : D.ix (.lst ((tl x :: ws).map wd)) (.int 0) = .ok (.str x) := ix_nat (n := 0) (by
    show some (wd (tl x)) = some (.str x)
    rw [wd_tl x]) rfl
  have lf := lform_ok x
  have ln : D.len (.lst ((tl x :: ws).map wd)) = .ok (.int ((ws.length : Nat) + 1)) := by
    rw [len_l, List.length_map, List.length_cons]
    rfl
  have key : ∀ fs : List Bool, fs.length ≤ 100 → formL x = some fs → m_law_command [.lst ((tl x :: ws).map wd)] = .ok (.bl (fitsB ws fs)) := fun fs hf e => by
    rw [e] at lf
    have lf : m_law_form [.str x] = .ok (.str (mk (fs.map chB))) := lf
    have n0 : D.isN (.str (mk (fs.map chB))) .non = .ok false := rfl
    have l1 : D.len (.str (mk (fs.map chB))) = .ok (.int (fs.length : Nat)) := by
      rw [len_s, len_mk, List.length_map, need_p (by rw [PySem.sizeLine_eq]; omega)]
      rfl
    have q : D.ne (.int (fs.length : Nat)) (.int ((ws.length : Nat) + 1 - 1)) = .ok (!decide (fs.length = ws.length)) := by
      rw [ne_ii]
      congr 2
      exact decide_eq_decide.mpr (by omega)
    rw [e_law_command]
    unfold g_law_command
    by_cases c : fs.length = ws.length
    · have rg : D.range1 [.int (fs.length : Nat)] = .ok (rangeL 0 fs.length) := by
        rw [range1_i, small_of (by omega) (by omega)]
        rfl
      have lo := lc_loop (x := x) fs [] ws [] rfl c hw (by simp; omega)
      have lo : loopR (m_law_command_l1 (.lst ((tl x :: ws).map wd)) (.str (mk (fs.map chB)))) (rangeL 0 fs.length) () = .ok (if fitsB ws fs = true then .inl () else .inr (.bl false)) := lo
      rw [decide_eq_true c] at q
      generalize D.lst ((tl x :: ws).map wd) = W at *
      generalize D.str (mk (fs.map chB)) = F at *
      simp -implicitDefEqProofs only [B1, B2, A0, A1, mIf, mOr, okb, i0, lf, n0, Bool.false_eq_true, if_false, f1_1, l1, ln, sub_ii, q, Bool.not_true, rg, lo]
      cases fitsB ws fs <;> rfl
    · rw [decide_eq_false c] at q
      rw [fitsB_len (fun e => c e.symm)]
      generalize D.lst ((tl x :: ws).map wd) = W at *
      generalize D.str (mk (fs.map chB)) = F at *
      simp -implicitDefEqProofs only [B1, B2, A0, A1, mIf, mOr, okb, i0, lf, n0, Bool.false_eq_true, if_false, f1_1, l1, ln, sub_ii, q, Bool.not_false, if_true]
  unfold cmdB
  by_cases c8 : x = "maps"
  · have e : formL x = some [] := if_pos c8
    have e2 : formOf x = none := by rw [c8]; rfl
    rw [e2, key [] (by simp) e]
    show _ = (Except.ok (D.bl (decide (x = "maps") && decide (ws = []))) : M D)
    rw [decide_eq_true c8, Bool.true_and]
    cases ws <;> rfl
  · have e : formL x = formOf x := if_neg c8
    cases fo : formOf x with
    | some fs =>
      have hl : fs.length ≤ 100 := by
        unfold formOf at fo
        repeat (first | (split at fo; · cases fo; decide) | cases fo)
      exact key fs hl (e.trans fo)
    | none =>
      show _ = (Except.ok (D.bl (decide (x = "maps") && decide (ws = []))) : M D)
      rw [decide_eq_false c8, Bool.false_and]
      rw [e, fo] at lf
      have lf : m_law_form [.str x] = .ok .non := lf
      have n0 : D.isN .non .non = .ok true := rfl
      rw [e_law_command]
      unfold g_law_command
      generalize D.lst ((tl x :: ws).map wd) = W at *
      simp -implicitDefEqProofs only [B1, B2, A0, A1, mIf, mOr, okb, i0, lf, n0, if_true]
end LawMath

set_option Elab.async false
set_option linter.all false
set_option maxRecDepth 100000
set_option maxHeartbeats 4000000
namespace LawMath
open PySem DL LawWalk L2
theorem tl_spc : tl " " = [32] := by decide +kernel
theorem joinL_one (S p : List Nat) : TL.joinL S [p] = p := rfl
theorem joinL_two (S p q : List Nat) (l : List (List Nat)) : TL.joinL S (p :: q :: l) = p ++ (S ++ TL.joinL S (q :: l)) := rfl
theorem joinL_snoc {S : List Nat} : ∀ {ps : List (List Nat)} (p : List Nat), ps ≠ [] → TL.joinL S (ps ++ [p]) = TL.joinL S ps ++ (S ++ p)
  | [], _, h => absurd rfl h
  | [q], p, _ => rfl
  | q :: r :: l, p, _ => by
    have ih := joinL_snoc (S := S) (ps := r :: l) p (List.cons_ne_nil _ _)
    have ih : TL.joinL S (r :: (l ++ [p])) = TL.joinL S (r :: l) ++ (S ++ p) := ih
    show TL.joinL S (q :: r :: (l ++ [p])) = TL.joinL S (q :: r :: l) ++ (S ++ p)
    rw [joinL_two, joinL_two, ih, List.append_assoc, List.append_assoc]
theorem joinL_last {S : List Nat} (qs : List (List Nat)) (l w : List Nat) : TL.joinL S (qs ++ [l]) ++ w = TL.joinL S (qs ++ [l ++ w]) := by
  cases qs with
  | nil => rfl
  | cons q qs => rw [joinL_snoc _ (List.cons_ne_nil _ _), joinL_snoc _ (List.cons_ne_nil _ _), List.append_assoc, List.append_assoc]
theorem joinL_spc : ∀ (n : Nat) {ps : List (List Nat)}, ps ≠ [] → TL.joinL [32] ps ++ List.replicate n 32 = TL.joinL [32] (ps ++ List.replicate n [])
  | 0, ps, _ => by rw [List.replicate_zero, List.replicate_zero, List.append_nil, List.append_nil]
  | n + 1, ps, h => by
    rw [List.replicate_succ', List.replicate_succ', ← List.append_assoc, joinL_spc n h, ← List.append_assoc, joinL_snoc _ (by simp [h]), List.append_nil]
theorem rep_spc (n : Nat) : repS " " n = mk (List.replicate n 32) := by
  apply TL.ext_tl
  show (repS " " n).cps.toList = _
  rw [repS_tl]
  have e : (" " : Str).cps.toList = [32] := tl_spc
  rw [e]
  show _ = tl (mk (List.replicate n 32))
  rw [tl_mk]
  induction n with
  | zero => rfl
  | succ n ih => rw [List.replicate_succ, List.replicate_succ, List.flatten_cons, ih]; rfl
theorem spaces_ok {n : Int} (h0 : 0 ≤ n) (h1 : n ≤ 100) : D.mulS (.str " ") (.int n) = .ok (.str (mk (List.replicate n.toNat 32))) := by
  have l1 : (" " : Str).length = 1 := by decide +kernel
  rw [mulS_s (by rw [l1]; decide) h0 (by omega) (by rw [l1, PySem.sizeLine_eq]; omega), rep_spc]
def wrds (ps : List (List Nat)) : List (List Nat) := ps.filter fun p => !decide (p = [])
theorem split_ok2 {ps : List (List Nat)} (h0 : ps ≠ []) (h : ∀ p ∈ ps, 32 ∉ p) (hl : (TL.joinL [32] ps).length ≤ 100000) : m_split_words [.str (mk (TL.joinL [32] ps))] = .ok (.lst ((wrds ps).map wd)) := by
  have et : mk (TL.joinL [32] ps) = Str.join " " (ps.map mk) := by
    apply TL.ext_tl
    rw [TL.tl_join]
    show tl (mk _) = TL.joinL (tl " ") _
    rw [tl_mk, tl_spc, List.map_map]
    have : ps.map (TL.tl ∘ mk) = ps := by
      have : ∀ p ∈ ps, (TL.tl ∘ mk) p = id p := fun p _ => tl_mk p
      rw [List.map_congr_left this, List.map_id]
    rw [this]
  have sp : Txt.split (mk (TL.joinL [32] ps)) " " = ps.map mk := by
    rw [et, ← TL.join_eq]
    refine TL.split_join (s := 32) (S := []) tl_spc (by decide +kernel) (by simpa using h0) fun p hp => ?_
    obtain ⟨q, hq, rfl⟩ := List.mem_map.mp hp
    rw [show TL.tl (mk q) = q from tl_mk q]
    exact h q hq
  have l1 : (" " : Str).length = 1 := by decide +kernel
  have pl : ps.length ≤ 100001 := by
    have : ∀ {l : List (List Nat)}, l.length ≤ (TL.joinL [32] l).length + 1 := fun {l} => by
      induction l with
      | nil => exact Nat.zero_le _
      | cons a l ih => cases l with
        | nil => simp
        | cons b l =>
          rw [joinL_two, List.length_append, List.length_append, List.length_cons, List.length_singleton]
          omega
    have := this (l := ps)
    omega
  have so : (meth D.isStr (.ok (.str (mk (TL.joinL [32] ps)))) (.ok [.str " "]) (m1 D.split) : M D) = .ok (.lst (ps.map wd)) := by
    have := split_ok (x := mk (TL.joinL [32] ps)) (y := " ") (by rw [l1]; decide) (by rw [len_mk]; omega)
    rw [sp, List.map_map] at this
    exact this
  have cp : compL (fElt (fun word_1 => (B2 D.ne (.ok word_1) (.ok (.str "")))) (fun word_1 => (.ok word_1))) (ps.map wd) = .ok ((wrds ps).map wd) := compL_filterA (by omega) (fun p _ => by
    have : D.ne (wd p) (.str "") = .ok (!decide (p = [])) := by
      unfold wd
      rw [ne_ss]
      congr 2
      have e0 : ("" : Str) = mk [] := rfl
      rw [e0]
      exact decide_eq_decide.mpr mk_inj
    simp -implicitDefEqProofs only [B2, okb, this]) fun p _ _ => rfl
  rw [e_split_words]
  unfold g_split_words
  generalize ps.map wd = PW at *
  generalize (wrds ps).map wd = WW at *
  simp -implicitDefEqProofs only [B1, B2, A0, A1, L1, okb] at cp ⊢
  rw [so]
  simp -implicitDefEqProofs only [okb, items_l]
  rw [cp]
  rfl
theorem wrds_app (a b : List (List Nat)) : wrds (a ++ b) = wrds a ++ wrds b := List.filter_append ..
theorem wrds_nil (n : Nat) : wrds (List.replicate n []) = [] := by
  unfold wrds
  rw [List.filter_eq_nil_iff]
  intro a ha
  rw [(List.mem_replicate.mp ha).2]
  decide
theorem wrds_one {w : List Nat} (h : w ≠ []) : wrds [w] = [w] := by
  unfold wrds
  rw [List.filter_cons, decide_eq_false h]
  rfl
theorem add_mk {a b : List Nat} (h : a.length + b.length ≤ 1000000) : D.add (.str (mk a)) (.str (mk b)) = .ok (.str (mk (a ++ b))) := by
  rw [add_ss, len_mk, len_mk, need_p (by rw [PySem.sizeLine_eq]; omega), okb, mk_app]
def NoSp (ps : List (List Nat)) : Prop := ∀ p ∈ ps, 32 ∉ p
theorem noSp_app {a b : List (List Nat)} (ha : NoSp a) (hb : NoSp b) : NoSp (a ++ b) := fun p hp => by
  rcases List.mem_append.mp hp with h | h
  · exact ha p h
  · exact hb p h
theorem noSp_rep (n : Nat) : NoSp (List.replicate n []) := fun p hp => by
  rw [(List.mem_replicate.mp hp).2]
  exact List.not_mem_nil
theorem noSp_one {w : List Nat} (h : 32 ∉ w) : NoSp [w] := fun p hp => by
  rw [List.mem_singleton.mp hp]
  exact h
section
variable {ns : List Int} (hs : Sm ns) (hn : 60 ≤ ns.length)
include hs hn
theorem text_loop : ∀ (suf pre qs : List (List Nat)), suf ≠ [] → (∀ w ∈ suf, WOk w) → pre.length + suf.length ≤ 100 → wrds qs = pre → NoSp qs → (TL.joinL [32] (qs ++ [[]])).length ≤ 30 * (pre.length + 1) →
    ∃ ps : List (List Nat), ps ≠ [] ∧ wrds ps = pre ++ suf ∧ NoSp ps ∧ (TL.joinL [32] ps).length ≤ 30 * (pre.length + suf.length + 1) ∧
      loopF (m_law_l1 (.lst (nums ns)) (.lst ((pre ++ suf).map wd))) (rangeL (pre.length : Nat) suf.length) (.str (mk (TL.joinL [32] (qs ++ [[]])))) = .ok (.str (mk (TL.joinL [32] ps)))
  | [], _, _, h, _, _, _, _, _ => absurd rfl h
  | w :: suf, pre, qs, _, hw, hl, hq, hsp, ht => by
    have W := hw w (List.mem_cons_self ..)
    have wl := W.le
    rw [List.length_cons] at hl
    have ix : D.ix (.lst ((pre ++ w :: suf).map wd)) (.int (pre.length : Nat)) = .ok (.str (mk w)) := ix_nat (n := pre.length) (by
      rw [List.getElem?_map, List.getElem?_append_right (Nat.le_refl _), Nat.sub_self]
      rfl) rfl
    have ad : D.add (.str (mk (TL.joinL [32] (qs ++ [[]])))) (.str (mk w)) = .ok (.str (mk (TL.joinL [32] (qs ++ [w])))) := by
      rw [add_mk (by omega), joinL_last]
      rfl
    have l2 : (TL.joinL [32] (qs ++ [w])).length ≤ 30 * (pre.length + 1) + 20 := by
      have e := joinL_last (S := [32]) qs [] w
      rw [List.nil_append] at e
      rw [← e, List.length_append]
      omega
    have ln : D.len (.lst ((pre ++ w :: suf).map wd)) = .ok (.int ((pre.length + (suf.length + 1) : Nat) : Int)) := by
      rw [len_l, List.length_map, List.length_append, List.length_cons]
    have lt' : D.lt (.int ((pre.length : Nat) + 1)) (.int ((pre.length + (suf.length + 1) : Nat) : Int)) = .ok (decide (suf ≠ [])) := by
      rw [lt_ii]
      congr 1
      refine decide_eq_decide.mpr ?_
      cases suf with
      | nil => simp
      | cons a r => simp; omega
    have np : NoSp (qs ++ [w]) := noSp_app hsp (noSp_one W.sp)
    have wq : wrds (qs ++ [w]) = pre ++ [w] := by rw [wrds_app, hq, wrds_one W.ne]
    by_cases c : suf = []
    · subst c
      refine ⟨qs ++ [w], by simp, wq, np, by rw [List.length_singleton]; omega, ?_⟩
      have st : m_law_l1 (.lst (nums ns)) (.lst ((pre ++ [w]).map wd)) (.str (mk (TL.joinL [32] (qs ++ [[]])))) (.int (pre.length : Nat)) = .ok (.str (mk (TL.joinL [32] (qs ++ [w])))) := by
        have e0 : decide (([] : List (List Nat)) ≠ []) = false := rfl
        rw [e0] at lt'
        unfold m_law_l1
        generalize D.lst ((pre ++ [w]).map wd) = WW at *
        simp -implicitDefEqProofs only [B1, B2, A0, A1, mIf, okb, ix, ad, add_ii, f1_1, ln, lt', Bool.false_eq_true, if_false]
      have e1 : rangeL (pre.length : Nat) [w].length = [.int (pre.length : Nat)] := by
        rw [List.length_singleton, rangeL_hd]
        rfl
      rw [e1, loopF_cons, st]
      rfl
    · rw [decide_eq_true (show suf ≠ [] from c)] at lt'
      have i46 := num_ix (ns := ns) (i := 46) (j := 46) rfl (by omega)
      have i47 := num_ix (ns := ns) (i := 47) (j := 47) rfl (by omega)
      have s46 := num_sm hs 46
      have s47 := num_sm hs 47
      have mu : D.mul (.int (pre.length : Nat)) (.int (ns.getD 47 0)) = .ok (.int ((pre.length : Nat) * ns.getD 47 0)) := mul_okl (by omega) (by omega)
      generalize hz : ns.getD 46 0 + (pre.length : Nat) * ns.getD 47 0 = z at *
      have m3 : D.mod (.int z) (.int 3) = .ok (.int (z % 3)) := mod_ok (by omega)
      obtain ⟨j, hj, ej⟩ : ∃ j : Nat, j ≤ 2 ∧ 1 + z % 3 = ((j + 1 : Nat) : Int) := ⟨(z % 3).toNat, by omega, by omega⟩
      have spk := spaces_ok (n := 1 + z % 3) (by omega) (by omega)
      rw [ej] at spk
      have tn : ((j + 1 : Nat) : Int).toNat = j + 1 := by omega
      rw [tn] at spk
      have ad2 : D.add (.str (mk (TL.joinL [32] (qs ++ [w])))) (.str (mk (List.replicate (j + 1) 32))) = .ok (.str (mk (TL.joinL [32] ((qs ++ [w] ++ List.replicate j []) ++ [[]])))) := by
        rw [add_mk (by rw [List.length_replicate]; omega), joinL_spc _ (by simp), List.replicate_succ', ← List.append_assoc]
      have st : m_law_l1 (.lst (nums ns)) (.lst ((pre ++ w :: suf).map wd)) (.str (mk (TL.joinL [32] (qs ++ [[]])))) (.int (pre.length : Nat)) = .ok (.str (mk (TL.joinL [32] ((qs ++ [w] ++ List.replicate j []) ++ [[]])))) := by
        unfold m_law_l1
        generalize D.lst ((pre ++ w :: suf).map wd) = WW at *
        generalize D.lst (nums ns) = N at *
        simp -implicitDefEqProofs only [B1, B2, A0, A1, mIf, okb, ix, ad, add_ii, f1_1, ln, lt', if_true, i46, i47, mu, hz, toInt_i, m3, ej, spk, ad2]
      obtain ⟨ps, p0, p1, p2, p3, p4⟩ := text_loop suf (pre ++ [w]) (qs ++ [w] ++ List.replicate j []) c (fun x hx => hw x (List.mem_cons_of_mem _ hx)) (by rw [List.length_append, List.length_singleton]; omega) (by rw [wrds_app, wq, wrds_nil, List.append_nil]) (noSp_app np (noSp_rep j)) (by
        have e := joinL_spc (j + 1) (ps := qs ++ [w]) (by simp)
        rw [List.replicate_succ' (a := ([] : List Nat)), ← List.append_assoc] at e
        rw [← e, List.length_append, List.length_replicate, List.length_append, List.length_singleton]
        omega)
      refine ⟨ps, p0, by rw [p1, List.append_assoc]; rfl, p2, by rw [List.length_append, List.length_singleton] at p3; rw [List.length_cons]; omega, ?_⟩
      rw [List.length_cons, rangeL_hd, loopF_cons, st, okb]
      rw [List.append_assoc, List.length_append] at p4
      exact p4
end
end LawMath

set_option Elab.async false
set_option linter.all false
set_option maxRecDepth 100000
set_option maxHeartbeats 8000000
namespace LawMath
open PySem DL LawWalk L2
def Al2 (l : List Nat) : Prop := ∀ c ∈ l, c ∈ lets ∨ c = 95
theorem sp_lets : (32 : Nat) ∉ lets := by rw [lets_eq]; decide
theorem al2_sp {l : List Nat} (h : Al2 l) : 32 ∉ l := fun m => by
  rcases h 32 m with h | h
  · exact sp_lets h
  · exact absurd h (by decide)
theorem al_al2 {l : List Nat} (h : Al l) : Al2 l := fun c hc => .inl (h c hc)
theorem al2_app {a b : List Nat} (ha : Al2 a) (hb : Al2 b) : Al2 (a ++ b) := fun c hc => by
  rcases List.mem_append.mp hc with h | h
  · exact ha c h
  · exact hb c h
theorem al2_one {c : Nat} (h : c ∈ lets ∨ c = 95) : Al2 [c] := fun x hx => by rw [List.mem_singleton.mp hx]; exact h
theorem wok_lit {l : List Nat} (h : (!l.isEmpty && (!l.contains 32 && decide (l.length ≤ 20))) = true) : WOk l := by
  obtain ⟨h1, h2⟩ := and2 h
  obtain ⟨h2, h3⟩ := and2 h2
  refine ⟨fun e => (by subst e; cases h1), fun m => ?_, of_decide_eq_true h3⟩
  have : l.contains 32 = true := List.contains_iff_mem.mpr m
  rw [this] at h2
  cases h2
theorem ixL {α : Type} {e : α → D} {l : List α} {i : Int} (h : 0 < l.length) : ∃ x ∈ l, D.ix (.lst (l.map e)) (.int (i % (l.length : Nat))) = .ok (e x) := by
  have q1 : 0 ≤ i % (l.length : Int) := Int.emod_nonneg _ (by omega)
  have q2 : i % (l.length : Int) < l.length := Int.emod_lt_of_pos _ (by omega)
  have h' : (i % (l.length : Int)).toNat < l.length := by omega
  exact ⟨l[(i % (l.length : Int)).toNat], List.getElem_mem h', ix_nat (n := (i % (l.length : Int)).toNat) (by rw [List.getElem?_map, List.getElem?_eq_getElem h']; rfl) (by omega)⟩
theorem ixT {α : Type} {e : α → D} {l : List α} {i : Int} (h : 0 < l.length) : ∃ x ∈ l, D.ix (.tup (l.map e)) (.int (i % (l.length : Nat))) = .ok (e x) := ixL h
def w13 : List (List Nat) := [tl "map", tl "set", tl "back", tl "print", tl "journal", tl "version", tl "route", tl "maps", tl "done", tl "road", tl "01", tl "+1", tl "1_0"]
theorem w13_ok : ∀ w ∈ w13, WOk w := by
  have : ∀ w ∈ w13, (!w.isEmpty && (!w.contains 32 && decide (w.length ≤ 20))) = true := by decide +kernel
  exact fun w hw => wok_lit (this w hw)
theorem word_ok {n m : Int} (hn : 0 ≤ n ∧ n < 1009) (hm : 0 ≤ m ∧ m < 1009) : ∃ l, m_law_word [.int n, .int m] = .ok (wd l) ∧ WOk l := by
  have hs' : ("abcdefghijklmnopqrstuvwxyz0123456789" : Str) = letS := rfl
  have mkw : D.mkTup [.str "map", .str "set", .str "back", .str "print", .str "journal", .str "version", .str "route", .str "maps", .str "done", .str "road", .str "01", .str "+1", .str "1_0"] = .ok (.tup (w13.map wd)) := rfl
  have m4 : D.mod (.int n) (.int 4) = .ok (.int (n % 4)) := mod_ok (by omega)
  have f4 : D.fdiv (.int n) (.int 4) = .ok (.int (n / 4)) := rfl
  have f28 : D.fdiv (.int n) (.int 28) = .ok (.int (n / 28)) := rfl
  have m13 : D.mod (.int (n / 4)) (.int 13) = .ok (.int (n / 4 % 13)) := mod_ok (by omega)
  have m7 : D.mod (.int (n / 4)) (.int 7) = .ok (.int (n / 4 % 7)) := mod_ok (by omega)
  have m36 : D.mod (.int m) (.int 36) = .ok (.int (m % 36)) := mod_ok (by omega)
  have m9 : D.mod (.int m) (.int 9) = .ok (.int (m % 9)) := mod_ok (by omega)
  have q0 : D.eq (.int (n % 4)) (.int 0) = .ok (decide (n % 4 = 0)) := eq_ii
  have q1 : D.eq (.int (n % 4)) (.int 1) = .ok (decide (n % 4 = 1)) := eq_ii
  have q9 : D.eq (.int (m % 9)) (.int 0) = .ok (decide (m % 9 = 0)) := eq_ii
  rw [e_law_word]
  unfold g_law_word
  rw [hs']
  by_cases c0 : n % 4 = 0
  · rw [decide_eq_true c0] at q0
    obtain ⟨w, hw, ew⟩ := ixT (e := wd) (l := w13) (i := n / 4) (by decide)
    have ew : D.ix (.tup (w13.map wd)) (.int (n / 4 % 13)) = .ok (wd w) := ew
    refine ⟨w, ?_, w13_ok w hw⟩
    generalize w13.map wd = WW at *
    simp -implicitDefEqProofs only [B1, B2, A0, A1, mIf, okb, mkw, f1_1, toInt_i, m4, q0, if_true, f4, m13, ew]
  rw [decide_eq_false c0] at q0
  by_cases c1 : n % 4 = 1
  · rw [decide_eq_true c1] at q1
    obtain ⟨s, hs, es⟩ : ∃ s : Nat, s ≤ 6 ∧ n / 4 % 7 = (s : Int) := ⟨(n / 4 % 7).toNat, by omega, by omega⟩
    have rg : D.range1 [.int (1 + n / 4 % 7)] = .ok (rangeL 0 (1 + s)) := by
      rw [range1_i, small_of (by omega) (by omega)]
      have : (1 + n / 4 % 7).toNat = 1 + s := by omega
      rw [this]
      rfl
    have cp := ltL_comp (f := fun k => 26 + (m + (k : Int) * (k : Int) * 3 + n / 28) % 10) (n := 1 + s) (g := fun k_1 => (B2 D.ix (.ok (.str letS)) (B2 D.add (.ok (.int 26)) (B2 D.mod (B1 (f1 D.toInt) (A1 (B2 D.add (B2 D.add (.ok (.int m)) (B2 D.mul (B2 D.mul (.ok k_1) (.ok k_1)) (.ok (.int 3)))) (B2 D.fdiv (.ok (.int n)) (.ok (.int 28)))) A0)) (.ok (.int 10)))))) (by omega) fun k hk => by
      have u1 : D.mul (.int (0 + (k : Int))) (.int (0 + (k : Int))) = .ok (.int ((0 + (k : Int)) * (0 + (k : Int)))) := mul_okl (by omega) (by omega)
      have kk : (0 + (k : Int)) * (0 + (k : Int)) = (k : Int) * (k : Int) := by rw [Int.zero_add]
      have u2 : D.mul (.int ((k : Int) * (k : Int))) (.int 3) = .ok (.int ((k : Int) * (k : Int) * 3)) := mul_okr (by omega) (by omega)
      have u3 : D.mod (.int (m + (k : Int) * (k : Int) * 3 + n / 28)) (.int 10) = .ok (.int ((m + (k : Int) * (k : Int) * 3 + n / 28) % 10)) := mod_ok (by omega)
      have u4 := let_ix (i := 26 + (m + (k : Int) * (k : Int) * 3 + n / 28) % 10) (by omega) (by omega)
      rw [kk] at u1
      simp -implicitDefEqProofs only [B1, B2, A0, A1, okb, u1, u2, add_ii, f28, f1_1, toInt_i, u3, u4]
    have jo := join1 (ltL (fun k => 26 + (m + (k : Int) * (k : Int) * 3 + n / 28) % 10) (1 + s)) (by rw [ltL_len]; omega)
    have al := ltL_al (f := fun k => 26 + (m + (k : Int) * (k : Int) * 3 + n / 28) % 10) (n := 1 + s) fun k _ => by omega
    have ll := ltL_len (fun k => 26 + (m + (k : Int) * (k : Int) * 3 + n / 28) % 10) (1 + s)
    generalize ltL (fun k => 26 + (m + (k : Int) * (k : Int) * 3 + n / 28) % 10) (1 + s) = L at *
    refine ⟨L, ?_, ⟨fun e => by rw [e] at ll; simp at ll; omega, al2_sp (al_al2 al), by omega⟩⟩
    have jm : (meth D.isStr (.ok (.str "")) (.ok [.lst ((L.map fun c => mk [c]).map D.str)]) (m1 D.join) : M D) = .ok (wd L) := jo
    generalize (L.map fun c => mk [c]).map D.str = LL at *
    generalize w13.map wd = WW at *
    simp -implicitDefEqProofs only [B1, B2, A0, A1, L1, mIf, okb, mkw, f1_1, toInt_i, m4, q0, q1, if_true, Bool.false_eq_true, if_false, f4, m7, add_ii, rg] at cp ⊢
    rw [cp]
    exact jm
  rw [decide_eq_false c1] at q1
  obtain ⟨s, hs, es⟩ : ∃ s : Nat, s ≤ 6 ∧ n / 4 % 7 = (s : Int) := ⟨(n / 4 % 7).toNat, by omega, by omega⟩
  have mu2 : D.mul (.int (n / 4 % 7)) (.int 2) = .ok (.int (n / 4 % 7 * 2)) := mul_okr (by omega) (by omega)
  have rg : D.range1 [.int (n / 4 % 7 * 2)] = .ok (rangeL 0 (s * 2)) := by
    rw [range1_i, small_of (by omega) (by omega)]
    have : (n / 4 % 7 * 2).toNat = s * 2 := by omega
    rw [this]
    rfl
  have cp := ltL_comp (f := fun k => (m + 11 * (k : Int) * n + (k : Int)) % 36) (n := s * 2) (g := fun k_2 => (B2 D.ix (.ok (.str letS)) (B2 D.mod (B1 (f1 D.toInt) (A1 (B2 D.add (B2 D.add (.ok (.int m)) (B2 D.mul (B2 D.mul (.ok (.int 11)) (.ok k_2)) (.ok (.int n)))) (.ok k_2)) A0)) (.ok (.int 36))))) (by omega) fun k hk => by
    have u1 : D.mul (.int 11) (.int (0 + (k : Int))) = .ok (.int (11 * (0 + (k : Int)))) := mul_okl (by omega) (by omega)
    have kk : (11 * (0 + (k : Int))) = 11 * (k : Int) := by rw [Int.zero_add]
    have u2 : D.mul (.int (11 * (k : Int))) (.int n) = .ok (.int (11 * (k : Int) * n)) := mul_okr (by omega) (by omega)
    have u3 : D.mod (.int (m + 11 * (k : Int) * n + (0 + (k : Int)))) (.int 36) = .ok (.int ((m + 11 * (k : Int) * n + (k : Int)) % 36)) := by
      rw [Int.zero_add]
      exact mod_ok (by omega)
    have u4 := let_ix (i := (m + 11 * (k : Int) * n + (k : Int)) % 36) (by omega) (by omega)
    rw [kk] at u1
    simp -implicitDefEqProofs only [B1, B2, A0, A1, okb, u1, u2, add_ii, f1_1, toInt_i, u3, u4]
  have jo := join1 (ltL (fun k => (m + 11 * (k : Int) * n + (k : Int)) % 36) (s * 2)) (by rw [ltL_len]; omega)
  have al := ltL_al (f := fun k => (m + 11 * (k : Int) * n + (k : Int)) % 36) (n := s * 2) fun k _ => by omega
  have ll := ltL_len (fun k => (m + 11 * (k : Int) * n + (k : Int)) % 36) (s * 2)
  generalize ltL (fun k => (m + 11 * (k : Int) * n + (k : Int)) % 36) (s * 2) = L at *
  have fi := let_ix (i := m % 36) (by omega) (by omega)
  have fm := lt_mem (i := m % 36) (by omega)
  generalize lt (m % 36) = f at *
  have jm : (meth D.isStr (.ok (.str "")) (.ok [.lst ((L.map fun c => mk [c]).map D.str)]) (m1 D.join) : M D) = .ok (.str (mk L)) := jo
  have ad : D.add (.str (mk [f])) (.str (mk L)) = .ok (.str (mk (f :: L))) := by
    rw [add_mk (by rw [List.length_singleton]; omega)]
    rfl
  have al' : Al2 (f :: L) := al2_app (a := [f]) (al2_one (.inl fm)) (al_al2 al)
  generalize (L.map fun c => mk [c]).map D.str = LL at *
  generalize w13.map wd = WW at *
  by_cases c9 : m % 9 = 0
  · rw [decide_eq_true c9] at q9
    have ls : (mk (f :: L)).length ≤ 16777216 := by rw [len_mk, List.length_cons]; omega
    have s1 : D.sl (.str (mk (f :: L))) none (some 2) = .ok (.str (mk ((f :: L).take 2))) := by
      rw [sl_s, need_p (by rw [PySem.sizeLine_eq]; exact ls), okb, cutS_mk, cut_take _ (by omega)]
      rfl
    have s2 : D.sl (.str (mk (f :: L))) (some 2) none = .ok (.str (mk ((f :: L).drop 2))) := by
      rw [sl_s, need_p (by rw [PySem.sizeLine_eq]; exact ls), okb, cutS_mk, cut_drop _ (by omega)]
      rfl
    have t1 : ((f :: L).take 2).length ≤ 2 := by rw [List.length_take]; omega
    have t2 : ((f :: L).drop 2).length ≤ 12 := by rw [List.length_drop, List.length_cons]; omega
    have b1 : D.add (.str (mk ((f :: L).take 2))) (.str "_") = .ok (.str (mk ((f :: L).take 2 ++ [95]))) := add_mk (b := [95]) (by rw [List.length_singleton]; omega)
    have b2 : D.add (.str (mk ((f :: L).take 2 ++ [95]))) (.str (mk ((f :: L).drop 2))) = .ok (.str (mk ((f :: L).take 2 ++ [95] ++ (f :: L).drop 2))) := add_mk (by rw [List.length_append, List.length_singleton]; omega)
    refine ⟨(f :: L).take 2 ++ [95] ++ (f :: L).drop 2, ?_, ⟨by simp, al2_sp (al2_app (al2_app (fun c hc => al' c (List.mem_of_mem_take hc)) (al2_one (.inr rfl))) fun c hc => al' c (List.mem_of_mem_drop hc)), by rw [List.length_append, List.length_append, List.length_singleton]; omega⟩⟩
    simp -implicitDefEqProofs only [B1, B2, A0, A1, L1, S3, oN, mIf, okb, mkw, f1_1, toInt_i, m4, q0, q1, if_true, Bool.false_eq_true, if_false, f4, m7, mu2, rg, m36, fi] at cp ⊢
    rw [cp]
    simp -implicitDefEqProofs only [okb]
    rw [jm]
    simp -implicitDefEqProofs only [okb, ad, m9, q9, if_true, bnd_i, s1, b1, s2, b2]
    rfl
  · rw [decide_eq_false c9] at q9
    refine ⟨f :: L, ?_, ⟨List.cons_ne_nil _ _, al2_sp al', by rw [List.length_cons]; omega⟩⟩
    simp -implicitDefEqProofs only [B1, B2, A0, A1, L1, S3, oN, mIf, okb, mkw, f1_1, toInt_i, m4, q0, q1, if_true, Bool.false_eq_true, if_false, f4, m7, mu2, rg, m36, fi] at cp ⊢
    rw [cp]
    simp -implicitDefEqProofs only [okb]
    rw [jm]
    simp -implicitDefEqProofs only [okb, ad, m9, q9, Bool.false_eq_true, if_false]
    rfl
end LawMath

set_option Elab.async false
set_option linter.all false
set_option maxRecDepth 100000
set_option maxHeartbeats 8000000
namespace LawMath
open PySem DL LawWalk L2
theorem lit_ok {ls : List (List Nat)} (h : (ls.all fun w => !w.isEmpty && (!w.contains 32 && decide (w.length ≤ 20))) = true) : ∀ w ∈ ls, WOk w := fun w hw => wok_lit (List.all_eq_true.mp h w hw)
theorem formed_loop {nm fg : List (List Nat)} (h1 : 0 < nm.length) (h2 : 0 < fg.length) (hn : nm.length ≤ 1000) (hf : fg.length ≤ 1000) (on_ : ∀ w ∈ nm, WOk w) (of_ : ∀ w ∈ fg, WOk w) : ∀ (fs : List Bool) (acc : List (List Nat)), acc.length + fs.length ≤ 1000 → (∀ w ∈ acc, WOk w) →
    ∃ out : List (List Nat), loopF (m_law_formed_l1 (.lst (nm.map wd)) (.lst (fg.map wd))) ((fs.map chB).map fun c => D.str (mk [c])) (acc.map wd) = .ok (out.map wd) ∧ out.length = acc.length + fs.length ∧ ∀ w ∈ out, WOk w
  | [], acc, _, ha => ⟨acc, rfl, rfl, ha⟩
  | b :: fs, acc, hl, ha => by
    rw [List.length_cons] at hl
    have la : D.len (.lst (acc.map wd)) = .ok (.int (acc.length : Nat)) := by rw [len_l, List.length_map]
    have ln : D.len (.lst (nm.map wd)) = .ok (.int (nm.length : Nat)) := by rw [len_l, List.length_map]
    have lf : D.len (.lst (fg.map wd)) = .ok (.int (fg.length : Nat)) := by rw [len_l, List.length_map]
    have mn : D.mod (.int (acc.length : Nat)) (.int (nm.length : Nat)) = .ok (.int ((acc.length : Nat) % (nm.length : Nat))) := mod_ok (by omega)
    have mf : D.mod (.int (acc.length : Nat)) (.int (fg.length : Nat)) = .ok (.int ((acc.length : Nat) % (fg.length : Nat))) := mod_ok (by omega)
    have ps : need (decide ((acc.map wd).length < sizeLine)) = .ok () := need_p (by rw [PySem.sizeLine_eq, List.length_map]; omega)
    obtain ⟨w, W, st⟩ : ∃ w, WOk w ∧ m_law_formed_l1 (.lst (nm.map wd)) (.lst (fg.map wd)) (acc.map wd) (.str (mk [chB b])) = .ok ((acc ++ [w]).map wd) := by
      cases b with
      | true =>
        obtain ⟨w, hw, ew⟩ := ixL (e := wd) (l := nm) (i := (acc.length : Nat)) h1
        refine ⟨w, on_ w hw, ?_⟩
        have e1 : D.eq (.str (mk [chB true])) (.str "n") = .ok true := rfl
        unfold m_law_formed_l1
        rw [List.map_append]
        generalize nm.map wd = NW at *
        generalize acc.map wd = AW at *
        simp -implicitDefEqProofs only [B1, B2, A0, A1, mIf, mPush, okb, e1, if_true, f1_1, la, ln, mn, ew, ps]
        rfl
      | false =>
        obtain ⟨w, hw, ew⟩ := ixL (e := wd) (l := fg) (i := (acc.length : Nat)) h2
        refine ⟨w, of_ w hw, ?_⟩
        have e1 : D.eq (.str (mk [chB false])) (.str "n") = .ok false := rfl
        unfold m_law_formed_l1
        rw [List.map_append]
        generalize fg.map wd = FW at *
        generalize acc.map wd = AW at *
        simp -implicitDefEqProofs only [B1, B2, A0, A1, mIf, mPush, okb, e1, Bool.false_eq_true, if_false, f1_1, la, lf, mf, ew, ps]
        rfl
    obtain ⟨out, lo, l3, o3⟩ := formed_loop h1 h2 hn hf on_ of_ fs (acc ++ [w]) (by rw [List.length_append, List.length_singleton]; omega) fun x hx => by
      rcases List.mem_append.mp hx with h | h
      · exact ha x h
      · rw [List.mem_singleton.mp h]; exact W
    refine ⟨out, ?_, by rw [List.length_append, List.length_singleton] at l3; rw [List.length_cons]; omega, o3⟩
    show loopF _ (D.str (mk [chB b]) :: (fs.map chB).map fun c => D.str (mk [c])) (acc.map wd) = _
    rw [loopF_cons, st, okb]
    exact lo
def h8 : List (List Nat) := [tl "map", tl "set", tl "back", tl "print", tl "journal", tl "version", tl "route", tl "maps"]
theorem h8_ok : ∀ w ∈ h8, WOk w := lit_ok (by decide +kernel)
theorem h8_form : ∀ w ∈ h8, ∃ fs : List Bool, fs.length ≤ 6 ∧ m_law_form [wd w] = .ok (.str (mk (fs.map chB))) := by
  intro w hw
  simp only [h8, List.mem_cons, List.not_mem_nil, or_false] at hw
  rcases hw with rfl | rfl | rfl | rfl | rfl | rfl | rfl | rfl
  · exact ⟨[true], by decide, rfl⟩
  · exact ⟨[true, true, false], by decide, rfl⟩
  · exact ⟨[true, true, false], by decide, rfl⟩
  · exact ⟨[true, false], by decide, rfl⟩
  · exact ⟨[true], by decide, rfl⟩
  · exact ⟨[true], by decide, rfl⟩
  · exact ⟨[true, false, true, true, true, false], by decide, rfl⟩
  · exact ⟨[], by decide, rfl⟩
theorem formed_ok {ns : List Int} (hn : 60 ≤ ns.length) {ws : List (List Nat)} (hw : ∀ w ∈ ws, WOk w) (hl : ws.length ≤ 100) : ∃ out : List (List Nat), m_law_formed [.lst (nums ns), .lst (ws.map wd)] = .ok (out.map wd) ∧ 1 ≤ out.length ∧ out.length ≤ 7 ∧ ∀ w ∈ out, WOk w := by
  have i42 := num_ix (ns := ns) (i := 42) (j := 42) rfl (by omega)
  have m8 : D.mod (.int (ns.getD 42 0)) (.int 8) = .ok (.int (ns.getD 42 0 % 8)) := mod_ok (by omega)
  obtain ⟨hd, hh, eh⟩ := ixT (e := wd) (l := h8) (i := ns.getD 42 0) (by decide)
  have eh : D.ix (.tup (h8.map wd)) (.int (ns.getD 42 0 % 8)) = .ok (wd hd) := eh
  obtain ⟨fs, f6, ef⟩ := h8_form hd hh
  have mk8 : D.mkTup [.str "map", .str "set", .str "back", .str "print", .str "journal", .str "version", .str "route", .str "maps"] = .ok (.tup (h8.map wd)) := rfl
  have c1 : compL (fElt (fun word_here_1 => (B1 D.tru (B1 m_law_is_name (A1 (.ok word_here_1) A0)))) (fun word_here_1 => (.ok word_here_1))) (ws.map wd) = .ok ((ws.filter isNm).map wd) := compL_filterA (by omega) (fun w h => by
    have := lname_eq (l := w) (by have := (hw w h).le; omega)
    have : m_law_is_name [wd w] = .ok (.bl (isNm w)) := this
    simp -implicitDefEqProofs only [B1, A0, A1, okb, this, tru_b]) fun w _ _ => rfl
  have c2 : compL (fElt (fun word_here_2 => (B1 D.tru (B1 m_law_is_number (A1 (.ok word_here_2) A0)))) (fun word_here_2 => (.ok word_here_2))) (ws.map wd) = .ok ((ws.filter isNo).map wd) := compL_filterA (by omega) (fun w h => by
    have := lnumber_eq (l := w) (by have := (hw w h).le; omega)
    have : m_law_is_number [wd w] = .ok (.bl (isNo w)) := this
    simp -implicitDefEqProofs only [B1, A0, A1, okb, this, tru_b]) fun w _ _ => rfl
  have k1 : D.mkLst [.str "a", .str "b", .str "c", .str "d"] = .ok (.lst ([tl "a", tl "b", tl "c", tl "d"].map wd)) := rfl
  have k2 : D.mkLst [.str "0", .str "7", .str "123456"] = .ok (.lst ([tl "0", tl "7", tl "123456"].map wd)) := rfl
  have o1 : ∀ w ∈ [tl "a", tl "b", tl "c", tl "d"], WOk w := lit_ok (by decide +kernel)
  have o2 : ∀ w ∈ [tl "0", tl "7", tl "123456"], WOk w := lit_ok (by decide +kernel)
  have g1 := List.length_filter_le isNm ws
  have g2 := List.length_filter_le isNo ws
  have a1 : D.add (.lst ((ws.filter isNm).map wd)) (.lst ([tl "a", tl "b", tl "c", tl "d"].map wd)) = .ok (.lst ((ws.filter isNm ++ [tl "a", tl "b", tl "c", tl "d"]).map wd)) := by
    rw [add_ll, need_p (by rw [PySem.sizeLine_eq, List.length_map, List.length_map]; show (ws.filter isNm).length + 4 ≤ _; omega), okb, List.map_append]
  have a2 : D.add (.lst ((ws.filter isNo).map wd)) (.lst ([tl "0", tl "7", tl "123456"].map wd)) = .ok (.lst ((ws.filter isNo ++ [tl "0", tl "7", tl "123456"]).map wd)) := by
    rw [add_ll, need_p (by rw [PySem.sizeLine_eq, List.length_map, List.length_map]; show (ws.filter isNo).length + 3 ≤ _; omega), okb, List.map_append]
  obtain ⟨out, lo, l3, o3⟩ := formed_loop (nm := ws.filter isNm ++ [tl "a", tl "b", tl "c", tl "d"]) (fg := ws.filter isNo ++ [tl "0", tl "7", tl "123456"]) (by simp) (by simp) (by rw [List.length_append]; show (ws.filter isNm).length + 4 ≤ _; omega) (by rw [List.length_append]; show (ws.filter isNo).length + 3 ≤ _; omega) (fun w h => by
    rcases List.mem_append.mp h with h | h
    · exact hw w (List.mem_filter.mp h).1
    · exact o1 w h) (fun w h => by
    rcases List.mem_append.mp h with h | h
    · exact hw w (List.mem_filter.mp h).1
    · exact o2 w h) fs [hd] (by rw [List.length_singleton]; omega) (fun w h => by rw [List.mem_singleton.mp h]; exact h8_ok hd hh)
  rw [List.length_singleton] at l3
  refine ⟨out, ?_, by omega, by omega, o3⟩
  have z1 : need (decide ([wd hd].length ≤ sizeLine)) = .ok () := rfl
  have im : D.items (.str (mk (fs.map chB))) = .ok ((fs.map chB).map fun c => D.str (mk [c])) := items_mk _
  have lo : loopF (m_law_formed_l1 (.lst ((ws.filter isNm ++ [tl "a", tl "b", tl "c", tl "d"]).map wd)) (.lst ((ws.filter isNo ++ [tl "0", tl "7", tl "123456"]).map wd))) ((fs.map chB).map fun c => D.str (mk [c])) [wd hd] = .ok (out.map wd) := lo
  rw [e_law_formed]
  unfold g_law_formed
  generalize (ws.filter isNm ++ [tl "a", tl "b", tl "c", tl "d"]).map wd = Z1 at *
  generalize (ws.filter isNo ++ [tl "0", tl "7", tl "123456"]).map wd = Z2 at *
  generalize (ws.filter isNm).map wd = Z3 at *
  generalize (ws.filter isNo).map wd = Z4 at *
  generalize ws.map wd = Z5 at *
  generalize h8.map wd = Z6 at *
  generalize [tl "a", tl "b", tl "c", tl "d"].map wd = Z7 at *
  generalize [tl "0", tl "7", tl "123456"].map wd = Z8 at *
  simp -implicitDefEqProofs only [B1, B2, A0, A1, L1, okb, items_l] at c1 c2 ⊢
  rw [c1]
  simp -implicitDefEqProofs only [okb, k1, a1]
  rw [c2]
  simp -implicitDefEqProofs only [okb, k2, a2, mk8, i42, f1_1, toInt_i, m8, eh, z1, ef, im, lo]
def WsOk (ws : List (List Nat)) : Prop := 1 ≤ ws.length ∧ ws.length ≤ 9 ∧ ∀ w ∈ ws, WOk w
theorem ws_len {ws : List (List Nat)} : D.len (.lst (ws.map wd)) = .ok (.int (ws.length : Nat)) := by rw [len_l, List.length_map]
theorem law_true (l : List Int) (h : l.length ≤ 63) : m_law [.scr l] = .ok (.bl true) := by
  obtain ⟨ns, en, ln, hs⟩ := numbers_ok l h 60 (by omega) (by omega)
  have ln : ns.length = 60 := by rw [ln]; rfl
  have i40 := num_ix (ns := ns) (i := 40) (j := 40) rfl (by omega)
  have i41 := num_ix (ns := ns) (i := 41) (j := 41) rfl (by omega)
  have i43 := num_ix (ns := ns) (i := 43) (j := 43) rfl (by omega)
  have i44 := num_ix (ns := ns) (i := 44) (j := 44) rfl (by omega)
  have i45 := num_ix (ns := ns) (i := 45) (j := 45) rfl (by omega)
  have i48 := num_ix (ns := ns) (i := 48) (j := 48) rfl (by omega)
  have i49 := num_ix (ns := ns) (i := 49) (j := 49) rfl (by omega)
  have s40 := (num_sm hs 40).1
  have m9 : D.mod (.int (ns.getD 40 0)) (.int 9) = .ok (.int (ns.getD 40 0 % 9)) := mod_ok (by omega)
  have m3 : D.mod (.int (ns.getD 41 0)) (.int 3) = .ok (.int (ns.getD 41 0 % 3)) := mod_ok (by omega)
  have m6 : D.mod (.int (ns.getD 44 0)) (.int 6) = .ok (.int (ns.getD 44 0 % 6)) := mod_ok (by omega)
  have m45 : D.mod (.int (ns.getD 45 0)) (.int 3) = .ok (.int (ns.getD 45 0 % 3)) := mod_ok (by omega)
  have m48 : D.mod (.int (ns.getD 48 0)) (.int 3) = .ok (.int (ns.getD 48 0 % 3)) := mod_ok (by omega)
  have m49 : D.mod (.int (ns.getD 49 0)) (.int 4) = .ok (.int (ns.getD 49 0 % 4)) := mod_ok (by omega)
  obtain ⟨c, hc, ec⟩ : ∃ c : Nat, c ≤ 8 ∧ ns.getD 40 0 % 9 = (c : Int) := ⟨(ns.getD 40 0 % 9).toNat, by omega, by omega⟩
  have rg : D.range1 [.int (1 + ns.getD 40 0 % 9)] = .ok (rangeL 0 (1 + c)) := by
    rw [range1_i, small_of (by omega) (by omega)]
    have : (1 + ns.getD 40 0 % 9).toNat = 1 + c := by omega
    rw [this]
    rfl
  obtain ⟨ws, ew, w1, wok⟩ : ∃ ws : List (List Nat), compL (fElt noT (fun k_1 => (B1 m_law_word (A1 (B2 D.ix (.ok (.lst (nums ns))) (B2 D.mul (.ok (.int 2)) (.ok k_1))) (A1 (B2 D.ix (.ok (.lst (nums ns))) (B2 D.add (B2 D.mul (.ok (.int 2)) (.ok k_1)) (.ok (.int 1)))) A0))))) (rangeL 0 (1 + c)) = .ok (ws.map wd) ∧ ws.length = 1 + c ∧ ∀ w ∈ ws, WOk w := by
    have key : ∀ j : Nat, ∃ w, m_law_word [.int (ns.getD (2 * j) 0), .int (ns.getD (2 * j + 1) 0)] = .ok (wd w) ∧ WOk w := fun j => word_ok (num_sm hs _) (num_sm hs _)
    obtain ⟨f, hf⟩ := Classical.axiomOfChoice key
    refine ⟨(List.range (1 + c)).map f, ?_, by rw [List.length_map, List.length_range], fun w hw => ?_⟩
    · unfold rangeL
      rw [List.map_map]
      refine compL_mapA (by rw [List.length_range]; omega) fun j hj => ?_
      rw [List.mem_range] at hj
      have mu : D.mul (.int 2) (.int (0 + (j : Int))) = .ok (.int (2 * (0 + (j : Int)))) := mul_okl (by omega) (by omega)
      have x1 := num_ix (ns := ns) (i := 2 * (0 + (j : Int))) (j := 2 * j) (by omega) (by omega)
      have x2 := num_ix (ns := ns) (i := 2 * (0 + (j : Int)) + 1) (j := 2 * j + 1) (by omega) (by omega)
      have e := (hf j).1
      simp -implicitDefEqProofs only [B1, B2, A0, A1, okb, mu, add_ii, x1, x2, e]
      rfl
    · obtain ⟨j, _, rfl⟩ := List.mem_map.mp hw
      exact (hf j).2
  have W0 : WsOk ws := ⟨by omega, by omega, wok⟩
  obtain ⟨x0, ex0, W00⟩ : ∃ x0, D.ix (.lst (ws.map wd)) (.int 0) = .ok (wd x0) ∧ WOk x0 := by
    cases ws with
    | nil => simp at w1; omega
    | cons a r => exact ⟨a, ix_nat (n := 0) rfl rfl, wok a (List.mem_cons_self ..)⟩
  -- the line's changes
  obtain ⟨vs, ev, V⟩ : ∃ vs : List (List Nat), (mIf (B2 D.gt (.ok (.int (ns.getD 41 0 % 3))) (.ok (.int 0))) ((B1 m_law_formed (A1 (.ok (.lst (nums ns))) (A1 (.ok (.lst (ws.map wd))) A0))) >>= fun line_1 => ((B2 D.mod (B1 (f1 D.toInt) (A1 (B2 D.ix (.ok (.lst (nums ns))) (.ok (.int 43))) A0)) (B1 (f1 D.len) (A1 (.ok (.lst line_1)) A0))) >>= fun place_1 => ((mIf (B2 D.eq (B2 D.mod (B1 (f1 D.toInt) (A1 (B2 D.ix (.ok (.lst (nums ns))) (.ok (.int 44))) A0)) (.ok (.int 6))) (.ok (.int 0))) (mSetI line_1 (B2 D.ix (.ok (.lst (ws.map wd))) (.ok (.int 0))) (.ok place_1) >>= fun line_2 => (.ok line_2)) (.ok line_1) : M (List D)) >>= fun line_3 => ((mIf (mAnd (B2 D.eq (B2 D.mod (B1 (f1 D.toInt) (A1 (B2 D.ix (.ok (.lst (nums ns))) (.ok (.int 44))) A0)) (.ok (.int 6))) (.ok (.int 1))) (B2 D.gt (B1 (f1 D.len) (A1 (.ok (.lst line_3)) A0)) (.ok (.int 1)))) (((S3 (.ok (.lst line_3)) oN (B1 D.bnd (.ok place_1))) >>= fun x => (S3 (.ok (.lst line_3)) (B1 D.bnd (B2 D.add (.ok place_1) (.ok (.int 1)))) oN) >>= fun y => D.addN x y) >>= fun line_4 => (.ok line_4)) (.ok line_3) : M (List D)) >>= fun line_5 => ((mIf (B2 D.eq (B2 D.mod (B1 (f1 D.toInt) (A1 (B2 D.ix (.ok (.lst (nums ns))) (.ok (.int 44))) A0)) (.ok (.int 6))) (.ok (.int 2))) (mPush line_5 (B2 D.ix (.ok (.lst (ws.map wd))) (.ok (.int 0))) >>= fun line_6 => (.ok line_6)) (.ok line_5) : M (List D)) >>= fun line_7 => ((.ok (.lst line_7)) >>= fun words_2 => (.ok words_2))))))) (.ok (.lst (ws.map wd))) : M D) = .ok (.lst (vs.map wd)) ∧ WsOk vs := by
    have q41 : D.gt (.int (ns.getD 41 0 % 3)) (.int 0) = .ok (decide (0 < ns.getD 41 0 % 3)) := gt_ii
    by_cases c41 : ¬ 0 < ns.getD 41 0 % 3
    · rw [decide_eq_false c41] at q41
      exact ⟨ws, by simp -implicitDefEqProofs only [B2, mIf, okb, q41, Bool.false_eq_true, if_false], W0⟩
    rw [decide_eq_true (Decidable.not_not.mp c41)] at q41
    obtain ⟨ls, el, l1, l7, lok⟩ := formed_ok (ns := ns) (by omega) wok (by omega)
    have ll := ws_len (ws := ls)
    have mp : D.mod (.int (ns.getD 43 0)) (.int (ls.length : Nat)) = .ok (.int (ns.getD 43 0 % (ls.length : Nat))) := mod_ok (by omega)
    have p0 := Int.emod_nonneg (ns.getD 43 0) (b := (ls.length : Int)) (by omega)
    have p1 := Int.emod_lt_of_pos (ns.getD 43 0) (b := (ls.length : Int)) (by omega)
    obtain ⟨pl, hpl, epl⟩ : ∃ pl : Nat, pl < ls.length ∧ ns.getD 43 0 % (ls.length : Int) = (pl : Int) := ⟨(ns.getD 43 0 % (ls.length : Int)).toNat, by omega, by omega⟩
    rw [epl] at mp
    have q0 : D.eq (.int (ns.getD 44 0 % 6)) (.int 0) = .ok (decide (ns.getD 44 0 % 6 = 0)) := eq_ii
    have q1 : D.eq (.int (ns.getD 44 0 % 6)) (.int 1) = .ok (decide (ns.getD 44 0 % 6 = 1)) := eq_ii
    have q2 : D.eq (.int (ns.getD 44 0 % 6)) (.int 2) = .ok (decide (ns.getD 44 0 % 6 = 2)) := eq_ii
    by_cases c0 : ns.getD 44 0 % 6 = 0
    · rw [decide_eq_true c0] at q0
      rw [decide_eq_false (by omega)] at q1 q2
      have se : setIx (ls.map wd) (.int (pl : Nat)) (wd x0) = .ok ((ls.set pl x0).map wd) := by
        have : ixN (ls.map wd).length ((pl : Nat) : Int) = some pl := by
          unfold ixN
          rw [List.length_map, if_pos (by omega), if_pos (by omega)]
          congr 1
        show (match ixN (ls.map wd).length ((pl : Nat) : Int) with | some j => (.ok ((ls.map wd).set j (wd x0)) : M (List D)) | none => stuck) = _
        rw [this, List.map_set]
      refine ⟨ls.set pl x0, ?_, by rw [List.length_set]; exact l1, by rw [List.length_set]; omega, fun w hw => ?_⟩
      · generalize (ls.set pl x0).map wd = SW at *
        generalize ls.map wd = LW at *
        generalize ws.map wd = WW at *
        generalize D.lst (nums ns) = N at *
        simp -implicitDefEqProofs only [B1, B2, A0, A1, mIf, mAnd, mSetI, okb, q41, if_true, el, i43, f1_1, toInt_i, ll, mp, i44, m6, q0, ex0, se, q1, Bool.false_eq_true, if_false, q2]
      · rcases List.mem_or_eq_of_mem_set hw with h | h
        · exact lok w h
        · rw [h]; exact W00
    rw [decide_eq_false c0] at q0
    by_cases c1 : ns.getD 44 0 % 6 = 1
    · rw [decide_eq_true c1] at q1
      rw [decide_eq_false (by omega)] at q2
      have gt : D.gt (.int (ls.length : Nat)) (.int 1) = .ok (decide (1 < ls.length)) := by
        rw [gt_ii]
        congr 1
        exact decide_eq_decide.mpr (by omega)
      by_cases g : 1 < ls.length
      · rw [decide_eq_true g] at gt
        have s1 : D.sl (.lst (ls.map wd)) none (some (pl : Nat)) = .ok (.lst ((ls.take pl).map wd)) := by
          rw [sl_l, cut_take _ (by omega), ← List.map_take]
          rfl
        have s2 : D.sl (.lst (ls.map wd)) (some ((pl : Nat) + 1)) none = .ok (.lst ((ls.drop (pl + 1)).map wd)) := by
          rw [sl_l, cut_drop _ (by omega), ← List.map_drop]
          rfl
        have an : D.addN (.lst ((ls.take pl).map wd)) (.lst ((ls.drop (pl + 1)).map wd)) = .ok ((ls.take pl ++ ls.drop (pl + 1)).map wd) := by
          show (need (decide (((ls.take pl).map wd).length + ((ls.drop (pl + 1)).map wd).length ≤ sizeLine)) >>= fun _ => (.ok ((ls.take pl).map wd ++ (ls.drop (pl + 1)).map wd) : M (List D))) = _
          rw [need_p (by rw [PySem.sizeLine_eq, List.length_map, List.length_map, List.length_take, List.length_drop]; omega), okb, List.map_append]
        refine ⟨ls.take pl ++ ls.drop (pl + 1), ?_, by rw [List.length_append, List.length_take, List.length_drop]; omega, by rw [List.length_append, List.length_take, List.length_drop]; omega, fun w hw => ?_⟩
        · generalize (ls.take pl ++ ls.drop (pl + 1)).map wd = SW at *
          generalize (ls.take pl).map wd = S1 at *
          generalize (ls.drop (pl + 1)).map wd = S2 at *
          generalize ls.map wd = LW at *
          generalize ws.map wd = WW at *
          generalize D.lst (nums ns) = N at *
          simp -implicitDefEqProofs only [B1, B2, A0, A1, S3, oN, mIf, mAnd, okb, q41, if_true, el, i43, f1_1, toInt_i, ll, mp, i44, m6, q0, q1, gt, bnd_i, s1, add_ii, s2, an, Bool.false_eq_true, if_false, q2]
        · rcases List.mem_append.mp hw with h | h
          · exact lok w (List.mem_of_mem_take h)
          · exact lok w (List.mem_of_mem_drop h)
      · rw [decide_eq_false g] at gt
        refine ⟨ls, ?_, l1, by omega, lok⟩
        generalize ls.map wd = LW at *
        generalize ws.map wd = WW at *
        generalize D.lst (nums ns) = N at *
        simp -implicitDefEqProofs only [B1, B2, A0, A1, mIf, mAnd, okb, q41, if_true, el, i43, f1_1, toInt_i, ll, mp, i44, m6, q0, q1, gt, Bool.false_eq_true, if_false, q2]
    rw [decide_eq_false c1] at q1
    by_cases c2 : ns.getD 44 0 % 6 = 2
    · rw [decide_eq_true c2] at q2
      have ps : need (decide ((ls.map wd).length < sizeLine)) = .ok () := need_p (by rw [PySem.sizeLine_eq, List.length_map]; omega)
      refine ⟨ls ++ [x0], ?_, by rw [List.length_append]; omega, by rw [List.length_append, List.length_singleton]; omega, fun w hw => ?_⟩
      · rw [List.map_append]
        generalize ls.map wd = LW at *
        generalize ws.map wd = WW at *
        generalize D.lst (nums ns) = N at *
        simp -implicitDefEqProofs only [B1, B2, A0, A1, mIf, mAnd, mPush, okb, q41, if_true, el, i43, f1_1, toInt_i, ll, mp, i44, m6, q0, q1, Bool.false_eq_true, if_false, q2, ex0, ps]
        rfl
      · rcases List.mem_append.mp hw with h | h
        · exact lok w h
        · rw [List.mem_singleton.mp h]; exact W00
    · rw [decide_eq_false c2] at q2
      refine ⟨ls, ?_, l1, by omega, lok⟩
      generalize ls.map wd = LW at *
      generalize ws.map wd = WW at *
      generalize D.lst (nums ns) = N at *
      simp -implicitDefEqProofs only [B1, B2, A0, A1, mIf, mAnd, okb, q41, if_true, el, i43, f1_1, toInt_i, ll, mp, i44, m6, q0, q1, Bool.false_eq_true, if_false, q2]
  obtain ⟨v1, v9, vok⟩ := V
  -- the text
  obtain ⟨a, ha, ea⟩ : ∃ a : Nat, a ≤ 2 ∧ ns.getD 45 0 % 3 = (a : Int) := ⟨(ns.getD 45 0 % 3).toNat, by omega, by omega⟩
  obtain ⟨b, hb, eb⟩ : ∃ b : Nat, b ≤ 2 ∧ ns.getD 48 0 % 3 = (b : Int) := ⟨(ns.getD 48 0 % 3).toNat, by omega, by omega⟩
  obtain ⟨d, hd, ed⟩ : ∃ d : Nat, d ≤ 3 ∧ ns.getD 49 0 % 4 = (d : Int) := ⟨(ns.getD 49 0 % 4).toNat, by omega, by omega⟩
  rw [ea] at m45
  rw [eb] at m48
  rw [ed] at m49
  have sa : D.mulS (.str " ") (.int (a : Nat)) = .ok (.str (mk (List.replicate a 32))) := spaces_ok (n := (a : Nat)) (by omega) (by omega)
  have sb : D.mulS (.str " ") (.int (b : Nat)) = .ok (.str (mk (List.replicate b 32))) := spaces_ok (n := (b : Nat)) (by omega) (by omega)
  have sd : D.mulS (.str " ") (.int (d : Nat)) = .ok (.str (mk (List.replicate d 32))) := spaces_ok (n := (d : Nat)) (by omega) (by omega)
  have jr : ∀ n : Nat, List.replicate n 32 = TL.joinL [32] (List.replicate n [] ++ [[]]) := fun n => by
    have e := joinL_spc n (ps := [[]]) (by simp)
    rw [joinL_one, List.nil_append] at e
    rw [e]
    congr 1
    rw [List.singleton_append, ← List.replicate_succ, ← List.replicate_succ']
  have tx0 : (TL.joinL [32] (List.replicate a [] ++ [[]])).length ≤ 2 := by
    rw [← jr, List.length_replicate]
    exact ha
  obtain ⟨ps, p0, p1, p2, p3, p4⟩ := text_loop hs (by omega) vs [] (List.replicate a []) (by intro e; rw [e] at v1; simp at v1) vok (by simp; omega) (wrds_nil a) (noSp_rep a) (by simp only [List.length_nil]; omega)
  rw [← jr] at p4
  have p4 : loopF (m_law_l1 (.lst (nums ns)) (.lst (vs.map wd))) (rangeL 0 vs.length) (.str (mk (List.replicate a 32))) = .ok (.str (mk (TL.joinL [32] ps))) := p4
  simp only [List.length_nil] at p3
  have rv : D.range1 [.int (vs.length : Nat)] = .ok (rangeL 0 vs.length) := by
    rw [range1_i, small_of (by omega) (by omega)]
    rfl
  have ab : D.add (.str (mk (TL.joinL [32] ps))) (.str (mk (List.replicate b 32))) = .ok (.str (mk (TL.joinL [32] (ps ++ List.replicate b [])))) := by
    rw [add_mk (by rw [List.length_replicate]; omega), joinL_spc b p0]
  have sp1 := split_ok2 (ps := ps ++ List.replicate b []) (by simp [p0]) (noSp_app p2 (noSp_rep b)) (by rw [← joinL_spc b p0, List.length_append, List.length_replicate]; omega)
  rw [wrds_app, p1, wrds_nil, List.append_nil, List.nil_append] at sp1
  have sp2 := split_ok2 (ps := List.replicate d [] ++ [[]]) (by simp) (noSp_app (noSp_rep d) (noSp_one List.not_mem_nil)) (by rw [← jr, List.length_replicate]; omega)
  rw [← jr, wrds_app, wrds_nil] at sp2
  have sp2 : m_split_words [.str (mk (List.replicate d 32))] = .ok (.lst []) := sp2
  have sp3 : m_split_words [.str "a\tb \t"] = .ok (.lst [.str "a\tb", .str "\t"]) := by
    have e := split_ok2 (ps := [[97, 9, 98], [9]]) (by simp) (fun p hp => by
      simp only [List.mem_cons, List.not_mem_nil, or_false] at hp
      rcases hp with rfl | rfl <;> decide) (by decide)
    exact e
  have ve : D.ne (.lst (vs.map wd)) (.lst (vs.map wd)) = .ok false := ne_self (shp_lst (n := 19) fun d hd => by
    obtain ⟨w, _, rfl⟩ := List.mem_map.mp hd
    exact shp_str)
  have vq : D.eq (.lst (vs.map wd)) (.lst (vs.map wd)) = .ok true := DL.eq_self (shp_lst (n := 19) fun d hd => by
    obtain ⟨w, _, rfl⟩ := List.mem_map.mp hd
    exact shp_str)
  have n0 : D.ne (.lst []) (.lst []) = .ok false := rfl
  have n1 : D.ne (.lst [.str "a\tb", .str "\t"]) (.lst [.str "a\tb", .str "\t"]) = .ok false := ne_self rfl
  have k0 : D.mkLst [] = .ok (.lst []) := rfl
  have k2 : D.mkLst [.str "a\tb", .str "\t"] = .ok (.lst [.str "a\tb", .str "\t"]) := rfl
  have il : D.isB "list" (.lst (vs.map wd)) = .ok (.bl true) := rfl
  have tl1 : D.toList (.lst (vs.map wd)) = .ok (.lst (vs.map wd)) := rfl
  have lv := ws_len (ws := vs)
  obtain ⟨cb, c1, c2⟩ : ∃ cb : Bool, m_is_command [.lst (vs.map wd)] = .ok (.bl cb) ∧ m_law_command [.lst (vs.map wd)] = .ok (.bl cb) := by
    cases vs with
    | nil => simp at v1
    | cons x r =>
      have hr : ∀ w ∈ r, w.length ≤ 1000 := fun w hw => by have := (vok w (List.mem_cons_of_mem _ hw)).le; omega
      rw [List.length_cons] at v9
      have e1 := is_command_ok (x := mk x) (ws := r) (by rw [tl_mk]; have := (vok x (List.mem_cons_self ..)).le; omega) hr (by omega)
      have e2 := lcommand_ok (x := mk x) (ws := r) hr (by omega)
      rw [tl_mk] at e1 e2
      exact ⟨_, e1, e2⟩
  have ib : D.isB "bool" (.bl cb) = .ok (.bl true) := rfl
  have qb : D.eq (.bl cb) (.bl cb) = .ok true := DL.eq_self shp_bl
  rw [e_law]
  unfold g_law
  have e60 : ((60 : Nat) : Int) = 60 := rfl
  generalize vs.map wd = VW at *
  generalize ws.map wd = WW at *
  generalize rangeL 0 (1 + c) = RC at *
  generalize rangeL 0 vs.length = RV at *
  generalize D.lst (nums ns) = N at *
  simp -implicitDefEqProofs only [B1, B2, A0, A1, L1, S3, oN, mIf, mAnd, mSetI, mPush, okb, en, i40, f1_1, toInt_i, m9, add_ii, rg, i41, m3] at ew ev ⊢
  rw [ew]
  simp -implicitDefEqProofs only [okb]
  rw [ev]
  simp -implicitDefEqProofs only [B1, B2, C2, A0, A1, L1, mIf, mOr, mNot, vAnd, okb, f1_1, toInt_i, i45, m45, sa, lv, rv, p4, i48, m48, sb, ab, sp1, il, tru_b, Bool.not_true, Bool.false_eq_true, if_false, ve, i49, m49, sd, sp2, k0, n0, sp3, k2, n1, tl1, c1, c2, ib, if_true, qb, bD_ok, vq]
end LawMath

set_option Elab.async false
set_option linter.all false
set_option maxRecDepth 100000
set_option maxHeartbeats 0
namespace LawHead
open PySem PySem.Spec PyProof.Rows L2
theorem facts {P : Program} {w : World} {K : PySem.W.Frag} {h : Heap} {mg : Str → Option Value} {f : Addr} (X : K.In h) (G : h.Ns mainGlobals mg) (hfa : mg ("law" : Str) = some (.ref f)) (c : DL.SaysG LawWalk.fa LawWalk.fn LawWalk.gt LawWalk.exW K ∧ DL.seenTb LawWalk.ts K = DL.dueTb LawWalk.ts w) :
    ∃ fd : FuncData, (∀ (s : Shared) (v : Value), BindsTo s fd ⟨[v], []⟩ [("_law_script", v)]) ∧ ∀ base : Heap, K.In base → base.Ns mainGlobals mg → FnOk P w K mg base (DL.CXA P) 4 f fd ["_law_script"] (DL.spD K [true] LawWalk.m_law) := by
  have L : LawWalk.Lw w K mg := ⟨⟨h, X, G⟩, c.1, c.2⟩
  obtain ⟨fd, F⟩ := L.c.def_ 13 (d := LawWalk.d_law) rfl
  have e := hfa.symm.trans (L.glo LawWalk.fa_28)
  cases e
  have b := FunD.bindsA (ps := ["_law_script"]) F fun _ _ _ _ _ _ us hl => match us, hl with | [_], _ => rfl
  exact ⟨fd, fun s v => b s [v] rfl, fun base _ _ => DL.fn_any (LawWalk.ok_law L F)⟩
end LawHead
open PySem PySem.W PySem.Calls PyProof.Rows
theorem PySem.Challenge.cw_waypapers_k54_words_of_a_session_holds : PySem.Challenge.rw_waypapers_k54_words_of_a_session.Holds := by
  w_on; o_law
  refine HandSHeadRun.head_any (r := OpenLaw.row PySem.Challenge.rw_waypapers_k54_words_of_a_session) (q := view (OpenLaw.row PySem.Challenge.rw_waypapers_k54_words_of_a_session).prog [22]) (H := LawHead.hk) (ob := LawHead.ob) (M := 20000) (loose := LawHead.loose) (d := HandSHeadRun.topDef (OpenLaw.row PySem.Challenge.rw_waypapers_k54_words_of_a_session).prog 22) (kwd := []) LawHead.ob_eq
    (by kernel_rfl) (fun s => by kernel_rfl) LawHead.run (by kernel_rfl) (by kernel_rfl) (by kernel_rfl) (by rfl) (by first | assumption | decide +kernel) (by decide +kernel) ⟨rfl, rfl, rfl, rfl, rfl, by decide +kernel⟩ ?hw ?hc
  case hw => w_witness2
  case hc =>
    refine L2.walk_ofE (l := PySem.Challenge.rw_waypapers_k54_words_of_a_session) (n := 63) (k := 4) (x := "_law_script") (CX := DL.CXA (PySem.Challenge.rw_waypapers_k54_words_of_a_session).prog) rfl (by decide) (by kernel_rfl) ⟨rfl, by decide, by decide⟩ ?F (fun _ _ _ _ z => z.no)
    intro w mg fa h Y G hmg0
    obtain ⟨K, KX, c⟩ := Y
    have hmg : mg ("law" : PySem.Str) = some (.ref fa) := by
      have e : (HandSHeadRun.topDef (OpenLaw.row PySem.Challenge.rw_waypapers_k54_words_of_a_session).prog 22).name = ("law" : PySem.Str) := by kernel_rfl
      rw [← e]
      exact hmg0
    obtain ⟨fd, hb, hF⟩ := LawHead.facts (P := (PySem.Challenge.rw_waypapers_k54_words_of_a_session).prog) (w := w) KX G hmg c
    exact ⟨K, fd, DL.spD K [true] LawWalk.m_law, KX, hb, fun H a ns hl _ hS => ⟨H, [.scr ns], L2.Same.refl H, .bor (.of (.scr hS)) .nil, by
      rw [LawMath.law_true ns hl]
      exact fun F' H' v _ r => by cases r; rfl⟩, hF⟩

