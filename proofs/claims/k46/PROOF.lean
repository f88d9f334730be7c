import PyProof.Rows.All
import Wide.All
import OpenK.AllK
import Wide.FinOn
import HandS.Base
import HandS.Call
import HandS.List
import HandS.Comp
import HandS.Ends
import HandS.Dict
import HandS.Iter
import HandS.Text
import HandS.More
import HandS.Flow
import HandS.Strs
import HandS.TupAny
import HandS.Exc
import HandS.Words
import HandS.WordsExc
import HandS.Defaults
import HandS.HeadHook1
import HandS.HeadHook2
import HandS.Deep
import HandS.FStr
import HandS.IsInst
import HandS.WordsDict
import HandS.Wide
import KE.KUnpack
import HandS.ExcOwn
import HandS.Property
import KE.GoesEnum
import HandS.Codes
import KE.SortData
import HandS.MakeKwOnly
import KE.SortKeyHeap
import HandS.SortKw
import KE.DataMinMax
import HandS.Style
import KE.DataFind
import KE.KExcSuper
import HandS.ExcInit
import HandS.ExcField
import HandS.ExcIs
import HandS.TryOnly
import HandS.TryMany
import KE.KExcIs
import HandS.Zip
import HandS.Rev
import HandS.Conv
import HandS.HeadEnd
import PyProof.ReprRoads
import HandS.SortOrd
import PyProof.Rows.SortKeyStr
import HandS.DictComp
import PyProof.SliceList
import HandS.Star
import HandS.ReplaceLit
import HandS.HeadHook3
import KE.KUnpackStar
import KE.KStateDown
import Lean
import HandS.Head0
import HandS.Head1
import HandS.Head2
import KE.DatumOrd
import PySem.Challenge.RW_waypapers_k46_what_sets_clash_about
set_option Elab.async false
set_option linter.all false
set_option maxRecDepth 100000
set_option maxHeartbeats 2000000
namespace L2
open PySem PySem.Spec
theorem SqT.sqT {K : PySem.W.Frag} {H : Hp} {a : Addr} {xs : List V} (h : SqT K H a xs) : SqT K H a xs := h
end L2
namespace DL
open PySem PySem.Spec L2 PyProof.Rows
def PlT (K : PySem.W.Frag) (H : Hp) (a : Addr) (xs : List V) : Prop := (∃ o, H a = some (.frz o (.tup xs)) ∧ o.cls = .type "tuple" ∧ o.dict = none) ∨
  ∃ (o : Obj) (its : Array Value) (n : Nat), K.lookup a = some o ∧ o.cls = .type "tuple" ∧ o.dict = none ∧ o.data = .seq its n ∧ its.size ≤ sizeLine ∧ Vals xs its.toList
theorem PlT.sqT {K : PySem.W.Frag} {H : Hp} {a : Addr} {xs : List V} (h : PlT K H a xs) : SqT K H a xs := by
  rcases h with ⟨o, e, _⟩ | ⟨o, its, n, h1, h2, _, h3, h4, h5⟩
  · exact .inl (.inr ⟨o, e⟩)
  · exact .inr ⟨o, its, n, h1, h2, h3, h4, h5⟩
theorem PlT.mono {K : PySem.W.Frag} {H H' : Hp} {a : Addr} {xs : List V} (k : ∀ b u, H b = some u → H' b = some u) (h : PlT K H a xs) : PlT K H' a xs := by
  rcases h with ⟨o, e, c⟩ | h
  · exact .inl ⟨o, k _ _ e, c⟩
  · exact .inr h
abbrev NewT (H : Hp) (xs : List V) (Q : VK) : Prop := ∀ p o, H p = none → o.cls = .type "tuple" → o.dict = none → Q (.ref p) (upd H p (.frz o (.tup xs)))
theorem plT_new {K : PySem.W.Frag} {H : Hp} {p : Addr} {o : Obj} {xs : List V} (c : o.cls = .type "tuple") (d : o.dict = none) : PlT K (upd H p (.frz o (.tup xs))) p xs := .inl ⟨o, upd_same, c, d⟩
section
variable {X : Cx} {e : Expr} {es : List Expr} {te : TE} {t : TA} {pos : Pos}
def tTupP (t : TA) : TE := fun σ H Q => t σ H fun xs H1 => xs.length ≤ sizeLine ∧ NewT H1 xs Q
theorem pe_tupP {x1} (h : PA X es t) : PE X (.Tuple es x1 pos) (tTupP t) := by
  refine ⟨fun pins s σ H Q I hq => ?_⟩
  refine wpAny_Tuple_spliced (thn (h.run pos pins s σ H _ I hq) fun us s1 ⟨xs, H1, I1, r, z, q⟩ => ⟨by rw [← r.length]; exact z, ?_⟩)
  have hf : H1 s1.heap.objs.size = none := I1.hok.fresh (Nat.le_refl _)
  exact ⟨.ref s1.heap.objs.size, upd H1 s1.heap.objs.size (.frz { cls := .type "tuple", data := .seq us.toArray } (.tup xs)), I1.laid (t' := s1.toks) (fun b u e => Heap.get?_push_of_some _ e) (Nat.le_refl _) ⟨Heap.get?_push_size _ rfl, z, us, r, ⟨_, Heap.get?_push_size _ rfl, rfl, _, rfl⟩⟩, rfl, q _ _ hf rfl rfl⟩
theorem call_tuple_ofP : CallR X (.type "tuple") (fun xs H Q => ∃ p ys, xs = [.ref p] ∧ ((SqL X.K H p ys ∧ NewT H ys Q) ∨ (SqT X.K H p ys ∧ Q (.ref p) H))) := by
  intro pins s σ H xs us Q I r h
  obtain ⟨p, ys, rfl, h⟩ := h
  obtain ⟨u, rfl, rx⟩ := vals1 r
  cases rx
  rcases h with ⟨hq, q⟩ | ⟨hq, q⟩
  · obtain ⟨its, r', pl, hz⟩ := I.list hq
    have hlen := r'.length
    refine call_tuple_list pl.isList (fun h' kp => ?_) (by simp only [List.size_toArray] <;> omega)
    have I1 : Inv X pins σ H { s with heap := h' } := I.kept (t' := s.toks) kp
    have I2 : Inv X pins σ (upd H h'.objs.size (.frz { cls := .type "tuple", data := .seq its.toArray } (.tup ys))) { s with heap := h'.push { cls := .type "tuple", data := .seq its.toArray } } :=
      I1.laid (t' := s.toks) (fun b o e => Heap.get?_push_of_some _ e) (Nat.le_refl _) (show ObjOk X.prog X.w _ _ _ (.frz _ (.tup ys)) from ⟨Heap.get?_push_size _ rfl, hz, its, r', IsTup.new _ _⟩)
    exact ⟨.ref h'.objs.size, _, I2, rfl, q _ _ (I1.hok.fresh (Nat.le_refl _)) rfl rfl⟩
  · obtain ⟨its, r', pl, hz⟩ := I.tuple hq
    exact call_tuple_same pl ⟨.ref p, H, I, rfl, q⟩
def rCatP (K : PySem.W.Frag) : R2 := fun x y H Q => ∃ a b xs ys, x = .ref a ∧ y = .ref b ∧ SqT K H a xs ∧ SqT K H b ys ∧ xs.length + ys.length ≤ sizeLine ∧
  (xs = [] → Q (.ref b) H) ∧ (xs ≠ [] → ys = [] → Q (.ref a) H) ∧ (xs ≠ [] → ys ≠ [] → NewT H (xs ++ ys) Q)
theorem op_catP : OpR X (binaryOp .Add) (rCatP X.K) := by
  intro pins s σ H x y v u Q I rx ry h
  obtain ⟨a, b, xs, ys, rfl, rfl, ha, hb, hz, q0, q1, q2⟩ := h
  cases rx
  cases ry
  obtain ⟨its, r1, p1, _⟩ := I.tuple ha
  obtain ⟨its2, r2, p2, _⟩ := I.tuple hb
  by_cases hx : xs = []
  · subst hx
    cases r1
    exact cat_tup0 p1 p2 ⟨.ref b, H, I, rfl, q0 rfl⟩
  · refine HT.cat_tup p1 p2 (fun z => hx (r1.nil_iff.mp z)) (fun z => ⟨.ref a, H, I, rfl, q1 hx (r2.nil_iff.mp z)⟩) (fun z => ?_) (by rw [← r1.length, ← r2.length]; exact hz)
    refine ⟨.ref s.heap.objs.size, _, I.laid (t' := s.toks) (o := .frz _ (.tup (xs ++ ys))) (fun b ob q => Heap.get?_push_of_some _ q) (Nat.le_refl _) ⟨Heap.get?_push_size _ rfl, by rw [List.length_append]; exact hz, _, r1.append r2, IsTup.new _ _⟩, rfl, q2 hx (fun w => z (r2.nil_iff.mpr w)) _ _ (I.hok.fresh (Nat.le_refl _)) rfl rfl⟩
def rSlP (K : PySem.W.Frag) : V → Option Int → Option Int → Hp → VK → Prop := fun x lo hi H Q => ∃ a xs, x = .ref a ∧ SqT K H a xs ∧
  (HT.sIx xs.length 0 lo = 0 ∧ HT.sIx xs.length xs.length hi = xs.length → Q (.ref a) H) ∧ (¬ (HT.sIx xs.length 0 lo = 0 ∧ HT.sIx xs.length xs.length hi = xs.length) → NewT H (cutV xs lo hi) Q)
theorem sl_tupP : SlR X (rSlP X.K) := by
  intro pins s σ H x v vl vu lo hi sl Q I rx hs pl pu h
  obtain ⟨a, xs, rfl, hx, q1, q2⟩ := h
  cases rx
  obtain ⟨its, r, ht, hz⟩ := I.tuple hx
  have hlen : its.toArray.size = xs.length := by rw [List.size_toArray]; exact r.length.symm
  by_cases hw : HT.sIx xs.length 0 lo = 0 ∧ HT.sIx xs.length xs.length hi = xs.length
  · refine ⟨"tuple", _, PyProof.Rows.slot_tuple_getitem.lookup, ht.typeIs, ?_⟩
    exact getItem_tuple_whole ht hs pl pu (by rw [hlen]; exact hw) ⟨.ref a, H, I, rfl, q1 hw⟩
  · refine ⟨"tuple", _, PyProof.Rows.slot_tuple_getitem.lookup, ht.typeIs, ?_⟩
    refine HT.getItem_tuple_cut ht hs pl pu (by rw [hlen]; exact hw) ?_ (by rw [hlen]; exact hz)
    rw [hlen]
    refine ⟨.ref s.heap.objs.size, _, I.laid (t' := s.toks) (o := .frz _ (.tup (cutV xs lo hi))) (fun b ob q => Heap.get?_push_of_some _ q) (Nat.le_refl _) ⟨Heap.get?_push_size _ rfl, Nat.le_trans (cutV_length xs lo hi) hz, _, (r.drop (HT.sIx xs.length 0 lo)).take (HT.sIx xs.length xs.length hi - HT.sIx xs.length 0 lo), IsTup.new _ _⟩, rfl, q2 hw _ _ (I.hok.fresh (Nat.le_refl _)) rfl rfl⟩
variable {o : Expr} {to : TE} {name : Str} {apos cpos : Pos} {id : String} {r : V → List V → Hp → VK → Prop}
end
end DL

set_option Elab.async false
set_option linter.all false
set_option maxRecDepth 100000
set_option maxHeartbeats 400000
namespace DL
open PySem PySem.Spec L2 PyProof.Rows
end DL

set_option Elab.async false
set_option linter.all false
set_option maxRecDepth 100000
set_option maxHeartbeats 4000000
namespace DL
open PySem PySem.Spec L2

inductive D where
  | non | bl (b : Bool) | int (i : Int) | str (x : Str)
  | tup (l : List D) | lst (l : List D)
  /-- a dict with int and text keys; one with tuples of these -/
  | dct (l : List (D × D)) | dcu (l : List (D × D))
  | ins (c : String) (l : List (String × D))
  /-- the script -/
  | scr (l : List Int)
  /-- a dict that an object owns (a field's value), an object with such fields -/
  | ow (l : List (D × D))
  | obt (c : String) (l : List (String × D))
  deriving Inhabited

structure Ex where
  cls : String
  args : List (String × D)
inductive Er where
  | stuck
  | exc (x : Ex)
abbrev M := Except Er
abbrev stuck {α : Type} : M α := .error .stuck
def need (b : Bool) : M Unit := if b then .ok () else stuck

def kD : Key → D
  | .inl i => .int i
  | .inr x => .str x

section
variable (K : PySem.W.Frag)
mutual
inductive Rp (F : Hp) : V → D → Prop
  | non : Rp F .non .non
  | bl (b : Bool) : Rp F (.bl b) (.bl b)
  | int (i : Int) : Rp F (.int i) (.int i)
  | str (x : Str) : PyData.strOk x = true → Rp F (.str x) (.str x)
  | tup {a : Addr} {xs : List V} {ds : List D} : PlT K F a xs → RpL F xs ds → Rp F (.ref a) (.tup ds)
  | lst {a : Addr} {xs : List V} {ds : List D} : F a = some (.lst xs) → RpL F xs ds → Rp F (.ref a) (.lst ds)
  | scr {a : Addr} {l : List Int} : SqL K F a (l.map V.int) → Rp F (.ref a) (.scr l)
  | dctK {a : Addr} {kvs : List (Key × V)} {l : List (D × D)} : Rd F a (.dK kvs) → kvs.map (fun q => kD q.1) = l.map (·.1) → RpL F (kvs.map (·.2)) (l.map (·.2)) → Rp F (.ref a) (.dct l)
  | dctT {a : Addr} {kvs : List (List Key × V)} {l : List (D × D)} : F a = some (.dT kvs) → kvs.map (fun q => D.tup (q.1.map kD)) = l.map (·.1) → RpL F (kvs.map (·.2)) (l.map (·.2)) → Rp F (.ref a) (.dcu l)
  | ins {a dx : Addr} {c : String} {fs : List (Str × V)} {l : List (String × D)} : F a = some (.ins (He.ga K (Str.ofString c)) dx fs) → fs.map (·.1) = l.map (fun q => Str.ofString q.1) → RpL F (fs.map (·.2)) (l.map (·.2)) → Rp F (.ref a) (.ins c l)
inductive RpL (F : Hp) : List V → List D → Prop
  | nil : RpL F [] []
  | cons {v : V} {vs : List V} {d : D} {ds : List D} : Rp F v d → RpL F vs ds → RpL F (v :: vs) (d :: ds)
end
end

section
variable {K : PySem.W.Frag} {F F' H H' : Hp}
theorem Same.seqT {H H' : Hp} {a : Addr} {xs : List V} (e : Same H H') (h : SqT K H a xs) : SqT K H' a xs := by
  rcases h with (h | ⟨o, h⟩) | h
  · exact .inl (.inl (e _ _ h))
  · exact .inl (.inr ⟨o, e _ _ h⟩)
  · exact .inr h
theorem rd_same {a : Addr} {u : HO} (e : Same F F') (h : Rd F a u) : Rd F' a u := by
  rcases h with h | ⟨o, h⟩
  · exact .inl (e _ _ h)
  · exact .inr ⟨o, e _ _ h⟩
mutual
theorem Rp.mono (e : Same F F') : ∀ {v : V} {d : D}, Rp K F v d → Rp K F' v d
  | _, _, .non => .non
  | _, _, .bl b => .bl b
  | _, _, .int i => .int i
  | _, _, .str x h => .str x h
  | _, _, .tup h hs => .tup (h.mono e) (RpL.mono e hs)
  | _, _, .lst h hs => .lst (e _ _ h) (RpL.mono e hs)
  | _, _, .scr h => .scr (e.seq h)
  | _, _, .dctK h h2 hs => .dctK (rd_same e h) h2 (RpL.mono e hs)
  | _, _, .dctT h h2 hs => .dctT (e _ _ h) h2 (RpL.mono e hs)
  | _, _, .ins h h2 hs => .ins (e _ _ h) h2 (RpL.mono e hs)
theorem RpL.mono (e : Same F F') : ∀ {v : List V} {d : List D}, RpL K F v d → RpL K F' v d
  | _, _, .nil => .nil
  | _, _, .cons h hs => .cons (Rp.mono e h) (RpL.mono e hs)
end
theorem RpL.length : ∀ {xs : List V} {ds : List D}, RpL K F xs ds → xs.length = ds.length
  | _, _, .nil => rfl
  | _, _, .cons _ h => congrArg Nat.succ h.length
theorem RpL.append : ∀ {xs ys : List V} {ds es : List D}, RpL K F xs ds → RpL K F ys es → RpL K F (xs ++ ys) (ds ++ es)
  | _, _, _, _, .nil, h => h
  | _, _, _, _, .cons h hs, h2 => .cons h (hs.append h2)
theorem RpL.one {v : V} {d : D} (h : Rp K F v d) : RpL K F [v] [d] := .cons h .nil
theorem RpL.get : ∀ {xs : List V} {ds : List D} {i : Nat} {d : D}, RpL K F xs ds → ds[i]? = some d → ∃ x, xs[i]? = some x ∧ Rp K F x d
  | _, _, _, _, .nil, e => by simp at e
  | _, _, 0, _, .cons h _, e => by
    simp at e
    subst e
    exact ⟨_, rfl, h⟩
  | _, _, i + 1, d, .cons _ hs, e => by
    obtain ⟨x, h1, h2⟩ := RpL.get (i := i) (d := d) hs (by simpa using e)
    exact ⟨x, by simpa using h1, h2⟩
theorem RpL.getV : ∀ {xs : List V} {ds : List D} {i : Nat} {x : V}, RpL K F xs ds → xs[i]? = some x → ∃ d, ds[i]? = some d ∧ Rp K F x d
  | _, _, _, _, .nil, e => by simp at e
  | _, _, 0, _, .cons h _, e => by
    simp at e
    subst e
    exact ⟨_, rfl, h⟩
  | _, _, i + 1, d, .cons _ hs, e => by
    obtain ⟨x, h1, h2⟩ := RpL.getV (i := i) (x := d) hs (by simpa using e)
    exact ⟨x, by simpa using h1, h2⟩
theorem RpL.take : ∀ {xs : List V} {ds : List D} (n : Nat), RpL K F xs ds → RpL K F (xs.take n) (ds.take n)
  | _, _, 0, _ => .nil
  | _, _, _ + 1, .nil => .nil
  | _, _, n + 1, .cons h hs => .cons h (hs.take n)
theorem RpL.drop : ∀ {xs : List V} {ds : List D} (n : Nat), RpL K F xs ds → RpL K F (xs.drop n) (ds.drop n)
  | _, _, 0, h => h
  | _, _, _ + 1, .nil => .nil
  | _, _, n + 1, .cons _ hs => RpL.drop n hs
theorem RpL.set {x : V} {d : D} (h : Rp K F x d) : ∀ {xs : List V} {ds : List D} (i : Nat), RpL K F xs ds → RpL K F (xs.set i x) (ds.set i d)
  | _, _, _, .nil => .nil
  | _, _, 0, .cons _ hs => .cons h hs
  | _, _, i + 1, .cons q hs => .cons q (RpL.set h i hs)
theorem RpL.reverse : ∀ {xs : List V} {ds : List D}, RpL K F xs ds → RpL K F xs.reverse ds.reverse
  | _, _, .nil => .nil
  | _, _, .cons h hs => by
    rw [List.reverse_cons, List.reverse_cons]
    exact (RpL.reverse hs).append (.one h)

structure Ext (F H F' H' : Hp) : Prop where
  sF : Same F F'
  sH : Same H H'
  sFH : Same F' H'
  old : ∀ a o, H a = some o → F' a = F a
theorem Ext.refl (h : Same F H) : Ext F H F H := ⟨Same.refl _, Same.refl _, h, fun _ _ _ => rfl⟩
theorem Ext.trans {F1 H1 F2 H2 : Hp} (a : Ext F H F1 H1) (b : Ext F1 H1 F2 H2) : Ext F H F2 H2 :=
  ⟨a.sF.trans b.sF, a.sH.trans b.sH, b.sFH, fun c o h => by rw [b.old c o (a.sH c o h), a.old c o h]⟩
theorem same_new {H : Hp} {p : Addr} {o : HO} (h : H p = none) : Same H (upd H p o) := fun b x e => by
  rw [upd_ne (ne_of_none e h)]
  exact e
theorem Ext.new {p : Addr} {o : HO} (s : Same F H) (h : H p = none) : Ext F H (upd F p o) (upd H p o) where
  sF := same_new (s.free h)
  sH := same_new h
  sFH := fun b x e => by
    by_cases hb : b = p
    · subst hb
      rw [upd_same] at e ⊢
      exact e
    · rw [upd_ne hb] at e ⊢
      exact s _ _ e
  old := fun a x e => upd_ne (ne_of_none e h)
theorem Ext.newH {p : Addr} {o : HO} (s : Same F H) (h : H p = none) : Ext F H F (upd H p o) where
  sF := Same.refl _
  sH := same_new h
  sFH := s.trans (same_new h)
  old := fun a x e => rfl

inductive Sl where
  | un
  | any
  | val (d : D)
  | own (l : List D)
  | ownd (l : List (D × D))
  | ownu (l : List (D × D))
  /-- an instance that is being made -/
  | obj (a : Addr) (c : String) (l : List (String × D))
  /-- lent: to be read, not to be kept -/
  | bor (d : D)
  /-- an object that has dicts of its own, lent -/
  | tre (a : Addr) (c : String) (l : List (String × D))
  /-- a caught exception: its object, its dict, its fields -/
  | exn (a : Addr) (d : Option Addr) (l : List (String × D))
def XAt (K : PySem.W.Frag) (F : Hp) (d : Option Addr) : List (String × D) → Prop
  | [] => d = none
  | [(f, e)] => ∃ a v, d = some a ∧ F a = some (.xd [(Str.ofString f, v)]) ∧ Rp K F v e
  | _ => False
theorem XAt.mono {d : Option Addr} (s : Same F F') : ∀ {l : List (String × D)}, XAt K F d l → XAt K F' d l
  | [], h => h
  | [(f, e)], h => by
    obtain ⟨a, v, h1, h2, h3⟩ := h
    exact ⟨a, v, h1, s _ _ h2, h3.mono s⟩
  | _ :: _ :: _, h => h.elim
def DctAt (K : PySem.W.Frag) (F : Hp) (o : Option HO) (l : List (D × D)) : Prop :=
  ∃ kvs : List (Key × V), o = some (.dK kvs) ∧ kvs.map (fun q => kD q.1) = l.map (·.1) ∧ RpL K F (kvs.map (·.2)) (l.map (·.2))
def DctR (K : PySem.W.Frag) (F H : Hp) (a : Addr) (l : List (D × D)) : Prop :=
  ∃ kvs : List (Key × V), Rd H a (.dK kvs) ∧ kvs.map (fun q => kD q.1) = l.map (·.1) ∧ RpL K F (kvs.map (·.2)) (l.map (·.2))
theorem DctAt.r {K : PySem.W.Frag} {F H : Hp} {a : Addr} {l : List (D × D)} (h : DctAt K F (H a) l) : DctR K F H a l := let ⟨kvs, h1, h2, h3⟩ := h; ⟨kvs, .inl h1, h2, h3⟩
inductive RpOL (K : PySem.W.Frag) (F B : Hp) : List V → List D → Prop
  | nil : RpOL K F B [] []
  | frz {v : V} {vs : List V} {d : D} {fv : List D} : Rp K F v d → RpOL K F B vs fv → RpOL K F B (v :: vs) (d :: fv)
  | dk {p : Addr} {vs : List V} {l : List (D × D)} {fv : List D} : DctR K F B p l → RpOL K F B vs fv → RpOL K F B (.ref p :: vs) (.ow l :: fv)
def DcuAt (K : PySem.W.Frag) (F : Hp) (o : Option HO) (l : List (D × D)) : Prop :=
  ∃ kvs : List (List Key × V), o = some (.dT kvs) ∧ kvs.map (fun q => D.tup (q.1.map kD)) = l.map (·.1) ∧ RpL K F (kvs.map (·.2)) (l.map (·.2))
inductive RpT (K : PySem.W.Frag) (F H : Hp) : V → D → Prop
  | of {v : V} {d : D} : Rp K F v d → RpT K F H v d
  | own {a : Addr} {xs : List V} {l : List D} : H a = some (.lst xs) → RpL K F xs l → RpT K F H (.ref a) (.lst l)
  | ownd {a : Addr} {l : List (D × D)} : DctR K F H a l → RpT K F H (.ref a) (.dct l)
  | ownu {a : Addr} {l : List (D × D)} : DcuAt K F (H a) l → RpT K F H (.ref a) (.dcu l)
  | obj {a dx : Addr} {c : String} {fs : List (Str × V)} {l : List (String × D)} : H a = some (.ins (He.ga K (Str.ofString c)) dx fs) → fs.map (·.1) = l.map (fun q => Str.ofString q.1) → RpL K F (fs.map (·.2)) (l.map (·.2)) → RpT K F H (.ref a) (.ins c l)
  | obt {a dx : Addr} {c : String} {fs : List (Str × V)} {l : List (String × D)} : H a = some (.ins (He.ga K (Str.ofString c)) dx fs) → fs.map (·.1) = l.map (fun q => Str.ofString q.1) → RpOL K F H (fs.map (·.2)) (l.map (·.2)) → RpT K F H (.ref a) (.obt c l)
inductive FvL (K : PySem.W.Frag) (F B : Hp) : List V → List D → List Addr → Prop
  | nil : FvL K F B [] [] []
  | frz {v : V} {vs : List V} {d : D} {fv : List D} {as : List Addr} : Rp K F v d → FvL K F B vs fv as → FvL K F B (v :: vs) (d :: fv) as
  | dk {p : Addr} {vs : List V} {l : List (D × D)} {fv : List D} {as : List Addr} : F p = none → DctAt K F (B p) l → FvL K F B vs fv as → FvL K F B (.ref p :: vs) (.ow l :: fv) (p :: as)
structure TreOk (K : PySem.W.Frag) (F B : Hp) (a : Addr) (c : String) (l : List (String × D)) (as : List Addr) : Prop where
  at_ : ∃ dx fs, B a = some (.ins (He.ga K (Str.ofString c)) dx fs) ∧ fs.map (·.1) = l.map (fun q => Str.ofString q.1) ∧ FvL K F B (fs.map (·.2)) (l.map (·.2)) as
  na : F a = none
  nd : as.Nodup
def SlOk (K : PySem.W.Frag) (B F H : Hp) (o : Option V) : Sl → Prop
  | .un => o = none
  | .any => True
  | .val d => ∃ v, o = some v ∧ Rp K F v d
  | .own l => ∃ a xs, o = some (.ref a) ∧ H a = some (.lst xs) ∧ F a = none ∧ B a = none ∧ RpL K F xs l
  | .ownd l => ∃ a, o = some (.ref a) ∧ DctAt K F (H a) l ∧ F a = none ∧ B a = none
  | .ownu l => ∃ a, o = some (.ref a) ∧ DcuAt K F (H a) l ∧ F a = none ∧ B a = none
  | .obj a c l => ∃ dx fs, o = some (.ref a) ∧ H a = some (.ins (He.ga K (Str.ofString c)) dx fs) ∧ F a = none ∧ B a = none ∧ fs.map (·.1) = l.map (fun q => Str.ofString q.1) ∧ RpL K F (fs.map (·.2)) (l.map (·.2))
  | .bor d => ∃ v, o = some v ∧ RpT K F B v d
  | .tre a c l => o = some (.ref a) ∧ Same B H ∧ ∃ as, TreOk K F B a c l as
  | .exn a d l => o = some (.ref a) ∧ XAt K F d l
def Sl.owns : Sl → Bool
  | .own _ => true
  | .ownd _ => true
  | .ownu _ => true
  | .obj _ _ _ => true
  | _ => false
theorem DctAt.mono {o : Option HO} {l : List (D × D)} (e : Same F F') (h : DctAt K F o l) : DctAt K F' o l :=
  let ⟨kvs, h1, h2, h3⟩ := h; ⟨kvs, h1, h2, h3.mono e⟩
theorem DctAt.some {o : Option HO} {l : List (D × D)} (h : DctAt K F o l) : ∃ u, o = some u := let ⟨_, h1, _, _⟩ := h; ⟨_, h1⟩
theorem DctR.monoF {a : Addr} {l : List (D × D)} (e : Same F F') (h : DctR K F H a l) : DctR K F' H a l := let ⟨kvs, h1, h2, h3⟩ := h; ⟨kvs, h1, h2, h3.mono e⟩
theorem DctR.monoH {a : Addr} {l : List (D × D)} (e : Same H H') (h : DctR K F H a l) : DctR K F H' a l := let ⟨kvs, h1, h2, h3⟩ := h; ⟨kvs, rd_same e h1, h2, h3⟩
theorem RpOL.monoF (e : Same F F') : ∀ {vs : List V} {ds : List D}, RpOL K F H vs ds → RpOL K F' H vs ds
  | _, _, .nil => .nil
  | _, _, .frz r q => .frz (r.mono e) (q.monoF e)
  | _, _, .dk r q => .dk (r.monoF e) (q.monoF e)
theorem RpOL.monoH (e : Same H H') : ∀ {vs : List V} {ds : List D}, RpOL K F H vs ds → RpOL K F H' vs ds
  | _, _, .nil => .nil
  | _, _, .frz r q => .frz r (q.monoH e)
  | _, _, .dk r q => .dk (r.monoH e) (q.monoH e)
theorem DcuAt.mono {o : Option HO} {l : List (D × D)} (e : Same F F') (h : DcuAt K F o l) : DcuAt K F' o l :=
  let ⟨kvs, h1, h2, h3⟩ := h; ⟨kvs, h1, h2, h3.mono e⟩
theorem DcuAt.some {o : Option HO} {l : List (D × D)} (h : DcuAt K F o l) : ∃ u, o = some u := let ⟨_, h1, _, _⟩ := h; ⟨_, h1⟩
theorem RpT.monoF {v : V} {d : D} (e : Same F F') (h : RpT K F H v d) : RpT K F' H v d := by
  cases h with
  | of h => exact .of (h.mono e)
  | own h r => exact .own h (r.mono e)
  | ownd r => exact .ownd (r.monoF e)
  | ownu r => exact .ownu (r.mono e)
  | obj h h2 r => exact .obj h h2 (r.mono e)
  | obt h h2 r => exact .obt h h2 (r.monoF e)
theorem RpT.monoH {v : V} {d : D} (e : Same H H') (h : RpT K F H v d) : RpT K F H' v d := by
  cases h with
  | of h => exact .of h
  | own h r => exact .own (e _ _ h) r
  | ownd r => exact .ownd (r.monoH e)
  | ownu r =>
    obtain ⟨u, hu⟩ := r.some
    refine .ownu ?_
    rw [e _ _ hu, ← hu]
    exact r
  | obj h h2 r => exact .obj (e _ _ h) h2 r
  | obt h h2 r => exact .obt (e _ _ h) h2 (r.monoH e)
theorem FvL.off : ∀ {vs : List V} {fv : List D} {as : List Addr}, FvL K F B vs fv as → ∀ p ∈ as, F p = none ∧ ∃ kvs, B p = some (.dK kvs)
  | _, _, _, .nil, p, h => nomatch h
  | _, _, _, .frz _ h, p, hp => h.off p hp
  | _, _, _, .dk h1 h2 h, p, hp => by
    rcases List.mem_cons.mp hp with rfl | hp
    · obtain ⟨kvs, e, _⟩ := h2
      exact ⟨h1, kvs, e⟩
    · exact h.off p hp
theorem FvL.mono (sF : Same F F') : ∀ {vs : List V} {fv : List D} {as : List Addr}, (∀ p ∈ as, F' p = none) → FvL K F B vs fv as → FvL K F' B vs fv as
  | _, _, _, _, .nil => .nil
  | _, _, _, h, .frz r q => .frz (r.mono sF) (FvL.mono sF h q)
  | _, _, _, h, .dk _ h2 q => .dk (h _ (List.mem_cons_self ..)) (h2.mono sF) (FvL.mono sF (fun p hp => h p (List.mem_cons_of_mem _ hp)) q)
theorem FvL.same {B' : Hp} : ∀ {vs : List V} {fv : List D} {as : List Addr}, (∀ p ∈ as, B' p = B p) → FvL K F B vs fv as → FvL K F B' vs fv as
  | _, _, _, _, .nil => .nil
  | _, _, _, h, .frz r q => .frz r (FvL.same h q)
  | _, _, _, h, .dk h1 h2 q => .dk h1 (by rw [h _ (List.mem_cons_self ..)]; exact h2) (FvL.same (fun p hp => h p (List.mem_cons_of_mem _ hp)) q)
theorem FvL.ol : ∀ {vs : List V} {fv : List D} {as : List Addr}, FvL K F B vs fv as → RpOL K F B vs fv
  | _, _, _, .nil => .nil
  | _, _, _, .frz r q => .frz r q.ol
  | _, _, _, .dk _ h q => .dk h.r q.ol
theorem TreOk.rd {a : Addr} {c : String} {l : List (String × D)} {as : List Addr} (t : TreOk K F B a c l as) : RpT K F B (.ref a) (.obt c l) := by
  obtain ⟨dx, fs, h1, h2, h3⟩ := t.at_
  exact .obt h1 h2 h3.ol
theorem TreOk.mono {a : Addr} {c : String} {l : List (String × D)} {as : List Addr} (sF : Same F F') (old : ∀ b o, B b = some o → F' b = F b) (t : TreOk K F B a c l as) : TreOk K F' B a c l as := by
  obtain ⟨dx, fs, h1, h2, h3⟩ := t.at_
  refine ⟨⟨dx, fs, h1, h2, FvL.mono sF (fun p hp => ?_) h3⟩, ?_, t.nd⟩
  · obtain ⟨n, kvs, e⟩ := h3.off p hp
    rw [old _ _ e]
    exact n
  · rw [old _ _ h1]
    exact t.na
theorem SlOk.ext {B : Hp} {o : Option V} {s : Sl} (x : Ext F H F' H') (h : SlOk K B F H o s) : SlOk K B F' H' o s := by
  cases s with
  | un => exact h
  | any => trivial
  | val d => obtain ⟨v, e, r⟩ := h; exact ⟨v, e, r.mono x.sF⟩
  | own l =>
    obtain ⟨a, xs, e, e2, n, b, r⟩ := h
    exact ⟨a, xs, e, x.sH _ _ e2, by rw [x.old _ _ e2]; exact n, b, r.mono x.sF⟩
  | ownd l =>
    obtain ⟨a, e, d, n, b⟩ := h
    obtain ⟨u, hu⟩ := d.some
    refine ⟨a, e, ?_, by rw [x.old _ _ hu]; exact n, b⟩
    rw [x.sH _ _ hu, ← hu]
    exact d.mono x.sF
  | ownu l =>
    obtain ⟨a, e, d, n, b⟩ := h
    obtain ⟨u, hu⟩ := d.some
    refine ⟨a, e, ?_, by rw [x.old _ _ hu]; exact n, b⟩
    rw [x.sH _ _ hu, ← hu]
    exact d.mono x.sF
  | obj a c l =>
    obtain ⟨dx, fs, e, h1, n, b, h2, r⟩ := h
    exact ⟨dx, fs, e, x.sH _ _ h1, by rw [x.old _ _ h1]; exact n, b, h2, r.mono x.sF⟩
  | bor d =>
    obtain ⟨v, e, r⟩ := h
    exact ⟨v, e, r.monoF x.sF⟩
  | tre a c l =>
    obtain ⟨h1, h2, as, t⟩ := h
    exact ⟨h1, h2.trans x.sH, as, t.mono x.sF fun b o e => x.old _ _ (h2 _ _ e)⟩
  | exn a d l => exact ⟨h.1, h.2.mono x.sF⟩
structure GOk (K : PySem.W.Frag) (B : Hp) (G : List Sl) (σ : St) (F H : Hp) : Prop where
  sB : Same B H
  len : σ.length = G.length
  ok : ∀ (i : Nat) (s : Sl), G[i]? = some s → ∃ o, σ[i]? = some o ∧ SlOk K B F H o s
  dis : ∀ (i j : Nat) (s t : Sl) (a : Addr), G[i]? = some s → G[j]? = some t → s.owns = true → t.owns = true → σ[i]? = some (some (.ref a)) → σ[j]? = some (some (.ref a)) → i = j
theorem GOk.ext {B : Hp} {G : List Sl} {σ : St} (x : Ext F H F' H') (g : GOk K B G σ F H) : GOk K B G σ F' H' :=
  ⟨g.sB.trans x.sH, g.len, fun i s h => let ⟨o, h1, h2⟩ := g.ok i s h; ⟨o, h1, h2.ext x⟩, g.dis⟩

def RpX (K : PySem.W.Frag) (F' H' : Hp) (c : Value) (d : Option Addr) (x : Ex) : Prop :=
  c = .ref (He.ga K (Str.ofString x.cls)) ∧ XAt K F' d x.args

def WpG {α β : Type} (K : PySem.W.Frag) (E : XK) (rel : Hp → Hp → β → α → Prop) (m : M α) (F H : Hp) (Q : β → Hp → Prop) : Prop :=
  match m with
  | .ok d => ∀ F' H' v, Ext F H F' H' → rel F' H' v d → Q v H'
  | .error .stuck => False
  | .error (.exc x) => ∀ F' H' c d, Ext F H F' H' → RpX K F' H' c d x → E c d H'
theorem WpG.ext {α β : Type} {E : XK} {rel : Hp → Hp → β → α → Prop} {m : M α} {Q : β → Hp → Prop} (x : Ext F H F' H') (h : WpG K E rel m F H Q) : WpG K E rel m F' H' Q := by
  cases m with
  | ok d => exact fun F2 H2 v y r => h F2 H2 v (x.trans y) r
  | error e =>
    cases e with
    | stuck => exact h
    | exc e => exact fun F2 H2 c d y r => h F2 H2 c d (x.trans y) r
theorem WpG.bind {α β γ δ : Type} {E : XK} {rel : Hp → Hp → β → α → Prop} {rel2 : Hp → Hp → δ → γ → Prop} {m : M α} {k : α → M γ} {Q : δ → Hp → Prop} {Q1 : β → Hp → Prop}
    (h : WpG K E rel2 (m >>= k) F H Q) (hk : ∀ x F' H' v, Ext F H F' H' → rel F' H' v x → WpG K E rel2 (k x) F' H' Q → Q1 v H') : WpG K E rel m F H Q1 := by
  cases m with
  | ok d => exact fun F2 H2 v y r => hk d F2 H2 v y r (WpG.ext y h)
  | error e =>
    cases e with
    | stuck => exact h
    | exc e => exact fun F2 H2 c d y r => h F2 H2 c d y r
theorem WpG.ok {α β : Type} {E : XK} {rel : Hp → Hp → β → α → Prop} {d : α} {Q : β → Hp → Prop} (h : WpG K E rel (.ok d) F H Q) {F' H' : Hp} {v : β} (x : Ext F H F' H') (r : rel F' H' v d) : Q v H' := h F' H' v x r
theorem WpG.need {α β : Type} {E : XK} {rel : Hp → Hp → β → α → Prop} {b : Bool} {k : Unit → M α} {Q : β → Hp → Prop} (h : WpG K E rel (need b >>= k) F H Q) : b = true ∧ WpG K E rel (k ()) F H Q := by
  cases b with
  | true => exact ⟨rfl, h⟩
  | false => exact h.elim

theorem RpT.ext {v : V} {d : D} (x : Ext F H F' H') (h : RpT K F H v d) : RpT K F' H' v d := (h.monoF x.sF).monoH x.sH
theorem RpT.lst {v : V} {l : List D} (s : Same F H) (h : RpT K F H v (.lst l)) : ∃ a xs, v = .ref a ∧ H a = some (.lst xs) ∧ RpL K F xs l := by
  cases h with
  | of h => cases h with
    | lst h hs => exact ⟨_, _, rfl, s _ _ h, hs⟩
  | own h r => exact ⟨_, _, rfl, h, r⟩
theorem RpT.scr {v : V} {l : List Int} (s : Same F H) (h : RpT K F H v (.scr l)) : ∃ a, v = .ref a ∧ SqL K H a (l.map V.int) := by
  cases h with
  | of h => cases h with
    | scr h => exact ⟨_, rfl, s.seq h⟩
theorem RpT.tup {v : V} {l : List D} (s : Same F H) (h : RpT K F H v (.tup l)) : ∃ a xs, v = .ref a ∧ SqT K H a xs ∧ RpL K F xs l := by
  cases h with
  | of h => cases h with
    | tup h hs => exact ⟨_, _, rfl, Same.seqT s h.sqT, hs⟩
theorem RpT.int {v : V} {i : Int} (h : RpT K F H v (.int i)) : v = .int i := by
  cases h with
  | of h => cases h; rfl
theorem RpT.str {v : V} {i : Str} (h : RpT K F H v (.str i)) : v = .str i ∧ PyData.strOk i = true := by
  cases h with
  | of h => cases h with
    | str _ h => exact ⟨rfl, h⟩
theorem RpT.bl {v : V} {i : Bool} (h : RpT K F H v (.bl i)) : v = .bl i := by
  cases h with
  | of h => cases h; rfl
theorem RpT.non {v : V} (h : RpT K F H v .non) : v = .non := by
  cases h with
  | of h => cases h; rfl
theorem DGet.kr {H : Hp} {a : Addr} {kvs : List (Key × V)} {k : Key} (e : Rd H a (.dK kvs)) : DGet H a (kV k) (valV kvs k) := .inl ⟨kvs, k, e, rfl, rfl⟩
theorem RpT.dct {v : V} {l : List (D × D)} (s : Same F H) (h : RpT K F H v (.dct l)) : ∃ a, v = .ref a ∧ DctR K F H a l := by
  cases h with
  | of h => cases h with
    | dctK h h2 hs => exact ⟨_, rfl, _, rd_same s h, h2, hs⟩
  | ownd r => exact ⟨_, rfl, r⟩
theorem RpT.dcu {v : V} {l : List (D × D)} (s : Same F H) (h : RpT K F H v (.dcu l)) : ∃ a, v = .ref a ∧ DcuAt K F (H a) l := by
  cases h with
  | of h => cases h with
    | dctT h h2 hs => exact ⟨_, rfl, _, s _ _ h, h2, hs⟩
  | ownu r => exact ⟨_, rfl, r⟩
theorem RpT.ins {v : V} {c : String} {l : List (String × D)} (s : Same F H) (h : RpT K F H v (.ins c l)) : ∃ a dx fs, v = .ref a ∧ H a = some (.ins (He.ga K (Str.ofString c)) dx fs) ∧ fs.map (·.1) = l.map (fun q => Str.ofString q.1) ∧ RpL K F (fs.map (·.2)) (l.map (·.2)) := by
  cases h with
  | of h => cases h with
    | ins h h2 hs => exact ⟨_, _, _, rfl, s _ _ h, h2, hs⟩
  | obj h h2 r => exact ⟨_, _, _, rfl, h, h2, r⟩
end

def DE (X : Cx) (E : St → XK) (G : List Sl) (e : Expr) (m : M D) : Prop :=
  ∃ t, PE X e t ∧ ∀ B σ F H Q, Same F H → GOk X.K B G σ F H → WpG X.K (E σ) (fun F' _ v d => Rp X.K F' v d) m F H Q → t σ H Q
def DR (X : Cx) (E : St → XK) (G : List Sl) (e : Expr) (m : M D) : Prop :=
  ∃ t, PE X e t ∧ ∀ B σ F H Q, Same F H → GOk X.K B G σ F H → WpG X.K (E σ) (fun F' H' v d => RpT X.K F' H' v d) m F H Q → t σ H Q
def DT (X : Cx) (E : St → XK) (G : List Sl) (e : Expr) (m : M Bool) : Prop :=
  ∃ t, PT X e t ∧ ∀ B σ F H Q, Same F H → GOk X.K B G σ F H → WpG X.K (E σ) (fun _ _ (v : Bool) d => v = d) m F H Q → t σ H Q
def DW (X : Cx) (E : St → XK) (G : List Sl) (e : Expr) (m : M Bool) : Prop :=
  ∃ t, PW X e t ∧ ∀ B σ F H Q, Same F H → GOk X.K B G σ F H → WpG X.K (E σ) (fun _ _ (v : Bool) d => v = d) m F H Q → t σ H Q
def DA (X : Cx) (E : St → XK) (G : List Sl) (es : List Expr) (m : M (List D)) : Prop :=
  ∃ t, PA X es t ∧ ∀ B σ F H Q, Same F H → GOk X.K B G σ F H → WpG X.K (E σ) (fun F' _ v d => RpL X.K F' v d) m F H Q → t σ H Q
inductive RpTL (K : PySem.W.Frag) (F H : Hp) : List V → List D → Prop
  | nil : RpTL K F H [] []
  | cons {v : V} {vs : List V} {d : D} {ds : List D} : RpT K F H v d → RpTL K F H vs ds → RpTL K F H (v :: vs) (d :: ds)
def DRA (X : Cx) (E : St → XK) (G : List Sl) (es : List Expr) (m : M (List D)) : Prop :=
  ∃ t, PA X es t ∧ ∀ B σ F H Q, Same F H → GOk X.K B G σ F H → WpG X.K (E σ) (fun F' H' v d => RpTL X.K F' H' v d) m F H Q → t σ H Q
inductive Oc where
  | nx (G : List Sl)
  | ct (G : List Sl)
  | bk (G : List Sl)
  | rt (d : D)
  /-- given back, with something more told of what lies then (of the entry's heap, what is frozen, the heap, the value) -/
  | rg (R : Hp → Hp → Hp → V → Prop)
def WpB {α : Type} (K : PySem.W.Frag) (E : XK) (B0 B : Hp) (post : α → Oc) (m : M α) (F : Hp) (D : Ends) : Prop :=
  match m with
  | .ok x => (match post x with
    | .nx G => ∀ σ F' H', Same F F' → Ext B0 B F' H' → GOk K B G σ F' H' → D.nx σ H'
    | .ct G => ∀ σ F' H', Same F F' → Ext B0 B F' H' → GOk K B G σ F' H' → D.ct σ H'
    | .bk G => ∀ σ F' H', Same F F' → Ext B0 B F' H' → GOk K B G σ F' H' → D.bk σ H'
    | .rt d => ∀ v F' H', Same F F' → Ext B0 B F' H' → Rp K F' v d → D.rt v H'
    | .rg R => ∀ v F' H', Same F F' → Ext B0 B F' H' → R B F' H' v → D.rt v H')
  | .error .stuck => False
  | .error (.exc x) => ∀ F' H' c d, Same F F' → Ext B0 B F' H' → RpX K F' H' c d x → E c d H'
def DB (X : Cx) (E : XK) (G : List Sl) (body : List Stmt) {α : Type} (m : M α) (post : α → Oc) : Prop :=
  ∃ t, PSs X body t ∧ ∀ B0 B σ F H D, Ext B0 B F H → GOk X.K B G σ F H → WpB X.K E B0 B post m F D → t D σ H
end DL

set_option Elab.async false
set_option linter.all false
set_option maxRecDepth 100000
set_option maxHeartbeats 4000000
namespace DL
open PySem PySem.Spec L2

def D.leaf : D → Bool
  | .non => true
  | .bl _ => true
  | .int _ => true
  | .str _ => true
  | _ => false
def D.shp : Nat → D → Bool
  | 0, d => d.leaf
  | n + 1, .tup l => l.all (D.shp n)
  | n + 1, .lst l => l.all (D.shp n)
  | _ + 1, d => d.leaf
mutual
def D.py : D → PyData
  | .non => .none
  | .bl b => .bool b
  | .int i => .int i
  | .str x => .str x
  | .tup l => .tuple (D.pyL l)
  | .lst l => .list (D.pyL l)
  | .dct _ => .none
  | .dcu _ => .none
  | .ins _ _ => .none
  | .scr _ => .none
  | .ow _ => .none
  | .obt _ _ => .none
def D.pyL : List D → List PyData
  | [] => []
  | d :: l => D.py d :: D.pyL l
end
mutual
def D.beq : D → D → Bool
  | .non, .non => true
  | .bl a, .bl b => a == b
  | .bl a, .int j => decide ((if a then 1 else 0) = j)
  | .int i, .bl b => decide (i = (if b then 1 else 0))
  | .int i, .int j => decide (i = j)
  | .str x, .str y => decide (x = y)
  | .tup l, .tup m => D.beqL l m
  | .lst l, .lst m => D.beqL l m
  | _, _ => false
def D.beqL : List D → List D → Bool
  | [], [] => true
  | x :: l, y :: m => D.beq x y && D.beqL l m
  | _, _ => false
end
theorem D.pyL_eq : ∀ l : List D, D.pyL l = l.map D.py
  | [] => by simp only [D.pyL, List.map_nil]
  | d :: l => by simp only [D.pyL, List.map_cons, D.pyL_eq l]
theorem D.leaf_cases {d : D} (h : d.leaf = true) : d = .non ∨ (∃ b, d = .bl b) ∨ (∃ i, d = .int i) ∨ ∃ x, d = .str x := by
  cases d with
  | non => exact .inl rfl
  | bl b => exact .inr (.inl ⟨b, rfl⟩)
  | int i => exact .inr (.inr (.inl ⟨i, rfl⟩))
  | str x => exact .inr (.inr (.inr ⟨x, rfl⟩))
  | _ => cases h
theorem D.shp_cases {n : Nat} {d : D} (h : d.shp n = true) : d.leaf = true ∨ ∃ m l, n = m + 1 ∧ (d = .tup l ∨ d = .lst l) ∧ l.all (D.shp m) = true := by
  cases n with
  | zero => exact .inl h
  | succ n =>
    cases d with
    | tup l => exact .inr ⟨n, l, rfl, .inl rfl, h⟩
    | lst l => exact .inr ⟨n, l, rfl, .inr rfl, h⟩
    | non => exact .inl h
    | bl b => exact .inl h
    | int i => exact .inl h
    | str x => exact .inl h
    | dct _ => exact .inl h
    | dcu _ => exact .inl h
    | ins _ _ => exact .inl h
    | scr _ => exact .inl h
    | ow _ => exact .inl h
    | obt _ _ => exact .inl h
theorem D.leaf_py {d : D} (h : d.leaf = true) : d.py.depth = 0 := by
  rcases D.leaf_cases h with rfl | ⟨b, rfl⟩ | ⟨i, rfl⟩ | ⟨x, rfl⟩ <;> simp [D.py, PyData.depth]
theorem D.shp_depth : ∀ {n : Nat} {d : D}, d.shp n = true → d.py.depth ≤ n
  | n, d, h => by
    induction n generalizing d with
    | zero => exact Nat.le_of_eq (D.leaf_py h)
    | succ n ih =>
      rcases D.shp_cases h with h | ⟨m, l, e, hd, hl⟩
      · rw [D.leaf_py h]
        exact Nat.zero_le _
      · injection e with e
        subst e
        have q : ∀ l : List D, l.all (D.shp n) = true → PyData.depthAll (l.map D.py) ≤ n := by
          intro l
          induction l with
          | nil => intro _; simp [PyData.depthAll]
          | cons a l ihl =>
            intro h
            rw [List.all_cons, Bool.and_eq_true] at h
            have h1 := ih _ h.1
            have h2 := ihl h.2
            simp only [List.map_cons, PyData.depthAll]
            omega
        have hq := q l hl
        rcases hd with rfl | rfl
        · simp only [D.py, D.pyL_eq, PyData.depth]
          omega
        · simp only [D.py, D.pyL_eq, PyData.depth]
          omega
theorem D.beq_eq : ∀ {n : Nat} {d e : D}, d.shp n = true → e.shp n = true → PyData.eqv d.py e.py = D.beq d e
  | n, d, e, hd, he => by
    induction n generalizing d e with
    | zero =>
      rcases D.leaf_cases hd with rfl | ⟨b, rfl⟩ | ⟨i, rfl⟩ | ⟨x, rfl⟩ <;> rcases D.leaf_cases he with rfl | ⟨c, rfl⟩ | ⟨j, rfl⟩ | ⟨y, rfl⟩ <;> simp [D.py, D.beq, PyData.eqv, Bool.beq_eq_decide_eq] <;> rfl
    | succ n ih =>
      have q : ∀ l m : List D, l.all (D.shp n) = true → m.all (D.shp n) = true → PyData.eqvAll (D.pyL l) (D.pyL m) = D.beqL l m := by
        intro l
        induction l with
        | nil => intro m _ _; cases m <;> simp [D.pyL, D.beqL, PyData.eqvAll]
        | cons a l ihl =>
          intro m h1 h2
          cases m with
          | nil => simp [D.pyL, D.beqL, PyData.eqvAll]
          | cons b m =>
            rw [List.all_cons, Bool.and_eq_true] at h1 h2
            simp only [D.pyL, D.beqL, PyData.eqvAll]
            rw [ih _ _ h1.1 h2.1, ihl m h1.2 h2.2]
      rcases D.shp_cases hd with h1 | ⟨m1, l1, e1, d1, s1⟩
      · rcases D.shp_cases he with h2 | ⟨m2, l2, e2, d2, s2⟩
        · rcases D.leaf_cases h1 with rfl | ⟨b, rfl⟩ | ⟨i, rfl⟩ | ⟨x, rfl⟩ <;> rcases D.leaf_cases h2 with rfl | ⟨c, rfl⟩ | ⟨j, rfl⟩ | ⟨y, rfl⟩ <;> simp [D.py, D.beq, PyData.eqv, Bool.beq_eq_decide_eq] <;> rfl
        · rcases D.leaf_cases h1 with rfl | ⟨b, rfl⟩ | ⟨i, rfl⟩ | ⟨x, rfl⟩ <;> rcases d2 with rfl | rfl <;> simp [D.py, D.beq, PyData.eqv]
      · injection e1 with e1
        subst e1
        rcases D.shp_cases he with h2 | ⟨m2, l2, e2, d2, s2⟩
        · rcases D.leaf_cases h2 with rfl | ⟨b, rfl⟩ | ⟨i, rfl⟩ | ⟨x, rfl⟩ <;> rcases d1 with rfl | rfl <;> simp [D.py, D.beq, PyData.eqv]
        · injection e2 with e2
          subst e2
          rcases d1 with rfl | rfl <;> rcases d2 with rfl | rfl
          · simp only [D.py, D.beq, PyData.eqv]
            exact q _ _ s1 s2
          · simp [D.py, D.beq, PyData.eqv]
          · simp [D.py, D.beq, PyData.eqv]
          · simp only [D.py, D.beq, PyData.eqv]
            exact q _ _ s1 s2

section
variable {K : PySem.W.Frag} {F H : Hp}
theorem Rp.dp_leaf {v : V} {d : D} (h : d.leaf = true) (r : Rp K F v d) : Dp K H v d.py ∧ d.py.canLay0 = true := by
  cases r with
  | non => exact ⟨by simp only [D.py]; exact .non, by simp [D.py, PyData.canLay0]⟩
  | bl b => exact ⟨by simp only [D.py]; exact .bl b, by simp [D.py, PyData.canLay0]⟩
  | int i => exact ⟨by simp only [D.py]; exact .int i, by simp [D.py, PyData.canLay0]⟩
  | str x hx => exact ⟨by simp only [D.py]; exact .str x, by simp [D.py, PyData.canLay0, hx]⟩
  | tup _ _ => cases h
  | lst _ _ => cases h
  | scr _ => cases h
  | dctK _ _ _ => cases h
  | dctT _ _ _ => cases h
  | ins _ _ _ => cases h
theorem Rp.dp (s : Same F H) : ∀ {n : Nat} {v : V} {d : D}, d.shp n = true → Rp K F v d → Dp K H v d.py ∧ d.py.canLay0 = true
  | n, v, d, h, r => by
    induction n generalizing v d with
    | zero => exact Rp.dp_leaf h r
    | succ n ih =>
      have q : ∀ (l : List D) (xs : List V), l.all (D.shp n) = true → RpL K F xs l → DpAll K H xs (D.pyL l) ∧ PyData.canLayAll0 (D.pyL l) = true := by
        intro l
        induction l with
        | nil =>
          intro xs _ r
          cases r
          exact ⟨by simp only [D.pyL]; exact .nil, by simp [D.pyL, PyData.canLayAll0]⟩
        | cons a l ihl =>
          intro xs h r
          rw [List.all_cons, Bool.and_eq_true] at h
          cases r with
          | cons r1 r2 =>
            obtain ⟨a1, a2⟩ := ih _ _ h.1 r1
            obtain ⟨b1, b2⟩ := ihl _ h.2 r2
            exact ⟨by simp only [D.pyL]; exact .cons a1 b1, by simp [D.pyL, PyData.canLayAll0, a2, b2]⟩
      rcases D.shp_cases h with h1 | ⟨m, l, e, hd, hl⟩
      · exact Rp.dp_leaf h1 r
      · injection e with e
        subst e
        rcases hd with rfl | rfl
        · cases r with
          | tup r1 r2 =>
            obtain ⟨a1, a2⟩ := q l _ hl r2
            exact ⟨by simp only [D.py]; exact .tup (Same.seqT s (r1).sqT) a1, by simp [D.py, PyData.canLay0, a2]⟩
        · cases r with
          | lst r1 r2 =>
            obtain ⟨a1, a2⟩ := q l _ hl r2
            exact ⟨by simp only [D.py]; exact .lst (SqL.of (s _ _ r1)) a1, by simp [D.py, PyData.canLay0, a2]⟩
theorem RpL.dpAll (s : Same F H) {n : Nat} : ∀ {l : List D} {xs : List V}, l.all (D.shp n) = true → RpL K F xs l → DpAll K H xs (D.pyL l) ∧ PyData.canLayAll0 (D.pyL l) = true
  | [], _, _, .nil => ⟨by simp only [D.pyL]; exact .nil, by simp [D.pyL, PyData.canLayAll0]⟩
  | a :: l, _, h, .cons r1 r2 => by
    rw [List.all_cons, Bool.and_eq_true] at h
    obtain ⟨a1, a2⟩ := Rp.dp s h.1 r1
    obtain ⟨b1, b2⟩ := RpL.dpAll s h.2 r2
    exact ⟨by simp only [D.pyL]; exact .cons a1 b1, by simp [D.pyL, PyData.canLayAll0, a2, b2]⟩
theorem RpT.dp (s : Same F H) {n : Nat} {v : V} {d : D} (h : d.shp n = true) (r : RpT K F H v d) : Dp K H v d.py ∧ d.py.canLay0 = true := by
  cases r with
  | of r => exact Rp.dp s h r
  | own e r =>
    cases n with
    | zero => cases h
    | succ n =>
      obtain ⟨a1, a2⟩ := RpL.dpAll s (n := n) h r
      exact ⟨by simp only [D.py]; exact .lst (SqL.of e) a1, by simp [D.py, PyData.canLay0, a2]⟩
  | ownd _ => cases n <;> cases h
  | ownu _ => cases n <;> cases h
  | obj _ _ _ => cases n <;> cases h
  | obt _ _ _ => cases n <;> cases h
theorem shaped_of {n : Nat} {d : D} (hn : n ≤ 64) (h : d.shp n = true) (c : d.py.canLay0 = true) : SeqAt.shaped d.py = true := by
  show (d.py.canLay0 && decide (d.py.depth ≤ 64)) = true
  rw [c, Bool.true_and]
  exact decide_eq_true (Nat.le_trans (D.shp_depth h) hn)
end

def D.eq (x y : D) : M Bool := do
  need (x.shp 20 && y.shp 20)
  .ok (D.beq x y)
def D.add : D → D → M D
  | .int i, .int j => .ok (.int (i + j))
  | .str x, .str y => do need (decide (x.length + y.length ≤ sizeLine)); .ok (.str (x ++ y))
  | .lst l, .lst m => do need (decide (l.length + m.length ≤ sizeLine)); .ok (.lst (l ++ m))
  | .tup l, .tup m => do need (decide (l.length + m.length ≤ sizeLine)); .ok (.tup (l ++ m))
  | _, _ => stuck
def D.sub : D → D → M D
  | .int i, .int j => .ok (.int (i - j))
  | _, _ => stuck
def D.mul : D → D → M D
  | .int i, .int j => do need (decide ((-(2 ^ 64) < i ∧ i < 2 ^ 64) ∨ (-(2 ^ 64) < j ∧ j < 2 ^ 64))); .ok (.int (i * j))
  | _, _ => stuck
def D.fdiv : D → D → M D
  | .int i, .int j => do need (decide (0 < j ∧ j < 1073741824)); .ok (.int (i / j))
  | _, _ => stuck
def D.mod : D → D → M D
  | .int i, .int j => do need (decide (0 < j)); .ok (.int (i % j))
  | _, _ => stuck
def D.pow : D → D → M D
  | .int i, .int j => do need (decide (0 ≤ j ∧ j ≤ 1000000 ∧ i.natAbs < 2 ^ 64)); .ok (.int (i ^ j.toNat))
  | _, _ => stuck
def D.neg : D → M D
  | .int i => .ok (.int (-i))
  | _ => stuck
def D.lt : D → D → M Bool
  | .int i, .int j => .ok (decide (i < j))
  | .str i, .str j => .ok (decide (i.cps.toList < j.cps.toList))
  | _, _ => stuck
def D.le : D → D → M Bool
  | .int i, .int j => .ok (decide (i ≤ j))
  | _, _ => stuck
def D.gt : D → D → M Bool
  | .int i, .int j => .ok (decide (j < i))
  | _, _ => stuck
def D.ge : D → D → M Bool
  | .int i, .int j => .ok (decide (j ≤ i))
  | _, _ => stuck
def D.ne (x y : D) : M Bool := do let b ← D.eq x y; .ok (!b)
def D.isKey : D → Bool
  | .int _ => true
  | .str _ => true
  | _ => false
def D.look (l : List (D × D)) (k : D) : Option D := (l.find? fun q => D.beq q.1 k).map (·.2)
def D.mem (x : D) : D → M Bool
  | .str z => (match x with
    | .str y => (match y.cps.toList with
      | [c] => .ok (decide (c ∈ z.cps.toList))
      | _ => .ok (!(Builtin.Str.occurrences z y 0 z.length 1).isEmpty))
    | _ => stuck)
  | .lst l => do need (x.shp 19 && l.all (D.shp 19)); .ok (l.any fun z => D.beq z x)
  | .tup l => do need (x.shp 19 && l.all (D.shp 19)); .ok (l.any fun z => D.beq z x)
  | .dct l => do need x.isKey; .ok (D.look l x).isSome
  | _ => stuck
def D.nmem (x y : D) : M Bool := do let b ← D.mem x y; .ok (!b)
def D.isNon : D → Bool
  | .non => true
  | _ => false
def D.tru : D → M Bool
  | .non => .ok false
  | .bl b => .ok b
  | .int i => .ok (i != 0)
  | .str y => do need (decide (y.length ≤ sizeLine)); .ok ((y.length : Int) != 0)
  | .lst l => .ok (!l.isEmpty)
  | .tup l => .ok (!l.isEmpty)
  | .dct l => .ok (!l.isEmpty)
  | _ => stuck
def D.ix : D → D → M D
  | .lst l, .int i => (match atI l i with | some d => .ok d | none => stuck)
  | .tup l, .int i => (match atI l i with | some d => .ok d | none => stuck)
  | .str z, .int i => do need (decide (z.length ≤ sizeLine)); (match atI z.cps.toList i with | some c => .ok (.str ⟨#[c]⟩) | none => stuck)
  | .dct l, k => do need k.isKey; (match D.look l k with | some d => .ok d | none => stuck)
  | _, _ => stuck
def cutL {α : Type} (xs : List α) (lo hi : Option Int) : List α := (xs.drop (HT.sIx xs.length 0 lo)).take (HT.sIx xs.length xs.length hi - HT.sIx xs.length 0 lo)
def D.sl : D → Option Int → Option Int → M D
  | .lst l, lo, hi => .ok (.lst (cutL l lo hi))
  | .tup l, lo, hi => .ok (.tup (cutL l lo hi))
  | .scr l, lo, hi => .ok (.lst ((cutL l lo hi).map D.int))
  | .str z, lo, hi => do need (decide (z.length ≤ sizeLine)); .ok (.str (cutS z lo hi))
  | _, _, _ => stuck
def D.len : D → M D
  | .str y => do need (decide (y.length ≤ sizeLine)); .ok (.int y.length)
  | .lst l => .ok (.int l.length)
  | .tup l => .ok (.int l.length)
  | .scr l => .ok (.int l.length)
  | .dct l => .ok (.int l.length)
  | _ => stuck
def D.abs : D → M D
  | .int i => .ok (.int (if i < 0 then -i else i))
  | _ => stuck
def D.toInt : D → M D
  | .int i => .ok (.int i)
  | .bl k => .ok (.int (if k then 1 else 0))
  | .str a => (match PySem.intText? a with | some n => do need (decide (a.length ≤ 640)); .ok (.int n) | none => stuck)
  | _ => stuck
def D.max2 : D → D → M D
  | .int i, .int j => .ok (.int (if j > i then j else i))
  | _, _ => stuck
def D.min2 : D → D → M D
  | .int i, .int j => .ok (.int (if j < i then j else i))
  | _, _ => stuck
def D.bools : List D → Option (List Bool)
  | [] => some []
  | .bl b :: l => (D.bools l).map (b :: ·)
  | _ :: _ => none
def D.all : D → M D
  | .lst l => (match D.bools l with | some bs => .ok (.bl (bs.all id)) | none => stuck)
  | _ => stuck
def D.any : D → M D
  | .lst l => (match D.bools l with | some bs => .ok (.bl (bs.any id)) | none => stuck)
  | _ => stuck
def D.toList : D → M D
  | .lst l => .ok (.lst l)
  | .tup l => .ok (.lst l)
  | _ => stuck
def D.toTup : D → M D
  | .lst l => .ok (.tup l)
  | .tup l => .ok (.tup l)
  | _ => stuck
def D.strs : List D → Option (List Str)
  | [] => some []
  | .str b :: l => (D.strs l).map (b :: ·)
  | _ :: _ => none
def D.join (x y : D) : M D :=
  match x, y with
  | .str a, .lst l => (match D.strs l with
    | some ys => do need (decide ((ys.map (·.length)).sum + ys.length * a.length ≤ 16777216)); .ok (.str (Txt.join a ys))
    | none => stuck)
  | .str a, .tup l => (match D.strs l with
    | some ys => do need (decide ((ys.map (·.length)).sum + ys.length * a.length ≤ 16777216)); .ok (.str (Txt.join a ys))
    | none => stuck)
  | _, _ => stuck
def D.split (x y : D) : M D :=
  match x, y with
  | .str a, .str b => do need (!(b.length == 0) && decide (a.length + 2 ≤ sizeLine)); .ok (.lst ((Txt.split a b).map D.str))
  | _, _ => stuck
def Sl.rd : Sl → M D
  | .val d => .ok d
  | .own l => .ok (.lst l)
  | .ownd l => .ok (.dct l)
  | .ownu l => .ok (.dcu l)
  | .obj _ c l => .ok (.ins c l)
  | .bor d => .ok d
  | .tre _ c l => .ok (.obt c l)
  | _ => stuck
def Sl.vl : Sl → M D
  | .val d => .ok d
  | _ => stuck
def bD (m : M Bool) : M D := m >>= fun b => .ok (.bl b)
end DL

set_option Elab.async false
set_option linter.all false
set_option maxRecDepth 100000
set_option maxHeartbeats 4000000
namespace DL
open PySem PySem.Spec L2

abbrev rE (K : PySem.W.Frag) : Hp → Hp → V → D → Prop := fun F' _ v d => Rp K F' v d
abbrev rT (K : PySem.W.Frag) : Hp → Hp → V → D → Prop := fun F' H' v d => RpT K F' H' v d
abbrev rB : Hp → Hp → Bool → Bool → Prop := fun _ _ v d => v = d
abbrev rTL (K : PySem.W.Frag) : Hp → Hp → List V → List D → Prop := fun F' H' v d => RpTL K F' H' v d

theorem strOk_app {x y : Str} (hx : PyData.strOk x = true) (hy : PyData.strOk y = true) : PyData.strOk (x ++ y) = true := by
  unfold PyData.strOk at *
  show (x.cps ++ y.cps).all _ = true
  rw [Array.all_append, hx, hy] <;> rfl
theorem strOk_mem {x : Str} : PyData.strOk x = true ↔ ∀ c ∈ x.cps.toList, c < 0x110000 := by
  unfold PyData.strOk
  rw [← Array.all_toList, List.all_eq_true]
  exact ⟨fun h c hc => of_decide_eq_true (h c hc), fun h c hc => decide_eq_true (h c hc)⟩
theorem strOk_cut {z : Str} (h : PyData.strOk z = true) (lo hi : Option Int) : PyData.strOk (cutS z lo hi) = true := by
  rw [strOk_mem] at h ⊢
  intro c hc
  refine h c ?_
  unfold cutS at hc
  simp only at hc
  exact List.mem_of_mem_drop (List.mem_of_mem_take hc)
theorem strOk_one {z : Str} {c : Nat} (h : PyData.strOk z = true) (hc : c ∈ z.cps.toList) : PyData.strOk ⟨#[c]⟩ = true := by
  rw [strOk_mem] at h ⊢
  intro d hd
  have e : d = c := by simpa using hd
  subst e
  exact h d hc

section
variable {X : Cx} {E : St → XK} {G : List Sl} {a b c e : Expr} {ma mb mc : M D} {pos : Pos} {F H : Hp}

theorem DR.of {m : M D} (h : DE X E G e m) : DR X E G e m := by
  obtain ⟨t, p, w⟩ := h
  exact ⟨t, p, fun B σ F H Q s g q => w B σ F H Q s g (match m, q with
    | .ok d, q => fun F' H' v x r => q F' H' v x (.of r)
    | .error .stuck, q => q.elim
    | .error (.exc x), q => q)⟩
theorem GOk.at {B : Hp} {σ : St} {i : Nat} {s : Sl} (g : GOk X.K B G σ F H) (h : G[i]? = some s) : ∃ o, σ[i]? = some o ∧ SlOk X.K B F H o s := g.ok i s h
theorem dr_var {i : Nat} {s : Sl} {x : Str} (h : G[i]? = some s) (p : PE X (.Name x pos) (tVar i)) : DR X E G (.Name x pos) s.rd := by
  refine ⟨_, p, fun B σ F H Q sm g q => ?_⟩
  obtain ⟨o, h1, h2⟩ := g.ok i s h
  cases s with
  | un => exact q.elim
  | any => exact q.elim
  | val d =>
    obtain ⟨v, rfl, r⟩ := h2
    exact ⟨v, h1, q F H v (Ext.refl sm) (.of r)⟩
  | own l =>
    obtain ⟨a, xs, rfl, e2, _, _, r⟩ := h2
    exact ⟨_, h1, q F H _ (Ext.refl sm) (.own e2 r)⟩
  | ownd l =>
    obtain ⟨a, rfl, r, _, _⟩ := h2
    exact ⟨_, h1, q F H _ (Ext.refl sm) (.ownd r.r)⟩
  | ownu l =>
    obtain ⟨a, rfl, r, _, _⟩ := h2
    exact ⟨_, h1, q F H _ (Ext.refl sm) (.ownu r)⟩
  | obj a c l =>
    obtain ⟨dx, fs, rfl, e1, _, _, e2, r⟩ := h2
    exact ⟨_, h1, q F H _ (Ext.refl sm) (.obj e1 e2 r)⟩
  | bor d =>
    obtain ⟨v, rfl, r⟩ := h2
    exact ⟨v, h1, q F H _ (Ext.refl sm) (r.monoH g.sB)⟩
  | tre a c l =>
    obtain ⟨rfl, _, as, t⟩ := h2
    exact ⟨_, h1, q F H _ (Ext.refl sm) (t.rd.monoH g.sB)⟩
  | exn a d l => exact q.elim
theorem de_var {i : Nat} {s : Sl} {x : Str} (h : G[i]? = some s) (p : PE X (.Name x pos) (tVar i)) : DE X E G (.Name x pos) s.vl := by
  refine ⟨_, p, fun B σ F H Q sm g q => ?_⟩
  obtain ⟨o, h1, h2⟩ := g.ok i s h
  cases s with
  | val d =>
    obtain ⟨v, rfl, r⟩ := h2
    exact ⟨v, h1, q F H v (Ext.refl sm) r⟩
  | _ => exact q.elim
theorem de_val {i : Nat} {d : D} {x : Str} (h : G[i]? = some (.val d)) (p : PE X (.Name x pos) (tVar i)) : DE X E G (.Name x pos) (.ok d) := de_var h p
theorem de_c {v : V} {d : D} (p : PE X e (tC v)) (h : ∀ F, Rp X.K F v d) : DE X E G e (.ok d) :=
  ⟨_, p, fun B σ F H Q s g q => q F H v (Ext.refl s) (h F)⟩
theorem de_int {i j pos} : DE X E G (.Constant (.int i) j pos) (.ok (.int i)) := de_c pe_int fun _ => .int i
theorem de_bl {i j pos} : DE X E G (.Constant (.bool i) j pos) (.ok (.bl i)) := de_c pe_bl fun _ => .bl i
theorem de_non {j pos} : DE X E G (.Constant .none j pos) (.ok .non) := de_c pe_non fun _ => .non
theorem de_str {x : Str} {j pos} (h : PyData.strOk x = true) : DE X E G (.Constant (.str x) j pos) (.ok (.str x)) := de_c pe_str fun _ => .str x h
def Op2 (K : PySem.W.Frag) (f : D → D → M D) (r : R2) : Prop := ∀ (E : XK) (F H : Hp) (v u : V) (x y : D) (Q : VK), Same F H → RpT K F H v x → RpT K F H u y → WpG K E (rE K) (f x y) F H Q → r v u H Q
theorem two {ta tb : TE} {r : R2} {f : D → D → M D} (wa : ∀ B σ F H Q, Same F H → GOk X.K B G σ F H → WpG X.K (E σ) (rT X.K) ma F H Q → ta σ H Q) (wb : ∀ B σ F H Q, Same F H → GOk X.K B G σ F H → WpG X.K (E σ) (rT X.K) mb F H Q → tb σ H Q)
    (hf : Op2 X.K f r) : ∀ B σ F H Q, Same F H → GOk X.K B G σ F H → WpG X.K (E σ) (rE X.K) (ma >>= fun x => mb >>= fun y => f x y) F H Q → tOp r ta tb σ H Q := fun B σ F H Q s g q =>
  wa B σ F H _ s g (q.bind fun x F1 H1 v x1 r1 q1 => wb B σ F1 H1 _ x1.sFH (g.ext x1) (q1.bind fun y F2 H2 u x2 r2 q2 => hf (E σ) F2 H2 v u x y Q x2.sFH (r1.ext x2) r2 q2))
theorem de_op {op : Operator} {r : R2} {f : D → D → M D} (ho : OpR X (binaryOp op) r) (hf : Op2 X.K f r) (ha : DR X E G a ma) (hb : DR X E G b mb) : DE X E G (.BinOp a op b pos) (ma >>= fun x => mb >>= fun y => f x y) := by
  obtain ⟨ta, pa, wa⟩ := ha
  obtain ⟨tb, pb, wb⟩ := hb
  exact ⟨_, pe_op ho pa pb, two wa wb hf⟩

theorem new_lst {E₁ : XK} {xs : List V} {ds : List D} {Q : VK} (s : Same F H) (r : RpL X.K F xs ds) (q : WpG X.K E₁ (rE X.K) (.ok (.lst ds)) F H Q) : ∀ p, H p = none → Q (.ref p) (upd H p (.lst xs)) := fun p hp =>
  q _ _ _ (Ext.new s hp) (.lst upd_same (r.mono (Ext.new s hp).sF))
theorem new_tup {E₁ : XK} {xs : List V} {ds : List D} {Q : VK} (s : Same F H) (r : RpL X.K F xs ds) (q : WpG X.K E₁ (rE X.K) (.ok (.tup ds)) F H Q) : NewT H xs Q := fun p o hp c d =>
  q _ _ _ (Ext.new s hp) (.tup (plT_new c d) (r.mono (Ext.new s hp).sF))
theorem RpT.rp_tup {v : V} {l : List D} {K : PySem.W.Frag} (h : RpT K F H v (.tup l)) : Rp K F v (.tup l) := by
  cases h with
  | of h => exact h

def rAddAll (K : PySem.W.Frag) : R2 := fun x y H Q => rI0 (fun i j => .int (i + j)) x y H Q ∨ (∃ i j, x = .str i ∧ y = .str j ∧ i.length + j.length ≤ sizeLine ∧ Q (.str (i ++ j)) H) ∨ rCat x y H Q ∨ rCatP K x y H Q
theorem op_addAll : OpR X (binaryOp .Add) (rAddAll X.K) := op_add.or (op_add_str.or (op_cat.or op_catP))
theorem op2_add : Op2 X.K D.add (rAddAll X.K) := fun E F H v u x y Q s rx ry q => by
  cases x with
  | int i => cases y with
    | int j => exact .inl ⟨i, j, rx.int, ry.int, q F H _ (Ext.refl s) (.int _)⟩
    | _ => exact q.elim
  | str i => cases y with
    | str j =>
      obtain ⟨c, q⟩ := q.need
      exact .inr (.inl ⟨i, j, rx.str.1, ry.str.1, of_decide_eq_true c, q F H _ (Ext.refl s) (.str _ (strOk_app rx.str.2 ry.str.2))⟩)
    | _ => exact q.elim
  | lst l => cases y with
    | lst m =>
      obtain ⟨c, q⟩ := q.need
      obtain ⟨p, xs, rfl, e1, r1⟩ := rx.lst s
      obtain ⟨p2, ys, rfl, e2, r2⟩ := ry.lst s
      exact .inr (.inr (.inl ⟨p, p2, xs, ys, rfl, rfl, e1, e2, by rw [r1.length, r2.length]; exact of_decide_eq_true c, new_lst s (r1.append r2) q⟩))
    | _ => exact q.elim
  | tup l => cases y with
    | tup m =>
      obtain ⟨c, q⟩ := q.need
      obtain ⟨p, xs, rfl, e1, r1⟩ := rx.tup s
      obtain ⟨p2, ys, rfl, e2, r2⟩ := ry.tup s
      refine .inr (.inr (.inr ⟨p, p2, xs, ys, rfl, rfl, e1, e2, by rw [r1.length, r2.length]; exact of_decide_eq_true c, fun h0 => ?_, fun _ h0 => ?_, fun _ _ => new_tup s (r1.append r2) q⟩))
      · subst h0
        cases r1
        exact q F H _ (Ext.refl s) ry.rp_tup
      · subst h0
        cases r2
        rw [List.append_nil] at q
        exact q F H _ (Ext.refl s) rx.rp_tup
    | _ => exact q.elim
  | _ => cases y <;> exact q.elim
theorem de_add (ha : DR X E G a ma) (hb : DR X E G b mb) : DE X E G (.BinOp a .Add b pos) (ma >>= fun x => mb >>= fun y => D.add x y) := de_op op_addAll op2_add ha hb
theorem de_mul (ha : DR X E G a ma) (hb : DR X E G b mb) : DE X E G (.BinOp a .Mult b pos) (ma >>= fun x => mb >>= fun y => D.mul x y) := de_op op_mul (fun E F H v u x y Q s rx ry q => by
  cases x with
  | int i => cases y with
    | int j =>
      obtain ⟨c, q⟩ := q.need
      have c := of_decide_eq_true c
      exact ⟨i, j, rx.int, ry.int, c, q F H _ (Ext.refl s) (.int _)⟩
    | _ => exact q.elim
  | _ => cases y <;> exact q.elim) ha hb
theorem de_fdiv (ha : DR X E G a ma) (hb : DR X E G b mb) : DE X E G (.BinOp a .FloorDiv b pos) (ma >>= fun x => mb >>= fun y => D.fdiv x y) := de_op op_fdiv (fun E F H v u x y Q s rx ry q => by
  cases x with
  | int i => cases y with
    | int j =>
      obtain ⟨c, q⟩ := q.need
      have c := of_decide_eq_true c
      exact ⟨i, j, rx.int, ry.int, c, q F H _ (Ext.refl s) (.int _)⟩
    | _ => exact q.elim
  | _ => cases y <;> exact q.elim) ha hb
theorem de_mod (ha : DR X E G a ma) (hb : DR X E G b mb) : DE X E G (.BinOp a .Mod b pos) (ma >>= fun x => mb >>= fun y => D.mod x y) := de_op op_mod (fun E F H v u x y Q s rx ry q => by
  cases x with
  | int i => cases y with
    | int j =>
      obtain ⟨c, q⟩ := q.need
      have c := of_decide_eq_true c
      exact ⟨i, j, rx.int, ry.int, c, q F H _ (Ext.refl s) (.int _)⟩
    | _ => exact q.elim
  | _ => cases y <;> exact q.elim) ha hb
theorem de_pow (ha : DR X E G a ma) (hb : DR X E G b mb) : DE X E G (.BinOp a .Pow b pos) (ma >>= fun x => mb >>= fun y => D.pow x y) := de_op op_pow (fun E F H v u x y Q s rx ry q => by
  cases x with
  | int i => cases y with
    | int j =>
      obtain ⟨c, q⟩ := q.need
      have c := of_decide_eq_true c
      exact ⟨i, j, rx.int, ry.int, c, q F H _ (Ext.refl s) (.int _)⟩
    | _ => exact q.elim
  | _ => cases y <;> exact q.elim) ha hb
theorem de_neg (ha : DR X E G a ma) : DE X E G (.UnaryOp .USub a pos) (ma >>= fun x => D.neg x) := by
  obtain ⟨ta, pa, wa⟩ := ha
  refine ⟨_, pe_un un_neg pa, fun B σ F H Q s g q => wa B σ F H _ s g (q.bind fun x F1 H1 v x1 r1 q1 => ?_)⟩
  cases x with
  | int i => exact ⟨i, r1.int, q1 F1 H1 _ (Ext.refl x1.sFH) (.int _)⟩
  | _ => exact q1.elim

def rCmp (K : PySem.W.Frag) (f : D → D → M Bool) (r : R2) : Prop := Op2 K (fun x y => bD (f x y)) r
theorem cmp_lt : rCmp X.K D.lt (fun x y H Q => rI0 (fun i j => .bl (decide (i < j))) x y H Q ∨ (∃ i j, x = .str i ∧ y = .str j ∧ Q (.bl (decide (i.cps.toList < j.cps.toList))) H)) := fun E F H v u x y Q s rx ry q => by
  cases x with
  | int i => cases y with
    | int j => exact .inl ⟨i, j, rx.int, ry.int, q F H _ (Ext.refl s) (.bl _)⟩
    | _ => exact q.elim
  | str i => cases y with
    | str j => exact .inr ⟨i, j, rx.str.1, ry.str.1, q F H _ (Ext.refl s) (.bl _)⟩
    | _ => exact q.elim
  | _ => cases y <;> exact q.elim
theorem cmp_le : rCmp X.K D.le (rI0 fun i j => .bl (decide (i ≤ j))) := fun E F H v u x y Q s rx ry q => by
  cases x with
  | int i => cases y with
    | int j => exact ⟨i, j, rx.int, ry.int, q F H _ (Ext.refl s) (.bl _)⟩
    | _ => exact q.elim
  | _ => cases y <;> exact q.elim
theorem cmp_gt : rCmp X.K D.gt (rI0 fun i j => .bl (decide (j < i))) := fun E F H v u x y Q s rx ry q => by
  cases x with
  | int i => cases y with
    | int j => exact ⟨i, j, rx.int, ry.int, q F H _ (Ext.refl s) (.bl _)⟩
    | _ => exact q.elim
  | _ => cases y <;> exact q.elim
theorem cmp_ge : rCmp X.K D.ge (rI0 fun i j => .bl (decide (j ≤ i))) := fun E F H v u x y Q s rx ry q => by
  cases x with
  | int i => cases y with
    | int j => exact ⟨i, j, rx.int, ry.int, q F H _ (Ext.refl s) (.bl _)⟩
    | _ => exact q.elim
  | _ => cases y <;> exact q.elim
theorem and2 {p q : Bool} (h : (p && q) = true) : p = true ∧ q = true := Bool.and_eq_true_iff.mp h
theorem cmp_eq : rCmp X.K D.eq (rEqD X.K) := fun E F H v u x y Q s rx ry q => by
  have q' : WpG X.K E (rE X.K) (need (x.shp 20 && y.shp 20) >>= fun _ => .ok (.bl (D.beq x y))) F H Q := by
    have e : (bD (D.eq x y)) = (need (x.shp 20 && y.shp 20) >>= fun _ => .ok (.bl (D.beq x y))) := by
      unfold bD D.eq need
      cases (x.shp 20 && y.shp 20) <;> rfl
    rw [← e]
    exact q
  obtain ⟨c, q2⟩ := q'.need
  obtain ⟨c1, c2⟩ := and2 c
  obtain ⟨d1, l1⟩ := rx.dp s c1
  obtain ⟨d2, l2⟩ := ry.dp s c2
  refine ⟨_, _, d1, d2, shaped_of (by decide) c1 l1, shaped_of (by decide) c2 l2, ?_⟩
  rw [D.beq_eq c1 c2]
  exact q2 F H _ (Ext.refl s) (.bl _)
theorem cmp_ne : rCmp X.K D.ne (rNeD X.K) := fun E F H v u x y Q s rx ry q => by
  have q' : WpG X.K E (rE X.K) (need (x.shp 20 && y.shp 20) >>= fun _ => .ok (.bl (!D.beq x y))) F H Q := by
    have e : (bD (D.ne x y)) = (need (x.shp 20 && y.shp 20) >>= fun _ => .ok (.bl (!D.beq x y))) := by
      unfold bD D.ne D.eq need
      cases (x.shp 20 && y.shp 20) <;> rfl
    rw [← e]
    exact q
  obtain ⟨c, q2⟩ := q'.need
  obtain ⟨c1, c2⟩ := and2 c
  obtain ⟨d1, l1⟩ := rx.dp s c1
  obtain ⟨d2, l2⟩ := ry.dp s c2
  refine ⟨_, _, d1, d2, shaped_of (by decide) c1 l1, shaped_of (by decide) c2 l2, ?_⟩
  rw [D.beq_eq c1 c2]
  exact q2 F H _ (Ext.refl s) (.bl _)
theorem de_cmp {op : CmpOp} {r : R2} {f : D → D → M Bool} (ho : OpR X (compareOp op) r) (hf : rCmp X.K f r) (ha : DR X E G a ma) (hb : DR X E G b mb) (hm : behindInMarks op b = false) : DE X E G (.Compare a [op] [b] pos) (ma >>= fun x => mb >>= fun y => bD (f x y)) := by
  obtain ⟨ta, pa, wa⟩ := ha
  obtain ⟨tb, pb, wb⟩ := hb
  exact ⟨_, pe_cmpR ho pa pb hm, two wa wb hf⟩
theorem WpG.bool {E₁ : XK} {m : M Bool} {Q : Bool → Hp → Prop} {K : PySem.W.Frag} (q : WpG K E₁ rB m F H Q) : WpG K E₁ (rE K) (bD m) F H (fun x H' => ∃ k, x = .bl k ∧ Q k H') := by
  cases m with
  | ok c =>
    intro F' H' v x r
    cases r
    exact ⟨c, rfl, q F' H' c x rfl⟩
  | error e => cases e with
    | stuck => exact q
    | exc y => exact q
theorem DT.ofE {m : M Bool} {t : TE} {tt : TT} (pt : PT X e tt) (w : ∀ B σ F H Q, Same F H → GOk X.K B G σ F H → WpG X.K (E σ) (rE X.K) (bD m) F H Q → t σ H Q) (h : ∀ σ H Q, t σ H (fun x H' => ∃ k, x = .bl k ∧ Q k H') → tt σ H Q) : DT X E G e m :=
  ⟨tt, pt, fun B σ F H Q s g q => h σ H Q (w B σ F H _ s g q.bool)⟩
theorem two_b {f : D → D → M Bool} : (ma >>= fun x => mb >>= fun y => bD (f x y)) = bD (ma >>= fun x => mb >>= fun y => f x y) := by
  cases ma with
  | error e => rfl
  | ok x => cases mb <;> rfl
theorem dt_cmp {op : CmpOp} {r : R2} {f : D → D → M Bool} (ho : OpR X (compareOp op) r) (hf : rCmp X.K f r) (ha : DR X E G a ma) (hb : DR X E G b mb) (hm : behindInMarks op b = false) : DT X E G (.Compare a [op] [b] pos) (ma >>= fun x => mb >>= fun y => f x y) := by
  obtain ⟨ta, pa, wa⟩ := ha
  obtain ⟨tb, pb, wb⟩ := hb
  refine DT.ofE (t := tOp r ta tb) (pt_cmpR ho pa pb hm) ?_ (fun _ _ _ h => h)
  rw [← two_b]
  exact two wa wb hf
def rInDct : R2 := fun x y H Q => ∃ a o, y = .ref a ∧ DGet H a x o ∧ Q (.bl o.isSome) H
theorem op_inDct (hu : X.A.units + 1 < cLine) : OpR X (compareOp .In) rInDct := by
  intro pins s σ H x y v u Q I rx ry h
  obtain ⟨a, o, rfl, g, q⟩ := h
  obtain rfl : u = Value.ref a := ry
  exact d_in hu I g rx fun s3 I3 => ⟨.bl o.isSome, H, I3, rfl, q⟩
def rNinDct : R2 := fun x y H Q => ∃ a o, y = .ref a ∧ DGet H a x o ∧ Q (.bl (!o.isSome)) H
theorem op_ninDct (hu : X.A.units + 1 < cLine) : OpR X (compareOp .NotIn) rNinDct := by
  intro pins s σ H x y v u Q I rx ry h
  obtain ⟨a, o, rfl, g, q⟩ := h
  obtain rfl : u = Value.ref a := ry
  exact d_notIn hu I g rx fun s3 I3 => ⟨.bl (!o.isSome), H, I3, rfl, q⟩
def rInT (K : PySem.W.Frag) : R2 := fun x y H Q => ∃ d ds, Dp K H x d ∧ Dp K H y (.tuple ds) ∧ SeqAt.shaped d = true ∧ SeqAt.shaped (.tuple ds) = true ∧ Q (.bl (ds.any fun z => PyData.eqv z d)) H
def rNinT (K : PySem.W.Frag) : R2 := fun x y H Q => ∃ d ds, Dp K H x d ∧ Dp K H y (.tuple ds) ∧ SeqAt.shaped d = true ∧ SeqAt.shaped (.tuple ds) = true ∧ Q (.bl (!ds.any fun z => PyData.eqv z d)) H
theorem room_inT {A : Around} {ds : List PyData} {d : PyData} (sd : SeqAt.shaped d = true) (hu : A.units + 65 < cLine) : A.units + 1 + min (PyData.depthAll ds) d.depth < cLine := by
  have h1 := SeqAt.depth_of_shaped sd
  have h2 : min (PyData.depthAll ds) d.depth ≤ d.depth := Nat.min_le_right _ _
  omega
theorem op_inT (hu : X.A.units + 65 < cLine) : OpR X (compareOp .In) (rInT X.K) := by
  intro pins s σ H x y v u Q I rx ry h
  obtain ⟨d, ds, hd, he, sd, se, q⟩ := h
  obtain ⟨as, r1⟩ := Dp.reads I d x v hd rx
  obtain ⟨bs, r2⟩ := Dp.reads I (.tuple ds) y u he ry
  exact SeqAt.in_tuple_reads r2 r1 (SeqAt.canLay_of_shaped se) (SeqAt.canLay_of_shaped sd) (room_inT sd hu) ⟨.bl _, H, I, rfl, q⟩
theorem op_ninT (hu : X.A.units + 65 < cLine) : OpR X (compareOp .NotIn) (rNinT X.K) := by
  intro pins s σ H x y v u Q I rx ry h
  obtain ⟨d, ds, hd, he, sd, se, q⟩ := h
  obtain ⟨as, r1⟩ := Dp.reads I d x v hd rx
  obtain ⟨bs, r2⟩ := Dp.reads I (.tuple ds) y u he ry
  exact SeqAt.notIn_tuple_reads r2 r1 (SeqAt.canLay_of_shaped se) (SeqAt.canLay_of_shaped sd) (room_inT sd hu) ⟨.bl _, H, I, rfl, q⟩
theorem any_py {x : D} {n : Nat} (hx : x.shp n = true) : ∀ {l : List D}, l.all (D.shp n) = true → ((D.pyL l).any fun z => PyData.eqv z x.py) = l.any fun z => D.beq z x
  | [], _ => by simp [D.pyL]
  | d :: l, h => by
    rw [List.all_cons, Bool.and_eq_true] at h
    simp only [D.pyL, List.any_cons]
    rw [D.beq_eq h.1 hx, any_py hx h.2]
theorem keyV {v : V} {k : D} {K : PySem.W.Frag} (h : k.isKey = true) (r : RpT K F H v k) : ∃ q : Key, v = kV q ∧ k = kD q := by
  cases k with
  | int i => exact ⟨.inl i, r.int, rfl⟩
  | str x => exact ⟨.inr x, r.str.1, rfl⟩
  | _ => cases h
theorem beq_key (p q : Key) : D.beq (kD p) (kD q) = decide (p = q) := by
  cases p with
  | inl i => cases q with
    | inl j =>
      show D.beq (.int i) (.int j) = _
      simp [D.beq]
    | inr y =>
      show D.beq (.int i) (.str y) = _
      simp [D.beq]
  | inr x => cases q with
    | inl j =>
      show D.beq (.str x) (.int j) = _
      simp [D.beq]
    | inr y =>
      show D.beq (.str x) (.str y) = _
      simp [D.beq]
theorem look_val {K : PySem.W.Frag} (q : Key) : ∀ {kvs : List (Key × V)} {l : List (D × D)}, kvs.map (fun q => kD q.1) = l.map (·.1) → RpL K F (kvs.map (·.2)) (l.map (·.2)) →
    (valV kvs q = none ∧ D.look l (kD q) = none) ∨ ∃ v d, valV kvs q = some v ∧ D.look l (kD q) = some d ∧ Rp K F v d
  | [], [], _, _ => .inl ⟨rfl, rfl⟩
  | [], _ :: _, h, _ => by simp at h
  | _ :: _, [], h, _ => by simp at h
  | (k, v) :: kvs, (k2, d) :: l, h, r => by
    have h1 : kD k = k2 ∧ kvs.map (fun q => kD q.1) = l.map (·.1) := by simpa using h
    obtain ⟨rfl, h2⟩ := h1
    have r' : RpL K F (v :: kvs.map (·.2)) (d :: l.map (·.2)) := r
    cases r' with
    | cons r1 r2 =>
      by_cases e : k = q
      · subst e
        refine .inr ⟨v, d, ?_, ?_, r1⟩
        · simp [valV]
        · simp [D.look, List.find?_cons, beq_key]
      · have ih := look_val q h2 r2
        have e1 : valV ((k, v) :: kvs) q = valV kvs q := by simp [valV, List.find?_cons, e]
        have e2 : D.look ((kD k, d) :: l) (kD q) = D.look l (kD q) := by simp [D.look, List.find?_cons, beq_key, e]
        rw [e1, e2]
        exact ih
def rInAll (K : PySem.W.Frag) : R2 := fun x y H Q => (∃ (c : Nat) (z : Str), x = .str ⟨#[c]⟩ ∧ y = .str z ∧ Q (.bl (decide (c ∈ z.cps.toList))) H) ∨ (∃ i j, x = .str i ∧ y = .str j ∧ Q (.bl (!(Builtin.Str.occurrences j i 0 j.length 1).isEmpty)) H) ∨ rInD K x y H Q ∨ rInT K x y H Q ∨ rInDct x y H Q
theorem op_inAll (hu : X.A.units + 70 < cLine) : OpR X (compareOp .In) (rInAll X.K) := op_in_sign.or (op_in_str.or ((op_inD (by omega)).or ((op_inT (by omega)).or (op_inDct (by omega)))))
theorem cmp_in : rCmp X.K D.mem (rInAll X.K) := fun E F H v u x y Q s rx ry q => by
  cases y with
  | str z =>
    cases x with
    | str y =>
      obtain ⟨⟨cps⟩⟩ := y
      rcases cps with _ | ⟨c, _ | ⟨c2, r⟩⟩
      · exact .inr (.inl ⟨_, z, rx.str.1, ry.str.1, q F H _ (Ext.refl s) (.bl _)⟩)
      · exact .inl ⟨c, z, rx.str.1, ry.str.1, q F H _ (Ext.refl s) (.bl _)⟩
      · exact .inr (.inl ⟨_, z, rx.str.1, ry.str.1, q F H _ (Ext.refl s) (.bl _)⟩)
    | _ => exact q.elim
  | lst l =>
    have q' : WpG X.K E (rE X.K) (need (x.shp 19 && l.all (D.shp 19)) >>= fun _ => .ok (.bl (l.any fun z => D.beq z x))) F H Q := by
      have e : bD (D.mem x (.lst l)) = (need (x.shp 19 && l.all (D.shp 19)) >>= fun _ => .ok (.bl (l.any fun z => D.beq z x))) := by
        unfold bD D.mem need
        simp only
        cases (x.shp 19 && l.all (D.shp 19)) <;> rfl
      rw [← e]
      exact q
    obtain ⟨c, q2⟩ := q'.need
    obtain ⟨c1, c2⟩ := and2 c
    obtain ⟨d1, l1⟩ := rx.dp s c1
    have c3 : (D.lst l).shp 20 = true := c2
    obtain ⟨d2, l2⟩ := ry.dp s c3
    have sh := shaped_of (by decide) c3 l2
    simp only [D.py] at d2 sh
    refine .inr (.inr (.inl ⟨_, _, d1, d2, shaped_of (by decide) c1 l1, sh, ?_⟩))
    rw [any_py c1 c2]
    exact q2 F H _ (Ext.refl s) (.bl _)
  | tup l =>
    have q' : WpG X.K E (rE X.K) (need (x.shp 19 && l.all (D.shp 19)) >>= fun _ => .ok (.bl (l.any fun z => D.beq z x))) F H Q := by
      have e : bD (D.mem x (.tup l)) = (need (x.shp 19 && l.all (D.shp 19)) >>= fun _ => .ok (.bl (l.any fun z => D.beq z x))) := by
        unfold bD D.mem need
        simp only
        cases (x.shp 19 && l.all (D.shp 19)) <;> rfl
      rw [← e]
      exact q
    obtain ⟨c, q2⟩ := q'.need
    obtain ⟨c1, c2⟩ := and2 c
    obtain ⟨d1, l1⟩ := rx.dp s c1
    have c3 : (D.tup l).shp 20 = true := c2
    obtain ⟨d2, l2⟩ := ry.dp s c3
    have sh := shaped_of (by decide) c3 l2
    simp only [D.py] at d2 sh
    refine .inr (.inr (.inr (.inl ⟨_, _, d1, d2, shaped_of (by decide) c1 l1, sh, ?_⟩)))
    rw [any_py c1 c2]
    exact q2 F H _ (Ext.refl s) (.bl _)
  | dct l =>
    have q' : WpG X.K E (rE X.K) (need x.isKey >>= fun _ => .ok (.bl (D.look l x).isSome)) F H Q := by
      have e : bD (D.mem x (.dct l)) = (need x.isKey >>= fun _ => .ok (.bl (D.look l x).isSome)) := by
        unfold bD D.mem need
        simp only
        cases x.isKey <;> rfl
      rw [← e]
      exact q
    obtain ⟨c, q2⟩ := q'.need
    obtain ⟨k, rfl, rfl⟩ := keyV c rx
    obtain ⟨a, rfl, kvs, e1, e2, r2⟩ := ry.dct s
    refine .inr (.inr (.inr (.inr ⟨a, valV kvs k, rfl, DGet.kr e1, ?_⟩)))
    rcases look_val k e2 r2 with ⟨h1, h2⟩ | ⟨v, d, h1, h2, _⟩
    · rw [h2] at q2
      rw [h1]
      exact q2 F H _ (Ext.refl s) (.bl _)
    · rw [h2] at q2
      rw [h1]
      exact q2 F H _ (Ext.refl s) (.bl _)
  | _ => exact q.elim
end
end DL

set_option Elab.async false
set_option linter.all false
set_option maxRecDepth 100000
set_option maxHeartbeats 4000000
namespace DL
open PySem PySem.Spec L2
section
variable {X : Cx} {E : St → XK} {G : List Sl} {a b c e : Expr} {ma mb mc : M D} {ta tb : M Bool} {pos : Pos} {F H : Hp}
theorem rNinAll_op (hu : X.A.units + 70 < cLine) : OpR X (compareOp .NotIn) (fun x y H Q => (∃ (c : Nat) (z : Str), x = .str ⟨#[c]⟩ ∧ y = .str z ∧ Q (.bl (!decide (c ∈ z.cps.toList))) H) ∨ (∃ i j, x = .str i ∧ y = .str j ∧ Q (.bl (!(!(Builtin.Str.occurrences j i 0 j.length 1).isEmpty))) H) ∨ rNotInD X.K x y H Q ∨ rNinT X.K x y H Q ∨ rNinDct x y H Q) :=
  op_notIn_sign.or (op_notin_str.or ((op_notInD (by omega)).or ((op_ninT (by omega)).or (op_ninDct (by omega)))))
theorem cmp_nin : rCmp X.K D.nmem (fun x y H Q => (∃ (c : Nat) (z : Str), x = .str ⟨#[c]⟩ ∧ y = .str z ∧ Q (.bl (!decide (c ∈ z.cps.toList))) H) ∨ (∃ i j, x = .str i ∧ y = .str j ∧ Q (.bl (!(!(Builtin.Str.occurrences j i 0 j.length 1).isEmpty))) H) ∨ rNotInD X.K x y H Q ∨ rNinT X.K x y H Q ∨ rNinDct x y H Q) := fun E F H v u x y Q s rx ry q => by
  cases y with
  | str z =>
    cases x with
    | str y =>
      obtain ⟨⟨cps⟩⟩ := y
      rcases cps with _ | ⟨c, _ | ⟨c2, r⟩⟩
      · exact .inr (.inl ⟨_, z, rx.str.1, ry.str.1, q F H _ (Ext.refl s) (.bl _)⟩)
      · exact .inl ⟨c, z, rx.str.1, ry.str.1, q F H _ (Ext.refl s) (.bl _)⟩
      · exact .inr (.inl ⟨_, z, rx.str.1, ry.str.1, q F H _ (Ext.refl s) (.bl _)⟩)
    | _ => exact q.elim
  | lst l =>
    have q' : WpG X.K E (rE X.K) (need (x.shp 19 && l.all (D.shp 19)) >>= fun _ => .ok (.bl (!l.any fun z => D.beq z x))) F H Q := by
      have e : bD (D.nmem x (.lst l)) = (need (x.shp 19 && l.all (D.shp 19)) >>= fun _ => .ok (.bl (!l.any fun z => D.beq z x))) := by
        unfold bD D.nmem D.mem need
        simp only
        cases (x.shp 19 && l.all (D.shp 19)) <;> rfl
      rw [← e]
      exact q
    obtain ⟨c, q2⟩ := q'.need
    obtain ⟨c1, c2⟩ := and2 c
    obtain ⟨d1, l1⟩ := rx.dp s c1
    have c3 : (D.lst l).shp 20 = true := c2
    obtain ⟨d2, l2⟩ := ry.dp s c3
    have sh := shaped_of (by decide) c3 l2
    simp only [D.py] at d2 sh
    refine .inr (.inr (.inl ⟨_, _, d1, d2, shaped_of (by decide) c1 l1, sh, ?_⟩))
    rw [any_py c1 c2]
    exact q2 F H _ (Ext.refl s) (.bl _)
  | tup l =>
    have q' : WpG X.K E (rE X.K) (need (x.shp 19 && l.all (D.shp 19)) >>= fun _ => .ok (.bl (!l.any fun z => D.beq z x))) F H Q := by
      have e : bD (D.nmem x (.tup l)) = (need (x.shp 19 && l.all (D.shp 19)) >>= fun _ => .ok (.bl (!l.any fun z => D.beq z x))) := by
        unfold bD D.nmem D.mem need
        simp only
        cases (x.shp 19 && l.all (D.shp 19)) <;> rfl
      rw [← e]
      exact q
    obtain ⟨c, q2⟩ := q'.need
    obtain ⟨c1, c2⟩ := and2 c
    obtain ⟨d1, l1⟩ := rx.dp s c1
    have c3 : (D.tup l).shp 20 = true := c2
    obtain ⟨d2, l2⟩ := ry.dp s c3
    have sh := shaped_of (by decide) c3 l2
    simp only [D.py] at d2 sh
    refine .inr (.inr (.inr (.inl ⟨_, _, d1, d2, shaped_of (by decide) c1 l1, sh, ?_⟩)))
    rw [any_py c1 c2]
    exact q2 F H _ (Ext.refl s) (.bl _)
  | dct l =>
    have q' : WpG X.K E (rE X.K) (need x.isKey >>= fun _ => .ok (.bl (!(D.look l x).isSome))) F H Q := by
      have e : bD (D.nmem x (.dct l)) = (need x.isKey >>= fun _ => .ok (.bl (!(D.look l x).isSome))) := by
        unfold bD D.nmem D.mem need
        simp only
        cases x.isKey <;> rfl
      rw [← e]
      exact q
    obtain ⟨c, q2⟩ := q'.need
    obtain ⟨k, rfl, rfl⟩ := keyV c rx
    obtain ⟨a, rfl, kvs, e1, e2, r2⟩ := ry.dct s
    refine .inr (.inr (.inr (.inr ⟨a, valV kvs k, rfl, DGet.kr e1, ?_⟩)))
    rcases look_val k e2 r2 with ⟨h1, h2⟩ | ⟨v, d, h1, h2, _⟩
    · rw [h2] at q2
      rw [h1]
      exact q2 F H _ (Ext.refl s) (.bl _)
    · rw [h2] at q2
      rw [h1]
      exact q2 F H _ (Ext.refl s) (.bl _)
  | _ => exact q.elim
def D.isN (x y : D) : M Bool := match y with
  | .non => .ok x.isNon
  | _ => stuck
def D.notN (x y : D) : M Bool := match y with
  | .non => .ok (!x.isNon)
  | _ => stuck
def TruW (K : PySem.W.Frag) (v : V) (H : Hp) (k : Bool) : Prop := TruV K v H k ∨ ∃ p kvs, v = .ref p ∧ Rd H p (.dK kvs) ∧ k = !kvs.isEmpty
theorem tru_okW {X : Cx} : TruR X (fun x H Q => ∃ k, TruW X.K x H k ∧ Q k H) := by
  intro pins s σ H x v Q I rx h
  obtain ⟨k, e, q⟩ := h
  rcases e with e | ⟨p, kvs, rfl, e, rfl⟩
  · exact tru_ok pins s σ H x v Q I rx ⟨k, e, q⟩
  · cases rx
    exact d_truth I e fun s' I' => ⟨H, I', q⟩
theorem pt_truthW {X : Cx} {a : Expr} {ta : TE} (ha : PE X a ta) (he : ∀ whole, isTrue a X.env whole = (do let v ← whole; standAt a.pos; holding [v] (truthy v))) :
    PT X a (fun σ H Q => ta σ H fun x H' => ∃ k, TruW X.K x H' k ∧ Q k H') := by
  refine ⟨fun pins s σ H Q I h => ?_⟩
  exact PyProof.Rows.isTrue_plain (thn (ha.run pins s σ H _ I h) fun v s1 ⟨x, H1, I1, r1, q1⟩ => tru_okW pins s1 σ H1 x v Q I1 r1 q1) (he _)
theorem call_lenR : CallR X (.builtin "len") (fun xs H Q => ∃ a kvs, xs = [V.ref a] ∧ Rd H a (.dK kvs) ∧ Q (.int kvs.length) H) := by
  intro pins s σ H xs us Q I r h
  obtain ⟨a, kvs, rfl, ha, q⟩ := h
  obtain ⟨u, rfl, ru⟩ := vals1 r
  cases ru
  exact d_len I ha fun t s' I' => ⟨.int kvs.length, H, I', ⟨t, rfl⟩, q⟩
section
variable {X : Cx} {a b : Expr} {ta tb : TE} {rest : List Expr} {pos : Pos}
theorem pe_andW (ha : PE X a ta) (hb : PE X (.BoolOp .And (b :: rest) pos) tb) : PE X (.BoolOp .And (a :: b :: rest) pos) (fun σ H Q => ta σ H fun x H1 => ∃ k, TruW X.K x H1 k ∧ if k = true then tb σ H1 Q else Q x H1) := by
  refine ⟨fun pins s σ H Q I h => ?_⟩
  refine PyProof.Rows.BoolOp_and (thn (ha.run pins s σ H _ I h) fun v s1 ⟨x, H1, I1, r1, q1⟩ => ?_)
  obtain ⟨k, e, q1⟩ := q1
  refine thn (tru_okW pins s1 σ H1 x v (fun c H2 => c = k ∧ H2 = H1) I1 r1 ⟨k, e, rfl, rfl⟩) fun c s2 hc => ?_
  obtain ⟨H2, I2, e1, e2⟩ := hc
  rw [e2] at I2
  rw [← e1] at q1
  cases c with
  | true => exact hb.run pins s2 σ H1 Q I2 q1
  | false => exact ⟨x, H1, I2, r1, q1⟩
end
theorem tru_of {v : V} {d : D} {k : Bool} {K : PySem.W.Frag} (s : Same F H) (r : RpT K F H v d) (e : D.tru d = .ok k) : TruW K v H k := by
  cases d with
  | non => rw [r.non]; cases e; exact .inl rfl
  | bl b => rw [r.bl]; cases e; exact .inl rfl
  | int i => rw [r.int]; cases e; exact .inl rfl
  | str y =>
    rw [r.str.1]
    by_cases h : y.length ≤ sizeLine
    · have e2 : D.tru (.str y) = .ok ((y.length : Int) != 0) := by
        show (need (decide (y.length ≤ sizeLine)) >>= fun _ => .ok ((y.length : Int) != 0)) = _
        rw [decide_eq_true h]
        rfl
      rw [e2] at e
      cases e
      exact .inl ⟨h, rfl⟩
    · have e2 : D.tru (.str y) = stuck := by
        show (need (decide (y.length ≤ sizeLine)) >>= fun _ => .ok ((y.length : Int) != 0)) = _
        rw [decide_eq_false h]
        rfl
      rw [e2] at e
      cases e
  | lst l =>
    obtain ⟨p, xs, rfl, h, r⟩ := r.lst s
    cases e
    refine .inl (.inl ⟨xs, SqL.of h, ?_⟩)
    cases r <;> rfl
  | tup l =>
    obtain ⟨p, xs, rfl, h, r⟩ := r.tup s
    cases e
    refine .inl (.inr (.inl ⟨xs, h, ?_⟩))
    cases r <;> rfl
  | dct l =>
    obtain ⟨p, rfl, kvs, h, h2, r⟩ := r.dct s
    cases e
    refine .inr ⟨p, kvs, rfl, h, ?_⟩
    cases kvs with
    | nil => cases l with
      | nil => rfl
      | cons _ _ => simp at h2
    | cons _ _ => cases l with
      | nil => simp at h2
      | cons _ _ => rfl
  | _ => cases e
theorem tru_err {d : D} {x : Er} (h : D.tru d = .error x) : x = .stuck := by
  cases d with
  | str y =>
    have h : (need (decide (y.length ≤ sizeLine)) >>= fun _ => (.ok ((y.length : Int) != 0) : M Bool)) = .error x := h
    cases hd : decide (y.length ≤ sizeLine) with
    | true => rw [hd] at h; cases h
    | false => rw [hd] at h; cases h; rfl
  | non => cases h
  | bl _ => cases h
  | int _ => cases h
  | lst _ => cases h
  | tup _ => cases h
  | dct _ => cases h
  | _ => cases h; rfl
theorem WpG.tru {E₁ : XK} {α β : Type} {rel : Hp → Hp → β → α → Prop} {d : D} {v : V} {k : Bool → M α} {Q : β → Hp → Prop} {K : PySem.W.Frag} (q : WpG K E₁ rel (D.tru d >>= k) F H Q) (s : Same F H) (r : RpT K F H v d) : ∃ b, D.tru d = .ok b ∧ TruW K v H b ∧ WpG K E₁ rel (k b) F H Q := by
  cases e : D.tru d with
  | ok b =>
    rw [e] at q
    exact ⟨b, rfl, tru_of s r e, q⟩
  | error x =>
    rw [e] at q
    have := tru_err e
    subst this
    exact q.elim
theorem dt_val (ha : DR X E G a ma) (he : ∀ whole, isTrue a X.env whole = (do let v ← whole; standAt a.pos; holding [v] (truthy v)) := by intro _; rfl) : DT X E G a (ma >>= fun x => D.tru x) := by
  obtain ⟨t, p, w⟩ := ha
  refine ⟨_, pt_truthW p he, fun B σ F H Q s g q => w B σ F H _ s g (q.bind fun x F1 H1 v x1 r1 q1 => ?_)⟩
  have q2 : WpG X.K (E σ) rB (D.tru x >>= fun b => .ok b) F1 H1 Q := by
    cases e : D.tru x with
    | ok b => rw [e] at q1; exact q1
    | error z => rw [e] at q1; exact q1
  obtain ⟨k, e, tk, q3⟩ := q2.tru x1.sFH r1
  exact ⟨k, tk, q3 F1 H1 _ (Ext.refl x1.sFH) rfl⟩
theorem dt_not (ha : DT X E G a ta) : DT X E G (.UnaryOp .Not a pos) (ta >>= fun x => .ok (!x)) := by
  obtain ⟨t, p, w⟩ := ha
  exact ⟨_, pt_not p, fun B σ F H Q s g q => w B σ F H _ s g (q.bind fun x F1 H1 v x1 r1 q1 => by
    subst r1
    exact q1 F1 H1 _ (Ext.refl x1.sFH) rfl)⟩
theorem DW.dt (h : DW X E G e ta) : DT X E G e ta := let ⟨t, p, w⟩ := h; ⟨t, p.pt, w⟩
theorem dw_and1 (ha : DT X E G a ta) : DW X E G (.BoolOp .And [a] pos) ta := let ⟨t, p, w⟩ := ha; ⟨t, pw_and1 p, w⟩
theorem dw_or1 (ha : DT X E G a ta) : DW X E G (.BoolOp .Or [a] pos) ta := let ⟨t, p, w⟩ := ha; ⟨t, pw_or1 p, w⟩
theorem dw_and {rest : List Expr} (ha : DT X E G a ta) (hb : DW X E G (.BoolOp .And (b :: rest) pos) tb) : DW X E G (.BoolOp .And (a :: b :: rest) pos) (ta >>= fun x => if x = true then tb else .ok false) := by
  obtain ⟨t1, p1, w1⟩ := ha
  obtain ⟨t2, p2, w2⟩ := hb
  refine ⟨_, pw_and p1 p2, fun B σ F H Q s g q => w1 B σ F H _ s g (q.bind fun x F1 H1 v x1 r1 q1 => ?_)⟩
  subst r1
  cases v with
  | true => exact w2 B σ F1 H1 _ x1.sFH (g.ext x1) q1
  | false => exact q1 F1 H1 _ (Ext.refl x1.sFH) rfl
theorem dw_or {rest : List Expr} (ha : DT X E G a ta) (hb : DW X E G (.BoolOp .Or (b :: rest) pos) tb) : DW X E G (.BoolOp .Or (a :: b :: rest) pos) (ta >>= fun x => if x = true then .ok true else tb) := by
  obtain ⟨t1, p1, w1⟩ := ha
  obtain ⟨t2, p2, w2⟩ := hb
  refine ⟨_, pw_or p1 p2, fun B σ F H Q s g q => w1 B σ F H _ s g (q.bind fun x F1 H1 v x1 r1 q1 => ?_)⟩
  subst r1
  cases v with
  | true => exact q1 F1 H1 _ (Ext.refl x1.sFH) rfl
  | false => exact w2 B σ F1 H1 _ x1.sFH (g.ext x1) q1
theorem de_one {op : BoolOp} (ha : DE X E G a ma) : DE X E G (.BoolOp op [a] pos) ma := let ⟨t, p, w⟩ := ha; ⟨t, pe_one p, w⟩
theorem de_and {rest : List Expr} (ha : DE X E G a ma) (hb : DE X E G (.BoolOp .And (b :: rest) pos) mb) : DE X E G (.BoolOp .And (a :: b :: rest) pos) (ma >>= fun x => D.tru x >>= fun k => if k = true then mb else .ok x) := by
  obtain ⟨t1, p1, w1⟩ := ha
  obtain ⟨t2, p2, w2⟩ := hb
  refine ⟨_, pe_andW p1 p2, fun B σ F H Q s g q => w1 B σ F H _ s g (q.bind fun x F1 H1 v x1 r1 q1 => ?_)⟩
  obtain ⟨k, e, tk, q3⟩ := q1.tru x1.sFH (.of r1)
  refine ⟨k, tk, ?_⟩
  cases k with
  | true => exact w2 B σ F1 H1 _ x1.sFH (g.ext x1) q3
  | false => exact q3 F1 H1 _ (Ext.refl x1.sFH) r1
theorem de_if (hc : DT X E G c ta) (ha : DE X E G a ma) (hb : DE X E G b mb) : DE X E G (.IfExp c a b pos) (ta >>= fun x => if x = true then ma else mb) := by
  obtain ⟨t0, p0, w0⟩ := hc
  obtain ⟨t1, p1, w1⟩ := ha
  obtain ⟨t2, p2, w2⟩ := hb
  refine ⟨_, pe_ifExp p0 p1 p2, fun B σ F H Q s g q => w0 B σ F H _ s g (q.bind fun x F1 H1 v x1 r1 q1 => ?_)⟩
  subst r1
  cases v with
  | true => exact w1 B σ F1 H1 _ x1.sFH (g.ext x1) q1
  | false => exact w2 B σ F1 H1 _ x1.sFH (g.ext x1) q1

def rIxDct : R2 := fun x y H Q => ∃ a v, x = .ref a ∧ DGet H a y (some v) ∧ Q v H
theorem ix_dct (hu : X.A.units + 1 < cLine) : IxR X rIxDct := by
  intro value slice pins s σ H x y v u Q I rx ry h hs
  obtain ⟨a, z, rfl, g, q⟩ := h
  obtain rfl : v = Value.ref a := rx
  exact PyProof.Rows.tail_any (dict_typeIs I g) PySem.F.slot_dict_getitem.lookup (d_getItem hu I g ry fun w' s3 I3 rw' => ⟨z, H, I3, rw', q⟩) hs
theorem ix_all (hu : X.A.units + 70 < cLine) : IxR X (fun x y H Q => rIx X.K x y H Q ∨ rIxDct x y H Q) := ix_seq.or (ix_dct (by omega))
theorem ixN_atI {α : Type} {xs : List α} {i : Int} {x : α} (h : atI xs i = some x) : ∃ j, ixN xs.length i = some j ∧ xs[j]? = some x := by
  unfold atI at h
  cases e : ixN xs.length i with
  | none => rw [e] at h; cases h
  | some j => rw [e] at h; exact ⟨j, rfl, h⟩
theorem atI_rp {K : PySem.W.Frag} {xs : List V} {l : List D} {i : Int} {d : D} (r : RpL K F xs l) (h : atI l i = some d) : ∃ x, atI xs i = some x ∧ Rp K F x d := by
  obtain ⟨j, h1, h2⟩ := ixN_atI h
  obtain ⟨x, h3, h4⟩ := r.get h2
  refine ⟨x, ?_, h4⟩
  unfold atI
  rw [r.length, h1]
  exact h3
theorem op2_ix : Op2 X.K D.ix (fun x y H Q => rIx X.K x y H Q ∨ rIxDct x y H Q) := fun E F H v u x y Q s rx ry q => by
  cases x with
  | lst l => cases y with
    | int i =>
      obtain ⟨p, xs, rfl, h, r⟩ := rx.lst s
      have q : WpG X.K E (rE X.K) (match atI l i with | some d => .ok d | none => stuck) F H Q := q
      cases e : atI l i with
      | none => rw [e] at q; exact q.elim
      | some d =>
        rw [e] at q
        obtain ⟨z, h1, h2⟩ := atI_rp r e
        exact .inl (.inl ⟨p, xs, i, z, rfl, ry.int, SqL.of h, h1, q F H _ (Ext.refl s) h2⟩)
    | _ => exact q.elim
  | tup l => cases y with
    | int i =>
      obtain ⟨p, xs, rfl, h, r⟩ := rx.tup s
      have q : WpG X.K E (rE X.K) (match atI l i with | some d => .ok d | none => stuck) F H Q := q
      cases e : atI l i with
      | none => rw [e] at q; exact q.elim
      | some d =>
        rw [e] at q
        obtain ⟨z, h1, h2⟩ := atI_rp r e
        exact .inl (.inr (.inl ⟨p, xs, i, z, rfl, ry.int, h, h1, q F H _ (Ext.refl s) h2⟩))
    | _ => exact q.elim
  | str z => cases y with
    | int i =>
      have q : WpG X.K E (rE X.K) (need (decide (z.length ≤ sizeLine)) >>= fun _ => (match atI z.cps.toList i with | some c => .ok (.str ⟨#[c]⟩) | none => stuck)) F H Q := q
      obtain ⟨c, q⟩ := q.need
      have c := of_decide_eq_true c
      cases e : atI z.cps.toList i with
      | none => rw [e] at q; exact q.elim
      | some d =>
        rw [e] at q
        obtain ⟨j, _, h2⟩ := ixN_atI e
        exact .inl (.inr (.inr ⟨z, i, d, rx.str.1, ry.int, c, e, q F H _ (Ext.refl s) (.str _ (strOk_one rx.str.2 (List.mem_of_getElem? h2)))⟩))
    | _ => exact q.elim
  | dct l =>
    have q : WpG X.K E (rE X.K) (need y.isKey >>= fun _ => (match D.look l y with | some d => .ok d | none => stuck)) F H Q := q
    obtain ⟨c, q⟩ := q.need
    obtain ⟨k, rfl, rfl⟩ := keyV c ry
    obtain ⟨a, rfl, kvs, e1, e2, r2⟩ := rx.dct s
    rcases look_val k e2 r2 with ⟨h1, h2⟩ | ⟨v, d, h1, h2, h3⟩
    · rw [h2] at q
      exact q.elim
    · rw [h2] at q
      refine .inr ⟨a, v, rfl, ?_, q F H _ (Ext.refl s) h3⟩
      rw [← h1]
      exact DGet.kr e1
  | _ => cases y <;> exact q.elim
theorem de_ix (hu : X.A.units + 70 < cLine) (ha : DR X E G a ma) (hb : DR X E G b mb) (hs : PlainIx b := by intro _ _; rfl) : DE X E G (.Subscript a b pos) (ma >>= fun x => mb >>= fun y => D.ix x y) := by
  obtain ⟨t1, p1, w1⟩ := ha
  obtain ⟨t2, p2, w2⟩ := hb
  exact ⟨_, pe_ix (ix_all hu) p1 p2 hs, two w1 w2 op2_ix⟩

def DO (X : Cx) (E : St → XK) (G : List Sl) (e : Option Expr) (m : M (Option Int)) : Prop :=
  ∃ t, PO X e t ∧ ∀ B σ F H Q, Same F H → GOk X.K B G σ F H → WpG X.K (E σ) (fun _ _ (v : Option Int) d => v = d) m F H Q → t σ H Q
theorem do_none : DO X E G none (.ok none) := ⟨_, po_none, fun B σ F H Q s g q => q F H _ (Ext.refl s) rfl⟩
def D.bnd : D → M (Option Int)
  | .int i => .ok (some i)
  | _ => stuck
theorem do_some (ha : DR X E G a ma) : DO X E G (some a) (ma >>= fun x => D.bnd x) := by
  obtain ⟨t1, p1, w1⟩ := ha
  refine ⟨_, po_some p1, fun B σ F H Q s g q => w1 B σ F H _ s g (q.bind fun x F1 H1 v x1 r1 q1 => ?_)⟩
  cases x with
  | int i => exact ⟨i, r1.int, q1 F1 H1 _ (Ext.refl x1.sFH) rfl⟩
  | _ => exact q1.elim
theorem cutL_rp {K : PySem.W.Frag} {xs : List V} {l : List D} (r : RpL K F xs l) (lo hi : Option Int) : RpL K F (cutV xs lo hi) (cutL l lo hi) := by
  unfold cutV cutL
  rw [r.length]
  exact (r.drop _).take _
theorem ints_rp {K : PySem.W.Frag} : ∀ l : List Int, RpL K F (l.map V.int) (l.map D.int)
  | [] => .nil
  | i :: l => .cons (.int i) (ints_rp l)
theorem cutV_map (l : List Int) (lo hi : Option Int) : cutV (l.map V.int) lo hi = (cutL l lo hi).map V.int := by
  unfold cutV cutL
  rw [List.length_map, List.map_take, List.map_drop]
theorem de_sl {lo hi : Option Expr} {ml mh : M (Option Int)} {p2 : Pos} (ha : DR X E G a ma) (hl : DO X E G lo ml) (hh : DO X E G hi mh) : DE X E G (.Subscript a (.Slice lo hi none p2) pos) (ma >>= fun x => ml >>= fun l => mh >>= fun h => D.sl x l h) := by
  obtain ⟨t1, p1, w1⟩ := ha
  obtain ⟨t2, q2, w2⟩ := hl
  obtain ⟨t3, q3, w3⟩ := hh
  refine ⟨_, pe_slice (sl_list.or (sl_tupP.or sl_str)) p1 q2 q3, fun B σ F H Q s g q => w1 B σ F H _ s g (q.bind fun x F1 H1 v x1 r1 k1 => w2 B σ F1 H1 _ x1.sFH (g.ext x1) (k1.bind fun l F2 H2 l' x2 e2 k2 => w3 B σ F2 H2 _ x2.sFH ((g.ext x1).ext x2) (k2.bind fun h F3 H3 h' x3 e3 k3 => ?_)))⟩
  subst e2 e3
  have r3 := (r1.ext x2).ext x3
  have s3 := x3.sFH
  cases x with
  | lst m =>
    obtain ⟨p, xs, rfl, e, r⟩ := r3.lst s3
    exact .inl ⟨p, xs, rfl, SqL.of e, new_lst s3 (cutL_rp r _ _) k3⟩
  | scr m =>
    obtain ⟨p, rfl, e⟩ := r3.scr s3
    refine .inl ⟨p, _, rfl, e, ?_⟩
    rw [cutV_map]
    exact new_lst s3 (ints_rp _) k3
  | tup m =>
    obtain ⟨p, xs, rfl, e, r⟩ := r3.tup s3
    refine .inr (.inl ⟨p, xs, rfl, e, fun hw => ?_, fun _ => new_tup s3 (cutL_rp r _ _) k3⟩)
    rw [r.length] at hw
    have ec : cutL m l' h' = m := by
      unfold cutL
      rw [hw.1, hw.2, List.drop_zero, Nat.sub_zero, List.take_length]
    have k3 : WpG X.K (E σ) (rE X.K) (.ok (.tup (cutL m l' h'))) F3 H3 Q := k3
    rw [ec] at k3
    exact k3 F3 H3 _ (Ext.refl s3) r3.rp_tup
  | str z =>
    have k3 : WpG X.K (E σ) (rE X.K) (need (decide (z.length ≤ sizeLine)) >>= fun _ => .ok (.str (cutS z l' h'))) F3 H3 Q := k3
    obtain ⟨c, k3⟩ := k3.need
    have c := of_decide_eq_true c
    exact .inr (.inr ⟨z, r3.str.1, c, k3 F3 H3 _ (Ext.refl s3) (.str _ (strOk_cut r3.str.2 _ _))⟩)
  | _ => exact k3.elim

theorem da_nil : DA X E G [] (.ok []) := ⟨_, pa_nil, fun B σ F H Q s g q => q F H _ (Ext.refl s) .nil⟩
theorem da_cons {es : List Expr} {ms : M (List D)} (ha : DE X E G a ma) (hr : DA X E G es ms) (hs : starEach (a :: es) X.env = (false, eval a X.env) :: starEach es X.env := by rfl) : DA X E G (a :: es) (ma >>= fun x => ms >>= fun xs => .ok (x :: xs)) := by
  obtain ⟨t1, p1, w1⟩ := ha
  obtain ⟨t2, p2, w2⟩ := hr
  exact ⟨_, pa_cons p1 p2 hs, fun B σ F H Q s g q => w1 B σ F H _ s g (q.bind fun x F1 H1 v x1 r1 k1 => w2 B σ F1 H1 _ x1.sFH (g.ext x1) (k1.bind fun xs F2 H2 vs x2 r2 k2 => k2 F2 H2 _ (Ext.refl x2.sFH) (.cons (r1.mono x2.sF) r2)))⟩
theorem dra_nil : DRA X E G [] (.ok []) := ⟨_, pa_nil, fun B σ F H Q s g q => q F H _ (Ext.refl s) .nil⟩
theorem RpTL.ext {K : PySem.W.Frag} {F' H' : Hp} (x : Ext F H F' H') : ∀ {vs : List V} {ds : List D}, RpTL K F H vs ds → RpTL K F' H' vs ds
  | _, _, .nil => .nil
  | _, _, .cons r h => .cons (r.ext x) (RpTL.ext x h)
theorem dra_cons {es : List Expr} {ms : M (List D)} (ha : DR X E G a ma) (hr : DRA X E G es ms) (hs : starEach (a :: es) X.env = (false, eval a X.env) :: starEach es X.env := by rfl) : DRA X E G (a :: es) (ma >>= fun x => ms >>= fun xs => .ok (x :: xs)) := by
  obtain ⟨t1, p1, w1⟩ := ha
  obtain ⟨t2, p2, w2⟩ := hr
  exact ⟨_, pa_cons p1 p2 hs, fun B σ F H Q s g q => w1 B σ F H _ s g (q.bind fun x F1 H1 v x1 r1 k1 => w2 B σ F1 H1 _ x1.sFH (g.ext x1) (k1.bind fun xs F2 H2 vs x2 r2 k2 => k2 F2 H2 _ (Ext.refl x2.sFH) (.cons (r1.ext x2) r2)))⟩
def D.mkTup (l : List D) : M D := do need (decide (l.length ≤ sizeLine)); .ok (.tup l)
def D.mkLst (l : List D) : M D := do need (decide (l.length ≤ sizeLine)); .ok (.lst l)
theorem de_tup {es : List Expr} {ms : M (List D)} {x1} (h : DA X E G es ms) : DE X E G (.Tuple es x1 pos) (ms >>= fun l => D.mkTup l) := by
  obtain ⟨t, p, w⟩ := h
  refine ⟨_, pe_tupP p, fun B σ F H Q s g q => w B σ F H _ s g (q.bind fun l F1 H1 vs x1 r1 k1 => ?_)⟩
  have k1 : WpG X.K (E σ) (rE X.K) (need (decide (l.length ≤ sizeLine)) >>= fun _ => .ok (.tup l)) F1 H1 Q := k1
  obtain ⟨c, k1⟩ := k1.need
  have c := of_decide_eq_true c
  exact ⟨by rw [r1.length]; exact c, new_tup x1.sFH r1 k1⟩
theorem de_lst {es : List Expr} {ms : M (List D)} (h : DA X E G es ms) : DE X E G (.List es pos) (ms >>= fun l => D.mkLst l) := by
  obtain ⟨t, p, w⟩ := h
  refine ⟨_, pe_lst p, fun B σ F H Q s g q => w B σ F H _ s g (q.bind fun l F1 H1 vs x1 r1 k1 => ?_)⟩
  have k1 : WpG X.K (E σ) (rE X.K) (need (decide (l.length ≤ sizeLine)) >>= fun _ => .ok (.lst l)) F1 H1 Q := k1
  obtain ⟨c, k1⟩ := k1.need
  have c := of_decide_eq_true c
  exact ⟨by rw [r1.length]; exact c, new_lst x1.sFH r1 k1⟩

def OpN (K : PySem.W.Frag) (f : List D → M D) (r : List V → Hp → VK → Prop) : Prop := ∀ (E : XK) (F H : Hp) (vs : List V) (ds : List D) (Q : VK), Same F H → RpTL K F H vs ds → WpG K E (rE K) (f ds) F H Q → r vs H Q
theorem argsN {t : TA} {ms : M (List D)} {f : List D → M D} {r : List V → Hp → VK → Prop} (w : ∀ B σ F H Q, Same F H → GOk X.K B G σ F H → WpG X.K (E σ) (rTL X.K) ms F H Q → t σ H Q) (hf : OpN X.K f r) :
    ∀ B σ F H Q, Same F H → GOk X.K B G σ F H → WpG X.K (E σ) (rE X.K) (ms >>= fun l => f l) F H Q → tCB r t σ H Q := fun B σ F H Q s g q =>
  w B σ F H _ s g (q.bind fun l F1 H1 vs x1 r1 k1 => hf (E σ) F1 H1 vs l Q x1.sFH r1 k1)
theorem de_callB {id : String} {x : Str} {es : List Expr} {p : Pos} {ms : M (List D)} {f : List D → M D} {r : List V → Hp → VK → Prop} (hc : CallR X (.builtin id) r) (hf : OpN X.K f r) (hg : Gl X x) (hm : X.mg x = none) (hv : bootBuiltins x = some (.builtin id)) (ha : DRA X E G (a :: es) ms)
    (hn : x ≠ "__name__" := by decide) (hdb : (x == ("__debug__" : Str)) = false := by decide) (he : starEach (a :: es) X.env = (false, eval a X.env) :: starEach es X.env := by rfl) (hpl : (backTo pos (starEach es X.env)).any (·.1) = false := by rfl) : DE X E G (.Call (.Name x p) (a :: es) [] pos) (ms >>= fun l => f l) := by
  obtain ⟨t, pp, w⟩ := ha
  exact ⟨_, pe_callB hc hg hm hv pp hn hdb he hpl, argsN w hf⟩
theorem de_callTy {T : String} {x : Str} {es : List Expr} {p : Pos} {ms : M (List D)} {f : List D → M D} {r : List V → Hp → VK → Prop} (hc : CallR X (.type T) r) (hf : OpN X.K f r) (hg : Gl X x) (hm : X.mg x = none) (hv : bootBuiltins x = some (.type T)) (ha : DRA X E G (a :: es) ms)
    (hn : x ≠ "__name__" := by decide) (hdb : (x == ("__debug__" : Str)) = false := by decide) (he : starEach (a :: es) X.env = (false, eval a X.env) :: starEach es X.env := by rfl) (hpl : (backTo pos (starEach es X.env)).any (·.1) = false := by rfl) : DE X E G (.Call (.Name x p) (a :: es) [] pos) (ms >>= fun l => f l) := by
  obtain ⟨t, pp, w⟩ := ha
  exact ⟨_, pe_callTy hc hg hm hv pp hn hdb he hpl, argsN w hf⟩
def f1 (f : D → M D) : List D → M D
  | [x] => f x
  | _ => stuck
def f2 (f : D → D → M D) : List D → M D
  | [x, y] => f x y
  | _ => stuck
theorem opN1 {f : D → M D} {r : List V → Hp → VK → Prop} (h : ∀ (E : XK) F H v d Q, Same F H → RpT X.K F H v d → WpG X.K E (rE X.K) (f d) F H Q → r [v] H Q) : OpN X.K (f1 f) r := fun E F H vs ds Q s r q => by
  cases r with
  | nil => exact q.elim
  | cons r1 r2 => cases r2 with
    | nil => exact h E F H _ _ Q s r1 q
    | cons _ _ => exact q.elim
theorem opN2 {f : D → D → M D} {r : List V → Hp → VK → Prop} (h : ∀ (E : XK) F H v u d e Q, Same F H → RpT X.K F H v d → RpT X.K F H u e → WpG X.K E (rE X.K) (f d e) F H Q → r [v, u] H Q) : OpN X.K (f2 f) r := fun E F H vs ds Q s r q => by
  cases r with
  | nil => exact q.elim
  | cons r1 r2 => cases r2 with
    | nil => exact q.elim
    | cons r3 r4 => cases r4 with
      | nil => exact h E F H _ _ _ _ Q s r1 r3 q
      | cons _ _ => exact q.elim
theorem lenR : CallR X (.builtin "len") (fun xs H Q => (∃ x n, xs = [x] ∧ LenV X.K x H n ∧ Q (.int n) H) ∨ (∃ a kvs, xs = [V.ref a] ∧ Rd H a (.dK kvs) ∧ Q (.int kvs.length) H)) := call_len.or call_lenR
theorem len_op : OpN X.K (f1 D.len) (fun xs H Q => (∃ x n, xs = [x] ∧ LenV X.K x H n ∧ Q (.int n) H) ∨ (∃ a kvs, xs = [V.ref a] ∧ Rd H a (.dK kvs) ∧ Q (.int kvs.length) H)) := opN1 fun E F H v d Q s r q => by
  cases d with
  | str y =>
    have q : WpG X.K E (rE X.K) (need (decide (y.length ≤ sizeLine)) >>= fun _ => .ok (.int y.length)) F H Q := q
    obtain ⟨c, q⟩ := q.need
    have c := of_decide_eq_true c
    exact .inl ⟨v, y.length, rfl, by rw [r.str.1]; exact ⟨c, rfl⟩, q F H _ (Ext.refl s) (.int _)⟩
  | lst l =>
    obtain ⟨p, xs, rfl, e, r⟩ := r.lst s
    exact .inl ⟨_, xs.length, rfl, .inl ⟨xs, SqL.of e, rfl⟩, by rw [r.length]; exact q F H _ (Ext.refl s) (.int _)⟩
  | scr l =>
    obtain ⟨p, rfl, e⟩ := r.scr s
    exact .inl ⟨_, l.length, rfl, .inl ⟨_, e, by rw [List.length_map]⟩, q F H _ (Ext.refl s) (.int _)⟩
  | tup l =>
    obtain ⟨p, xs, rfl, e, r⟩ := r.tup s
    exact .inl ⟨_, xs.length, rfl, .inr ⟨xs, e, rfl⟩, by rw [r.length]; exact q F H _ (Ext.refl s) (.int _)⟩
  | dct l =>
    obtain ⟨p, rfl, kvs, e, e2, r⟩ := r.dct s
    refine .inr ⟨_, kvs, rfl, e, ?_⟩
    have el : kvs.length = l.length := by
      have := congrArg List.length e2
      simpa using this
    rw [el]
    exact q F H _ (Ext.refl s) (.int _)
  | _ => exact q.elim
theorem abs_op : OpN X.K (f1 D.abs) (fun xs H Q => ∃ i, xs = [.int i] ∧ Q (.int (if i < 0 then -i else i)) H) := opN1 fun E F H v d Q s r q => by
  cases d with
  | int i => exact ⟨i, by rw [r.int], q F H _ (Ext.refl s) (.int _)⟩
  | _ => exact q.elim
theorem max_op : OpN X.K (f2 D.max2) (fun xs H Q => ∃ i j, xs = [.int i, .int j] ∧ Q (.int (if j > i then j else i)) H) := opN2 fun E F H v u d e Q s r1 r2 q => by
  cases d with
  | int i => cases e with
    | int j => exact ⟨i, j, by rw [r1.int, r2.int], q F H _ (Ext.refl s) (.int _)⟩
    | _ => exact q.elim
  | _ => cases e <;> exact q.elim
theorem min_op : OpN X.K (f2 D.min2) (fun xs H Q => ∃ i j, xs = [.int i, .int j] ∧ Q (.int (if j < i then j else i)) H) := opN2 fun E F H v u d e Q s r1 r2 q => by
  cases d with
  | int i => cases e with
    | int j => exact ⟨i, j, by rw [r1.int, r2.int], q F H _ (Ext.refl s) (.int _)⟩
    | _ => exact q.elim
  | _ => cases e <;> exact q.elim
theorem int_R : CallR X (.type "int") (fun xs H Q => ((∃ i, xs = [.int i] ∧ Q (.int i) H) ∨ ∃ k, xs = [.bl k] ∧ Q (.int (if k then 1 else 0)) H) ∨ (∃ a n, xs = [.str a] ∧ PySem.intText? a = some n ∧ a.length ≤ 640 ∧ Q (.int n) H)) := call_int1.or call_int_str
theorem int_op : OpN X.K (f1 D.toInt) (fun xs H Q => ((∃ i, xs = [.int i] ∧ Q (.int i) H) ∨ ∃ k, xs = [.bl k] ∧ Q (.int (if k then 1 else 0)) H) ∨ (∃ a n, xs = [.str a] ∧ PySem.intText? a = some n ∧ a.length ≤ 640 ∧ Q (.int n) H)) := opN1 fun E F H v d Q s r q => by
  cases d with
  | int i => exact .inl (.inl ⟨i, by rw [r.int], q F H _ (Ext.refl s) (.int _)⟩)
  | bl i => exact .inl (.inr ⟨i, by rw [r.bl], q F H _ (Ext.refl s) (.int _)⟩)
  | str a =>
    have q : WpG X.K E (rE X.K) (match PySem.intText? a with | some n => (need (decide (a.length ≤ 640)) >>= fun _ => .ok (.int n)) | none => stuck) F H Q := q
    cases e : PySem.intText? a with
    | none => rw [e] at q; exact q.elim
    | some n =>
      rw [e] at q
      obtain ⟨c, q⟩ := WpG.need q
      have c := of_decide_eq_true c
      exact .inr ⟨a, n, by rw [r.str.1], e, c, q F H _ (Ext.refl s) (.int _)⟩
  | _ => exact q.elim
theorem list_op : OpN X.K (f1 D.toList) (fun xs H Q => ∃ p ys, xs = [.ref p] ∧ (SqL X.K H p ys ∨ SqT X.K H p ys) ∧ ∀ l, H l = none → Q (.ref l) (upd H l (.lst ys))) := opN1 fun E F H v d Q s r q => by
  cases d with
  | lst l =>
    obtain ⟨p, xs, rfl, h, r⟩ := r.lst s
    exact ⟨p, xs, rfl, .inl (SqL.of h), new_lst s r q⟩
  | tup l =>
    obtain ⟨p, xs, rfl, h, r⟩ := r.tup s
    exact ⟨p, xs, rfl, .inr h, new_lst s r q⟩
  | _ => exact q.elim
theorem tup_op : OpN X.K (f1 D.toTup) (fun xs H Q => ∃ p ys, xs = [.ref p] ∧ ((SqL X.K H p ys ∧ NewT H ys Q) ∨ (SqT X.K H p ys ∧ Q (.ref p) H))) := opN1 fun E F H v d Q s r q => by
  cases d with
  | lst l =>
    obtain ⟨p, xs, rfl, h, r⟩ := r.lst s
    exact ⟨p, xs, rfl, .inl ⟨SqL.of h, new_tup s r q⟩⟩
  | tup l =>
    obtain ⟨p, xs, ep, h, r'⟩ := r.tup s
    subst ep
    exact ⟨p, xs, rfl, .inr ⟨h, q F H _ (Ext.refl s) r.rp_tup⟩⟩
  | _ => exact q.elim
theorem strs_rp {K : PySem.W.Frag} : ∀ {l : List D} {xs : List V} {bs : List Str}, D.strs l = some bs → RpL K F xs l → xs = bs.map V.str ∧ ∀ y ∈ bs, PyData.strOk y = true
  | [], _, _, h, .nil => by
    cases h
    exact ⟨rfl, fun y hy => by cases hy⟩
  | d :: l, _, bs, h, .cons r1 r2 => by
    cases d with
    | str b =>
      have h : (D.strs l).map (b :: ·) = some bs := h
      cases e : D.strs l with
      | none => rw [e] at h; cases h
      | some cs =>
        rw [e] at h
        cases h
        cases r1 with
        | str _ hb =>
          obtain ⟨e1, e2⟩ := strs_rp e r2
          rw [e1]
          refine ⟨rfl, fun y hy => ?_⟩
          rcases List.mem_cons.mp hy with rfl | hy
          · exact hb
          · exact e2 y hy
    | _ => cases h
end
end DL

set_option Elab.async false
set_option linter.all false
set_option maxRecDepth 100000
set_option maxHeartbeats 4000000
namespace DL
open PySem PySem.Spec L2

theorem joinL_mem {S : List Nat} {c : Nat} : ∀ {l : List (List Nat)}, c ∈ TL.joinL S l → c ∈ S ∨ ∃ p ∈ l, c ∈ p
  | [], h => by cases h
  | [p], h => .inr ⟨p, List.mem_singleton.mpr rfl, h⟩
  | p :: q :: r, h => by
    have h : c ∈ p ++ (S ++ TL.joinL S (q :: r)) := h
    rcases List.mem_append.mp h with h | h
    · exact .inr ⟨p, List.mem_cons_self .., h⟩
    · rcases List.mem_append.mp h with h | h
      · exact .inl h
      · rcases joinL_mem h with h | ⟨z, hz, h⟩
        · exact .inl h
        · exact .inr ⟨z, List.mem_cons_of_mem _ hz, h⟩
theorem strOk_tl {x : Str} : PyData.strOk x = true ↔ ∀ c ∈ TL.tl x, c < 0x110000 := strOk_mem
theorem strOk_join {a : Str} {l : List Str} (ha : PyData.strOk a = true) (hl : ∀ y ∈ l, PyData.strOk y = true) : PyData.strOk (Txt.join a l) = true := by
  rw [strOk_tl]
  intro c hc
  rw [TL.join_eq, TL.tl_join] at hc
  rcases joinL_mem hc with h | ⟨p, hp, h⟩
  · exact strOk_tl.mp ha c h
  · obtain ⟨y, hy, rfl⟩ := List.mem_map.mp hp
    exact strOk_tl.mp (hl y hy) c h
section
variable {X : Cx} {E : St → XK} {G : List Sl} {a b c e : Expr} {ma mb mc : M D} {ta tb : M Bool} {pos : Pos} {F H : Hp}
def meth (c : D → Bool) (mo : M D) (ms : M (List D)) (f : D → List D → M D) : M D := do
  let x ← mo
  need (c x)
  let l ← ms
  f x l
theorem de_m {T : String} {id : String} {name : Str} {r : V → List V → Hp → VK → Prop} {f : D → List D → M D} {c : D → Bool} {apos : Pos} {es : List Expr} {ms : M (List D)} (pa : PlainAttrs T) (slot : Slot T name id) (hty : typeOf (.builtin id) = pure (.type "method_descriptor")) (hm : MtR X id r)
    (hc : ∀ (F H : Hp) (v : V) (d : D), c d = true → Same F H → RpT X.K F H v d → tyV X.K T v H)
    (hf : ∀ (E : XK) (F H : Hp) (v : V) (d : D) (vs : List V) (ds : List D) (Q : VK), Same F H → RpT X.K F H v d → RpTL X.K F H vs ds → WpG X.K E (rE X.K) (f d ds) F H Q → r v vs H Q) (ho : DR X E G b mb) (ha : DRA X E G (a :: es) ms)
    (hbase : attributeBase b name X.env (eval b X.env) = eval b X.env := by rfl)
    (hfew : ((backTo pos (starEach (a :: es) X.env)).all (fun x => !x.1) && (backToKw pos (keywordEach [] X.env)).all (fun x => x.1.isSome)
      && decide ((a :: es).length + ([] : List Keyword).length + (if ([] : List Keyword).isEmpty then 0 else 1) < 30)) = true := by rfl)
    (hline : (apos.endLine == pos.line) = true := by rfl) (hs : starEach (a :: es) X.env = (false, eval a X.env) :: starEach es X.env := by rfl) (hplain : (backTo pos (starEach es X.env)).any (·.1) = false := by rfl) :
    DE X E G (.Call (.Attribute b name apos) (a :: es) [] pos) (meth c mb ms f) := by
  obtain ⟨t1, p1, w1⟩ := ho
  obtain ⟨t2, p2, w2⟩ := ha
  refine ⟨_, pe_bm pa slot hty hm p1 p2 hbase hfew hline hs hplain, fun B σ F H Q s g q => w1 B σ F H _ s g (WpG.bind q fun x F1 H1 v x1 r1 k1 => ?_)⟩
  obtain ⟨cx, k1⟩ := WpG.need k1
  exact ⟨hc F1 H1 v x cx x1.sFH r1, w2 B σ F1 H1 _ x1.sFH (g.ext x1) (WpG.bind k1 fun l F2 H2 vs x2 r2 k2 => hf (E σ) F2 H2 v x vs l Q x2.sFH (r1.ext x2) r2 k2)⟩
def D.isStr : D → Bool
  | .str _ => true
  | _ => false
def m1 (f : D → D → M D) : D → List D → M D
  | x, [y] => f x y
  | _, _ => stuck
theorem ty_str {K : PySem.W.Frag} {v : V} {d : D} (h : d.isStr = true) (r : RpT K F H v d) : tyV K "str" v H := by
  cases d with
  | str z => rw [r.str.1]; rfl
  | _ => cases h
theorem m1_of {f : D → D → M D} {r : V → List V → Hp → VK → Prop} (h : ∀ (E : XK) F H v u d e Q, Same F H → RpT X.K F H v d → RpT X.K F H u e → WpG X.K E (rE X.K) (f d e) F H Q → r v [u] H Q) :
    ∀ (E : XK) (F H : Hp) (v : V) (d : D) (vs : List V) (ds : List D) (Q : VK), Same F H → RpT X.K F H v d → RpTL X.K F H vs ds → WpG X.K E (rE X.K) (m1 f d ds) F H Q → r v vs H Q := fun E F H v d vs ds Q s r1 r q => by
  cases r with
  | nil => exact q.elim
  | cons r2 r3 => cases r3 with
    | nil => exact h E F H v _ d _ Q s r1 r2 q
    | cons _ _ => exact q.elim
theorem de_join {apos : Pos} {ms : M (List D)} (ho : DR X E G b mb) (ha : DRA X E G [a] ms)
    (hbase : attributeBase b "join" X.env (eval b X.env) = eval b X.env := by rfl)
    (hfew : ((backTo pos (starEach [a] X.env)).all (fun x => !x.1) && (backToKw pos (keywordEach [] X.env)).all (fun x => x.1.isSome)
      && decide (([a] : List Expr).length + ([] : List Keyword).length + (if ([] : List Keyword).isEmpty then 0 else 1) < 30)) = true := by rfl)
    (hline : (apos.endLine == pos.line) = true := by rfl) (hs : starEach [a] X.env = (false, eval a X.env) :: starEach [] X.env := by rfl) (hplain : (backTo pos (starEach [] X.env)).any (·.1) = false := by rfl) :
    DE X E G (.Call (.Attribute b "join" apos) [a] [] pos) (meth D.isStr mb ms (m1 D.join)) :=
  de_m PySem.F.plainAttrs_str PySem.F.slot_str_join PySem.F.type_str_join mt_join (fun F H v d h _ r => ty_str h r) (m1_of fun E F H v u d e Q s r1 r2 q => by
    cases d with
    | str z =>
      cases e with
      | lst l =>
        have q : WpG X.K E (rE X.K) (match D.strs l with
          | some ys => (need (decide ((ys.map (·.length)).sum + ys.length * z.length ≤ 16777216)) >>= fun _ => .ok (.str (Txt.join z ys)))
          | none => stuck) F H Q := q
        cases e : D.strs l with
        | none => rw [e] at q; exact q.elim
        | some ys =>
          rw [e] at q
          obtain ⟨c, q⟩ := WpG.need q
          have c := of_decide_eq_true c
          obtain ⟨p, xs, rfl, h, r⟩ := r2.lst s
          obtain ⟨rfl, ok⟩ := strs_rp e r
          exact ⟨z, p, ys, r1.str.1, rfl, .inl (SqL.of h), c, q F H _ (Ext.refl s) (.str _ (strOk_join r1.str.2 ok))⟩
      | tup l =>
        have q : WpG X.K E (rE X.K) (match D.strs l with
          | some ys => (need (decide ((ys.map (·.length)).sum + ys.length * z.length ≤ 16777216)) >>= fun _ => .ok (.str (Txt.join z ys)))
          | none => stuck) F H Q := q
        cases e : D.strs l with
        | none => rw [e] at q; exact q.elim
        | some ys =>
          rw [e] at q
          obtain ⟨c, q⟩ := WpG.need q
          have c := of_decide_eq_true c
          obtain ⟨p, xs, rfl, h, r⟩ := r2.tup s
          obtain ⟨rfl, ok⟩ := strs_rp e r
          exact ⟨z, p, ys, r1.str.1, rfl, .inr h, c, q F H _ (Ext.refl s) (.str _ (strOk_join r1.str.2 ok))⟩
      | _ => exact q.elim
    | _ => cases e <;> exact q.elim) ho ha hbase hfew hline hs hplain
inductive DJ (X : Cx) (E : St → XK) (G : List Sl) : List Expr → List (M D) → Prop
  | nil : DJ X E G [] []
  | cons {e : Expr} {m : M D} {es : List Expr} {ms : List (M D)} : DE X E G e m → DJ X E G es ms → DJ X E G (e :: es) (m :: ms)
def Yld (K : PySem.W.Frag) (J : It) (P : Hp → Hp → Prop) (ds : List D) : Prop := ∀ F H, P F H → Same F H → (∀ (i : Nat) (d : D), ds[i]? = some d → J.go i H ∧ ∀ x H', J.yld i H x H' → ∃ F', Ext F H F' H' ∧ Rp K F' x d) ∧ J.stop ds.length H
def DI (X : Cx) (E : St → XK) (G : List Sl) (tg iter : Expr) (m : M (List D)) : Prop :=
  ∃ wi, PI X tg iter wi ∧ ∀ B σ F H R, Same F H → GOk X.K B G σ F H → WpG X.K (E σ) (fun F' _ J ds => Yld X.K J (fun F1 _ => Same F' F1) ds) m F H R → wi σ H R
def DIR (X : Cx) (E : St → XK) (G : List Sl) (tg iter : Expr) (m : M (List D)) : Prop :=
  ∃ wi, PI X tg iter wi ∧ ∀ B σ F H R, Same F H → GOk X.K B G σ F H → WpG X.K (E σ) (fun F' H' J ds => Yld X.K J (fun F1 H1 => Ext F' H' F1 H1) ds) m F H R → wi σ H R
theorem DIR.of {tg iter : Expr} {m : M (List D)} (h : DI X E G tg iter m) : DIR X E G tg iter m := by
  obtain ⟨t, p, w⟩ := h
  exact ⟨t, p, fun B σ F H Q s g q => w B σ F H Q s g (match m, q with
    | .ok d, q => fun F' H' J x r => q F' H' J x fun F1 H1 y s1 => r F1 H1 y.sF s1
    | .error .stuck, q => q.elim
    | .error (.exc x), q => q)⟩
def iSeq (K : PySem.W.Frag) (tl : TE) : TI := fun σ H R => tl σ H fun x H1 => (∃ a, x = .ref a ∧ (∃ xs, SqL K H1 a xs) ∧ R (Itl K a) H1) ∨ (∃ a, x = .ref a ∧ (∃ xs, SqT K H1 a xs) ∧ R (Itt K a) H1) ∨ ∃ y, x = .str y ∧ R (Its y) H1
theorem pi_seq {tg l : Expr} {tl : TE} (hl : PE X l tl) : PI X tg l (iSeq X.K tl) := by
  refine ⟨fun pins s σ H R I h => ?_⟩
  refine thn (hl.run pins s σ H _ I h) fun v s1 ⟨x, H1, I1, r1, q1⟩ => ?_
  have tv : ∀ (Q : VK), Q x H1 → tC x σ H1 Q := fun Q h => h
  rcases q1 with ⟨a, e, ⟨xs, hq⟩, q⟩ | ⟨a, e, ⟨xs, hq⟩, q⟩ | ⟨y, e, q⟩
  · subst e
    cases r1
    obtain ⟨its, rv, p, hz⟩ := I1.list hq
    refine wpAny_pyIter_list p.isList ?_
    refine ⟨s1.heap.objs.size, [s1.heap.objs.size], _, _, H1, rfl, I1.kept (t' := s1.toks) fun b o e => Heap.get?_push_of_some _ e, turn_list a _, ⟨_, Heap.get?_push_size _ rfl, rfl, rfl⟩, fun b hb => ?_, q⟩
    have e : b = s1.heap.objs.size := by simpa using hb
    subst e
    exact I1.fpOk (Nat.le_refl _) (I1.hok.fresh (Nat.le_refl _))
  · subst e
    cases r1
    obtain ⟨its, rv, p, hz⟩ := I1.tuple hq
    refine wpAny_pyIter_tuple (show s1.heap.IsTuple a its.toArray from p) ?_
    refine ⟨s1.heap.objs.size, [s1.heap.objs.size], _, _, H1, rfl, I1.kept (t' := s1.toks) fun b o e => Heap.get?_push_of_some _ e, turn_tuple a _, ⟨_, Heap.get?_push_size _ rfl, rfl, rfl⟩, fun b hb => ?_, q⟩
    have e : b = s1.heap.objs.size := by simpa using hb
    subst e
    exact I1.fpOk (Nat.le_refl _) (I1.hok.fresh (Nat.le_refl _))
  · subst e
    obtain ⟨t, rfl⟩ := r1
    cases ha : y.cps.all (· < 128)
    · exact wpAny_pyIter_wide ha (pi_one (tk := s1.toks) I1 _ (turn_str _ y t "str_iterator" (.inr rfl)) ⟨_, Heap.get?_push_size _ rfl, rfl, rfl⟩ q)
    · exact wpAny_pyIter_ascii ha (pi_one (tk := s1.toks) I1 _ (turn_str _ y t "str_ascii_iterator" (.inl rfl)) ⟨_, Heap.get?_push_size _ rfl, rfl, rfl⟩ q)
def D.items : D → M (List D)
  | .lst l => .ok l
  | .tup l => .ok l
  | .str y => .ok (y.cps.toList.map fun c => D.str ⟨#[c]⟩)
  | _ => stuck
theorem yld_list {K : PySem.W.Frag} {a : Addr} {xs : List V} {ds : List D} {F0 : Hp} {P : Hp → Hp → Prop} (r : RpL K F0 xs ds) (h : ∀ F H, P F H → Same F H → Same F0 F ∧ H a = some (.lst xs)) : Yld K (Itl K a) P ds := fun F H p s => by
  obtain ⟨h1, h2⟩ := h F H p s
  refine ⟨fun i d hd => ?_, ?_⟩
  · obtain ⟨x, hx, rx⟩ := r.get hd
    refine ⟨⟨xs, x, SqL.of h2, hx⟩, fun y H' hy => ?_⟩
    obtain ⟨rfl, hy⟩ := hy
    have e : x = y := Option.some.inj (hx.symm.trans (hy xs (SqL.of h2)))
    subst e
    exact ⟨F, Ext.refl s, rx.mono h1⟩
  · exact ⟨xs, SqL.of h2, by rw [r.length]; exact Nat.le_refl _⟩
theorem yld_tup {K : PySem.W.Frag} {a : Addr} {xs : List V} {ds : List D} {F0 : Hp} {P : Hp → Hp → Prop} (r : RpL K F0 xs ds) (h : ∀ F H, P F H → Same F H → Same F0 F ∧ SqT K H a xs) : Yld K (Itt K a) P ds := fun F H p s => by
  obtain ⟨h1, h2⟩ := h F H p s
  refine ⟨fun i d hd => ?_, ?_⟩
  · obtain ⟨x, hx, rx⟩ := r.get hd
    refine ⟨⟨xs, x, h2, hx⟩, fun y H' hy => ?_⟩
    obtain ⟨rfl, hy⟩ := hy
    have e : x = y := Option.some.inj (hx.symm.trans (hy xs h2))
    subst e
    exact ⟨F, Ext.refl s, rx.mono h1⟩
  · exact ⟨xs, h2, by rw [r.length]; exact Nat.le_refl _⟩
theorem yld_str {K : PySem.W.Frag} {y : Str} {P : Hp → Hp → Prop} (ok : PyData.strOk y = true) : Yld K (Its y) P (y.cps.toList.map fun c => D.str ⟨#[c]⟩) := fun F H p s => by
  refine ⟨fun i d hd => ?_, ?_⟩
  · rw [List.getElem?_map] at hd
    cases e : y.cps.toList[i]? with
    | none => rw [e] at hd; cases hd
    | some c =>
      rw [e] at hd
      cases hd
      have hi : i < y.cps.toList.length := (List.getElem?_eq_some_iff.mp e).1
      refine ⟨by show i < y.cps.size; simpa using hi, fun x H' hx => ?_⟩
      obtain ⟨rfl, c', hc, rfl⟩ := hx
      have e2 : y.cps.toList[i]? = some c' := by simpa using hc
      rw [e] at e2
      cases e2
      exact ⟨F, Ext.refl s, .str _ (strOk_one ok (List.mem_of_getElem? e))⟩
  · show y.cps.size ≤ _
    simp
theorem di_seq {tg : Expr} (ha : DE X E G a ma) : DI X E G tg a (ma >>= fun x => D.items x) := by
  obtain ⟨t, p, w⟩ := ha
  refine ⟨_, pi_seq p, fun B σ F H R s g q => w B σ F H _ s g (q.bind fun x F1 H1 v x1 r1 k1 => ?_)⟩
  cases x with
  | lst l => cases r1 with
    | lst h r => exact .inl ⟨_, rfl, ⟨_, SqL.of (x1.sFH _ _ h)⟩, k1 F1 H1 _ (Ext.refl x1.sFH) (yld_list r fun F2 H2 p s2 => ⟨p, s2 _ _ (p _ _ h)⟩)⟩
  | tup l => cases r1 with
    | tup h r => exact .inr (.inl ⟨_, rfl, ⟨_, Same.seqT x1.sFH (h).sqT⟩, k1 F1 H1 _ (Ext.refl x1.sFH) (yld_tup r fun F2 H2 p s2 => ⟨p, Same.seqT s2 (Same.seqT p (h).sqT)⟩)⟩)
  | str y => cases r1 with
    | str _ ok => exact .inr (.inr ⟨y, rfl, k1 F1 H1 _ (Ext.refl x1.sFH) (yld_str ok)⟩)
  | _ => exact k1.elim
end
end DL

set_option Elab.async false
set_option linter.all false
set_option maxRecDepth 100000
set_option maxHeartbeats 4000000
namespace DL
open PySem PySem.Spec L2
section
variable {X : Cx} {E : St → XK} {G : List Sl} {a b c e : Expr} {ma mb mc : M D} {ta tb : M Bool} {pos : Pos} {F H : Hp}

theorem dir_seq {tg : Expr} (ha : DR X E G a ma) : DIR X E G tg a (ma >>= fun x => D.items x) := by
  obtain ⟨t, p, w⟩ := ha
  refine ⟨_, pi_seq p, fun B σ F H R s g q => w B σ F H _ s g (q.bind fun x F1 H1 v x1 r1 k1 => ?_)⟩
  cases x with
  | lst l =>
    obtain ⟨a, xs, rfl, h, r⟩ := r1.lst x1.sFH
    exact .inl ⟨_, rfl, ⟨_, SqL.of h⟩, k1 F1 H1 _ (Ext.refl x1.sFH) (yld_list r fun F2 H2 p s2 => ⟨p.sF, p.sH _ _ h⟩)⟩
  | tup l =>
    obtain ⟨a, xs, rfl, h, r⟩ := r1.tup x1.sFH
    exact .inr (.inl ⟨_, rfl, ⟨_, h⟩, k1 F1 H1 _ (Ext.refl x1.sFH) (yld_tup r fun F2 H2 p s2 => ⟨p.sF, Same.seqT p.sH h.sqT⟩)⟩)
  | str y =>
    obtain ⟨rfl, ok⟩ := r1.str
    exact .inr (.inr ⟨y, rfl, k1 F1 H1 _ (Ext.refl x1.sFH) (yld_str ok)⟩)
  | _ => exact k1.elim

def rangeL (lo : Int) (n : Nat) : List D := (List.range n).map fun (k : Nat) => D.int (lo + (k : Int))
def smallI (i : Int) : Bool := decide (-(2 ^ 62) ≤ i ∧ i < 2 ^ 62)
def D.range1 : List D → M (List D)
  | [.int j] => do need (smallI j); .ok (rangeL 0 j.toNat)
  | _ => stuck
def D.range2 : List D → M (List D)
  | [.int i, .int j] => do need (smallI i && smallI j); .ok (rangeL i (j - i).toNat)
  | _ => stuck
theorem yld_range {K : PySem.W.Frag} {lo : Int} {n : Nat} {P : Hp → Hp → Prop} : Yld K (Itr lo n) P (rangeL lo n) := fun F H p s => by
  refine ⟨fun i d hd => ?_, ?_⟩
  · unfold rangeL at hd
    rw [List.getElem?_map] at hd
    cases e : (List.range n)[i]? with
    | none => rw [e] at hd; cases hd
    | some k =>
      rw [e] at hd
      cases hd
      obtain ⟨hi, hk⟩ := List.getElem?_eq_some_iff.mp e
      rw [List.length_range] at hi
      rw [List.getElem_range] at hk
      subst hk
      refine ⟨hi, fun x H' hx => ?_⟩
      obtain ⟨rfl, rfl⟩ := hx
      exact ⟨F, Ext.refl s, .int _⟩
  · show n ≤ _
    unfold rangeL
    rw [List.length_map, List.length_range]
    exact Nat.le_refl _
theorem di_range1 {tg : Expr} {p : Pos} {ms : M (List D)} (hg : Gl X "range") (hm : X.mg "range" = none) (ha : DRA X E G [a] ms) (hs : starEach [a] X.env = [(false, eval a X.env)] := by rfl) : DI X E G tg (.Call (.Name "range" p) [a] [] pos) (ms >>= fun l => D.range1 l) := by
  obtain ⟨t, pp, w⟩ := ha
  refine ⟨_, pi_range1 hg hm pp hs, fun B σ F H R s g q => w B σ F H _ s g (q.bind fun l F1 H1 vs x1 r1 k1 => ?_)⟩
  cases r1 with
  | nil => exact k1.elim
  | @cons v vs d ds r1 r2 => cases r2 with
    | cons _ _ => cases d <;> exact k1.elim
    | nil => cases d with
      | int j =>
        have k1 : WpG X.K (E σ) _ (need (smallI j) >>= fun _ => .ok (rangeL 0 j.toNat)) F1 H1 R := k1
        obtain ⟨c, k1⟩ := k1.need
        have c := of_decide_eq_true c
        exact ⟨j, by rw [r1.int], c.1, c.2, k1 F1 H1 _ (Ext.refl x1.sFH) yld_range⟩
      | _ => exact k1.elim
theorem GOk.set {K : PySem.W.Frag} {B : Hp} {σ : St} {i : Nat} {v : V} {d : D} (g : GOk K B G σ F H) (r : Rp K F v d) : GOk K B (G.set i (.val d)) (σ.set i (some v)) F H where
  sB := g.sB
  len := by rw [List.length_set, List.length_set]; exact g.len
  ok := fun j s h => by
    by_cases e : i = j
    · subst e
      have hi : i < G.length := by
        have := (List.getElem?_eq_some_iff.mp h).1
        rwa [List.length_set] at this
      rw [List.getElem?_set_self hi] at h
      cases h
      exact ⟨some v, by rw [List.getElem?_set_self (by rw [g.len]; exact hi)], v, rfl, r⟩
    · rw [List.getElem?_set_ne e] at h
      rw [List.getElem?_set_ne e]
      exact g.ok j s h
  dis := fun j k s t a h1 h2 o1 o2 e1 e2 => by
    have nj : i ≠ j := fun z => by
      subst z
      have hi : i < G.length := by
        have := (List.getElem?_eq_some_iff.mp h1).1
        rwa [List.length_set] at this
      rw [List.getElem?_set_self hi] at h1
      cases h1
      cases o1
    have nk : i ≠ k := fun z => by
      subst z
      have hi : i < G.length := by
        have := (List.getElem?_eq_some_iff.mp h2).1
        rwa [List.length_set] at this
      rw [List.getElem?_set_self hi] at h2
      cases h2
      cases o2
    rw [List.getElem?_set_ne nj] at h1 e1
    rw [List.getElem?_set_ne nk] at h2 e2
    exact g.dis j k s t a h1 h2 o1 o2 e1 e2
theorem GOk.any {K : PySem.W.Frag} {B : Hp} {σ : St} {i : Nat} (g : GOk K B G σ F H) : GOk K B (G.set i .any) σ F H where
  sB := g.sB
  len := by rw [List.length_set]; exact g.len
  ok := fun j s h => by
    by_cases e : i = j
    · subst e
      have hi : i < G.length := by
        have := (List.getElem?_eq_some_iff.mp h).1
        rwa [List.length_set] at this
      rw [List.getElem?_set_self hi] at h
      cases h
      exact ⟨σ[i]'(by rw [g.len]; exact hi), List.getElem?_eq_getElem _, trivial⟩
    · rw [List.getElem?_set_ne e] at h
      exact g.ok j s h
  dis := fun j k s t a h1 h2 o1 o2 e1 e2 => by
    have nj : i ≠ j := fun z => by
      subst z
      have hi : i < G.length := by
        have := (List.getElem?_eq_some_iff.mp h1).1
        rwa [List.length_set] at this
      rw [List.getElem?_set_self hi] at h1
      cases h1
      cases o1
    have nk : i ≠ k := fun z => by
      subst z
      have hi : i < G.length := by
        have := (List.getElem?_eq_some_iff.mp h2).1
        rwa [List.length_set] at this
      rw [List.getElem?_set_self hi] at h2
      cases h2
      cases o2
    rw [List.getElem?_set_ne nj] at h1
    rw [List.getElem?_set_ne nk] at h2
    exact g.dis j k s t a h1 h2 o1 o2 e1 e2
def gNames : List Nat → TGs
  | [] => gNil
  | i :: is => gCons (gName i) (gNames is)
def setAll (G : List Sl) : List Nat → List D → M (List Sl)
  | [], [] => .ok G
  | i :: is, d :: ds => setAll (G.set i (.val d)) is ds
  | _, _ => stuck
theorem gNames_run {K : PySem.W.Frag} : ∀ {is : List Nat} {ds : List D} {xs : List V} {G G' : List Sl} {B : Hp} {σ : St} {Q : St → Hp → Prop}, Same F H → GOk K B G σ F H → RpL K F xs ds → setAll G is ds = .ok G' →
    (∀ σ', GOk K B G' σ' F H → (∀ k, k ∉ is → σ'[k]? = σ[k]?) → σ'.length = σ.length → Q σ' H) → gNames is xs σ H Q
  | [], [], _, _, _, _, _, _, s, g, .nil, e, k => by
    cases e
    exact ⟨rfl, k _ g (fun _ _ => rfl) rfl⟩
  | [], _ :: _, _, _, _, _, _, _, s, g, _, e, k => by cases e
  | _ :: _, [], _, _, _, _, _, _, s, g, _, e, k => by cases e
  | i :: is, d :: ds, _, G, G', B, σ, Q, s, g, .cons r1 r2, e, k => by
    refine ⟨_, _, rfl, gNames_run (is := is) s (g.set r1) r2 e fun σ' g' hk hl => k σ' g' (fun k hk' => ?_) (by rw [hl, List.length_set])⟩
    rw [hk k fun z => hk' (List.mem_cons_of_mem _ z)]
    exact List.getElem?_set_ne fun z => hk' (by simp [z])
def wipeG (G : List Sl) : List Nat → List Sl
  | [] => G
  | v :: vs => (wipeG G vs).set v .any
theorem GOk.setAny {K : PySem.W.Frag} {B : Hp} {σ : St} {i : Nat} {o : Option V} (g : GOk K B G σ F H) : GOk K B (G.set i .any) (σ.set i o) F H where
  sB := g.sB
  len := by rw [List.length_set, List.length_set]; exact g.len
  ok := fun j s h => by
    by_cases e : i = j
    · subst e
      have hi : i < G.length := by
        have := (List.getElem?_eq_some_iff.mp h).1
        rwa [List.length_set] at this
      rw [List.getElem?_set_self hi] at h
      cases h
      exact ⟨o, by rw [List.getElem?_set_self (by rw [g.len]; exact hi)], trivial⟩
    · rw [List.getElem?_set_ne e] at h
      rw [List.getElem?_set_ne e]
      exact g.ok j s h
  dis := fun j k s t a h1 h2 o1 o2 e1 e2 => by
    have nj : i ≠ j := fun z => by
      subst z
      have hi : i < G.length := by
        have := (List.getElem?_eq_some_iff.mp h1).1
        rwa [List.length_set] at this
      rw [List.getElem?_set_self hi] at h1
      cases h1
      cases o1
    have nk : i ≠ k := fun z => by
      subst z
      have hi : i < G.length := by
        have := (List.getElem?_eq_some_iff.mp h2).1
        rwa [List.length_set] at this
      rw [List.getElem?_set_self hi] at h2
      cases h2
      cases o2
    rw [List.getElem?_set_ne nj] at h1 e1
    rw [List.getElem?_set_ne nk] at h2 e2
    exact g.dis j k s t a h1 h2 o1 o2 e1 e2
theorem GOk.wipe {K : PySem.W.Frag} {B : Hp} {σ : St} (g : GOk K B G σ F H) : ∀ vs : List Nat, GOk K B (wipeG G vs) (wipe σ vs) F H
  | [] => g
  | v :: vs => (GOk.wipe g vs).setAny
theorem wipe_same {σ σ' : St} : ∀ {vs : List Nat}, (∀ k, k ∉ vs → σ'[k]? = σ[k]?) → σ'.length = σ.length → wipe σ' vs = wipe σ vs := by
  intro vs h hl
  apply List.ext_getElem?
  intro k
  by_cases hk : k ∈ vs
  · have q : ∀ (ws : List Nat) (ρ : St), k ∈ ws → k < ρ.length → (wipe ρ ws)[k]? = some none := by
      intro ws
      induction ws with
      | nil => intro ρ h; cases h
      | cons w ws ih =>
        intro ρ h hlt
        show ((wipe ρ ws).set w none)[k]? = some none
        by_cases e : w = k
        · subst e
          rw [List.getElem?_set_self (by rw [wipe_length]; exact hlt)]
        · rw [List.getElem?_set_ne e]
          rcases List.mem_cons.mp h with z | z
          · exact absurd z.symm e
          · exact ih ρ z hlt
    by_cases hlt : k < σ.length
    · rw [q vs σ' hk (by rw [hl]; exact hlt), q vs σ hk hlt]
    · rw [List.getElem?_eq_none (by rw [wipe_length, hl]; omega), List.getElem?_eq_none (by rw [wipe_length]; omega)]
  · have q : ∀ (ws : List Nat) (ρ : St), k ∉ ws → (wipe ρ ws)[k]? = ρ[k]? := by
      intro ws
      induction ws with
      | nil => intro ρ _; rfl
      | cons w ws ih =>
        intro ρ h
        show ((wipe ρ ws).set w none)[k]? = _
        rw [List.getElem?_set_ne (fun z => h (by simp [z]))]
        exact ih ρ fun z => h (List.mem_cons_of_mem _ z)
    rw [q vs σ' hk, q vs σ hk]
    exact h k hk
def DN (X : Cx) (E : St → XK) (G : List Sl) (e : Expr) (m : M (List D)) : Prop :=
  ∃ t, PE X e t ∧ ∀ B σ F H Q, Same F H → GOk X.K B G σ F H → WpG X.K (E σ) (fun F' H' (v : V) (l : List D) => ∃ p xs, v = .ref p ∧ H p = none ∧ H' p = some (.lst xs) ∧ F' p = none ∧ RpL X.K F' xs l) m F H Q → t σ H Q
theorem Ext.freeze {F' H' : Hp} {p : Addr} {xs : List V} (x : Ext F H F' H') (n : H p = none) (h : H' p = some (.lst xs)) (nf : F' p = none) : Ext F H (upd F' p (.lst xs)) H' where
  sF := fun b o q => by
    rw [upd_ne (fun z => by
      subst z
      have := x.sF _ _ q
      rw [nf] at this
      cases this)]
    exact x.sF _ _ q
  sH := x.sH
  sFH := fun b o q => by
    by_cases e : b = p
    · subst e
      rw [upd_same] at q
      cases q
      exact h
    · rw [upd_ne e] at q
      exact x.sFH _ _ q
  old := fun a o q => by
    rw [upd_ne (ne_of_none q n)]
    exact x.old a o q
theorem DN.de {m : M (List D)} (h : DN X E G e m) : DE X E G e (m >>= fun l => .ok (.lst l)) := by
  obtain ⟨t, p, w⟩ := h
  refine ⟨t, p, fun B σ F H Q s g q => w B σ F H Q s g ?_⟩
  cases m with
  | ok l =>
    intro F' H' v x ⟨p, xs, ev, n, h, nf, r⟩
    subst ev
    exact q _ H' _ (x.freeze n h nf) (.lst upd_same (r.mono (same_new nf)))
  | error er => cases er with
    | stuck => exact q.elim
    | exc y => exact q
def comp (f : D → M (Option D)) : List D → M (List D)
  | [] => .ok []
  | d :: ds => match f d with
    | .ok (some y) => comp f ds >>= fun ys => .ok (y :: ys)
    | .ok none => comp f ds
    | .error _ => stuck
def compL (f : D → M (Option D)) (ds : List D) : M (List D) := do need (decide (ds.length ≤ sizeLine)); comp f ds
theorem comp_snoc {f : D → M (Option D)} : ∀ {ds : List D} {ys : List D}, comp f ds = .ok ys → ∀ {i : Nat} {d : D}, ds[i]? = some d → ∃ y zs ws, f d = .ok y ∧ comp f (ds.take i) = .ok zs ∧ comp f (ds.take (i + 1)) = .ok (zs ++ y.toList) ∧ ys = ws
  | [], _, _, _, _, h => by simp at h
  | d0 :: ds, ys, h, i, d, hd => by
    have h : (match f d0 with
      | .ok (some y) => comp f ds >>= fun ys => .ok (y :: ys)
      | .ok none => comp f ds
      | .error _ => stuck) = .ok ys := h
    cases e : f d0 with
    | error x => rw [e] at h; cases h
    | ok o =>
      rw [e] at h
      cases i with
      | zero =>
        have : d0 = d := by simpa using hd
        subst this
        refine ⟨o, [], ys, e, rfl, ?_, rfl⟩
        show comp f [d0] = _
        cases o with
        | none => simp [comp, e]
        | some y =>
          simp only [comp, e]
          rfl
      | succ i =>
        have hd' : ds[i]? = some d := by simpa using hd
        have key : ∃ ys', comp f ds = .ok ys' := by
          cases o with
          | none => exact ⟨ys, h⟩
          | some y =>
            cases e2 : comp f ds with
            | ok l => exact ⟨l, rfl⟩
            | error x =>
              have h : (comp f ds >>= fun ys => (.ok (y :: ys) : M (List D))) = .ok ys := h
              rw [e2] at h
              cases h
        obtain ⟨ys', e2⟩ := key
        obtain ⟨y, zs, ws, f1, f2, f3, _⟩ := comp_snoc e2 hd'
        refine ⟨y, o.toList ++ zs, ys, f1, ?_, ?_, rfl⟩
        · show comp f (d0 :: ds.take i) = _
          cases o with
          | none => simp [comp, e, f2]
          | some z =>
            simp only [comp, e, f2]
            rfl
        · show comp f (d0 :: ds.take (i + 1)) = _
          cases o with
          | none => simp [comp, e, f3]
          | some z =>
            simp only [comp, e, f3]
            show (.ok (z :: (zs ++ y.toList)) : M (List D)) = _
            simp
theorem comp_len {f : D → M (Option D)} : ∀ {ds ys : List D}, comp f ds = .ok ys → ys.length ≤ ds.length
  | [], ys, h => by
    cases h
    exact Nat.le_refl _
  | d :: ds, ys, h => by
    have h : (match f d with
      | .ok (some y) => comp f ds >>= fun ys => .ok (y :: ys)
      | .ok none => comp f ds
      | .error _ => stuck) = .ok ys := h
    cases e : f d with
    | error x => rw [e] at h; cases h
    | ok o =>
      rw [e] at h
      cases o with
      | none =>
        have := comp_len h
        simp only [List.length_cons]
        omega
      | some y =>
        cases e2 : comp f ds with
        | error x =>
          have h : (comp f ds >>= fun ys => (.ok (y :: ys) : M (List D))) = .ok ys := h
          rw [e2] at h
          cases h
        | ok l =>
          have h : (comp f ds >>= fun ys => (.ok (y :: ys) : M (List D))) = .ok ys := h
          rw [e2] at h
          cases h
          have := comp_len e2
          simp only [List.length_cons]
          omega
abbrev cE (E : XK) : St → XK := fun _ => E
abbrev EN0 : XK := fun _ _ _ => False
abbrev EN : St → XK := fun _ => EN0
theorem DE.canon {m : M D} (h : DE X E G e m) : PE X e (fun σ H Q => ∃ B F, Same F H ∧ GOk X.K B G σ F H ∧ WpG X.K (E σ) (rE X.K) m F H Q) := by
  obtain ⟨t, p, w⟩ := h
  exact ⟨fun pins s σ H Q I ⟨B, F, s1, g, q⟩ => p.run pins s σ H Q I (w B σ F H Q s1 g q)⟩
theorem DT.canon {m : M Bool} (h : DT X E G e m) : PT X e (fun σ H Q => ∃ B F, Same F H ∧ GOk X.K B G σ F H ∧ WpG X.K (E σ) rB m F H Q) := by
  obtain ⟨t, p, w⟩ := h
  exact ⟨fun pins s σ H Q I ⟨B, F, s1, g, q⟩ => p.run pins s σ H Q I (w B σ F H Q s1 g q)⟩
def tElt (K : PySem.W.Frag) (b : D → M (List Sl)) (me : D → M D) : TE := fun σ H Q => ∃ d G' B F, b d = .ok G' ∧ Same F H ∧ GOk K B G' σ F H ∧ WpG K EN0 (rE K) (me d) F H Q
def tTst (K : PySem.W.Frag) (b : D → M (List Sl)) (mt : D → M Bool) : TT := fun σ H Q => ∃ d G' B F, b d = .ok G' ∧ Same F H ∧ GOk K B G' σ F H ∧ WpG K EN0 rB (mt d) F H Q
def fElt (mt : D → M Bool) (me : D → M D) : D → M (Option D) := fun d => mt d >>= fun k => if k = true then me d >>= fun y => .ok (some y) else .ok none
theorem lc_run {E₁ : XK} {K : PySem.W.Frag} {J : It} {ds ys : List D} {vs : List Nat} {g : TG} {b : D → M (List Sl)} {mt : D → M Bool} {me : D → M D} {tt : TT} {te : TE} {B : Hp} {σ : St} {F0 H0 : Hp} {G : List Sl} {Q : VK}
    (hg : ∀ x v B σ F H (Q : St → Hp → Prop), Same F H → GOk K B (wipeG G vs) σ F H → Rp K F v x → (∃ G', b x = .ok G' ∧ ∀ σ', GOk K B G' σ' F H → (∀ k, k ∉ vs → σ'[k]? = σ[k]?) → σ'.length = σ.length → Q σ' H) → g v σ H Q)
    (hb : ∀ d y, fElt mt me d = .ok y → ∃ G', b d = .ok G')
    (ht : ∀ σ H Q, tTst K b mt σ H Q → tt σ H Q) (he : ∀ σ H Q, tElt K b me σ H Q → te σ H Q)
    (s0 : Same F0 H0) (g0 : GOk K B G σ F0 H0) (y0 : Yld K J (fun F1 H1 => Ext F0 H0 F1 H1) ds) (hl : ds.length ≤ sizeLine) (hc : comp (fElt mt me) ds = .ok ys)
    (q : WpG K E₁ (fun F' H' (v : V) (l : List D) => ∃ p xs, v = .ref p ∧ H0 p = none ∧ H' p = some (.lst xs) ∧ F' p = none ∧ RpL K F' xs l) (.ok ys) F0 H0 Q) :
    ∀ D, H0 D = none → ∃ W : Nat → Nat → Hp → Prop, (∃ m, W 0 m (upd H0 D (.lst []))) ∧ ∀ i m H, W i m H →
      (J.stop i H ∧ Q (.ref D) H) ∨ (J.go i H ∧ ∃ Nx : Hp → Prop, (∀ H', Nx H' → ∃ m', m' < m ∧ W (i + 1) m' H') ∧ ∀ x H', J.yld i H x H' → g x (wipe σ vs) H' fun σ2 H2 => wipe σ2 vs = wipe σ vs ∧ tt σ2 H2 fun b H3 =>
        if b = true then te σ2 H3 fun y H4 => ∃ acc, H4 D = some (.lst acc) ∧ acc.length < sizeLine ∧ Nx (upd H4 D (.lst (acc ++ [y]))) else Nx H3) := by
  intro D nD
  -- behind i turns
  let Pv : Nat → Hp → Prop := fun i H => ∃ F xs zs, Ext F0 H0 F H ∧ comp (fElt mt me) (ds.take i) = .ok zs ∧ H D = some (.lst xs) ∧ F D = none ∧ RpL K F xs zs
  have wr : ∀ {F H : Hp} {xs xs' : List V}, Ext F0 H0 F H → H D = some (.lst xs) → F D = none → Ext F0 H0 F (upd H D (.lst xs')) := fun {F H xs xs'} x hD fD =>
    ⟨x.sF, fun c o h => by
      rw [upd_ne (ne_of_none h nD)]
      exact x.sH c o h, fun c o h => by
      rw [upd_ne (fun z => by
        subst z
        rw [fD] at h
        cases h)]
      exact x.sFH c o h, x.old⟩
  refine ⟨fun i m H => m = ds.length - i ∧ i ≤ ds.length ∧ Pv i H, ⟨ds.length, by simp, Nat.zero_le _, F0, [], [], Ext.newH s0 nD, rfl, upd_same, s0.free nD, .nil⟩, ?_⟩
  rintro i m H ⟨rfl, hi, F, xs, zs, x, ez, hD, fD, r⟩
  obtain ⟨yi, ye⟩ := y0 F H x x.sFH
  by_cases hlt : i < ds.length
  · have hd : ds[i]? = some ds[i] := List.getElem?_eq_getElem hlt
    obtain ⟨go, yl⟩ := yi i _ hd
    obtain ⟨o, zs', _, f1, f2, f3, _⟩ := comp_snoc hc hd
    rw [ez] at f2
    cases f2
    have zl := comp_len ez
    rw [List.length_take] at zl
    refine .inr ⟨go, fun H' => Pv (i + 1) H', fun H' p => ⟨ds.length - (i + 1), by omega, rfl, hlt, p⟩, fun v H' hv => ?_⟩
    obtain ⟨F', x', rv⟩ := yl v H' hv
    have x1 := x.trans x'
    have g1 : GOk K B (wipeG G vs) (wipe σ vs) F' H' := (g0.ext x1).wipe vs
    obtain ⟨G', eG⟩ := hb _ _ f1
    refine hg _ v B (wipe σ vs) F' H' _ x1.sFH g1 rv ⟨G', eG, fun σ' g' hk hn => ⟨?_, ?_⟩⟩
    · have e1 := wipe_same (σ := wipe σ vs) (σ' := σ') (vs := vs) hk hn
      rw [e1]
      exact wipe_same (σ := σ) (σ' := wipe σ vs) (vs := vs) (fun k hk => by
        have q : ∀ ws : List Nat, k ∉ ws → (wipe σ ws)[k]? = σ[k]? := by
          intro ws
          induction ws with
          | nil => intro _; rfl
          | cons w ws ih =>
            intro h
            show ((wipe σ ws).set w none)[k]? = _
            rw [List.getElem?_set_ne (fun z => h (by simp [z]))]
            exact ih fun z => h (List.mem_cons_of_mem _ z)
        exact q vs hk) (wipe_length _ _)
    · refine ht σ' H' _ ⟨_, G', B, F', eG, x1.sFH, g', ?_⟩
      -- the test
      have f1' : (mt ds[i] >>= fun k => if k = true then me ds[i] >>= fun y => .ok (some y) else .ok none) = .ok o := f1
      cases em : mt ds[i] with
      | error z => rw [em] at f1'; cases f1'
      | ok k =>
        rw [em] at f1'
        have f1' : (if k = true then me ds[i] >>= fun y => .ok (some y) else .ok none) = Except.ok o := f1'
        intro F2 H2 k' x2 ek
        subst ek
        have x12 := x1.trans x2
        cases k' with
        | false =>
          rw [if_neg Bool.false_ne_true] at f1' ⊢
          cases f1'
          refine ⟨F2, xs, zs, x12, by rw [f3]; simp, x2.sH _ _ (x'.sH _ _ hD), ?_, (r.mono x'.sF).mono x2.sF⟩
          rw [x2.old _ _ (x'.sH _ _ hD), x'.old _ _ hD]
          exact fD
        | true =>
          rw [if_pos rfl] at f1' ⊢
          cases ey : me ds[i] with
          | error z => rw [ey] at f1'; cases f1'
          | ok y =>
            rw [ey] at f1'
            cases f1'
            refine he σ' H2 _ ⟨_, G', B, F2, eG, x2.sFH, g'.ext x2, ?_⟩
            rw [ey]
            intro F3 H3 v3 x3 r3
            have hD3 := x3.sH _ _ (x2.sH _ _ (x'.sH _ _ hD))
            have fD3 : F3 D = none := by
              rw [x3.old _ _ (x2.sH _ _ (x'.sH _ _ hD)), x2.old _ _ (x'.sH _ _ hD), x'.old _ _ hD]
              exact fD
            refine ⟨xs, hD3, by rw [r.length]; omega, F3, xs ++ [v3], zs ++ [y], wr (x12.trans x3) hD3 fD3, by rw [f3]; rfl, upd_same, fD3, (((r.mono x'.sF).mono x2.sF).mono x3.sF).append (.one r3)⟩
  · have e : i = ds.length := by omega
    subst e
    rw [List.take_length, hc] at ez
    cases ez
    exact .inl ⟨ye, q F H _ x ⟨D, xs, rfl, nD, hD, fD, r⟩⟩
def DNL (X : Cx) (E : St → XK) (G : List Sl) (e : Expr) (m : M (List D)) : Prop :=
  ∃ t, PE X e t ∧ (∀ {i : Nat} {y : Str} {py spos : Pos}, X.N[i]? = some y → X.env.scope.names.lookup y = some .local → swapsWith e (some (.Name y py)) spos.line X.env = pure true → PS X (.Assign [.Name y py] e spos) (tAsg t (gName i))) ∧
    ∀ B σ F H Q, Same F H → GOk X.K B G σ F H → WpG X.K (E σ) (fun F' H' (v : V) (l : List D) => ∃ p xs, v = .ref p ∧ H p = none ∧ H' p = some (.lst xs) ∧ F' p = none ∧ RpL X.K F' xs l) m F H Q → t σ H Q
theorem DNL.dn {m : M (List D)} (h : DNL X E G e m) : DN X E G e m := let ⟨t, p, _, w⟩ := h; ⟨t, p, w⟩
theorem dn_lc {tg iter : Expr} {ifs : List Expr} {scope : Scope} {own : List (Str × Nat)} {mi : M (List D)} {b : D → M (List Sl)} {mt : D → M Bool} {me : D → M D} (hc : X.calm = true) (hN : X.N.Nodup) (hi : DIR X E G tg iter mi) (ok : BlkOk X.N X.env.scope scope own)
    {g : TG} (hg : ∀ (s : Shared) (H : Hp) (C : Addr) (cl : List (Str × Addr)) (fp : List Addr), PG (X.blk s H scope (compEnvC scope cl C X.env) fp) tg g)
    (hg2 : ∀ x v B σ F H (Q : St → Hp → Prop), Same F H → GOk X.K B (wipeG G (own.map (·.2))) σ F H → Rp X.K F v x → (∃ G', b x = .ok G' ∧ ∀ σ', GOk X.K B G' σ' F H → (∀ k, k ∉ own.map (·.2) → σ'[k]? = σ[k]?) → σ'.length = σ.length → Q σ' H) → g v σ H Q)
    (ht : ∀ (s : Shared) (H : Hp) (C : Addr) (cl : List (Str × Addr)) (fp : List Addr), PTs (X.blk s H scope (compEnvC scope cl C X.env) fp) ifs (tTst X.K b mt))
    (he : ∀ (s : Shared) (H : Hp) (C : Addr) (cl : List (Str × Addr)) (fp : List Addr), PE (X.blk s H scope (compEnvC scope cl C X.env) fp) e (tElt X.K b me))
    (hb : ∀ d y, fElt mt me d = .ok y → ∃ G', b d = .ok G')
    (hs : ∀ x, foldedSetIterable iter X.env x = pure x := by intro _; rfl) : DNL X E G (.ListComp e [⟨tg, iter, ifs, 0⟩] scope pos) (mi >>= fun ds => compL (fElt mt me) ds) := by
  obtain ⟨wi, pi, wI⟩ := hi
  refine ⟨_, pe_lc hc hN pi ok hg ht he hs, fun h1 h2 h3 => ps_setLc hc hN h1 h2 h3 pi ok hg ht he hs, fun B σ F H Q s gk q => wI B σ F H _ s gk (WpG.bind q fun ds F1 H1 J x1 y1 k1 => ?_)⟩
  have k1 : WpG X.K (E σ) _ (need (decide (ds.length ≤ sizeLine)) >>= fun _ => comp (fElt mt me) ds) F1 H1 Q := k1
  obtain ⟨c, k1⟩ := WpG.need k1
  have c := of_decide_eq_true c
  cases ec : comp (fElt mt me) ds with
  | error z =>
    rw [ec] at k1
    cases z with
    | stuck => exact k1.elim
    | exc z =>
      exfalso
      have q : ∀ l : List D, ∀ z, comp (fElt mt me) l ≠ .error (.exc z) := by
        intro l
        induction l with
        | nil => intro z h; cases h
        | cons d l ih =>
          intro z h
          have h : (match fElt mt me d with
            | .ok (some y) => comp (fElt mt me) l >>= fun ys => .ok (y :: ys)
            | .ok none => comp (fElt mt me) l
            | .error _ => stuck) = .error (.exc z) := h
          cases e1 : fElt mt me d with
          | error w => rw [e1] at h; cases h
          | ok o =>
            rw [e1] at h
            cases o with
            | none => exact ih z h
            | some y =>
              cases e2 : comp (fElt mt me) l with
              | ok w =>
                have h : (comp (fElt mt me) l >>= fun ys => (.ok (y :: ys) : M (List D))) = .error (.exc z) := h
                rw [e2] at h
                cases h
              | error w =>
                have h : (comp (fElt mt me) l >>= fun ys => (.ok (y :: ys) : M (List D))) = .error (.exc z) := h
                rw [e2] at h
                have h : (.error w : M (List D)) = .error (.exc z) := h
                cases h
                exact ih z e2
      exact q _ _ ec
  | ok ys =>
    rw [ec] at k1
    refine lc_run (E₁ := E σ) hg2 hb (fun σ H Q h => h) (fun σ H Q h => h) x1.sFH (gk.ext x1) y1 c ec ?_
    intro F' H' v x ⟨p, xs, e1, n1, h1, f1, r1⟩
    refine k1 F' H' v x ⟨p, xs, e1, ?_, h1, f1, r1⟩
    exact Same.free x1.sH n1
end
end DL

set_option Elab.async false
set_option linter.all false
set_option maxRecDepth 100000
set_option maxHeartbeats 4000000
namespace DL
open PySem PySem.Spec L2

section
variable {K : PySem.W.Frag} {E : XK} {B0 B F H F' H' : Hp}
def OcP (K : PySem.W.Frag) (B0 B : Hp) (F : Hp) (D : Ends) : Oc → Prop
  | .nx G => ∀ σ F' H', Same F F' → Ext B0 B F' H' → GOk K B G σ F' H' → D.nx σ H'
  | .ct G => ∀ σ F' H', Same F F' → Ext B0 B F' H' → GOk K B G σ F' H' → D.ct σ H'
  | .bk G => ∀ σ F' H', Same F F' → Ext B0 B F' H' → GOk K B G σ F' H' → D.bk σ H'
  | .rt d => ∀ v F' H', Same F F' → Ext B0 B F' H' → Rp K F' v d → D.rt v H'
  | .rg R => ∀ v F' H', Same F F' → Ext B0 B F' H' → R B F' H' v → D.rt v H'
theorem OcP.mono {D : Ends} {o : Oc} (s : Same F F') (h : OcP K B0 B F D o) : OcP K B0 B F' D o := by
  cases o with
  | nx G => exact fun σ F2 H2 s2 => h σ F2 H2 (s.trans s2)
  | ct G => exact fun σ F2 H2 s2 => h σ F2 H2 (s.trans s2)
  | bk G => exact fun σ F2 H2 s2 => h σ F2 H2 (s.trans s2)
  | rt d => exact fun v F2 H2 s2 => h v F2 H2 (s.trans s2)
  | rg R => exact fun v F2 H2 s2 => h v F2 H2 (s.trans s2)
theorem WpB.ok {α : Type} {post : α → Oc} {x : α} {D : Ends} (h : WpB K E B0 B post (.ok x) F D) : OcP K B0 B F D (post x) := by
  have h : (match post x with
    | .nx G => ∀ σ F' H', Same F F' → Ext B0 B F' H' → GOk K B G σ F' H' → D.nx σ H'
    | .ct G => ∀ σ F' H', Same F F' → Ext B0 B F' H' → GOk K B G σ F' H' → D.ct σ H'
    | .bk G => ∀ σ F' H', Same F F' → Ext B0 B F' H' → GOk K B G σ F' H' → D.bk σ H'
    | .rt d => ∀ v F' H', Same F F' → Ext B0 B F' H' → Rp K F' v d → D.rt v H'
    | .rg R => ∀ v F' H', Same F F' → Ext B0 B F' H' → R B F' H' v → D.rt v H') := h
  cases e : post x with
  | nx G => rw [e] at h; exact h
  | ct G => rw [e] at h; exact h
  | bk G => rw [e] at h; exact h
  | rt d => rw [e] at h; exact h
  | rg R => rw [e] at h; exact h
theorem WpB.of_ok {α : Type} {post : α → Oc} {x : α} {D : Ends} (h : OcP K B0 B F D (post x)) : WpB K E B0 B post (.ok x) F D := by
  show (match post x with
    | .nx G => ∀ σ F' H', Same F F' → Ext B0 B F' H' → GOk K B G σ F' H' → D.nx σ H'
    | .ct G => ∀ σ F' H', Same F F' → Ext B0 B F' H' → GOk K B G σ F' H' → D.ct σ H'
    | .bk G => ∀ σ F' H', Same F F' → Ext B0 B F' H' → GOk K B G σ F' H' → D.bk σ H'
    | .rt d => ∀ v F' H', Same F F' → Ext B0 B F' H' → Rp K F' v d → D.rt v H'
    | .rg R => ∀ v F' H', Same F F' → Ext B0 B F' H' → R B F' H' v → D.rt v H')
  cases e : post x with
  | nx G => rw [e] at h; exact h
  | ct G => rw [e] at h; exact h
  | bk G => rw [e] at h; exact h
  | rt d => rw [e] at h; exact h
  | rg R => rw [e] at h; exact h
theorem WpB.err {α β : Type} {post : α → Oc} {p2 : β → Oc} {e : Er} {D : Ends} (h : WpB K E B0 B post (.error e) F D) : WpB K E B0 B p2 (.error e) F D := by
  cases e with
  | stuck => exact h
  | exc x => exact h
theorem WpB.mono {α : Type} {post : α → Oc} {m : M α} {D : Ends} (s : Same F F') (h : WpB K E B0 B post m F D) : WpB K E B0 B post m F' D := by
  cases m with
  | ok x => exact WpB.of_ok (h.ok.mono s)
  | error e => cases e with
    | stuck => exact h
    | exc x => exact fun F2 H2 c d s2 => h F2 H2 c d (s.trans s2)
theorem WpB.bind {α β : Type} {post : α → Oc} {p1 : β → Oc} {m : M β} {k : β → M α} {D D1 : Ends} (h : WpB K E B0 B post (m >>= k) F D) (hk : ∀ j, m = .ok j → WpB K E B0 B post (k j) F D → OcP K B0 B F D1 (p1 j)) : WpB K E B0 B p1 m F D1 := by
  cases m with
  | ok j => exact WpB.of_ok (hk j rfl h)
  | error e => cases e with
    | stuck => exact h
    | exc x => exact h
theorem WpB.expr {α β γ : Type} {post : α → Oc} {rel : Hp → Hp → γ → β → Prop} {m : M β} {k : β → M α} {D : Ends} {Q : γ → Hp → Prop} (x0 : Ext B0 B F H) (h : WpB K E B0 B post (m >>= k) F D)
    (hk : ∀ j F' H' v, Ext F H F' H' → Ext B0 B F' H' → rel F' H' v j → WpB K E B0 B post (k j) F' D → Q v H') : WpG K E rel m F H Q := by
  cases m with
  | ok j => exact fun F' H' v x r => hk j F' H' v x (x0.trans x) r (WpB.mono x.sF h)
  | error e => cases e with
    | stuck => exact h
    | exc y => exact fun F' H' c d x r => h F' H' c d x.sF (x0.trans x) r
end

section
variable {X : Cx} {E : XK} {G : List Sl} {a b c e : Expr} {ma mb mc : M D} {ta tb : M Bool} {pos : Pos} {st : Stmt} {rest body : List Stmt}
def DS (X : Cx) (E : XK) (G : List Sl) (st : Stmt) {α : Type} (m : M α) (post : α → Oc) : Prop :=
  ∃ t, PS X st t ∧ ∀ B0 B σ F H D, Ext B0 B F H → GOk X.K B G σ F H → WpB X.K E B0 B post m F D → t D σ H
theorem db_nil {α : Type} {x : α} {post : α → Oc} (h : post x = .nx G) : DB X E G [] (.ok x) post :=
  ⟨_, pss_nil, fun B0 B σ F H D x0 g q => by
    have q := q.ok
    rw [h] at q
    exact q σ F H (Same.refl _) x0 g⟩
theorem db_stuck {α : Type} {post : α → Oc} : DB X E G body (stuck : M α) post := ⟨_, pss_never, fun B0 B σ F H D x0 g q => q.elim⟩
theorem db_cast {α : Type} {m m' : M α} {post : α → Oc} (h : DB X E G body m post) (e : m = m') : DB X E G body m' post := e ▸ h
theorem db_cons {α β : Type} {m1 : M β} {p1 : β → Oc} {k : β → M α} {post : α → Oc} (h1 : DS X E G st m1 p1) (h2 : ∀ j G', p1 j = .nx G' → DB X E G' rest (k j) post)
    (h3 : ∀ j, (∀ G', p1 j ≠ .nx G') → ∃ a, k j = .ok a ∧ post a = p1 j) : DB X E G (st :: rest) (m1 >>= k) post := by
  obtain ⟨t1, ps, w1⟩ := h1
  have r2 : PSs X rest (fun D σ H => ∃ j G' B0 B F, p1 j = .nx G' ∧ Ext B0 B F H ∧ GOk X.K B G' σ F H ∧ WpB X.K E B0 B post (k j) F D) :=
    ⟨fun pins s σ H D I ⟨j, G', B0, B, F, e, x, g, q⟩ => by
      obtain ⟨t2, p2, w2⟩ := h2 j G' e
      exact p2.run pins s σ H D I (w2 B0 B σ F H D x g q)⟩
  refine ⟨_, pss_cons ps r2, fun B0 B σ F H D x0 g q => w1 B0 B σ F H _ x0 g (q.bind fun j _ qj => ?_)⟩
  cases e : p1 j with
  | nx G' => exact fun σ' F' H' s' x' g' => ⟨j, G', B0, B, F', e, x', g', qj.mono s'⟩
  | ct G' =>
    obtain ⟨a, e1, e2⟩ := h3 j fun G' z => by rw [e] at z; cases z
    rw [e1] at qj
    have qj := qj.ok
    rw [e2, e] at qj
    exact qj
  | bk G' =>
    obtain ⟨a, e1, e2⟩ := h3 j fun G' z => by rw [e] at z; cases z
    rw [e1] at qj
    have qj := qj.ok
    rw [e2, e] at qj
    exact qj
  | rt d =>
    obtain ⟨a, e1, e2⟩ := h3 j fun G' z => by rw [e] at z; cases z
    rw [e1] at qj
    have qj := qj.ok
    rw [e2, e] at qj
    exact qj
  | rg R =>
    obtain ⟨a, e1, e2⟩ := h3 j fun G' z => by rw [e] at z; cases z
    rw [e1] at qj
    have qj := qj.ok
    rw [e2, e] at qj
    exact qj
theorem db_then {α β : Type} {m1 : M β} {G1 : β → List Sl} {k : β → M α} {post : α → Oc} (h1 : DS X E G st m1 (fun j => .nx (G1 j))) (h2 : ∀ j, DB X E (G1 j) rest (k j) post) : DB X E G (st :: rest) (m1 >>= k) post :=
  db_cons h1 (fun j G' e => by
    injection e with e
    rw [← e]
    exact h2 j) (fun j h => absurd rfl (h _))
theorem db_last {α : Type} {m : M α} {post : α → Oc} (h : DS X E G st m post) : DB X E G [st] m post := by
  obtain ⟨t, p, w⟩ := h
  exact ⟨_, pss_one p, w⟩

theorem ds_set {x : Str} {i : Nat} {pos' : Pos} {m : M D} (h : DE X (cE E) G e m) (p : ∀ {te : TE}, PE X e te → PS X (.Assign [.Name x pos'] e pos) (tAsg te (gName i))) : DS X E G (.Assign [.Name x pos'] e pos) m (fun d => .nx (G.set i (.val d))) := by
  obtain ⟨t, pe, w⟩ := h
  refine ⟨_, p pe, fun B0 B σ F H D x0 g q => w B σ F H _ x0.sFH g ?_⟩
  cases m with
  | ok d => exact fun F' H' v x r => q.ok _ F' H' x.sF (x0.trans x) ((g.ext x).set r)
  | error er => cases er with
    | stuck => exact q.elim
    | exc y => exact fun F' H' c d x r => q F' H' c d x.sF (x0.trans x) r
theorem GOk.setOwn {K : PySem.W.Frag} {B F H : Hp} {σ : St} {i : Nat} {p : Addr} {xs : List V} {l : List D} (g : GOk K B G σ F H) (hp : H p = some (.lst xs)) (fp : F p = none) (bp : B p = none) (r : RpL K F xs l)
    (new : ∀ (j : Nat) (s : Sl), G[j]? = some s → s.owns = true → σ[j]? ≠ some (some (.ref p))) : GOk K B (G.set i (.own l)) (σ.set i (some (.ref p))) F H where
  sB := g.sB
  len := by rw [List.length_set, List.length_set]; exact g.len
  ok := fun j s h => by
    by_cases e : i = j
    · subst e
      have hi : i < G.length := by
        have := (List.getElem?_eq_some_iff.mp h).1
        rwa [List.length_set] at this
      rw [List.getElem?_set_self hi] at h
      cases h
      exact ⟨some (.ref p), by rw [List.getElem?_set_self (by rw [g.len]; exact hi)], p, xs, rfl, hp, fp, bp, r⟩
    · rw [List.getElem?_set_ne e] at h
      rw [List.getElem?_set_ne e]
      exact g.ok j s h
  dis := fun j k s t a h1 h2 o1 o2 e1 e2 => by
    by_cases nj : i = j
    · by_cases nk : i = k
      · rw [← nj, ← nk]
      · subst nj
        have hi : i < G.length := by
          have := (List.getElem?_eq_some_iff.mp h1).1
          rwa [List.length_set] at this
        rw [List.getElem?_set_self (by rw [g.len]; exact hi)] at e1
        cases e1
        rw [List.getElem?_set_ne nk] at h2 e2
        exact absurd e2 (new k t h2 o2)
    · by_cases nk : i = k
      · subst nk
        have hi : i < G.length := by
          have := (List.getElem?_eq_some_iff.mp h2).1
          rwa [List.length_set] at this
        rw [List.getElem?_set_self (by rw [g.len]; exact hi)] at e2
        cases e2
        rw [List.getElem?_set_ne nj] at h1 e1
        exact absurd e1 (new j s h1 o1)
      · rw [List.getElem?_set_ne nj] at h1 e1
        rw [List.getElem?_set_ne nk] at h2 e2
        exact g.dis j k s t a h1 h2 o1 o2 e1 e2
theorem GOk.owned {K : PySem.W.Frag} {B F H : Hp} {σ : St} {j : Nat} {s : Sl} {p : Addr} (g : GOk K B G σ F H) (h : G[j]? = some s) (o : s.owns = true) (e : σ[j]? = some (some (.ref p))) : ∃ u, H p = some u := by
  obtain ⟨v, h1, h2⟩ := g.ok j s h
  rw [e] at h1
  cases h1
  cases s with
  | own l =>
    obtain ⟨a, xs, e1, e2, _⟩ := h2
    cases e1
    exact ⟨_, e2⟩
  | ownd l =>
    obtain ⟨a, e1, e2, _⟩ := h2
    cases e1
    exact e2.some
  | ownu l =>
    obtain ⟨a, e1, e2, _⟩ := h2
    cases e1
    exact e2.some
  | obj a c l =>
    obtain ⟨dx, fs, e1, e2, _⟩ := h2
    cases e1
    exact ⟨_, e2⟩
  | _ => cases o
theorem ds_setN {x : Str} {i : Nat} {pos' : Pos} {m : M (List D)} (h : DN X (cE E) G e m) (p : ∀ {te : TE}, PE X e te → PS X (.Assign [.Name x pos'] e pos) (tAsg te (gName i))) : DS X E G (.Assign [.Name x pos'] e pos) m (fun l => .nx (G.set i (.own l))) := by
  obtain ⟨t, pe, w⟩ := h
  refine ⟨_, p pe, fun B0 B σ F H D x0 g q => w B σ F H _ x0.sFH g ?_⟩
  cases m with
  | ok l =>
    intro F' H' v x ⟨a, xs, ev, n, h1, f1, r1⟩
    subst ev
    have hB : B a = none := x0.sH.free n
    exact q.ok _ F' H' x.sF (x0.trans x) ((g.ext x).setOwn h1 f1 hB r1 fun j s hj oj ej => by
      obtain ⟨u, hu⟩ := g.owned hj oj ej
      rw [n] at hu
      cases hu)
  | error er => cases er with
    | stuck => exact q.elim
    | exc y => exact fun F' H' c d x r => q F' H' c d x.sF (x0.trans x) r
theorem dn_lst {es : List Expr} {ms : M (List D)} (h : DA X (cE E) G es ms) : DN X (cE E) G (.List es pos) (ms >>= fun l => need (decide (l.length ≤ sizeLine)) >>= fun _ => .ok l) := by
  obtain ⟨t, p, w⟩ := h
  refine ⟨_, pe_lst p, fun B σ F H Q s g q => w B σ F H _ s g (WpG.bind q fun l F1 H1 vs x1 r1 k1 => ?_)⟩
  obtain ⟨c, k1⟩ := WpG.need k1
  have c := of_decide_eq_true c
  refine ⟨by rw [r1.length]; exact c, fun p hp => k1 F1 _ _ (Ext.newH x1.sFH hp) ⟨p, vs, rfl, x1.sH.free hp, upd_same, x1.sFH.free hp, r1⟩⟩
def gSeq (K : PySem.W.Frag) (n : Nat) (t : TGs) : TG := fun v σ H Q => ∃ a xs, v = .ref a ∧ (SqT K H a xs ∨ SqL K H a xs) ∧ xs.length = n ∧ t xs σ H Q
theorem assign_Tuple_listI {env : Env} {prog : Program} {w : World} {A : Around} {E : Value → Shared → Prop} {s : Shared} {elts : List Expr} {x1} {pos : Pos} {t : Addr} {items : Array Value} {Q : Unit → Shared → Prop} (hh : A.handled = none) (ht : s.heap.IsList t items)
    (hn : (assignEach elts env).length = items.size) (hstar : (assignEach elts env).findIdx? (·.1) = none)
    (h : ∀ h', Heap.ExtBut s.heap.objs.size s.heap h' → wpAny (model prog w) A (assignInOrder ((assignEach elts env).map (·.2)) items.toList) Q E { s with heap := h' }) :
    wpAny (model prog w) A (assign (.Tuple elts x1 pos) env (.ref t)) Q E s := by
  rw [PyProof.Rows.assign_Tuple]
  refine wpAny_bind (wpAny_standAt ?_)
  unfold unpack
  rw [hn, hstar]
  exact wpAny_bind (wpAny_holding (PySem.W.kun_itemsOf hh ht h))
theorem pg_seq {X : Cx} {pos : Pos} {es : List Expr} {k : Nat} {t : TGs} {n : Nat} (hc : X.calm = true) (h : PGs X es t)
    (hn : (assignEach es X.env).length = n := by rfl) (hst : (assignEach es X.env).findIdx? (·.1) = none := by rfl) : PG X (.Tuple es k pos) (gSeq X.K n t) := by
  refine ⟨fun pins s σ H v u Q I r hw => ?_⟩
  obtain ⟨a, xs, e1, hq, hl, hw⟩ := hw
  subst e1
  cases r
  rcases hq with hq | hq
  · obtain ⟨its, rv, ht, hz⟩ := I.tuple hq
    refine PyProof.Rows.assign_Tuple_tuple (I.ok.hd hc) ht (by simp [hn, ← hl, rv.length]) hst fun h' hx => ?_
    have I1 : Inv X pins σ H { s with heap := h' } := I.kept (t' := s.toks) fun b o e => hx b o (Nat.ne_of_lt (Heap.lt_size e)) e
    exact h.run pins _ σ H xs _ Q I1 (by simpa using rv) hw
  · obtain ⟨its, rv, ht, hz⟩ := I.list hq
    refine assign_Tuple_listI (I.ok.hd hc) ht.isList (by simp [hn, ← hl, rv.length]) hst fun h' hx => ?_
    have I1 : Inv X pins σ H { s with heap := h' } := I.kept (t' := s.toks) fun b o e => hx b o (Nat.ne_of_lt (Heap.lt_size e)) e
    exact h.run pins _ σ H xs _ Q I1 (by simpa using rv) hw
def D.un (n : Nat) : D → M (List D)
  | .tup l => do need (decide (l.length = n)); .ok l
  | .lst l => do need (decide (l.length = n)); .ok l
  | _ => stuck
def setT (G : List Sl) : List Nat → List D → List Sl
  | i :: is, d :: ds => setT (G.set i (.val d)) is ds
  | _, _ => G
theorem setAll_setT : ∀ {is : List Nat} {ds : List D} {G : List Sl}, ds.length = is.length → setAll G is ds = .ok (setT G is ds)
  | [], [], _, _ => rfl
  | [], _ :: _, _, h => by cases h
  | _ :: _, [], _, h => by cases h
  | i :: is, d :: ds, G, h => setAll_setT (is := is) (ds := ds) (Nat.succ.inj h)
theorem ds_tup {tg : Expr} {is : List Nat} {n : Nat} {m : M D} (h : DE X (cE E) G e m) (hn : is.length = n) (p : ∀ {te : TE}, PE X e te → PS X (.Assign [tg] e pos) (tAsg te (gSeq X.K n (gNames is)))) : DS X E G (.Assign [tg] e pos) (m >>= fun d => D.un n d) (fun ds => .nx (setT G is ds)) := by
  obtain ⟨t, pe, w⟩ := h
  refine ⟨_, p pe, fun B0 B σ F H Dn x0 g q => w B σ F H _ x0.sFH g (WpB.expr (H := H) x0 q fun d F' H' v x x' r qd => ?_)⟩
  cases d with
  | tup l => cases r with
    | tup h hs =>
      cases hd : decide (l.length = n) with
      | false =>
        exfalso
        have e : D.un n (.tup l) = stuck := by
          show (need (decide (l.length = n)) >>= fun _ => .ok l) = _
          rw [hd]
          rfl
        rw [e] at qd
        exact qd
      | true =>
        have e : D.un n (.tup l) = .ok l := by
          show (need (decide (l.length = n)) >>= fun _ => .ok l) = _
          rw [hd]
          rfl
        rw [e] at qd
        have hl := of_decide_eq_true hd
        exact ⟨_, _, rfl, Or.inl (Same.seqT x'.sFH h.sqT), by rw [hs.length, hl], gNames_run x'.sFH (g.ext x) hs (setAll_setT (by rw [hl, hn])) fun σ' g' _ _ => qd.ok σ' F' H' (Same.refl _) x' g'⟩
  | lst l => cases r with
    | lst h hs =>
      cases hd : decide (l.length = n) with
      | false =>
        exfalso
        have e : D.un n (.lst l) = stuck := by
          show (need (decide (l.length = n)) >>= fun _ => .ok l) = _
          rw [hd]
          rfl
        rw [e] at qd
        exact qd
      | true =>
        have e : D.un n (.lst l) = .ok l := by
          show (need (decide (l.length = n)) >>= fun _ => .ok l) = _
          rw [hd]
          rfl
        rw [e] at qd
        have hl := of_decide_eq_true hd
        exact ⟨_, _, rfl, Or.inr (SqL.of (x'.sFH _ _ h)), by rw [hs.length, hl], gNames_run x'.sFH (g.ext x) hs (setAll_setT (by rw [hl, hn])) fun σ' g' _ _ => qd.ok σ' F' H' (Same.refl _) x' g'⟩
  | _ => exact qd.elim
theorem GOk.write {K : PySem.W.Frag} {B F H : Hp} {σ : St} {i : Nat} {a : Addr} {l l' : List D} {xs' : List V} (g : GOk K B G σ F H) (h : G[i]? = some (.own l)) (e : σ[i]? = some (some (.ref a))) (r : RpL K F xs' l') : GOk K B (G.set i (.own l')) σ F (upd H a (.lst xs')) where
  sB := fun c u hc => by
    obtain ⟨o, h1, a', xs, rfl, h2, h3, h4, _⟩ := g.ok i _ h
    rw [e] at h1
    cases h1
    rw [upd_ne (ne_of_none hc h4)]
    exact g.sB c u hc
  len := by rw [List.length_set]; exact g.len
  ok := fun j s hj => by
    obtain ⟨o, h1, a', xs, rfl, h2, h3, h4, _⟩ := g.ok i _ h
    rw [e] at h1
    cases h1
    by_cases ej : i = j
    · subst ej
      have hi := (List.getElem?_eq_some_iff.mp h).1
      rw [List.getElem?_set_self hi] at hj
      cases hj
      exact ⟨_, e, a, xs', rfl, upd_same, h3, h4, r⟩
    · rw [List.getElem?_set_ne ej] at hj
      obtain ⟨o, k1, k2⟩ := g.ok j s hj
      refine ⟨o, k1, ?_⟩
      cases s with
      | un => exact k2
      | any => trivial
      | val d => exact k2
      | own m =>
        obtain ⟨b, ys, rfl, q⟩ := k2
        have nb : b ≠ a := fun z => by
          subst z
          exact ej (g.dis i j _ _ b h hj rfl rfl e k1)
        exact ⟨b, ys, rfl, by rw [upd_ne nb]; exact q.1, q.2⟩
      | ownd m =>
        obtain ⟨b, rfl, q⟩ := k2
        have nb : b ≠ a := fun z => by
          subst z
          exact ej (g.dis i j _ _ b h hj rfl rfl e k1)
        exact ⟨b, rfl, by rw [upd_ne nb]; exact q.1, q.2⟩
      | ownu m =>
        obtain ⟨b, rfl, q⟩ := k2
        have nb : b ≠ a := fun z => by
          subst z
          exact ej (g.dis i j _ _ b h hj rfl rfl e k1)
        exact ⟨b, rfl, by rw [upd_ne nb]; exact q.1, q.2⟩
      | obj b c m =>
        obtain ⟨dx, fs, rfl, q⟩ := k2
        have nb : b ≠ a := fun z => by
          subst z
          exact ej (g.dis i j _ _ b h hj rfl rfl e k1)
        exact ⟨dx, fs, rfl, by rw [upd_ne nb]; exact q.1, q.2⟩
      | bor d => exact k2
      | tre b c l =>
        refine ⟨k2.1, ?_, k2.2.2⟩
        obtain ⟨o, z1, a', xs, rfl, z2, z3, z4, _⟩ := g.ok i _ h
        rw [e] at z1
        cases z1
        exact fun x u hx => by
          rw [upd_ne (ne_of_none hx z4)]
          exact g.sB _ _ hx
      | exn b c l => exact k2
  dis := fun j k s t b h1 h2 o1 o2 e1 e2 => by
    have own_at : ∀ (j : Nat) (s : Sl), (G.set i (.own l'))[j]? = some s → s.owns = true → ∃ s', G[j]? = some s' ∧ s'.owns = true := fun j s hj o => by
      by_cases ej : i = j
      · subst ej
        exact ⟨_, h, rfl⟩
      · rw [List.getElem?_set_ne ej] at hj
        exact ⟨s, hj, o⟩
    obtain ⟨s1, q1, p1⟩ := own_at j s h1 o1
    obtain ⟨s2, q2, p2⟩ := own_at k t h2 o2
    exact g.dis j k s1 s2 b q1 q2 p1 p2 e1 e2
theorem Ext.write {B0 B F H : Hp} {a : Addr} {o : HO} (x : Ext B0 B F H) (fa : F a = none) (ba : B a = none) : Ext B0 B F (upd H a o) :=
  ⟨x.sF, fun c u h => by
    rw [upd_ne (ne_of_none h ba)]
    exact x.sH c u h, fun c u h => by
    rw [upd_ne (ne_of_none h fa)]
    exact x.sFH c u h, x.old⟩
def Sl.push (s : Sl) (m : M D) : M Sl := match s with
  | .own l => m >>= fun d => need (decide (l.length < sizeLine)) >>= fun _ => .ok (.own (l ++ [d]))
  | _ => stuck
theorem ds_push {x : Str} {i : Nat} {s : Sl} {p1 p2 p3 : Pos} {m : M D} (hs : G[i]? = some s) (pv : PE X (.Name x p1) (tVar i)) (h : DE X (cE E) G e m)
    (hfew : ((backTo p3 (starEach [e] X.env)).all (fun x => !x.1) && (backToKw p3 (keywordEach [] X.env)).all (fun x => x.1.isSome)
      && decide (([e] : List Expr).length + ([] : List Keyword).length + (if ([] : List Keyword).isEmpty then 0 else 1) < 30)) = true := by rfl)
    (hbase : attributeBase (.Name x p1) "append" X.env (eval (.Name x p1) X.env) = eval (.Name x p1) X.env := by rfl)
    (hline : (p2.endLine == p3.line) = true := by rfl) (hst : starEach [e] X.env = (false, eval e X.env) :: starEach [] X.env := by rfl) (hplain : (backTo p3 (starEach [] X.env)).any (·.1) = false := by rfl) :
    DS X E G (.Expr (.Call (.Attribute (.Name x p1) "append" p2) [e] [] p3) pos) (s.push m) (fun s' => .nx (G.set i s')) := by
  obtain ⟨t, pe, w⟩ := h
  refine ⟨_, ps_expr (pe_bm PySem.F.plainAttrs_list PySem.F.slot_list_append PySem.F.type_list_append mt_append pv (pa_cons pe pa_nil hst) hbase hfew hline hst hplain), fun B0 B σ F H D x0 g q => ?_⟩
  cases s with
  | own l =>
    have q : WpB X.K E B0 B (fun s' => .nx (G.set i s')) (m >>= fun d => need (decide (l.length < sizeLine)) >>= fun _ => .ok (.own (l ++ [d]))) F D := q
    obtain ⟨o, h1, a, xs, rfl, h2, h3, h4, h5⟩ := g.ok i _ hs
    refine ⟨_, h1, .inl ⟨rfl, xs, SqL.of h2⟩, w B σ F H _ x0.sFH g (WpB.expr (H := H) x0 q fun d F' H' v x x' r qd => ?_)⟩
    cases hd : decide (l.length < sizeLine) with
    | false =>
      exfalso
      rw [hd] at qd
      exact qd
    | true =>
      rw [hd] at qd
      have hl := of_decide_eq_true hd
      have h2' := x.sH _ _ h2
      have h3' : F' a = none := by
        rw [x.old _ _ h2]
        exact h3
      have h5' := h5.mono x.sF
      refine ⟨a, xs, v, rfl, rfl, h2', by rw [h5'.length]; exact hl, ?_⟩
      have qd : WpB X.K E B0 B (fun s' => .nx (G.set i s')) (.ok (.own (l ++ [d]))) F' D := qd
      exact qd.ok σ F' _ (Same.refl _) (x'.write h3' h4) ((g.ext x).write hs h1 (h5'.append (.one r)))
  | _ => exact q.elim
def Sl.fz : Sl → Sl
  | .own l => .val (.lst l)
  | s => s
theorem db_fz {α : Type} {i : Nat} {s : Sl} {m : M α} {post : α → Oc} (hs : G[i]? = some s) (h : DB X E (G.set i s.fz) body m post) : DB X E G body m post := by
  obtain ⟨t, p, w⟩ := h
  refine ⟨t, p, fun B0 B σ F H D x0 g q => ?_⟩
  have same : ∀ s', s' = s → DB X E (G.set i s') body m post → G.set i s' = G := fun s' e _ => by
    subst e
    apply List.ext_getElem?
    intro k
    by_cases e : i = k
    · subst e
      rw [List.getElem?_set_self (List.getElem?_eq_some_iff.mp hs).1, hs]
    · rw [List.getElem?_set_ne e]
  cases s with
  | own l =>
    obtain ⟨o, h1, a, xs, rfl, h2, h3, h4, h5⟩ := g.ok i _ hs
    have hi := (List.getElem?_eq_some_iff.mp hs).1
    have xF : Same F (upd F a (.lst xs)) := same_new h3
    refine w B0 B σ (upd F a (.lst xs)) H D ⟨x0.sF.trans xF, x0.sH, fun c u hc => ?_, fun c u hc => ?_⟩ ⟨g.sB, by rw [List.length_set]; exact g.len, fun j s' hj => ?_, fun j k s1 s2 b g1 g2 o1 o2 e1 e2 => ?_⟩ (q.mono xF)
    · by_cases e : c = a
      · subst e
        rw [upd_same] at hc
        cases hc
        exact h2
      · rw [upd_ne e] at hc
        exact x0.sFH c u hc
    · rw [upd_ne (ne_of_none hc h4)]
      exact x0.old c u hc
    · by_cases e : i = j
      · subst e
        rw [List.getElem?_set_self hi] at hj
        cases hj
        exact ⟨_, h1, _, rfl, .lst upd_same (h5.mono xF)⟩
      · rw [List.getElem?_set_ne e] at hj
        obtain ⟨o, k1, k2⟩ := g.ok j s' hj
        refine ⟨o, k1, ?_⟩
        cases s' with
        | un => exact k2
        | any => trivial
        | val d =>
          obtain ⟨v, e1, r⟩ := k2
          exact ⟨v, e1, r.mono xF⟩
        | own m =>
          obtain ⟨b, ys, rfl, q1, q2, q3, q4⟩ := k2
          have nb : b ≠ a := fun z => by
            subst z
            exact e (g.dis i j _ _ b hs hj rfl rfl h1 k1)
          exact ⟨b, ys, rfl, q1, by rw [upd_ne nb]; exact q2, q3, q4.mono xF⟩
        | ownd m =>
          obtain ⟨b, rfl, q1, q2, q3⟩ := k2
          have nb : b ≠ a := fun z => by
            subst z
            exact e (g.dis i j _ _ b hs hj rfl rfl h1 k1)
          exact ⟨b, rfl, q1.mono xF, by rw [upd_ne nb]; exact q2, q3⟩
        | ownu m =>
          obtain ⟨b, rfl, q1, q2, q3⟩ := k2
          have nb : b ≠ a := fun z => by
            subst z
            exact e (g.dis i j _ _ b hs hj rfl rfl h1 k1)
          exact ⟨b, rfl, q1.mono xF, by rw [upd_ne nb]; exact q2, q3⟩
        | obj b c m =>
          obtain ⟨dx, fs, rfl, q1, q2, q3, q4, q5⟩ := k2
          have nb : b ≠ a := fun z => by
            subst z
            exact e (g.dis i j _ _ b hs hj rfl rfl h1 k1)
          exact ⟨dx, fs, rfl, q1, by rw [upd_ne nb]; exact q2, q3, q4, q5.mono xF⟩
        | bor d =>
          obtain ⟨v, e1, r⟩ := k2
          exact ⟨v, e1, r.monoF xF⟩
        | tre b c l =>
          obtain ⟨k3, k4, as, t⟩ := k2
          exact ⟨k3, k4, as, t.mono xF fun b o e => upd_ne (ne_of_none e h4)⟩
        | exn b c l => exact ⟨k2.1, k2.2.mono xF⟩
    · have nj : i ≠ j := fun z => by
        subst z
        rw [List.getElem?_set_self hi] at g1
        cases g1
        cases o1
      have nk : i ≠ k := fun z => by
        subst z
        rw [List.getElem?_set_self hi] at g2
        cases g2
        cases o2
      rw [List.getElem?_set_ne nj] at g1
      rw [List.getElem?_set_ne nk] at g2
      exact g.dis j k s1 s2 b g1 g2 o1 o2 e1 e2
  | un => exact w B0 B σ F H D x0 ((show GOk X.K B (G.set i .un) σ F H from (same .un rfl ⟨t, p, w⟩).symm ▸ g)) q
  | any => exact w B0 B σ F H D x0 ((show GOk X.K B (G.set i .any) σ F H from (same .any rfl ⟨t, p, w⟩).symm ▸ g)) q
  | val d => exact w B0 B σ F H D x0 ((show GOk X.K B (G.set i (.val d)) σ F H from (same (.val d) rfl ⟨t, p, w⟩).symm ▸ g)) q
  | ownd l => exact w B0 B σ F H D x0 ((show GOk X.K B (G.set i (.ownd l)) σ F H from (same (.ownd l) rfl ⟨t, p, w⟩).symm ▸ g)) q
  | obj a c l => exact w B0 B σ F H D x0 ((show GOk X.K B (G.set i (.obj a c l)) σ F H from (same (.obj a c l) rfl ⟨t, p, w⟩).symm ▸ g)) q
  | bor d => exact w B0 B σ F H D x0 ((show GOk X.K B (G.set i (.bor d)) σ F H from (same (.bor d) rfl ⟨t, p, w⟩).symm ▸ g)) q
  | tre b c l => exact w B0 B σ F H D x0 ((show GOk X.K B (G.set i (.tre b c l)) σ F H from (same (.tre b c l) rfl ⟨t, p, w⟩).symm ▸ g)) q
  | ownu l => exact w B0 B σ F H D x0 ((show GOk X.K B (G.set i (.ownu l)) σ F H from (same (.ownu l) rfl ⟨t, p, w⟩).symm ▸ g)) q
  | exn b c l => exact w B0 B σ F H D x0 ((show GOk X.K B (G.set i (.exn b c l)) σ F H from (same (.exn b c l) rfl ⟨t, p, w⟩).symm ▸ g)) q
theorem db_any {α : Type} (i : Nat) {m : M α} {post : α → Oc} (h : DB X E (G.set i .any) body m post) : DB X E G body m post := by
  obtain ⟨t, p, w⟩ := h
  exact ⟨t, p, fun B0 B σ F H D x0 g q => w B0 B σ F H D x0 g.any q⟩

theorem ds_ret {m : M D} (h : DE X (cE E) G e m) : DS X E G (.Return (some e) pos) m .rt := by
  obtain ⟨t, pe, w⟩ := h
  refine ⟨_, ps_ret pe, fun B0 B σ F H D x0 g q => w B σ F H _ x0.sFH g ?_⟩
  cases m with
  | ok d => exact fun F' H' v x r => q.ok v F' H' x.sF (x0.trans x) r
  | error er => cases er with
    | stuck => exact q.elim
    | exc y => exact fun F' H' c d x r => q F' H' c d x.sF (x0.trans x) r
theorem ds_if {α : Type} {A B : List Stmt} {mc : M Bool} {mA mB : M α} {post : α → Oc} (hc : DT X (cE E) G c mc) (hA : DB X E G A mA post) (hB : DB X E G B mB post) : DS X E G (.If c A B pos) (mc >>= fun b => if b = true then mA else mB) post := by
  obtain ⟨tc, pc, wc⟩ := hc
  obtain ⟨t1, p1, w1⟩ := hA
  obtain ⟨t2, p2, w2⟩ := hB
  refine ⟨_, ps_if pc p1 p2, fun B0 B σ F H D x0 g q => wc B σ F H _ x0.sFH g (WpB.expr (H := H) x0 q fun b F' H' v x x' r qd => ?_)⟩
  subst r
  cases v with
  | true => exact w1 B0 B σ F' H' D x' (g.ext x) qd
  | false => exact w2 B0 B σ F' H' D x' (g.ext x) qd
theorem db_ift {α β : Type} {A : List Stmt} {mc : M Bool} {mA : M β} {pA : β → Oc} {mR : M α} {post : α → Oc} (inj : β → α) (hc : DT X (cE E) G c mc) (hA : DB X E G A mA pA) (hT : ∀ a G', pA a ≠ .nx G') (hp : ∀ a, post (inj a) = pA a) (hR : DB X E G rest mR post) :
    DB X E G (.If c A [] pos :: rest) (mc >>= fun b => if b = true then mA >>= fun a => .ok (inj a) else mR) post := by
  have h1 : DS X E G (.If c A [] pos) (mc >>= fun b => if b = true then mA >>= fun a => .ok (some a) else .ok none) (fun (o : Option β) => match o with | some a => pA a | none => .nx G) := by
    refine ds_if hc ?_ (db_nil rfl)
    obtain ⟨t, p, w⟩ := hA
    refine ⟨t, p, fun B0 B σ F H D x0 g q => w B0 B σ F H D x0 g (q.bind fun j _ qj => ?_)⟩
    exact qj.ok
  have h2 := db_cons (rest := rest) (k := fun (o : Option β) => match o with | some a => .ok (inj a) | none => mR) (post := post) h1 (fun j G' e => by
    cases j with
    | some a => exact absurd e (hT a G')
    | none =>
      cases e
      exact hR) (fun j h => by
    cases j with
    | some a => exact ⟨inj a, rfl, hp a⟩
    | none => exact absurd rfl (h G))
  refine db_cast h2 ?_
  cases mc with
  | error e => rfl
  | ok b => cases b with
    | true => cases mA <;> rfl
    | false => rfl
theorem db_ifr {A : List Stmt} {mc : M Bool} {mA mR : M D} (hc : DT X (cE E) G c mc) (hA : DB X E G A mA .rt) (hR : DB X E G rest mR .rt) : DB X E G (.If c A [] pos :: rest) (mc >>= fun b => if b = true then mA else mR) .rt :=
  db_cast (db_ift id hc hA (fun a G' h => nomatch h) (fun _ => rfl) hR) (by
    cases mc with
    | error e => rfl
    | ok b => cases b with
      | true => cases mA <;> rfl
      | false => rfl)
theorem db_map {α β : Type} {m : M β} {p : β → Oc} {post : α → Oc} (f : β → α) (h : DB X E G body m p) (hp : ∀ a, post (f a) = p a) : DB X E G body (m >>= fun a => .ok (f a)) post := by
  obtain ⟨t, ps, w⟩ := h
  refine ⟨t, ps, fun B0 B σ F H D x0 g q => w B0 B σ F H D x0 g (q.bind fun j _ qj => ?_)⟩
  have qj := qj.ok
  rw [hp j] at qj
  exact qj

inductive Rx (S T : Type) where
  | go (s : S)
  | ct (s : T)
  | bk (s : T)
  | rt (d : D)
def Rx.oc {S T : Type} (Γ : S → List Sl) (Δ : T → List Sl) : Rx S T → Oc
  | .go s => .nx (Γ s)
  | .ct s => .ct (Δ s)
  | .bk s => .bk (Δ s)
  | .rt d => .rt d
abbrev Rs (S : Type) := Rx S S
abbrev Rs.oc {S : Type} (Γ : S → List Sl) : Rs S → Oc := Rx.oc Γ Γ
def loopR {S : Type} (f : S → D → M (Rs S)) : List D → S → M (S ⊕ D)
  | [], s => .ok (.inl s)
  | x :: xs, s => f s x >>= fun r => match r with
    | .go s => loopR f xs s
    | .ct s => loopR f xs s
    | .bk s => .ok (.inl s)
    | .rt d => .ok (.inr d)
def loopF {S : Type} (f : S → D → M S) : List D → S → M S
  | [], s => .ok s
  | x :: xs, s => f s x >>= fun s => loopF f xs s
def sumOc {S : Type} (Γ : S → List Sl) : S ⊕ D → Oc
  | .inl s => .nx (Γ s)
  | .inr d => .rt d
theorem ds_forR {S : Type} {tg iter : Expr} {mi : M (List D)} {vs : List Nat} {Γ : S → List Sl} {bnd : S → D → M (List Sl)} {f : S → D → M (Rs S)} (s0 : S) (hG : G = Γ s0) (hp : PassesOwn (model X.prog X.w) X.A X.env X.xe) (hc : X.calm = true)
    (hi : DI X (cE E) G tg iter mi) {g : TG} (pg : PG X tg g)
    (hg : ∀ s x v B σ F H (Q : St → Hp → Prop), Same F H → GOk X.K B (Γ s) σ F H → Rp X.K F v x → (∃ G', bnd s x = .ok G' ∧ ∀ σ', GOk X.K B G' σ' F H → (∀ k, k ∉ vs → σ'[k]? = σ[k]?) → σ'.length = σ.length → Q σ' H) → g v σ H Q)
    (hbnd : ∀ s x r, f s x = .ok r → ∃ G', bnd s x = .ok G') (hbndx : ∀ s x r, f s x = .error (.exc r) → ∃ G', bnd s x = .ok G')
    (hb : ∀ s x G', bnd s x = .ok G' → DB X E G' body (f s x) (Rs.oc Γ))
    (hs : ∀ x, foldedSetIterable iter X.env x = pure x := by intro _; rfl) : DS X E G (.For tg iter body [] pos) (mi >>= fun ds => loopR f ds s0) (sumOc Γ) := by
  subst hG
  obtain ⟨wi, pi, wI⟩ := hi
  have pb : PSs X body (fun D σ H => ∃ s x G' B0 B F, bnd s x = .ok G' ∧ Ext B0 B F H ∧ GOk X.K B G' σ F H ∧ WpB X.K E B0 B (Rs.oc Γ) (f s x) F D) :=
    ⟨fun pins s σ H D I ⟨s', x, G', B0, B, F, e, x0, gk, q⟩ => by
      obtain ⟨t, p, w⟩ := hb s' x G' e
      exact p.run pins s σ H D I (w B0 B σ F H D x0 gk q)⟩
  refine ⟨_, ps_for hp hc pi pg pb hs, fun B0 B σ F H D x0 gk q => wI B σ F H _ x0.sFH gk (WpB.expr (H := H) x0 q fun ds F1 H1 J x1 x1' y1 q1 => ?_)⟩
  refine ⟨fun i m σ H => m = ds.length - i ∧ i ≤ ds.length ∧ ∃ F s, Same F1 F ∧ Ext B0 B F H ∧ GOk X.K B (Γ s) σ F H ∧ WpB X.K E B0 B (sumOc Γ) (loopR f (ds.drop i) s) F D, ⟨ds.length, by simp, Nat.zero_le _, F1, s0, Same.refl _, x1', gk.ext x1, q1⟩, ?_⟩
  rintro i m σ H ⟨rfl, hi, F, s, sF, x, g', q'⟩
  obtain ⟨yi, ye⟩ := y1 F H sF x.sFH
  by_cases hlt : i < ds.length
  · have hd : ds[i]? = some ds[i] := List.getElem?_eq_getElem hlt
    obtain ⟨go, yl⟩ := yi i _ hd
    rw [List.drop_eq_getElem_cons hlt] at q'
    refine .inr ⟨go, fun σ' H' => ∃ F' s', Same F1 F' ∧ Ext B0 B F' H' ∧ GOk X.K B (Γ s') σ' F' H' ∧ WpB X.K E B0 B (sumOc Γ) (loopR f (ds.drop (i + 1)) s') F' D, fun σ' H' ⟨F', s', a1, a2, a3, a4⟩ => ⟨ds.length - (i + 1), by omega, rfl, hlt, F', s', a1, a2, a3, a4⟩, fun v H' hv => ?_⟩
    obtain ⟨F', x', rv⟩ := yl v H' hv
    have q2 : WpB X.K E B0 B (sumOc Γ) (f s ds[i] >>= fun r => match r with
      | .go s => loopR f (ds.drop (i + 1)) s
      | .ct s => loopR f (ds.drop (i + 1)) s
      | .bk s => .ok (.inl s)
      | .rt d => .ok (.inr d)) F D := q'
    have q3 := q2.mono x'.sF
    have eb : ∃ G', bnd s ds[i] = .ok G' := by
      cases ef : f s ds[i] with
      | ok r => exact hbnd _ _ _ ef
      | error er => cases er with
        | stuck =>
          rw [ef] at q3
          exact q3.elim
        | exc y => exact hbndx _ _ _ ef
    obtain ⟨G', eG⟩ := eb
    refine hg s ds[i] v B σ F' H' _ (x.trans x').sFH (g'.ext x') rv ⟨G', eG, fun σ' gG _ _ => ⟨s, ds[i], G', B0, B, F', eG, x.trans x', gG, q3.bind fun r _ qr => ?_⟩⟩
    have sF' := sF.trans x'.sF
    cases r with
    | go s' => exact fun σ2 F2 H2 s2 x2 g2 => ⟨F2, s', sF'.trans s2, x2, g2, qr.mono s2⟩
    | ct s' => exact fun σ2 F2 H2 s2 x2 g2 => ⟨F2, s', sF'.trans s2, x2, g2, qr.mono s2⟩
    | bk s' => exact qr.ok
    | rt d => exact qr.ok
  · have e : i = ds.length := by omega
    subst e
    rw [List.drop_length] at q'
    exact .inl ⟨ye, q'.ok σ F H (Same.refl _) x g'⟩
theorem loopF_R {S : Type} (f : S → D → M S) : ∀ (ds : List D) (s : S), loopR (fun s x => f s x >>= fun s => .ok (.go s)) ds s = (loopF f ds s >>= fun s => .ok (.inl s))
  | [], s => rfl
  | x :: xs, s => by
    show ((f s x >>= fun s => .ok (Rx.go s)) >>= _) = ((f s x >>= fun s => loopF f xs s) >>= _)
    cases e : f s x with
    | error z => rfl
    | ok s' => exact loopF_R f xs s'
theorem ds_forF {S : Type} {tg iter : Expr} {mi : M (List D)} {vs : List Nat} {Γ : S → List Sl} {bnd : S → D → M (List Sl)} {f : S → D → M S} (s0 : S) (hG : G = Γ s0) (hp : PassesOwn (model X.prog X.w) X.A X.env X.xe) (hc : X.calm = true)
    (hi : DI X (cE E) G tg iter mi) {g : TG} (pg : PG X tg g)
    (hg : ∀ s x v B σ F H (Q : St → Hp → Prop), Same F H → GOk X.K B (Γ s) σ F H → Rp X.K F v x → (∃ G', bnd s x = .ok G' ∧ ∀ σ', GOk X.K B G' σ' F H → (∀ k, k ∉ vs → σ'[k]? = σ[k]?) → σ'.length = σ.length → Q σ' H) → g v σ H Q)
    (hbnd : ∀ s x r, f s x = .ok r → ∃ G', bnd s x = .ok G') (hbndx : ∀ s x r, f s x = .error (.exc r) → ∃ G', bnd s x = .ok G')
    (hb : ∀ s x G', bnd s x = .ok G' → DB X E G' body (f s x) (fun s => .nx (Γ s)))
    (hs : ∀ x, foldedSetIterable iter X.env x = pure x := by intro _; rfl) : DS X E G (.For tg iter body [] pos) (mi >>= fun ds => loopF f ds s0) (fun s => .nx (Γ s)) := by
  have h := ds_forR (f := fun s x => f s x >>= fun s => .ok (.go s)) (pos := pos) s0 hG hp hc hi pg hg (fun s x r e => by
    cases ef : f s x with
    | ok s' => exact hbnd _ _ _ ef
    | error z => rw [ef] at e; cases e) (fun s x r e => by
    cases ef : f s x with
    | ok s' => rw [ef] at e; cases e
    | error z =>
      rw [ef] at e
      cases e
      exact hbndx _ _ _ ef) (fun s x G' e => db_map Rx.go (hb s x G' e) fun _ => rfl) hs
  obtain ⟨t, p, w⟩ := h
  refine ⟨t, p, fun B0 B σ F H D x0 gk q => w B0 B σ F H D x0 gk ?_⟩
  cases mi with
  | error z => exact WpB.err (post := fun s => Oc.nx (Γ s)) q
  | ok ds =>
    show WpB X.K E B0 B (sumOc Γ) (loopR _ ds s0) F D
    rw [loopF_R]
    have q : WpB X.K E B0 B (fun s => .nx (Γ s)) (loopF f ds s0) F D := q
    cases e : loopF f ds s0 with
    | error z => rw [e] at q; exact WpB.err (post := fun s => Oc.nx (Γ s)) q
    | ok s' => rw [e] at q; exact q
def whileR {S : Type} (c : S → M Bool) (f : S → M (Rs S)) : Nat → S → M (S ⊕ D)
  | 0, _ => stuck
  | n + 1, s => c s >>= fun b => if b = true then f s >>= fun r => match r with
      | .go s => whileR c f n s
      | .ct s => whileR c f n s
      | .bk s => .ok (.inl s)
      | .rt d => .ok (.inr d)
    else .ok (.inl s)
theorem ds_whileR {S : Type} {Γ : S → List Sl} {mc : S → M Bool} {f : S → M (Rs S)} (n : Nat) (s0 : S) (hG : G = Γ s0) (hp : PassesOwn (model X.prog X.w) X.A X.env X.xe) (hc : ∀ s, DT X (cE E) (Γ s) c (mc s)) (hb : ∀ s, DB X E (Γ s) body (f s) (Rs.oc Γ)) :
    DS X E G (.While c body [] pos) (whileR mc f n s0) (sumOc Γ) := by
  subst hG
  have pc : PT X c (fun σ H Q => ∃ s B F, Same F H ∧ GOk X.K B (Γ s) σ F H ∧ WpG X.K E rB (mc s) F H Q) :=
    ⟨fun pins s σ H Q I ⟨s', B, F, s1, g, q⟩ => by
      obtain ⟨t, p, w⟩ := hc s'
      exact p.run pins s σ H Q I (w B σ F H Q s1 g q)⟩
  have pb : PSs X body (fun D σ H => ∃ s B0 B F, Ext B0 B F H ∧ GOk X.K B (Γ s) σ F H ∧ WpB X.K E B0 B (Rs.oc Γ) (f s) F D) :=
    ⟨fun pins s σ H D I ⟨s', B0, B, F, x0, gk, q⟩ => by
      obtain ⟨t, p, w⟩ := hb s'
      exact p.run pins s σ H D I (w B0 B σ F H D x0 gk q)⟩
  refine ⟨_, ps_while hp pc pb, fun B0 B σ F H D x0 gk q => ?_⟩
  refine ⟨fun m σ H => ∃ F s, Ext B0 B F H ∧ GOk X.K B (Γ s) σ F H ∧ WpB X.K E B0 B (sumOc Γ) (whileR mc f m s) F D, ⟨n, F, s0, x0, gk, q⟩, ?_⟩
  rintro m σ H ⟨F, s, x, g, q⟩
  cases m with
  | zero => exact q.elim
  | succ m =>
    have q : WpB X.K E B0 B (sumOc Γ) (mc s >>= fun b => if b = true then f s >>= fun r => match r with
      | .go s => whileR mc f m s
      | .ct s => whileR mc f m s
      | .bk s => .ok (.inl s)
      | .rt d => .ok (.inr d)
      else .ok (.inl s)) F D := q
    refine ⟨s, B, F, x.sFH, g, WpB.expr (H := H) x q fun b F' H' v x1 x1' r q1 => ?_⟩
    subst r
    cases v with
    | true =>
      rw [if_pos rfl] at q1 ⊢
      refine ⟨fun σ' H' => ∃ F' s', Ext B0 B F' H' ∧ GOk X.K B (Γ s') σ' F' H' ∧ WpB X.K E B0 B (sumOc Γ) (whileR mc f m s') F' D, fun σ' H' h => ⟨m, Nat.lt_succ_self _, h⟩, s, B0, B, F', x1', g.ext x1, q1.bind fun r _ qr => ?_⟩
      cases r with
      | go s' => exact fun σ2 F2 H2 s2 x2 g2 => ⟨F2, s', x2, g2, qr.mono s2⟩
      | ct s' => exact fun σ2 F2 H2 s2 x2 g2 => ⟨F2, s', x2, g2, qr.mono s2⟩
      | bk s' => exact qr.ok
      | rt d => exact qr.ok
    | false =>
      rw [if_neg Bool.false_ne_true] at q1 ⊢
      exact q1.ok σ F' H' (Same.refl _) x1' (g.ext x1)
def whileF {S : Type} (c : S → M Bool) (f : S → M S) : Nat → S → M S
  | 0, _ => stuck
  | n + 1, s => c s >>= fun b => if b = true then f s >>= fun s => whileF c f n s else .ok s
theorem whileF_R {S : Type} (c : S → M Bool) (f : S → M S) : ∀ (n : Nat) (s : S), whileR c (fun s => f s >>= fun s => .ok (.go s)) n s = (whileF c f n s >>= fun s => .ok (.inl s))
  | 0, s => rfl
  | n + 1, s => by
    simp only [whileR, whileF]
    cases e : c s with
    | error z => rfl
    | ok b => cases b with
      | false => rfl
      | true =>
        cases e2 : f s with
        | error z => rfl
        | ok s' => exact whileF_R c f n s'
theorem ds_whileF {S : Type} {Γ : S → List Sl} {mc : S → M Bool} {f : S → M S} (n : Nat) (s0 : S) (hG : G = Γ s0) (hp : PassesOwn (model X.prog X.w) X.A X.env X.xe) (hc : ∀ s, DT X (cE E) (Γ s) c (mc s)) (hb : ∀ s, DB X E (Γ s) body (f s) (fun s => .nx (Γ s))) :
    DS X E G (.While c body [] pos) (whileF mc f n s0) (fun s => .nx (Γ s)) := by
  have h := ds_whileR (f := fun s => f s >>= fun s => .ok (.go s)) (pos := pos) n s0 hG hp hc (fun s => db_map Rx.go (hb s) fun _ => rfl)
  obtain ⟨t, p, w⟩ := h
  refine ⟨t, p, fun B0 B σ F H D x0 gk q => w B0 B σ F H D x0 gk ?_⟩
  rw [whileF_R]
  cases e : whileF mc f n s0 with
  | error z => rw [e] at q; exact WpB.err (post := fun s => Oc.nx (Γ s)) q
  | ok s' => rw [e] at q; exact q
end
end DL

set_option Elab.async false
set_option linter.all false
set_option maxRecDepth 100000
set_option maxHeartbeats 4000000
namespace DL
open PySem PySem.Spec L2

structure CtxOk (X : Cx) (E : St → XK) : Prop where
  calm : X.calm = true
  pass : ∀ σ, PassesAt (L2.CX X.prog X.w) X σ (E σ)
  own : PassesOwn (model X.prog X.w) X.A X.env X.xe
theorem CtxOk.blk {X : Cx} {E : St → XK} (cx : CtxOk X E) {s : Shared} {H : Hp} {scope : Scope} {cenv : Env} {fp : List Addr} : CtxOk (X.blk s H scope cenv fp) EN :=
  ⟨cx.calm, fun σ pins H s e s' => passL pins σ H s e s', PassesOwn.never⟩
section
variable {P : Program} {w : World} {K : PySem.W.Frag} {mg : Str → Option Value} {base : Heap} {N : List Str} {qual : Str} {scope : Scope} {f : Addr} {cd : Value} {A : Around} {outer : List Env} {s : Shared} {H : Hp} {E : XK}
theorem ctx_def : CtxOk (cxOf (L2.CX P w) P w K mg base N qual scope f cd A outer s H E) (cE E) :=
  ⟨rfl, fun σ pins H1 s1 e s' => passes_call (takes_of rfl rfl rfl rfl) (fun _ _ _ _ h => h) pins σ H1 s1 e s', passes_of rfl⟩
end
section
variable {X : Cx} {CX : CXT} {k : Nat} {f C : Addr} {fd : FuncData} {ps : List Str} {sp : Sp} {dvs : List V} {ds : List Value} {E : St → XK} {x m : Str} {p pos apos : Pos} {e o : Expr} {es : List Expr} {ta : TE} {t : TA} {pins : List (Addr × Obj)} {σ : St} {H : Hp} {s : Shared} {Q : VK} {us : List Value} {vs : List V}
theorem run_at {E1 : XK} (F : FnOk X.prog X.w X.K X.mg X.base CX k f fd ps sp) (hr : Room k X.A) (hb : Binds X.K fd ps ds) (hd : Vals dvs ds) (pass : PassesAt CX X σ E1) (I : Inv X pins σ H s) (r : Vals vs us) (want : sp (vs ++ dvs) H Q E1) :
    wpAny (model X.prog X.w) X.A (call (.ref f) us) (EP X pins σ Q) X.xe s := by
  have both := r.append hd
  have long : (us ++ ds).length = ps.length := both.length.symm.trans (F.len _ _ _ _ want)
  refine wpAny_call (codeAny_mono (F.run _ _ _ _ _ _ _ _ E1 hr I.env0 (hb s us I.kIn long) both want) ?_)
  intro res s2 got
  match res, got with
  | .error e, got => exact pass pins H s e s2 I got
  | .ok (.ret u), got => exact I.after got
def tCallD (sp : Sp) (dvs : List V) (E : St → XK) (t : TA) : TE := fun σ H Q => t σ H fun vs H1 => sp (vs ++ dvs) H1 Q (E σ)
theorem pe_callD (F : FnOk X.prog X.w X.K X.mg X.base CX k f fd ps sp) (hr : Room k X.A) (hg : Gl X x) (hm : X.mg x = some (.ref f)) (hk : PySem.W.keepIn X.K (.ref f) = true) (hb : Binds X.K fd ps ds) (hd : Vals dvs ds) (pass : ∀ σ, PassesAt CX X σ (E σ))
    (ha : PA X (e :: es) t) (hdb : (x == ("__debug__" : Str)) = false := by decide) (he : starEach (e :: es) X.env = (false, eval e X.env) :: starEach es X.env := by rfl) (hpl : (backTo pos (starEach es X.env)).any (·.1) = false := by rfl) :
    PE X (.Call (.Name x p) (e :: es) [] pos) (tCallD sp dvs E t) := by
  constructor
  intro pins s σ H Q I h
  refine wpAny_Call_Name_kw (ld_glob I hg hm (PySem.W.callWith_K (h₀ := X.base) I.ok.mod.kin hk (thn (ha.run pos pins s σ H _ I h) ?_) he hpl) hdb)
  rintro us s1 ⟨vs, H1, I1, r, q⟩
  exact ⟨I1.kIn, run_at F hr hb hd (pass σ) I1 r q⟩
end

inductive RpA (K : PySem.W.Frag) (F H : Hp) : List Bool → List V → List D → Prop
  | nil : RpA K F H [] [] []
  | frz {bs : List Bool} {v : V} {vs : List V} {d : D} {ds : List D} : Rp K F v d → RpA K F H bs vs ds → RpA K F H (false :: bs) (v :: vs) (d :: ds)
  | bor {bs : List Bool} {v : V} {vs : List V} {d : D} {ds : List D} : RpT K F H v d → RpA K F H bs vs ds → RpA K F H (true :: bs) (v :: vs) (d :: ds)
theorem RpA.len {K : PySem.W.Frag} {F H : Hp} : ∀ {bs : List Bool} {vs : List V} {ds : List D}, RpA K F H bs vs ds → vs.length = bs.length ∧ ds.length = bs.length
  | _, _, _, .nil => ⟨rfl, rfl⟩
  | _, _, _, .frz _ h => ⟨congrArg Nat.succ h.len.1, congrArg Nat.succ h.len.2⟩
  | _, _, _, .bor _ h => ⟨congrArg Nat.succ h.len.1, congrArg Nat.succ h.len.2⟩
theorem RpA.ext {K : PySem.W.Frag} {F H F' H' : Hp} (x : Ext F H F' H') : ∀ {bs : List Bool} {vs : List V} {ds : List D}, RpA K F H bs vs ds → RpA K F' H' bs vs ds
  | _, _, _, .nil => .nil
  | _, _, _, .frz r h => .frz (r.mono x.sF) (h.ext x)
  | _, _, _, .bor r h => .bor (r.ext x) (h.ext x)
def argSl : List Bool → List D → List Sl
  | false :: bs, d :: ds => .val d :: argSl bs ds
  | true :: bs, d :: ds => .bor d :: argSl bs ds
  | _, _ => []
def spD (K : PySem.W.Frag) (bs : List Bool) (m : List D → M D) : Sp := fun vs H Q E => ∃ F ds, Same F H ∧ RpA K F H bs vs ds ∧ WpG K E (rE K) (m ds) F H Q
theorem args_ok {K : PySem.W.Frag} {F H : Hp} : ∀ {bs : List Bool} {vs : List V} {ds : List D}, RpA K F H bs vs ds → (argSl bs ds).length = vs.length ∧ (∀ (i : Nat) (s : Sl), (argSl bs ds)[i]? = some s → ∃ o, (vs.map some)[i]? = some o ∧ SlOk K H F H o s) ∧ ∀ (i : Nat) (s : Sl), (argSl bs ds)[i]? = some s → s.owns = false
  | _, _, _, .nil => ⟨rfl, fun i s h => (by cases h), fun i s h => (by cases h)⟩
  | _, _, _, .frz (v := v) (d := d) r h => by
    obtain ⟨h1, h2, h3⟩ := args_ok h
    refine ⟨congrArg Nat.succ h1, fun i s hs => ?_, fun i s hs => ?_⟩
    · cases i with
      | zero =>
        cases hs
        exact ⟨some v, rfl, v, rfl, r⟩
      | succ i => exact h2 i s hs
    · cases i with
      | zero =>
        cases hs
        rfl
      | succ i => exact h3 i s hs
  | _, _, _, .bor (v := v) (d := d) r h => by
    obtain ⟨h1, h2, h3⟩ := args_ok h
    refine ⟨congrArg Nat.succ h1, fun i s hs => ?_, fun i s hs => ?_⟩
    · cases i with
      | zero =>
        cases hs
        exact ⟨some v, rfl, v, rfl, r⟩
      | succ i => exact h2 i s hs
    · cases i with
      | zero =>
        cases hs
        rfl
      | succ i => exact h3 i s hs
theorem gok_start {K : PySem.W.Frag} {F H : Hp} {N : List Str} {bs : List Bool} {vs : List V} {ds : List D} (r : RpA K F H bs vs ds) : GOk K H (argSl bs ds ++ List.replicate (N.length - bs.length) .un) (L2.start N vs) F H := by
  obtain ⟨h1, h2, h3⟩ := args_ok r
  have hl := r.len.1
  unfold L2.start
  refine ⟨Same.refl _, ?_, fun i s hs => ?_, fun i j s t a hs ht o1 _ _ _ => ?_⟩
  · rw [List.length_append, List.length_append, List.length_map, List.length_replicate, List.length_replicate, h1, hl]
  · by_cases hi : i < (argSl bs ds).length
    · rw [List.getElem?_append_left hi] at hs
      obtain ⟨o, k1, k2⟩ := h2 i s hs
      exact ⟨o, by rw [List.getElem?_append_left (by rw [List.length_map, ← h1]; exact hi)]; exact k1, k2⟩
    · have hi : (argSl bs ds).length ≤ i := by omega
      rw [List.getElem?_append_right hi] at hs
      rw [List.getElem?_append_right (by rw [List.length_map, ← h1]; exact hi), List.length_map, ← h1]
      have e9 : (argSl bs ds).length = bs.length := by rw [h1, hl]
      rw [e9] at hs ⊢
      obtain ⟨hlt, e⟩ := List.getElem?_eq_some_iff.mp hs
      rw [List.getElem_replicate] at e
      subst e
      rw [List.length_replicate] at hlt
      exact ⟨none, by rw [List.getElem?_replicate, if_pos hlt], rfl⟩
  · exfalso
    by_cases hi : i < (argSl bs ds).length
    · rw [List.getElem?_append_left hi] at hs
      rw [h3 i s hs] at o1
      cases o1
    · rw [List.getElem?_append_right (by omega)] at hs
      obtain ⟨hlt, e⟩ := List.getElem?_eq_some_iff.mp hs
      rw [List.getElem_replicate] at e
      subst e
      cases o1
section
variable {P : Program} {w : World} {K : PySem.W.Frag} {mg : Str → Option Value} {base : Heap} {x qual : Str} {params : Arguments} {body : List Stmt} {scope : Scope} {dvs : List V} {kws : List (Str × V)} {f : Addr} {fd : FuncData}
theorem fn_def {N ps : List Str} {k : Nat} {bs : List Bool} {m : List D → M D} (F : FunD K x qual params body scope dvs kws f fd) (S : FnScope N ps scope) (hbs : bs.length = ps.length)
    (hb : ∀ (cdv : Value) (A : Around) (outer : List Env) (s : Shared) (H : Hp) (E : XK), Room k (A.deeper (PyProof.Rows.envOfC qual scope s.heap.objs.size f cdv)) → ∀ ds : List D, ds.length = bs.length →
      DB (cxOf (L2.CX P w) P w K mg base N qual scope f cdv A outer s H E) E (argSl bs ds ++ List.replicate (N.length - bs.length) .un) body (m ds) Oc.rt) : FnOk P w K mg base (L2.CX P w) (k + 1) f fd ps (spD K bs m) := by
  refine F.ok S (fun vs H Q E h => ?_) (fun cdv A outer s H vs Q E hr h => ?_)
  · obtain ⟨F, ds, _, r, _⟩ := h
    rw [r.len.1, hbs]
  · obtain ⟨F, ds, sF, r, q⟩ := h
    obtain ⟨t, p, wt⟩ := hb cdv A outer s H E hr ds r.len.2
    refine ⟨t, p, wt F H (L2.start N vs) F H _ (Ext.refl sF) (gok_start r) ?_⟩
    cases e : m ds with
    | ok d =>
      rw [e] at q
      exact WpB.of_ok (fun v F' H' _ x' r' => q F' H' v x' r')
    | error er =>
      rw [e] at q
      cases er with
      | stuck => exact q.elim
      | exc y => exact fun F' H' c d _ x' r' => q F' H' c d x' r'
end
section
variable {X : Cx} {E : St → XK} {G : List Sl} {a b c e : Expr} {ma mb mc : M D} {ta tb : M Bool} {pos : Pos} {F H : Hp}
def DAM (X : Cx) (E : St → XK) (G : List Sl) (bs : List Bool) (es : List Expr) (m : M (List D)) : Prop :=
  ∃ t, PA X es t ∧ ∀ B σ F H Q, Same F H → GOk X.K B G σ F H → WpG X.K (E σ) (fun F' H' v d => RpA X.K F' H' bs v d) m F H Q → t σ H Q
theorem dam_nil : DAM X E G [] [] (.ok []) := ⟨_, pa_nil, fun B σ F H Q s g q => q F H _ (Ext.refl s) .nil⟩
theorem dam_frz {es : List Expr} {bs : List Bool} {ms : M (List D)} (ha : DE X E G a ma) (hr : DAM X E G bs es ms) (hs : starEach (a :: es) X.env = (false, eval a X.env) :: starEach es X.env := by rfl) : DAM X E G (false :: bs) (a :: es) (ma >>= fun x => ms >>= fun xs => .ok (x :: xs)) := by
  obtain ⟨t1, p1, w1⟩ := ha
  obtain ⟨t2, p2, w2⟩ := hr
  exact ⟨_, pa_cons p1 p2 hs, fun B σ F H Q s g q => w1 B σ F H _ s g (WpG.bind q fun x F1 H1 v x1 r1 k1 => w2 B σ F1 H1 _ x1.sFH (g.ext x1) (WpG.bind k1 fun xs F2 H2 vs x2 r2 k2 => k2 F2 H2 _ (Ext.refl x2.sFH) (.frz (r1.mono x2.sF) r2)))⟩
theorem dam_bor {es : List Expr} {bs : List Bool} {ms : M (List D)} (ha : DR X E G a ma) (hr : DAM X E G bs es ms) (hs : starEach (a :: es) X.env = (false, eval a X.env) :: starEach es X.env := by rfl) : DAM X E G (true :: bs) (a :: es) (ma >>= fun x => ms >>= fun xs => .ok (x :: xs)) := by
  obtain ⟨t1, p1, w1⟩ := ha
  obtain ⟨t2, p2, w2⟩ := hr
  exact ⟨_, pa_cons p1 p2 hs, fun B σ F H Q s g q => w1 B σ F H _ s g (WpG.bind q fun x F1 H1 v x1 r1 k1 => w2 B σ F1 H1 _ x1.sFH (g.ext x1) (WpG.bind k1 fun xs F2 H2 vs x2 r2 k2 => k2 F2 H2 _ (Ext.refl x2.sFH) (.bor (r1.ext x2) r2)))⟩
theorem de_call {k : Nat} {f : Addr} {fd : FuncData} {ps : List Str} {bs : List Bool} {m : List D → M D} {x : Str} {p : Pos} {es : List Expr} {ms : M (List D)} (cx : CtxOk X E) (F : FnOk X.prog X.w X.K X.mg X.base (L2.CX X.prog X.w) k f fd ps (spD X.K bs m)) (hr : Room k X.A) (hg : Gl X x) (hm : X.mg x = some (.ref f)) (hk : PySem.W.keepIn X.K (.ref f) = true) (hb : Binds X.K fd ps [])
    (ha : DAM X E G bs (a :: es) ms) (hdb : (x == ("__debug__" : Str)) = false := by decide) (he : starEach (a :: es) X.env = (false, eval a X.env) :: starEach es X.env := by rfl) (hpl : (backTo pos (starEach es X.env)).any (·.1) = false := by rfl) :
    DE X E G (.Call (.Name x p) (a :: es) [] pos) (ms >>= fun l => m l) := by
  obtain ⟨t, pa, w⟩ := ha
  refine ⟨_, pe_callD F hr hg hm hk hb .nil cx.pass pa hdb he hpl, fun B σ F H Q s g q => w B σ F H _ s g (WpG.bind q fun l F1 H1 vs x1 r1 k1 => ?_)⟩
  show spD X.K bs m (vs ++ []) H1 Q (E σ)
  rw [List.append_nil]
  exact ⟨F1, l, x1.sFH, r1, k1⟩

theorem ofString_inj {s t : String} (h : Str.ofString s = Str.ofString t) : s = t := by
  rw [Str.ofString_eq_toList, Str.ofString_eq_toList] at h
  have h1 : s.toList.map Char.toNat = t.toList.map Char.toNat := by
    have := congrArg (fun z : Str => z.cps.toList) h
    simpa using this
  have inj : ∀ l m : List Char, l.map Char.toNat = m.map Char.toNat → l = m := by
    intro l
    induction l with
    | nil => intro m h; cases m with
      | nil => rfl
      | cons _ _ => simp at h
    | cons c l ih => intro m h; cases m with
      | nil => simp at h
      | cons d m =>
        simp only [List.map_cons, List.cons.injEq] at h
        rw [ih m h.2]
        have : c = d := Char.ext (UInt32.toNat_inj.mp h.1)
        rw [this]
  have := inj _ _ h1
  have e := congrArg String.ofList this
  simpa using e
end
section
variable {X : Cx} {E : XK} {G : List Sl} {a b c e : Expr} {ma mb mc : M D} {ta tb : M Bool} {pos : Pos} {F H : Hp}
theorem GOk.cons {K : PySem.W.Frag} {B F H : Hp} {G : List Sl} {σ : St} {s : Sl} {o : Option V} (g : GOk K B G σ F H) (h : SlOk K B F H o s) (hd : ∀ (j : Nat) (t : Sl) (a : Addr), G[j]? = some t → t.owns = true → s.owns = true → o = some (.ref a) → σ[j]? ≠ some (some (.ref a))) : GOk K B (s :: G) (o :: σ) F H := by
  refine ⟨g.sB, congrArg Nat.succ g.len, fun i t ht => ?_, fun i j s1 s2 a h1 h2 o1 o2 e1 e2 => ?_⟩
  · cases i with
    | zero =>
      cases ht
      exact ⟨o, rfl, h⟩
    | succ i => exact g.ok i t ht
  · cases i with
    | zero =>
      cases h1
      cases j with
      | zero => rfl
      | succ j =>
        have e1 : o = some (.ref a) := by simpa using e1
        have h2' : G[j]? = some s2 := h2
        exact absurd e2 (hd j s2 a h2' o2 o1 e1)
    | succ i => cases j with
      | zero =>
        cases h2
        have e2 : o = some (.ref a) := by simpa using e2
        have h1' : G[i]? = some s1 := h1
        exact absurd e1 (hd i s1 a h1' o1 o2 e2)
      | succ j => exact congrArg Nat.succ (g.dis i j s1 s2 a h1 h2 o1 o2 e1 e2)
theorem GOk.monoH {K : PySem.W.Frag} {B F H H' : Hp} {G : List Sl} {σ : St} (g : GOk K B G σ F H) (h : Same H H') : GOk K B G σ F H' := by
  refine ⟨g.sB.trans h, g.len, fun i s hs => ?_, g.dis⟩
  obtain ⟨o, h1, h2⟩ := g.ok i s hs
  refine ⟨o, h1, ?_⟩
  cases s with
  | un => exact h2
  | any => trivial
  | val d => exact h2
  | bor d => exact h2
  | tre b c l => exact ⟨h2.1, h2.2.1.trans h, h2.2.2⟩
  | exn b c l => exact h2
  | own l =>
    obtain ⟨a, xs, e, e2, r⟩ := h2
    exact ⟨a, xs, e, h _ _ e2, r⟩
  | ownd l =>
    obtain ⟨a, e, e2, r⟩ := h2
    obtain ⟨u, hu⟩ := e2.some
    refine ⟨a, e, ?_, r⟩
    rw [h _ _ hu, ← hu]
    exact e2
  | ownu l =>
    obtain ⟨a, e, e2, r⟩ := h2
    obtain ⟨u, hu⟩ := e2.some
    refine ⟨a, e, ?_, r⟩
    rw [h _ _ hu, ← hu]
    exact e2
  | obj a c l =>
    obtain ⟨dx, fs, e, e2, r⟩ := h2
    exact ⟨dx, fs, e, h _ _ e2, r⟩
end
end DL

set_option Elab.async false
set_option linter.all false
set_option maxRecDepth 100000
set_option maxHeartbeats 4000000
namespace DL
open PySem PySem.Spec L2

section
variable {K : PySem.W.Frag} {tp : Bool} {a e it : Addr}
end
section
variable {X : Cx} {E : St → XK} {G : List Sl} {a b c e : Expr} {ma mb mc : M D} {ta tb : M Bool} {pos : Pos} {F H : Hp}
end
end DL

set_option Elab.async false
set_option linter.all false
set_option maxRecDepth 100000
set_option maxHeartbeats 4000000
namespace DL
open PySem PySem.Spec L2
section
variable {X : Cx} {E : St → XK} {G : List Sl} {a b c e : Expr} {ma mb mc : M D} {ta tb : M Bool} {pos : Pos} {F H : Hp} {st : Stmt} {rest body : List Stmt}

def D.tyName : D → Option String
  | .non => some "NoneType"
  | .bl _ => some "bool"
  | .int _ => some "int"
  | .str _ => some "str"
  | .lst _ => some "list"
  | .tup _ => some "tuple"
  | .dct _ => some "dict"
  | _ => none
def D.isB (T : String) (d : D) : M D := match d.tyName with
  | some t => (match kitB t T with | some r => .ok (.bl r) | none => stuck)
  | none => stuck
theorem tyName_ok {v : V} {d : D} {t : String} (s : Same F H) (r : RpT X.K F H v d) (h : d.tyName = some t) : TyX X.K H v (.type t) := by
  cases d with
  | non => cases h; rw [r.non]; exact .base .non
  | bl b => cases h; rw [r.bl]; exact .base (.bl b)
  | int i => cases h; rw [r.int]; exact .base (.int i)
  | str y => cases h; rw [r.str.1]; exact .base (.str y)
  | lst l =>
    cases h
    obtain ⟨p, xs, rfl, e, _⟩ := r.lst s
    exact .base (.lst e)
  | tup l =>
    cases h
    obtain ⟨p, xs, rfl, e, _⟩ := r.tup s
    rcases e with (e | ⟨o, e⟩) | ⟨o, its, n, e1, e2, _⟩
    · exact .base (.tup e)
    · exact .fTuple e
    · exact .kTuple e1 e2
  | dct l =>
    cases h
    obtain ⟨p, rfl, kvs, e, _⟩ := r.dct s
    rcases e with e | ⟨o, e⟩
    · exact .base (.dK e)
    · exact .fDict e
  | _ => cases h
theorem de_isB {T : String} {xT : Str} {p p2 : Pos} (hg : Gl X "isinstance") (hm : X.mg "isinstance" = none) (hv : bootBuiltins ("isinstance" : Str) = some (.builtin "isinstance")) (hT : PE X (.Name xT p2) (tC (.ty T))) (ha : DR X E G a ma)
    (he : starEach [a, .Name xT p2] X.env = (false, eval a X.env) :: starEach [.Name xT p2] X.env := by rfl) (he2 : starEach [.Name xT p2] X.env = (false, eval (.Name xT p2) X.env) :: starEach [] X.env := by rfl) (hpl : (backTo pos (starEach [.Name xT p2] X.env)).any (·.1) = false := by rfl) :
    DE X E G (.Call (.Name "isinstance" p) [a, .Name xT p2] [] pos) (ma >>= fun x => D.isB T x) := by
  obtain ⟨t, pa, w⟩ := ha
  refine ⟨_, pe_callB call_isi hg hm hv (pa_cons pa (pa_cons hT pa_nil he2) he) (by decide) (by decide) he hpl, fun B σ F H Q s g q => w B σ F H _ s g (WpG.bind q fun x F1 H1 v x1 r1 k1 => ?_)⟩
  have k1 : WpG X.K (E σ) (rE X.K) (match x.tyName with
    | some t => (match kitB t T with | some r => .ok (.bl r) | none => stuck)
    | none => stuck) F1 H1 Q := k1
  cases e1 : x.tyName with
  | none => rw [e1] at k1; exact k1.elim
  | some t =>
    rw [e1] at k1
    have k1 : WpG X.K (E σ) (rE X.K) (match kitB t T with | some r => .ok (.bl r) | none => stuck) F1 H1 Q := k1
    cases e2 : kitB t T with
    | none => rw [e2] at k1; exact k1.elim
    | some r =>
      rw [e2] at k1
      exact ⟨v, .ty T, .type t, .type T, r, rfl, .ty T, tyName_ok x1.sFH r1 e1, kit_ty e2, k1 F1 H1 _ (Ext.refl x1.sFH) (.bl r)⟩
def putD (f : String) (d : D) : List (String × D) → List (String × D)
  | [] => [(f, d)]
  | (g, x) :: r => if g = f then (g, d) :: r else (g, x) :: putD f d r
def D.recv (c m : String) : D → M D
  | .ins c' l => do need (decide (c' = c) && (l.lookup m).isNone); .ok (.ins c' l)
  | _ => stuck
def D.isIns (c : String) : D → M D
  | .ins c' l => do need (decide (c' = c)); .ok (.ins c' l)
  | _ => stuck
theorem pts_no {b : D → M (List Sl)} : PTs X [] (tTst X.K b fun _ => .ok true) := ⟨fun pins s σ H Q I ⟨d, G', B, F, _, sm, _, q⟩ => pts_nil.run pins s σ H Q I (q F H _ (Ext.refl sm) rfl)⟩
theorem pts_if {b : D → M (List Sl)} {mt : D → M Bool} (h : ∀ d G', b d = .ok G' → DT X EN G' c (mt d)) : PTs X [c] (tTst X.K b mt) :=
  ⟨fun pins s σ H Q I ⟨d, G', B, F, e, sm, g, q⟩ => (pts_one (h d G' e).canon).run pins s σ H Q I ⟨B, F, sm, g, q⟩⟩
theorem elt_of {b : D → M (List Sl)} {me : D → M D} (h : ∀ d G', b d = .ok G' → DE X EN G' e (me d)) : PE X e (tElt X.K b me) :=
  ⟨fun pins s σ H Q I ⟨d, G', B, F, e, sm, g, q⟩ => (h d G' e).canon.run pins s σ H Q I ⟨B, F, sm, g, q⟩⟩
theorem dn_lc1 {tg iter : Expr} {scope : Scope} {own : List (Str × Nat)} {i : Nat} {mi : M (List D)} {me : D → M D} (hc : X.calm = true) (hN : X.N.Nodup) (hi : DIR X E G tg iter mi) (ok : BlkOk X.N X.env.scope scope own) (ho : own.map (·.2) = [i])
    (hg : ∀ (s : Shared) (H : Hp) (C : Addr) (cl : List (Str × Addr)) (fp : List Addr), PG (X.blk s H scope (compEnvC scope cl C X.env) fp) tg (gName i))
    (he : ∀ (s : Shared) (H : Hp) (C : Addr) (cl : List (Str × Addr)) (fp : List Addr) (d : D), DE (X.blk s H scope (compEnvC scope cl C X.env) fp) EN ((G.set i .any).set i (.val d)) e (me d))
    (hs : ∀ x, foldedSetIterable iter X.env x = pure x := by intro _; rfl) : DNL X E G (.ListComp e [⟨tg, iter, [], 0⟩] scope pos) (mi >>= fun ds => compL (fElt (fun _ => .ok true) me) ds) := by
  refine dn_lc (b := fun d => .ok ((G.set i .any).set i (.val d))) hc hN hi ok hg (fun x v B σ F H Q s g r k => ?_) (fun s H C cl fp => pts_no) (fun s H C cl fp => elt_of fun d G' e => ?_) (fun d y _ => ⟨_, rfl⟩) hs
  · obtain ⟨G', e, k⟩ := k
    cases e
    rw [ho] at g k
    exact k _ (g.set r) (fun j hj => List.getElem?_set_ne fun z => hj (by simp [z])) (by rw [List.length_set])
  · cases e
    exact he s H C cl fp d
theorem dn_lc2 {tg iter : Expr} {scope : Scope} {own : List (Str × Nat)} {i : Nat} {mi : M (List D)} {mt : D → M Bool} {me : D → M D} (hc : X.calm = true) (hN : X.N.Nodup) (hi : DIR X E G tg iter mi) (ok : BlkOk X.N X.env.scope scope own) (ho : own.map (·.2) = [i])
    (hg : ∀ (s : Shared) (H : Hp) (C : Addr) (cl : List (Str × Addr)) (fp : List Addr), PG (X.blk s H scope (compEnvC scope cl C X.env) fp) tg (gName i))
    (ht : ∀ (s : Shared) (H : Hp) (C : Addr) (cl : List (Str × Addr)) (fp : List Addr) (d : D), DT (X.blk s H scope (compEnvC scope cl C X.env) fp) EN ((G.set i .any).set i (.val d)) c (mt d))
    (he : ∀ (s : Shared) (H : Hp) (C : Addr) (cl : List (Str × Addr)) (fp : List Addr) (d : D), DE (X.blk s H scope (compEnvC scope cl C X.env) fp) EN ((G.set i .any).set i (.val d)) e (me d))
    (hs : ∀ x, foldedSetIterable iter X.env x = pure x := by intro _; rfl) : DNL X E G (.ListComp e [⟨tg, iter, [c], 0⟩] scope pos) (mi >>= fun ds => compL (fElt mt me) ds) := by
  refine dn_lc (b := fun d => .ok ((G.set i .any).set i (.val d))) hc hN hi ok hg (fun x v B σ F H Q s g r k => ?_) (fun s H C cl fp => pts_if fun d G' e => ?_) (fun s H C cl fp => elt_of fun d G' e => ?_) (fun d y _ => ⟨_, rfl⟩) hs
  · obtain ⟨G', e, k⟩ := k
    cases e
    rw [ho] at g k
    exact k _ (g.set r) (fun j hj => List.getElem?_set_ne fun z => hj (by simp [z])) (by rw [List.length_set])
  · cases e
    exact ht s H C cl fp d
  · cases e
    exact he s H C cl fp d
theorem ds_for1 {E₁ : XK} {S : Type} {tg iter : Expr} {mi : M (List D)} {i : Nat} {Γ : S → List Sl} {f : S → D → M S} (s0 : S) (hG : G = Γ s0) (cx : CtxOk X (cE E₁)) (hi : DI X (cE E₁) G tg iter mi) (pg : PG X tg (gName i))
    (hb : ∀ s d, DB X E₁ ((Γ s).set i (.val d)) body (f s d) (fun s => .nx (Γ s))) (hs : ∀ x, foldedSetIterable iter X.env x = pure x := by intro _; rfl) : DS X E₁ G (.For tg iter body [] pos) (mi >>= fun ds => loopF f ds s0) (fun s => .nx (Γ s)) :=
  ds_forF (vs := [i]) (bnd := fun s d => .ok ((Γ s).set i (.val d))) s0 hG cx.own cx.calm hi pg (fun s x v B σ F H Q sm g r ⟨G', e, k⟩ => by
    cases e
    exact k _ (g.set r) (fun j hj => List.getElem?_set_ne fun z => hj (by simp [z])) (by rw [List.length_set])) (fun _ _ _ _ => ⟨_, rfl⟩) (fun _ _ _ _ => ⟨_, rfl⟩) (fun s d G' e => by
    cases e
    exact hb s d) hs
end
end DL

set_option Elab.async false
set_option linter.all false
set_option maxRecDepth 100000
set_option maxHeartbeats 4000000
namespace DL
open PySem PySem.Spec L2

theorem _root_.L2.Room.u70 {k : Nat} {A : Around} (r : Room k A) : A.units + 70 < cLine := by have := r.un; omega
theorem _root_.L2.Room.u64 {k : Nat} {A : Around} (r : Room k A) : A.units + 64 < cLine := by have := r.un; omega
@[simp] abbrev B2 {α β γ : Type} (f : α → β → M γ) (a : M α) (b : M β) : M γ := a >>= fun x => b >>= fun y => f x y
@[simp] abbrev B1 {α γ : Type} (f : α → M γ) (a : M α) : M γ := a >>= fun x => f x
@[simp] abbrev A0 : M (List D) := .ok []
@[simp] abbrev A1 (a : M D) (r : M (List D)) : M (List D) := a >>= fun x => r >>= fun xs => .ok (x :: xs)
@[simp] abbrev mIf {α : Type} (c : M Bool) (a b : M α) : M α := c >>= fun x => if x = true then a else b
@[simp] abbrev mAnd (a b : M Bool) : M Bool := a >>= fun x => if x = true then b else .ok false
@[simp] abbrev mOr (a b : M Bool) : M Bool := a >>= fun x => if x = true then .ok true else b
@[simp] abbrev mNot (a : M Bool) : M Bool := a >>= fun x => .ok (!x)
@[simp] abbrev vAnd (a b : M D) : M D := a >>= fun x => D.tru x >>= fun k => if k = true then b else .ok x
@[simp] abbrev vOr (a b : M D) : M D := a >>= fun x => D.tru x >>= fun k => if k = true then .ok x else b
@[simp] abbrev vNot (a : M D) : M D := a >>= fun x => D.tru x >>= fun k => .ok (.bl (!k))
@[simp] abbrev C2 (f : D → D → M Bool) (a b : M D) : M D := a >>= fun x => b >>= fun y => bD (f x y)
@[simp] abbrev C3 (f g : D → D → M Bool) (a b c : M D) : M D := a >>= fun x => b >>= fun y => f x y >>= fun k => if k = true then c >>= fun z => bD (g y z) else .ok (.bl false)
@[simp] abbrev T3 (f g : D → D → M Bool) (a b c : M D) : M Bool := a >>= fun x => b >>= fun y => f x y >>= fun k => if k = true then c >>= fun z => g y z else .ok false
@[simp] abbrev S3 (a : M D) (l h : M (Option Int)) : M D := a >>= fun x => l >>= fun l => h >>= fun h => D.sl x l h
@[simp] abbrev L1 (m : M (List D)) : M D := m >>= fun l => .ok (.lst l)
@[simp] abbrev oN : M (Option Int) := .ok none
@[simp] abbrev mPush (l : List D) (m : M D) : M (List D) := m >>= fun d => need (decide (l.length < sizeLine)) >>= fun _ => .ok (l ++ [d])
@[simp] abbrev mkIns (c : String) (m : List D → M (List (String × D))) (a : M (List D)) : M D := a >>= fun l => m l >>= fun l => .ok (.ins c l)
@[simp] abbrev noT : D → M Bool := fun _ => .ok true
@[simp] abbrev nLst (m : M (List D)) : M (List D) := m >>= fun l => need (decide (l.length ≤ sizeLine)) >>= fun _ => .ok l
abbrev nList (m : M (List D)) : M (List D) := m >>= fun l => match l with | [.lst l] => .ok l | [.tup l] => .ok l | _ => stuck
@[simp] def a1 {α : Type} (f : D → M α) : List D → M α
  | [a] => f a
  | _ => stuck
@[simp] def a2 {α : Type} (f : D → D → M α) : List D → M α
  | [a, b] => f a b
  | _ => stuck
@[simp] def a3 {α : Type} (f : D → D → D → M α) : List D → M α
  | [a, b, c] => f a b c
  | _ => stuck
@[simp] def a4 {α : Type} (f : D → D → D → D → M α) : List D → M α
  | [a, b, c, d] => f a b c d
  | _ => stuck
@[simp] def a5 {α : Type} (f : D → D → D → D → D → M α) : List D → M α
  | [a, b, c, d, e] => f a b c d e
  | _ => stuck
@[simp] def a6 {α : Type} (f : D → D → D → D → D → D → M α) : List D → M α
  | [a, b, c, d, e, g] => f a b c d e g
  | _ => stuck
section
variable {X : Cx} {E : XK} {G : List Sl} {a b c e : Expr} {ma mb mc : M D} {ta tb : M Bool} {pos : Pos} {F H : Hp} {st : Stmt} {rest body : List Stmt}
theorem dr_val {E₁ : St → XK} {i : Nat} {d : D} {x : Str} (h : G[i]? = some (.val d)) (p : PE X (.Name x pos) (tVar i)) : DR X E₁ G (.Name x pos) (.ok d) := dr_var h p
theorem dr_own {E₁ : St → XK} {i : Nat} {l : List D} {x : Str} (h : G[i]? = some (.own l)) (p : PE X (.Name x pos) (tVar i)) : DR X E₁ G (.Name x pos) (.ok (.lst l)) := dr_var h p
theorem dr_bor {E₁ : St → XK} {i : Nat} {d : D} {x : Str} (h : G[i]? = some (.bor d)) (p : PE X (.Name x pos) (tVar i)) : DR X E₁ G (.Name x pos) (.ok d) := dr_var h p
theorem DNL.de {E₁ : St → XK} {m : M (List D)} (h : DNL X E₁ G e m) : DE X E₁ G e (m >>= fun l => .ok (.lst l)) := h.dn.de

theorem db_step {α β : Type} {m1 : M β} {G1 : β → List Sl} (G2 : β → List Sl) {k : β → M α} {post : α → Oc} (h1 : DS X E G st m1 (fun j => .nx (G1 j))) (e : ∀ j, G1 j = G2 j) (h2 : ∀ j, DB X E (G2 j) rest (k j) post) : DB X E G (st :: rest) (m1 >>= k) post :=
  db_then h1 fun j => by
    rw [e j]
    exact h2 j
theorem db_G {α : Type} (G2 : List Sl) {m : M α} {post : α → Oc} (e : G = G2) (h : DB X E G2 body m post) : DB X E G body m post := by
  rw [e]
  exact h
theorem db_fzO {α : Type} (i : Nat) {l : List D} {m : M α} {post : α → Oc} (hs : G[i]? = some (.own l)) (h : DB X E (G.set i (.val (.lst l))) body m post) : DB X E G body m post := db_fz hs h
theorem ds_pushO {x : Str} {i : Nat} {l : List D} {p1 p2 p3 : Pos} {m : M D} (hs : G[i]? = some (.own l)) (pv : PE X (.Name x p1) (tVar i)) (h : DE X (cE E) G e m)
    (hfew : ((backTo p3 (starEach [e] X.env)).all (fun x => !x.1) && (backToKw p3 (keywordEach [] X.env)).all (fun x => x.1.isSome)
      && decide (([e] : List Expr).length + ([] : List Keyword).length + (if ([] : List Keyword).isEmpty then 0 else 1) < 30)) = true := by rfl)
    (hbase : attributeBase (.Name x p1) "append" X.env (eval (.Name x p1) X.env) = eval (.Name x p1) X.env := by rfl)
    (hline : (p2.endLine == p3.line) = true := by rfl) (hst : starEach [e] X.env = (false, eval e X.env) :: starEach [] X.env := by rfl) (hplain : (backTo p3 (starEach [] X.env)).any (·.1) = false := by rfl) :
    DS X E G (.Expr (.Call (.Attribute (.Name x p1) "append" p2) [e] [] p3) pos) (m >>= fun d => need (decide (l.length < sizeLine)) >>= fun _ => .ok (l ++ [d])) (fun l' => .nx (G.set i (.own l'))) := by
  obtain ⟨t, ps, w⟩ := ds_push hs pv h hfew hbase hline hst hplain
  refine ⟨t, ps, fun B0 B σ F H D x0 g q => w B0 B σ F H D x0 g ?_⟩
  show WpB X.K E B0 B (fun s' => .nx (G.set i s')) (m >>= fun d => need (decide (l.length < sizeLine)) >>= fun _ => .ok (.own (l ++ [d]))) F D
  cases m with
  | error er => cases er with
    | stuck => exact q.elim
    | exc y => exact q
  | ok d =>
    have q : WpB X.K E B0 B (fun l' => .nx (G.set i (.own l'))) (need (decide (l.length < sizeLine)) >>= fun _ => .ok (l ++ [d])) F D := q
    show WpB X.K E B0 B (fun s' => .nx (G.set i s')) (need (decide (l.length < sizeLine)) >>= fun _ => .ok (.own (l ++ [d]))) F D
    cases hd : decide (l.length < sizeLine) with
    | false =>
      exfalso
      rw [hd] at q
      exact q
    | true =>
      rw [hd] at q
      exact q
theorem ds_setLc {i : Nat} {y : Str} {py : Pos} {m : M (List D)} (h : DNL X (cE E) G e m) (hy : X.N[i]? = some y) (hl : X.env.scope.names.lookup y = some .local) (hs : swapsWith e (some (.Name y py)) pos.line X.env = pure true) :
    DS X E G (.Assign [.Name y py] e pos) (m >>= fun l => .ok (.lst l)) (fun d => .nx (G.set i (.val d))) := by
  obtain ⟨t, _, ps, w⟩ := h
  refine ⟨_, ps hy hl hs, fun B0 B σ F H D x0 g q => w B σ F H _ x0.sFH g ?_⟩
  cases m with
  | ok l =>
    intro F' H' v x ⟨p, xs, ev, n, h, nf, r⟩
    subst ev
    exact q.ok _ _ H' (x.freeze n h nf).sF (x0.trans (x.freeze n h nf)) ((g.ext (x.freeze n h nf)).set (.lst upd_same (r.mono (same_new nf))))
  | error er => cases er with
    | stuck => exact q.elim
    | exc y => exact fun F' H' c d x r => q F' H' c d x.sF (x0.trans x) r
theorem ds_setLcN {i : Nat} {y : Str} {py : Pos} {m : M (List D)} (h : DNL X (cE E) G e m) (hy : X.N[i]? = some y) (hl : X.env.scope.names.lookup y = some .local) (hs : swapsWith e (some (.Name y py)) pos.line X.env = pure true) :
    DS X E G (.Assign [.Name y py] e pos) m (fun l => .nx (G.set i (.own l))) := by
  obtain ⟨t, _, ps, w⟩ := h
  refine ⟨_, ps hy hl hs, fun B0 B σ F H D x0 g q => w B σ F H _ x0.sFH g ?_⟩
  cases m with
  | ok l =>
    intro F' H' v x ⟨a, xs, ev, n, h1, f1, r1⟩
    subst ev
    have hB : B a = none := x0.sH.free n
    exact q.ok _ F' H' x.sF (x0.trans x) ((g.ext x).setOwn h1 f1 hB r1 fun j s hj oj ej => by
      obtain ⟨u, hu⟩ := g.owned hj oj ej
      rw [n] at hu
      cases hu)
  | error er => cases er with
    | stuck => exact q.elim
    | exc y => exact fun F' H' c d x r => q F' H' c d x.sF (x0.trans x) r

@[simp] def un2 {α : Type} (k : D → D → M α) : D → M α
  | .tup [a, b] => k a b
  | .lst [a, b] => k a b
  | _ => stuck
@[simp] def un3 {α : Type} (k : D → D → D → M α) : D → M α
  | .tup [a, b, c] => k a b c
  | .lst [a, b, c] => k a b c
  | _ => stuck
@[simp] def un4 {α : Type} (k : D → D → D → D → M α) : D → M α
  | .tup [a, b, c, d] => k a b c d
  | .lst [a, b, c, d] => k a b c d
  | _ => stuck
@[simp] def un5 {α : Type} (k : D → D → D → D → D → M α) : D → M α
  | .tup [a, b, c, d, e] => k a b c d e
  | .lst [a, b, c, d, e] => k a b c d e
  | _ => stuck
@[simp] def un6 {α : Type} (k : D → D → D → D → D → D → M α) : D → M α
  | .tup [a, b, c, d, e, f] => k a b c d e f
  | .lst [a, b, c, d, e, f] => k a b c d e f
  | _ => stuck
theorem un2_kk {α : Type} {k : D → D → M α} : ∀ ds : List D, ds.length = 2 → un2 k (.tup ds) = un2 k (.lst ds)
  | [], h => absurd h (by simp)
  | [_], h => absurd h (by simp)
  | [_, _], _ => rfl
  | _ :: _ :: _ :: _, h => absurd h (by simp only [List.length_cons]; omega)
theorem db_tup {α : Type} {tg : Expr} {is : List Nat} {n : Nat} {m : M D} {k : D → M α} {post : α → Oc} (h : DE X (cE E) G e m) (hn : is.length = n) (p : PG X tg (gSeq X.K n (gNames is)))
    (hs : swapsWithSole [tg] e pos.line X.env = pure false) (hw : swappedStores [tg] e X.env = pure none) (h1 : (assignEach [tg] X.env).map (·.2) = [assign tg X.env])
    (hk : ∀ d, (∃ ds, (d = .tup ds ∨ d = .lst ds) ∧ ds.length = n ∧ DB X E (setT G is ds) rest (k d) post) ∨ k d = stuck) (hkk : ∀ ds, ds.length = n → k (.tup ds) = k (.lst ds)) : DB X E G (.Assign [tg] e pos :: rest) (m >>= k) post := by
  have q := ds_tup (pos := pos) (tg := tg) (is := is) (n := n) h hn (fun {te} pe => ps_asg pe p hs hw h1)
  have stk : ∀ l : List D, ¬ l.length = n → k (.tup l) = stuck ∧ k (.lst l) = stuck := fun l hl => by
    refine ⟨?_, ?_⟩
    · rcases hk (.tup l) with ⟨ds, e1, e2, _⟩ | e1
      · rcases e1 with e1 | e1
        · cases e1
          exact absurd e2 hl
        · cases e1
      · exact e1
    · rcases hk (.lst l) with ⟨ds, e1, e2, _⟩ | e1
      · rcases e1 with e1 | e1
        · cases e1
        · cases e1
          exact absurd e2 hl
      · exact e1
  have eq : (m >>= k) = ((m >>= fun d => D.un n d) >>= fun ds => if ds.length = n then k (.tup ds) else stuck) := by
    cases m with
    | error er => rfl
    | ok d =>
      show k d = (D.un n d >>= fun ds => if ds.length = n then k (.tup ds) else stuck)
      cases d with
      | tup l =>
        show k (.tup l) = ((need (decide (l.length = n)) >>= fun _ => .ok l) >>= fun ds => if ds.length = n then k (.tup ds) else stuck)
        by_cases hl : l.length = n
        · rw [decide_eq_true hl]
          show _ = (if l.length = n then k (.tup l) else stuck)
          rw [if_pos hl]
        · rw [decide_eq_false hl]
          exact (stk l hl).1
      | lst l =>
        show k (.lst l) = ((need (decide (l.length = n)) >>= fun _ => .ok l) >>= fun ds => if ds.length = n then k (.tup ds) else stuck)
        by_cases hl : l.length = n
        · rw [decide_eq_true hl]
          show _ = (if l.length = n then k (.tup l) else stuck)
          rw [if_pos hl, hkk l hl]
        · rw [decide_eq_false hl]
          exact (stk l hl).2
      | _ =>
        refine Or.elim (hk _) (fun z => ?_) (fun z => z)
        obtain ⟨ds, e1, _⟩ := z
        rcases e1 with e1 | e1 <;> cases e1
  rw [eq]
  refine db_then q fun ds => ?_
  by_cases hl : ds.length = n
  · rw [if_pos hl]
    rcases hk (.tup ds) with ⟨ds', e1, e2, h⟩ | e1
    · rcases e1 with e1 | e1
      · cases e1
        exact h
      · cases e1
    · rw [e1]
      exact db_stuck
  · rw [if_neg hl]
    exact db_stuck
theorem db_un2' {α : Type} {tg : Expr} (is : List Nat) {m : M D} {k : D → D → M α} {post : α → Oc} (G2 : D → D → List Sl) (h : DE X (cE E) G e m) (hn : is.length = 2) (p : PG X tg (gSeq X.K 2 (gNames is)))
    (hs : swapsWithSole [tg] e pos.line X.env = pure false) (hw : swappedStores [tg] e X.env = pure none) (h1 : (assignEach [tg] X.env).map (·.2) = [assign tg X.env])
    (e2 : ∀ a b, setT G is [a, b] = G2 a b) (hk : ∀ a b, DB X E (G2 a b) rest (k a b) post) : DB X E G (.Assign [tg] e pos :: rest) (m >>= un2 k) post :=
  db_tup h hn p hs hw h1 (hkk := un2_kk) fun d => by
    unfold un2
    split
    · rename_i a b
      exact .inl ⟨[a, b], .inl rfl, rfl, by rw [e2]; exact hk a b⟩
    · rename_i a b
      exact .inl ⟨[a, b], .inr rfl, rfl, by rw [e2]; exact hk a b⟩
    · exact .inr rfl
@[simp] def Rx.thn {S S' T : Type} (r : Rx S' T) (k : S' → M (Rx S T)) : M (Rx S T) := match r with
  | .go s => k s
  | .ct t => .ok (.ct t)
  | .bk t => .ok (.bk t)
  | .rt d => .ok (.rt d)
@[simp] def Rx.fin {S' : Type} (r : Rx S' Empty) (k : S' → M D) : M D := match r with
  | .go s => k s
  | .rt d => .ok d
@[simp] def Rx.up {S T : Type} (r : Rx Empty T) : Rx S T := match r with
  | .ct t => .ct t
  | .bk t => .bk t
  | .rt d => .rt d
@[simp] def sThn {S S' T : Type} (r : S' ⊕ D) (k : S' → M (Rx S T)) : M (Rx S T) := match r with
  | .inl s => k s
  | .inr d => .ok (.rt d)
@[simp] def sFin {S' : Type} (r : S' ⊕ D) (k : S' → M D) : M D := match r with
  | .inl s => k s
  | .inr d => .ok d
end
end DL

set_option Elab.async false
set_option linter.all false
set_option maxRecDepth 100000
set_option maxHeartbeats 4000000
namespace DL
open PySem PySem.Spec L2

theorem boot_len_ : bootBuiltins ("len" : Str) = some (.builtin "len") := by decide +kernel
theorem boot_abs_ : bootBuiltins ("abs" : Str) = some (.builtin "abs") := by decide +kernel
theorem boot_max_ : bootBuiltins ("max" : Str) = some (.builtin "max") := by decide +kernel
theorem boot_min_ : bootBuiltins ("min" : Str) = some (.builtin "min") := by decide +kernel
theorem boot_sorted_ : bootBuiltins ("sorted" : Str) = some (.builtin "sorted") := by decide +kernel
theorem boot_isinstance_ : bootBuiltins ("isinstance" : Str) = some (.builtin "isinstance") := by decide +kernel
theorem boot_int_ : bootBuiltins ("int" : Str) = some (.type "int") := by decide +kernel
theorem boot_bool_ : bootBuiltins ("bool" : Str) = some (.type "bool") := by decide +kernel
theorem boot_list_ : bootBuiltins ("list" : Str) = some (.type "list") := by decide +kernel
theorem boot_tuple_ : bootBuiltins ("tuple" : Str) = some (.type "tuple") := by decide +kernel
theorem a1_ {α : Type} (f : D → M α) (a : D) : a1 f [a] = f a := rfl
theorem a2_ {α : Type} (f : D → D → M α) (a b : D) : a2 f [a, b] = f a b := rfl
theorem a3_ {α : Type} (f : D → D → D → M α) (a b c : D) : a3 f [a, b, c] = f a b c := rfl
theorem a6_ {α : Type} (f : D → D → D → D → D → D → M α) (a b c d e g : D) : a6 f [a, b, c, d, e, g] = f a b c d e g := rfl
def AllC (K : PySem.W.Frag) (f : String) : List String → Prop
  | [] => True
  | c :: cs => Cls K (He.ga K (Str.ofString c)) ∧ NoAttr K (He.ga K (Str.ofString c)) (Str.ofString f) ∧ AllC K f cs
theorem AllC.all {K : PySem.W.Frag} {f : String} : ∀ {cs : List String}, AllC K f cs → ∀ c ∈ cs, Cls K (He.ga K (Str.ofString c)) ∧ NoAttr K (He.ga K (Str.ofString c)) (Str.ofString f)
  | [], _, c, h => by cases h
  | d :: cs, ⟨h1, h2, h3⟩, c, h => by
    rcases List.mem_cons.mp h with rfl | h
    · exact ⟨h1, h2⟩
    · exact h3.all c h
section
variable {X : Cx} {E : XK} {G : List Sl} {a b c e : Expr} {ma mb mc : M D} {ta tb : M Bool} {pos : Pos} {F H : Hp} {st : Stmt} {rest body : List Stmt}
theorem pe_ty_ {T : String} {x : Str} (hg : Gl X x) (hm : X.mg x = none) (hv : bootBuiltins x = some (.type T)) (hn : x ≠ "__name__" := by decide) (hd : (x == ("__debug__" : Str)) = false := by decide) : PE X (.Name x pos) (tC (.ty T)) := pe_bltn hg hm hv rfl hn hd
theorem pe_cls_ {x : Str} {C : Addr} (hg : Gl X x) (hm : X.mg x = some (.ref C)) (hd : (x == ("__debug__" : Str)) = false := by decide) : PE X (.Name x pos) (tC (.ref C)) := pe_glob hg hm rfl hd
theorem dt_G {E₁ : St → XK} (G2 : List Sl) {m : M Bool} (h0 : G = G2) (h : DT X E₁ G2 e m) : DT X E₁ G e m := by
  rw [h0]
  exact h
@[simp] abbrev mField (f : String) (l : List (String × D)) (m : M D) : M (List (String × D)) := m >>= fun d => need (decide (l.length < 1000)) >>= fun _ => .ok (putD f d l)
end
@[simp] abbrev mMeth (c mn : String) (m : List D → M D) (a : M D) (ms : M (List D)) : M D := a >>= fun x => D.recv c mn x >>= fun x => ms >>= fun l => m (x :: l)
@[simp] abbrev mMeth0 (c mn : String) (m : List D → M D) (a : M D) : M D := a >>= fun x => D.recv c mn x >>= fun x => m [x]
def CXA (P : Program) : CXT := fun outer H s E u s' => ∃ w, L2.CX P w outer H s E u s'
theorem CXA.no {P : Program} {H : Hp} {s : Shared} {e : Value} {s' : Shared} (h : CXA P [] H s (fun _ _ _ => False) e s') : False := by
  obtain ⟨w, a, B, H', cls, d, h⟩ := h
  exact h.2.2.2.2.2.2.2
theorem fn_any {P : Program} {w : World} {K : PySem.W.Frag} {mg : Str → Option Value} {base : Heap} {k : Nat} {f : Addr} {fd : FuncData} {ps : List Str} {sp : Sp} (F : FnOk P w K mg base (L2.CX P w) k f fd ps sp) : FnOk P w K mg base (CXA P) k f fd ps sp :=
  ⟨F.len, fun A outer s H args us vs Q E h1 h2 h3 h4 h5 => codeAny_mono (F.run A outer s H args us vs Q E h1 h2 h3 h4 h5) fun r s' h => by
    cases r with
    | ok o => cases o with
      | ret u => exact h
      | _ => exact h.elim
    | error e => exact ⟨w, h⟩⟩
def insB (K : PySem.W.Frag) (C : Addr) : Bool := decide (PySem.W.findIn K (.ref C) "__class__" = some (some (.builtin "object.__class__"))) && (decide (PySem.W.specialIn K (.builtin "object.__class__") "__get__" = some (some (.builtin "getset_descriptor.__get__"))) &&
  (decide (PySem.W.takesIn K (.builtin "object.__class__") = some true) && (decide (PySem.W.mroIn K C (.type "object") = some true) && decide (PySem.W.kitOne K (.ref C) (.ref C) = some true))))
end DL

set_option Elab.async false
set_option linter.all false
set_option maxRecDepth 100000
set_option maxHeartbeats 4000000
namespace PySem.W
open PySem PySem.Calls PyProof.Rows
section
variable {prog : Program} {w : World} {A : Around} {s : Shared} {E : Value → Shared → Prop} {β : Type} {R : Value → β → Prop} {enc : β → PyData} {vs : List Value} {bs : List β}
theorem collect_tupT {l : Addr} {vs : List Value} {Q : List Value → Shared → Prop} (hl : IsTup s.heap l vs.toArray)
    (h : Q vs { s with heap := (s.heap.push (seqObj "list" #[] 0)).update s.heap.objs.size (Obj.mapSeq (· ++ vs.toArray)) }) (hsz : vs.length ≤ sizeLine := by size_fits) :
    wpAny (model prog w) A (collect (.ref l)) Q E s := by
  obtain ⟨o, ho, hc, n, hd⟩ := id hl
  unfold collect
  refine wpAny_bind (wpAny_runValue (codeAny_builtin entry_proto_collect' ?_))
  show wpAny _ _ (do again (.builtin "list.__iadd__" ⟨[← newList [], .ref l], []⟩)) _ _ s
  refine wpAny_bind (wpAny_newList (wpAny_pure ⟨Code.quiet_builtin _ (by decide +kernel), codeAny_builtin entry_list_iadd' ?_⟩))
  show wpAny _ _ (Builtin.List.listExtendWith (.ref s.heap.objs.size) (.ref l) (.ref s.heap.objs.size)) _ _ { s with heap := s.heap.push (seqObj "list" #[] 0) }
  unfold Builtin.List.listExtendWith
  have ho' : (s.heap.push (seqObj "list" #[] 0)).get? l = some o := Heap.get?_push_of_some _ ho
  refine wpAny_bind (wpAny_typeOf (T := "tuple") ⟨o, ho', hc⟩ ?_)
  have ht : (Value.type "tuple" == Value.type "tuple") = true := by rfl
  rw [if_pos (by rw [ht]; simp)]
  refine wpAny_bind (listItems_at ho' hd ?_)
  refine wpAny_bind (listItems_at (xs := #[]) (n := 0) (Heap.get?_push_size _ rfl) rfl ?_)
  rw [if_neg (by simp)]
  refine wpAny_bind (listUpdate_at (xs := #[]) (n := 0) (Heap.get?_push_size _ rfl) rfl ?_ (Nat.zero_le _) (by show (#[] ++ vs.toArray).size ≤ sizeLine + 1; simp only [Array.size_append, List.size_toArray, List.length_nil]; omega))
  refine wpAny_pure ?_
  show wpAny (model prog w) A (do
      let o ← load s.heap.objs.size
      match o.data with
      | .seq xs _ => pure xs.toList
      | _ => unsupported "internal:collect") Q E { s with heap := (s.heap.push (seqObj "list" #[] 0)).update s.heap.objs.size (Obj.mapSeq (· ++ vs.toArray)) }
  refine wpAny_bind (wpAny_load (get?_update_seq (Heap.get?_push_size _ rfl) _) ?_)
  show wpAny _ _ (pure ((#[] : Array Value) ++ vs.toArray).toList) Q E _
  rw [show ((#[] : Array Value) ++ vs.toArray).toList = vs by simp]
  exact wpAny_pure h
theorem sorted_dataT {l : Addr} {Q : Value → Shared → Prop} (hl : IsTup s.heap l vs.toArray) (e : EachIs R vs bs) (er : EachIs (fun v b => ∃ as, Reads s.heap v (enc b) as) vs bs) (hal : AllAlike (bs.map enc)) (hk : Sortable (bs.map enc)) (hL : bs.length ≤ sizeLine)
    (hu : ∀ b, b ∈ bs → A.units + 2 + (enc b).depth < cLine) (h : ∀ out, out.length = bs.length → EachIs R out (bs.mergeSort (dataLe false enc)) → Q (.ref (s.heap.objs.size + 1)) { s with heap := sortedAll s.heap vs (List.toArray out) }) :
    wpAny (model prog w) A (call (.builtin "sorted") [.ref l]) Q E s := by
  have er' : EachIs (fun v b => ∃ as, Reads (sortingHeap (copyHeap s.heap vs) (s.heap.objs.size + 1) vs) v (enc b) as) vs bs := er.mono fun _ _ ⟨as, r⟩ => ⟨as, PyProof.Rows.Reads.keeps (fun _ _ => sorting_copy_old) r⟩
  have hL' : vs.length ≤ sizeLine := by rw [e.length]; exact hL
  refine call_function_entry_kw kind_sorted plain_sorted entry_sorted (args_sorted1 _) ?_
  unfold Builtin.«sorted»
  refine wpAny_bind (m := checkCount "sorted" 1 1 _) (wpAny_pure ?_)
  refine wpAny_bind (collect_tupT hl ?_ hL')
  refine wpAny_bind (wpAny_newList ?_ hL')
  have hsz : ((s.heap.push (seqObj "list" #[] 0)).update s.heap.objs.size (Obj.mapSeq (· ++ vs.toArray))).objs.size = s.heap.objs.size + 1 := by
    rw [Heap.size_update, size_push']
  show wpAny _ _ _ _ _ { s with heap := copyHeap s.heap vs }
  rw [hsz]
  refine wpAny_bind (wpAny_holding (wpAny_call_entry_kw slot_list_sort ⟨_, copyHeap_at s.heap vs, rfl⟩ entry_list_sort ?body (args_list_sort _)))
  case body =>
    show wpAny (model prog w) A.in1.in1 (Builtin.«list.sort» ⟨[.ref (s.heap.objs.size + 1)], []⟩) _ _ _
    refine wpAny_mono (list_sort_vals (P := fun f s' => f = .done (.ret .none) ∧ Q (.ref (s.heap.objs.size + 1)) s') (s := { s with heap := copyHeap s.heap vs }) (copyHeap_at s.heap vs) (SortsAt.data (s := { s with heap := sortingHeap (copyHeap s.heap vs) (s.heap.objs.size + 1) vs }) (each_map (R := fun v d => ∃ as, Reads (sortingHeap (copyHeap s.heap vs) (s.heap.objs.size + 1) vs) v d as) enc er') hal hk (bound_map hu)) hL' ⟨rfl, h _ (by rw [sortVals_length false rfl]; exact e.length) (sortVals_data false e er' hal)⟩) (fun f s' hf => ?_) fun _ _ e => e
    obtain ⟨rfl, hq⟩ := hf
    exact ⟨_, rfl, wpAny_pure ⟨_, rfl, hq⟩⟩
end
end PySem.W
namespace DL
open PySem PySem.Spec L2
def rSortD (K : PySem.W.Frag) : List V → Hp → VK → Prop := fun vs H Q => ∃ (a : Addr) (bs : List (V × PyData)), vs = [V.ref a] ∧ (SqL K H a (bs.map (·.1)) ∨ SqT K H a (bs.map (·.1))) ∧ (∀ b ∈ bs, Dp K H b.1 b.2 ∧ b.2.depth ≤ 60) ∧ PySem.W.AllAlike (bs.map (·.2)) ∧ PySem.W.Sortable (bs.map (·.2)) ∧
  ∀ p, H p = none → Q (.ref p) (upd H p (.lst ((bs.mergeSort (PySem.W.dataLe false (·.2))).map (·.1))))
theorem each_of {X : Cx} {pins : List (Addr × Obj)} {σ : St} {H : Hp} {s : Shared} (I : Inv X pins σ H s) : ∀ {bs : List (V × PyData)} {its : List Value}, Vals (bs.map (·.1)) its → (∀ b ∈ bs, Dp X.K H b.1 b.2 ∧ b.2.depth ≤ 60) →
    PySem.W.EachIs (fun v (b : V × PyData) => RelV b.1 v) its bs ∧ PySem.W.EachIs (fun v (b : V × PyData) => ∃ as, PySem.Reads s.heap v b.2 as) its bs
  | [], _, r, _ => by
    cases r
    exact ⟨.nil, .nil⟩
  | b :: bs, _, r, h => by
    cases r with
    | cons r1 r2 =>
      obtain ⟨e1, e2⟩ := each_of I (bs := bs) r2 fun x hx => h x (List.mem_cons_of_mem _ hx)
      exact ⟨.cons r1 e1, .cons (Dp.reads I _ _ _ (h b (List.mem_cons_self ..)).1 r1) e2⟩
theorem vals_each : ∀ {bs : List (V × PyData)} {out : List Value}, PySem.W.EachIs (fun v (b : V × PyData) => RelV b.1 v) out bs → Vals (bs.map (·.1)) out
  | _, _, .nil => .nil
  | _, _, .cons r e => .cons r (vals_each e)
theorem cr_sortD {X : Cx} (hu : X.A.units + 70 < cLine) : CallR X (.builtin "sorted") (rSortD X.K) := by
  intro pins s σ H vs us Q I r h
  obtain ⟨a, bs, rfl, hs, hd, hal, hk, q⟩ := h
  have fin : ∀ (its : List Value), Vals (bs.map (·.1)) its → (bs.map (·.1)).length ≤ sizeLine → ∀ out : List Value, out.length = bs.length → PySem.W.EachIs (fun v (b : V × PyData) => RelV b.1 v) out (bs.mergeSort (PySem.W.dataLe false (·.2))) → EP X pins σ Q (.ref (s.heap.objs.size + 1)) { s with heap := PyProof.Rows.sortedAll s.heap its (List.toArray out) } := fun its rv hz out ho eo => by
    rw [List.length_map] at hz
    obtain ⟨ep, he'⟩ := PyProof.Rows.sortedAll_at s.heap its out.toArray
    have hlen : ((bs.mergeSort (PySem.W.dataLe false (·.2))).map (·.1)).length ≤ sizeLine := by
      rw [List.length_map, List.length_mergeSort]
      exact hz
    exact ⟨.ref _, upd H (s.heap.objs.size + 1) (.lst ((bs.mergeSort (PySem.W.dataLe false (·.2))).map (·.1))), I.laid (t' := s.toks) (fun _ _ => PyProof.Rows.sortedAll_old) (Nat.le_succ _) ⟨hlen, out, ep, vals_each eo, he'⟩, rfl, q _ (I.hok.fresh (Nat.le_succ _))⟩
  rcases hs with hs | hs
  · obtain ⟨its, rv, hl, hz⟩ := I.list hs
    rw [Vals.ref1 r]
    obtain ⟨e1, e2⟩ := each_of I rv hd
    refine PySem.W.sorted_data (enc := fun b : V × PyData => b.2) hl.isList e1 e2 hal hk (by rw [List.length_map] at hz; exact hz) (fun b hb => by have := (hd b hb).2; omega) (fin its rv hz)
  · obtain ⟨its, rv, hl, hz⟩ := I.tuple hs
    rw [Vals.ref1 r]
    obtain ⟨e1, e2⟩ := each_of I rv hd
    refine PySem.W.sorted_dataT (enc := fun b : V × PyData => b.2) hl e1 e2 hal hk (by rw [List.length_map] at hz; exact hz) (fun b hb => by have := (hd b hb).2; omega) (fin its rv hz)
def D.alk (l : List D) : Bool := l.all fun a => l.all fun b => PySem.W.alike a.py b.py
def D.tupN : D → Bool
  | .tup (_ :: _) => true
  | _ => false
def D.noTup : D → Bool
  | .tup _ => false
  | .non => false
  | _ => true
def D.leD (a b : D) : Bool := !PySem.W.dataLt b.py a.py
def D.srt (l : List D) : List D := l.mergeSort D.leD
def D.sortOk (l : List D) : Bool := l.all (D.shp 20) && (D.alk l && (l.all D.tupN || l.all fun d => d.noTup && d.leaf))
def D.sorted : D → M D
  | .lst l => need (D.sortOk l) >>= fun _ => .ok (.lst (D.srt l))
  | .tup l => need (D.sortOk l) >>= fun _ => .ok (.lst (D.srt l))
  | _ => stuck
theorem alk_ok {l : List D} (h : D.alk l = true) : PySem.W.AllAlike (l.map D.py) := by
  intro d hd d' hd'
  obtain ⟨a, ha, rfl⟩ := List.mem_map.mp hd
  obtain ⟨b, hb, rfl⟩ := List.mem_map.mp hd'
  exact List.all_eq_true.mp (List.all_eq_true.mp h a ha) b hb
theorem sortable_ok {l : List D} (h : (l.all D.tupN || l.all fun d => d.noTup && d.leaf) = true) : PySem.W.Sortable (l.map D.py) := by
  rcases Bool.or_eq_true_iff.mp h with h | h
  · refine .inl fun d hd => ?_
    obtain ⟨a, ha, rfl⟩ := List.mem_map.mp hd
    have := List.all_eq_true.mp h a ha
    cases a with
    | tup l => cases l with
      | nil => cases this
      | cons x r => exact ⟨x.py, D.pyL r, by simp only [D.py, D.pyL]⟩
    | _ => cases this
  · refine .inr fun d hd => ?_
    obtain ⟨a, ha, rfl⟩ := List.mem_map.mp hd
    obtain ⟨h1, h2⟩ := and2 (List.all_eq_true.mp h a ha)
    rcases D.leaf_cases h2 with rfl | ⟨b, rfl⟩ | ⟨i, rfl⟩ | ⟨x, rfl⟩
    · cases h1
    · exact ⟨by simp [D.py], fun xs => by simp [D.py]⟩
    · exact ⟨by simp [D.py], fun xs => by simp [D.py]⟩
    · exact ⟨by simp [D.py], fun xs => by simp [D.py]⟩
section
variable {K : PySem.W.Frag} {F H : Hp}
theorem rpl_zip : ∀ {xs : List V} {l : List D}, RpL K F xs l → (xs.zip l).map (·.1) = xs ∧ (xs.zip l).map (·.2) = l ∧ ∀ c ∈ xs.zip l, Rp K F c.1 c.2
  | _, _, .nil => ⟨rfl, rfl, fun c h => by cases h⟩
  | _, _, .cons (vs := vs) (ds := ds) r h => by
    obtain ⟨h1, h2, h3⟩ := rpl_zip h
    refine ⟨by rw [List.zip_cons_cons, List.map_cons, h1], by rw [List.zip_cons_cons, List.map_cons, h2], fun c hc => ?_⟩
    rw [List.zip_cons_cons] at hc
    rcases List.mem_cons.mp hc with rfl | hc
    · exact r
    · exact h3 c hc
theorem rpl_of : ∀ {cs : List (V × D)}, (∀ c ∈ cs, Rp K F c.1 c.2) → RpL K F (cs.map (·.1)) (cs.map (·.2))
  | [], _ => .nil
  | c :: cs, h => .cons (h c (List.mem_cons_self ..)) (rpl_of fun x hx => h x (List.mem_cons_of_mem _ hx))
theorem sort_rp {xs : List V} {l : List D} (r : RpL K F xs l) : RpL K F (((xs.zip (l.map D.py)).mergeSort (PySem.W.dataLe false (·.2))).map (·.1)) (D.srt l) := by
  obtain ⟨h1, h2, h3⟩ := rpl_zip r
  have eb : xs.zip (l.map D.py) = (xs.zip l).map fun c => (c.1, c.2.py) := by
    rw [List.zip_map_right]
    rfl
  have e1 : (((xs.zip (l.map D.py)).mergeSort (PySem.W.dataLe false (·.2))).map (·.1)) = ((xs.zip l).mergeSort fun a b => D.leD a.2 b.2).map (·.1) := by
    rw [eb, ← List.map_mergeSort (r := fun a b : V × D => D.leD a.2 b.2), List.map_map]
    · rfl
    · intro a _ b _
      rw [PySem.W.dataLe_eq]
      rfl
  have e2 : D.srt l = ((xs.zip l).mergeSort fun a b => D.leD a.2 b.2).map (·.2) := by
    unfold D.srt
    rw [List.map_mergeSort (s := D.leD), h2]
    intro a _ b _
    rfl
  rw [e1, e2]
  exact rpl_of fun c hc => h3 c (List.mem_mergeSort.mp hc)
end
theorem sorted_op {X : Cx} : OpN X.K (f1 D.sorted) (rSortD X.K) := opN1 fun E F H v d Q s r q => by
  cases d with
  | lst l =>
    have q : WpG X.K E (rE X.K) (need (D.sortOk l) >>= fun _ => .ok (.lst (D.srt l))) F H Q := q
    obtain ⟨c, q⟩ := q.need
    obtain ⟨c1, c2⟩ := and2 c
    obtain ⟨c2, c3⟩ := and2 c2
    obtain ⟨p, xs, rfl, h, r⟩ := r.lst s
    have hl : xs.length = (l.map D.py).length := by rw [List.length_map, r.length]
    have e1 : (xs.zip (l.map D.py)).map (·.1) = xs := List.map_fst_zip (Nat.le_of_eq hl)
    have e2 : (xs.zip (l.map D.py)).map (·.2) = l.map D.py := List.map_snd_zip (Nat.le_of_eq hl.symm)
    refine ⟨p, xs.zip (l.map D.py), rfl, by rw [e1]; exact .inl (SqL.of h), fun b hb => ?_, by rw [e2]; exact alk_ok c2, by rw [e2]; exact sortable_ok c3, new_lst s (sort_rp r) q⟩
    obtain ⟨h1, h2, h3⟩ := rpl_zip r
    rw [List.zip_map_right] at hb
    obtain ⟨z, hz, rfl⟩ := List.mem_map.mp hb
    have hz2 : z.2 ∈ l := by
      rw [← h2]
      exact List.mem_map.mpr ⟨z, hz, rfl⟩
    have sh := List.all_eq_true.mp c1 _ hz2
    exact ⟨(Rp.dp s sh (h3 z hz)).1, Nat.le_trans (D.shp_depth sh) (by omega)⟩
  | tup l =>
    have q : WpG X.K E (rE X.K) (need (D.sortOk l) >>= fun _ => .ok (.lst (D.srt l))) F H Q := q
    obtain ⟨c, q⟩ := q.need
    obtain ⟨c1, c2⟩ := and2 c
    obtain ⟨c2, c3⟩ := and2 c2
    obtain ⟨p, xs, rfl, h, r⟩ := r.tup s
    have hl : xs.length = (l.map D.py).length := by rw [List.length_map, r.length]
    have e1 : (xs.zip (l.map D.py)).map (·.1) = xs := List.map_fst_zip (Nat.le_of_eq hl)
    have e2 : (xs.zip (l.map D.py)).map (·.2) = l.map D.py := List.map_snd_zip (Nat.le_of_eq hl.symm)
    refine ⟨p, xs.zip (l.map D.py), rfl, by rw [e1]; exact .inr h, fun b hb => ?_, by rw [e2]; exact alk_ok c2, by rw [e2]; exact sortable_ok c3, new_lst s (sort_rp r) q⟩
    obtain ⟨h1, h2, h3⟩ := rpl_zip r
    rw [List.zip_map_right] at hb
    obtain ⟨z, hz, rfl⟩ := List.mem_map.mp hb
    have hz2 : z.2 ∈ l := by
      rw [← h2]
      exact List.mem_map.mpr ⟨z, hz, rfl⟩
    have sh := List.all_eq_true.mp c1 _ hz2
    exact ⟨(Rp.dp s sh (h3 z hz)).1, Nat.le_trans (D.shp_depth sh) (by omega)⟩
  | _ => exact q.elim
end DL

set_option Elab.async false
set_option linter.all false
set_option maxRecDepth 100000
set_option maxHeartbeats 4000000
namespace DL
open PySem PySem.Spec L2
section
variable {X : Cx} {E : St → XK} {G : List Sl} {a b c d e : Expr} {ma mb mc md : M D} {pos : Pos} {ta tb tc td : TE}
@[simp] abbrev T4 (f g h : D → D → M Bool) (a b c d : M D) : M Bool := a >>= fun x => b >>= fun y => f x y >>= fun k => if k = true then c >>= fun z => g y z >>= fun k => if k = true then d >>= fun w => h z w else .ok false else .ok false
end
end DL

set_option Elab.async false
set_option linter.all false
set_option maxRecDepth 100000
set_option maxHeartbeats 4000000
namespace DL
open PySem PySem.Spec L2
def gAd (K : PySem.W.Frag) (p : Str × Option Str) : Addr := match PySem.W.recIn K (He.fAd K p) "property" with
  | some (.ref g :: _) => g
  | _ => 0
def codeAt (K : PySem.W.Frag) (a : Addr) : He.FnW :=
  (K.lookup a).bind fun o => match o.data with
    | .func f => some (f.name, f.qualname, f.params, f.body, f.scope, f.globals, f.closure, f.builtins)
    | _ => none
def restAt (K : PySem.W.Frag) (a : Addr) (q : Str) : Bool := PySem.W.keepIn K (.ref a) && match K.lookup a with
  | some o => (match o.data with
    | .func f => PySem.W.codeIn K f.code q && (He.dflB K f.defaults [] && He.kwdB K f.kwdefaults [])
    | _ => false)
  | none => false
theorem funAt {K : PySem.W.Frag} {a : Addr} {d : He.DefD} (e : codeAt K a = d.val) (c : restAt K a d.qual = true) : ∃ fd, FunD K d.name d.qual d.params d.body d.scope [] [] a fd := by
  obtain ⟨kp, c⟩ := and2 c
  unfold codeAt at e
  cases lk : K.lookup a with
  | none =>
    rw [lk] at c
    cases c
  | some o =>
    rw [lk] at c e
    obtain ⟨oc, od, dt, osl⟩ := o
    cases dt with
    | func f =>
      obtain ⟨n1, n2, n3, n4, n5, n6, n7, dV, kV, doc, pm, an, cdv, ct, n15⟩ := f
      have same : (some (n1, n2, n3, n4, n5, n6, n7, n15) : He.FnW) = some (d.name, d.qual, d.params, .stmts d.body, d.scope, mainGlobals, [], builtinsNs) := e
      injection same with same
      simp only [Prod.mk.injEq] at same
      obtain ⟨rfl, rfl, rfl, rfl, rfl, rfl, rfl, rfl⟩ := same
      obtain ⟨u1, u2⟩ := and2 c
      obtain ⟨u2, u3⟩ := and2 u2
      exact ⟨_, ⟨oc, od, dV, kV, doc, pm, an, cdv, ct, osl, rfl, lk, u1, He.dflB_ok u2, He.kwdB_ok u3⟩, kp⟩
    | _ => cases c
def propB (K : PySem.W.Frag) (c f : Str) : Bool := decide (PySem.W.findIn K (.ref (He.ga K c)) f = some (some (.ref (He.fAd K (c, some f))))) && (decide (PySem.W.specialIn K (.ref (He.fAd K (c, some f))) "__get__" = some (some (.builtin "property.__get__"))) &&
  (decide (PySem.W.takesIn K (.ref (He.fAd K (c, some f))) = some true) && match PySem.W.recIn K (He.fAd K (c, some f)) "property" with
    | some (.ref _ :: _) => true
    | _ => false))
abbrev AlG : Type := He.AlD × Bool × List He.FnW
def seen (fa : List He.Fa) (fn gt : List He.DefD) (ex : PySem.W.Frag → Bool) (K : PySem.W.Frag) : AlG := (He.obsD fa fn K, ex K && gt.all (fun d => restAt K (gAd K d.at_) d.qual), gt.map fun d => codeAt K (gAd K d.at_))
def due (fn gt : List He.DefD) : AlG := (He.valD fn, true, gt.map He.DefD.val)
def SaysG (fa : List He.Fa) (fn gt : List He.DefD) (ex : PySem.W.Frag → Bool) (K : PySem.W.Frag) : Prop := seen fa fn gt ex K = due fn gt
section
variable {fa : List He.Fa} {fn gt : List He.DefD} {ex : PySem.W.Frag → Bool} {K : PySem.W.Frag}
theorem SaysG.d (c : SaysG fa fn gt ex K) : He.SaysD fa fn K := congrArg (fun z : AlG => z.1) c
theorem SaysG.more (c : SaysG fa fn gt ex K) : ex K = true := (and2 (congrArg (fun z : AlG => z.2.1) c)).1
theorem SaysG.get (c : SaysG fa fn gt ex K) (i : Nat) {d : He.DefD} (h : gt[i]? = some d) : ∃ fd, FunD K d.name d.qual d.params d.body d.scope [] [] (gAd K d.at_) fd := by
  have r := List.all_eq_true.mp (and2 (congrArg (fun z : AlG => z.2.1) c)).2 d (List.mem_of_getElem? h)
  have e : (gt.map fun d => codeAt K (gAd K d.at_)) = gt.map He.DefD.val := congrArg (fun z : AlG => z.2.2) c
  have e2 : (gt.map fun d => codeAt K (gAd K d.at_))[i]? = (gt.map He.DefD.val)[i]? := by rw [e]
  rw [List.getElem?_map, List.getElem?_map, h] at e2
  exact funAt (Option.some.inj e2) r
end
def noX {α : Type} : M α → M α
  | .ok a => .ok a
  | .error _ => stuck
@[simp] theorem noX_ok {α : Type} (a : α) : noX (.ok a : M α) = .ok a := rfl
@[simp] abbrev mProp (c : String) (m : List D → M D) (a : M D) : M D := a >>= fun x => D.isIns c x >>= fun x => noX (m [x])
section
variable {X : Cx} {E : St → XK} {G : List Sl} {b : Expr} {mb : M D} {pos : Pos}
end
end DL

set_option Elab.async false
set_option linter.all false
set_option maxRecDepth 100000
set_option maxHeartbeats 4000000
namespace DL
open PySem PySem.Spec L2
section
variable {X : Cx} {CX : CXT} {k n : Nat} {f C : Addr} {fd : FuncData} {ps ks : List Str} {sp : Sp} {E : St → XK} {x : Str} {p pos : Pos} {kws : List Keyword} {tk : TA} {g : List Value → List Value → List Value} {gV : List V → List V → List V} {pins : List (Addr × Obj)} {σ : St} {H : Hp} {s : Shared} {Q : VK} {ws : List Value} {zs : List V}
end
section
variable {X : Cx} {E : St → XK} {G : List Sl} {a : Expr} {ma : M D} {pos : Pos}
@[simp] abbrev mkInsK (c : String) (m : List D → M (List (String × D))) (gd : List D → List D) (a : M (List D)) : M D := a >>= fun l => m (gd l) >>= fun l => .ok (.ins c l)
end
def kwdAt (p : Str × Option Str) (x : Str) (K : PySem.W.Frag) : Addr := match K.lookup (He.fAd K p) with
  | some ⟨_, _, .func fd, _⟩ => (match fd.kwdefaults with
    | .ref D => (match PySem.W.nsIn K D x with
      | some (some (.ref a)) => a
      | _ => 0)
    | _ => 0)
  | _ => 0
def tup0B (K : PySem.W.Frag) (a : Addr) : Bool := match K.lookup a with
  | some ⟨.type "tuple", none, .seq its _, _⟩ => its.isEmpty
  | _ => false
def pick {α : Type} (l : List α) (i : Nat) : List α := (l.drop i).take 1
@[simp] theorem pick_0 {α : Type} (a : α) (l : List α) : pick (a :: l) 0 = [a] := rfl
@[simp] theorem pick_s {α : Type} (a : α) (l : List α) (i : Nat) : pick (a :: l) (i + 1) = pick l i := rfl
end DL

set_option Elab.async false
set_option linter.all false
set_option maxRecDepth 100000
set_option maxHeartbeats 4000000
namespace DL
open PySem PySem.Spec L2
section
variable {P : Program} {w : World} {K : PySem.W.Frag} {A : Around} {x qual nm : Str} {params : Arguments} {scope : Scope} {p1 p2 p3 p4 : Pos} {j : Nat} {f : Addr} {fd : FuncData} {N : List Str}
end
end DL

set_option Elab.async false
set_option linter.all false
set_option maxRecDepth 100000
set_option maxHeartbeats 4000000
namespace DL
open PySem PySem.Spec L2
section
variable {K : PySem.W.Frag} {F H : Hp}
end
section
variable {X : Cx} {E : St → XK} {G : List Sl} {a b c e : Expr} {ma mb mc : M D} {pos : Pos} {F H : Hp}
end
end DL

set_option Elab.async false
set_option linter.all false
set_option maxRecDepth 100000
set_option maxHeartbeats 4000000
namespace DL
open PySem PySem.Spec L2
section
variable {K : PySem.W.Frag} {E : XK} {B0 B F H F' H' : Hp}
end
def putDk (l : List (D × D)) (k v : D) : List (D × D) := if (l.any fun q => D.beq q.1 k) = true then l.map (fun q => if D.beq q.1 k = true then (q.1, v) else q) else l ++ [(k, v)]
def dropDk (l : List (D × D)) (k : D) : List (D × D) := l.filter fun q => !D.beq q.1 k
section
variable {K : PySem.W.Frag} {F : Hp}
end
section
variable {X : Cx} {E : XK} {G : List Sl} {a b c e : Expr} {ma mb mc : M D} {ta tb : M Bool} {pos : Pos} {st : Stmt} {rest body : List Stmt} {F H : Hp}
@[simp] abbrev mPut (l : List (D × D)) (me mk : M D) : M (List (D × D)) := me >>= fun d => mk >>= fun k => need (k.isKey && decide (l.length < sizeLine)) >>= fun _ => .ok (putDk l k d)
end
section
variable {X : Cx} {E : St → XK} {G : List Sl} {a b c e : Expr} {ma mb mc : M D} {pos : Pos} {F H : Hp}
def D.get2 (x k z : D) : M D :=
  match x with
  | .dct l => need k.isKey >>= fun _ => .ok ((D.look l k).getD z)
  | _ => stuck
def D.isDct : D → Bool
  | .dct _ => true
  | _ => false
@[simp] abbrev mGet2 (mo mk mz : M D) : M D := mo >>= fun x => need x.isDct >>= fun _ => mk >>= fun k => mz >>= fun z => D.get2 x k z
end
section
variable {X : Cx} {E : XK} {G : List Sl} {body : List Stmt}
end
end DL

set_option Elab.async false
set_option linter.all false
set_option maxRecDepth 100000
set_option maxHeartbeats 4000000
namespace DL
open PySem PySem.Spec L2
def WpE {α β : Type} (K : PySem.W.Frag) (E : XK) (B0 B : Hp) (σ : St) (G1 : α → List Sl) (rel : Hp → Hp → β → α → Prop) (m : M α) (F : Hp) (Q : β → Hp → Prop) : Prop :=
  match m with
  | .ok a => ∀ F' H' v, Same F F' → Ext B0 B F' H' → GOk K B (G1 a) σ F' H' → rel F' H' v a → Q v H'
  | .error .stuck => False
  | .error (.exc x) => ∀ F' H' c d, Same F F' → Ext B0 B F' H' → RpX K F' H' c d x → E c d H'
section
variable {K : PySem.W.Frag} {E : XK} {B0 B F F' : Hp} {σ : St}
theorem WpE.mono {α β : Type} {G1 : α → List Sl} {rel : Hp → Hp → β → α → Prop} {m : M α} {Q : β → Hp → Prop} (s : Same F F') (h : WpE K E B0 B σ G1 rel m F Q) : WpE K E B0 B σ G1 rel m F' Q := by
  cases m with
  | ok a => exact fun F2 H2 v s2 => h F2 H2 v (s.trans s2)
  | error e => cases e with
    | stuck => exact h
    | exc x => exact fun F2 H2 c d s2 => h F2 H2 c d (s.trans s2)
theorem WpE.bind {α β γ δ : Type} {G1 : α → List Sl} {G2 : γ → List Sl} {rel : Hp → Hp → β → α → Prop} {rel2 : Hp → Hp → δ → γ → Prop} {m : M α} {k : α → M γ} {Q : δ → Hp → Prop} {Q1 : β → Hp → Prop}
    (h : WpE K E B0 B σ G2 rel2 (m >>= k) F Q) (hk : ∀ a F' H' v, Same F F' → Ext B0 B F' H' → GOk K B (G1 a) σ F' H' → rel F' H' v a → WpE K E B0 B σ G2 rel2 (k a) F' Q → Q1 v H') : WpE K E B0 B σ G1 rel m F Q1 := by
  cases m with
  | ok a => exact fun F2 H2 v s2 x g r => hk a F2 H2 v s2 x g r (WpE.mono s2 h)
  | error e => cases e with
    | stuck => exact h
    | exc x => exact h
end
section
variable {X : Cx} {E : St → XK} {G : List Sl} {a b c e : Expr} {ma mb mc : M D} {pos : Pos} {F H : Hp}
def Rcv (X : Cx) (G : List Sl) (i : Nat) (x : D) : Prop := G[i]? = some (.bor x) ∨ G[i]? = some (.val x)
theorem Rcv.at {i : Nat} {x : D} (h : Rcv X G i x) {B : Hp} {σ : St} (g : GOk X.K B G σ F H) : ∃ v, σ[i]? = some (some v) ∧ ∀ F' H', Same F F' → Same B H' → RpT X.K F' H' v x := by
  rcases h with h | h
  · obtain ⟨o, h1, v, rfl, r⟩ := g.ok i _ h
    exact ⟨v, h1, fun F' H' s1 s2 => (r.monoF s1).monoH s2⟩
  · obtain ⟨o, h1, v, rfl, r⟩ := g.ok i _ h
    exact ⟨v, h1, fun F' H' s1 s2 => .of (r.mono s1)⟩
end
section
variable {X : Cx} {E : XK} {G : List Sl} {pos : Pos} {body : List Stmt}
end
end DL

set_option Elab.async false
set_option linter.all false
set_option maxRecDepth 100000
set_option maxHeartbeats 4000000
namespace DL
open PySem PySem.Spec L2
section
variable {X : Cx} {E : St → XK} {G : List Sl} {a b c e : Expr} {ma mb mc : M D} {pos : Pos} {F H : Hp}
end
end DL

set_option Elab.async false
set_option linter.all false
set_option maxRecDepth 100000
set_option maxHeartbeats 4000000
namespace DL
open PySem PySem.Spec L2
def relN (K : PySem.W.Frag) (l : List D) : Hp → Hp → Hp → V → Prop := fun B F' H' v => ∃ p xs, v = .ref p ∧ B p = none ∧ H' p = some (.lst xs) ∧ F' p = none ∧ RpL K F' xs l
abbrev rN (K : PySem.W.Frag) (H : Hp) : Hp → Hp → V → List D → Prop := fun F' H' v l => ∃ p xs, v = .ref p ∧ H p = none ∧ H' p = some (.lst xs) ∧ F' p = none ∧ RpL K F' xs l
def spO (K : PySem.W.Frag) (bs : List Bool) (m : List D → M (List D)) : Sp := fun vs H Q E => ∃ F ds, Same F H ∧ RpA K F H bs vs ds ∧ WpG K E (rN K H) (m ds) F H Q
section
variable {X : Cx} {E : XK} {G : List Sl} {e : Expr} {pos : Pos} {st : Stmt} {rest body : List Stmt}
theorem ds_retO {m : M (List D)} (h : DN X (cE E) G e m) : DS X E G (.Return (some e) pos) m (fun l => .rg (relN X.K l)) := by
  obtain ⟨t, pe, w⟩ := h
  refine ⟨_, ps_ret pe, fun B0 B σ F H D x0 g q => w B σ F H _ x0.sFH g ?_⟩
  cases m with
  | ok l =>
    intro F' H' v x ⟨p, xs, ev, n, h1, f1, r1⟩
    exact q.ok v F' H' x.sF (x0.trans x) ⟨p, xs, ev, g.sB.free n, h1, f1, r1⟩
  | error er => cases er with
    | stuck => exact q.elim
    | exc y => exact fun F' H' c d x r => q F' H' c d x.sF (x0.trans x) r
theorem ds_retOwn {x : Str} {i : Nat} {l : List D} {p1 : Pos} (hs : G[i]? = some (.own l)) (pv : PE X (.Name x p1) (tVar i)) : DS X E G (.Return (some (.Name x p1)) pos) (.ok l : M (List D)) (fun l => .rg (relN X.K l)) := by
  refine ⟨_, ps_ret pv, fun B0 B σ F H D x0 g q => ?_⟩
  obtain ⟨o, h1, a, xs, rfl, h2, h3, h4, h5⟩ := g.ok i _ hs
  exact ⟨_, h1, q.ok _ F H (Same.refl _) x0 ⟨a, xs, rfl, h4, h2, h3, h5⟩⟩
end
section
variable {P : Program} {w : World} {K : PySem.W.Frag} {mg : Str → Option Value} {base : Heap} {x qual : Str} {params : Arguments} {body : List Stmt} {scope : Scope} {dvs : List V} {kws : List (Str × V)} {f : Addr} {fd : FuncData}
theorem fn_defO {N ps : List Str} {k : Nat} {bs : List Bool} {m : List D → M (List D)} (F : FunD K x qual params body scope dvs kws f fd) (S : FnScope N ps scope) (hbs : bs.length = ps.length)
    (hb : ∀ (cdv : Value) (A : Around) (outer : List Env) (s : Shared) (H : Hp) (E : XK), Room k (A.deeper (PyProof.Rows.envOfC qual scope s.heap.objs.size f cdv)) → ∀ ds : List D, ds.length = bs.length →
      DB (cxOf (L2.CX P w) P w K mg base N qual scope f cdv A outer s H E) E (argSl bs ds ++ List.replicate (N.length - bs.length) .un) body (m ds) (fun l => .rg (relN K l))) : FnOk P w K mg base (L2.CX P w) (k + 1) f fd ps (spO K bs m) := by
  refine F.ok S (fun vs H Q E h => ?_) (fun cdv A outer s H vs Q E hr h => ?_)
  · obtain ⟨F, ds, _, r, _⟩ := h
    rw [r.len.1, hbs]
  · obtain ⟨F, ds, sF, r, q⟩ := h
    obtain ⟨t, p, wt⟩ := hb cdv A outer s H E hr ds r.len.2
    refine ⟨t, p, wt F H (L2.start N vs) F H _ (Ext.refl sF) (gok_start r) ?_⟩
    cases e : m ds with
    | ok d =>
      rw [e] at q
      exact WpB.of_ok (fun v F' H' _ x' r' => q F' H' v x' r')
    | error er =>
      rw [e] at q
      cases er with
      | stuck => exact q.elim
      | exc y => exact fun F' H' c d _ x' r' => q F' H' c d x' r'
end
section
variable {X : Cx} {E : St → XK} {G : List Sl} {a b c e : Expr} {ma mb mc : M D} {pos : Pos} {F H : Hp}
theorem rN_from {K : PySem.W.Frag} {F H F1 H1 : Hp} {E₁ : XK} {m : M (List D)} {Q : VK} (x : Ext F H F1 H1) (q : WpG K E₁ (rN K H) m F1 H1 Q) : WpG K E₁ (rN K H1) m F1 H1 Q := by
  cases m with
  | ok l => exact fun F' H' v y ⟨p, xs, e, n, r⟩ => q F' H' v y ⟨p, xs, e, x.sH.free n, r⟩
  | error er => cases er with
    | stuck => exact q
    | exc y => exact q
theorem dn_callO {k : Nat} {f : Addr} {fd : FuncData} {ps : List Str} {bs : List Bool} {m : List D → M (List D)} {x : Str} {p : Pos} {es : List Expr} {ms : M (List D)} (cx : CtxOk X E) (F : FnOk X.prog X.w X.K X.mg X.base (L2.CX X.prog X.w) k f fd ps (spO X.K bs m)) (hr : Room k X.A) (hg : Gl X x) (hm : X.mg x = some (.ref f)) (hk : PySem.W.keepIn X.K (.ref f) = true) (hb : Binds X.K fd ps [])
    (ha : DAM X E G bs (a :: es) ms) (hdb : (x == ("__debug__" : Str)) = false := by decide) (he : starEach (a :: es) X.env = (false, eval a X.env) :: starEach es X.env := by rfl) (hpl : (backTo pos (starEach es X.env)).any (·.1) = false := by rfl) :
    DN X E G (.Call (.Name x p) (a :: es) [] pos) (ms >>= fun l => m l) := by
  obtain ⟨t, pa, w⟩ := ha
  refine ⟨_, pe_callD F hr hg hm hk hb .nil cx.pass pa hdb he hpl, fun B σ F H Q s g q => w B σ F H _ s g (WpG.bind q fun l F1 H1 vs x1 r1 k1 => ?_)⟩
  show spO X.K bs m (vs ++ []) H1 Q (E σ)
  rw [List.append_nil]
  exact ⟨F1, l, x1.sFH, r1, rN_from x1 k1⟩
end
end DL

set_option Elab.async false
set_option linter.all false
set_option maxRecDepth 100000
set_option maxHeartbeats 4000000
namespace DL
open PySem PySem.Spec L2
@[simp] abbrev mMethO (c mn : String) (m : List D → M (List D)) (a : M D) (ms : M (List D)) : M (List D) := a >>= fun x => D.recv c mn x >>= fun x => ms >>= fun l => m (x :: l)
end DL

set_option Elab.async false
set_option linter.all false
set_option maxRecDepth 100000
set_option maxHeartbeats 4000000
namespace DL
open PySem PySem.Spec L2
def Sl.nb : Sl → Bool
  | .bor _ => false
  | .tre _ _ _ => false
  | _ => true
def nbL (G : List Sl) : Bool := G.all Sl.nb
section
variable {K : PySem.W.Frag} {F H B F' H' : Hp}
theorem TreOk.off {a : Addr} {c : String} {l : List (String × D)} {as : List Addr} (t : TreOk K F B a c l as) : ∀ p ∈ as, F p = none ∧ ∃ kvs, B p = some (.dK kvs) :=
  let ⟨_, _, _, _, h⟩ := t.at_
  h.off
theorem TreOk.ne {a : Addr} {c : String} {l : List (String × D)} {as : List Addr} (t : TreOk K F B a c l as) : ∀ p ∈ as, p ≠ a := fun p hp z => by
  obtain ⟨_, kvs, e⟩ := t.off p hp
  obtain ⟨dx, fs, h, _⟩ := t.at_
  subst z
  rw [h] at e
  cases e
theorem TreOk.same {B' : Hp} {a : Addr} {c : String} {l : List (String × D)} {as : List Addr} (t : TreOk K F B a c l as) (h : ∀ b u, B b = some u → B' b = some u) : TreOk K F B' a c l as := by
  obtain ⟨dx, fs, h1, h2, h3⟩ := t.at_
  refine ⟨⟨dx, fs, h _ _ h1, h2, FvL.same (fun p hp => ?_) h3⟩, t.na, t.nd⟩
  obtain ⟨_, kvs, e⟩ := h3.off p hp
  rw [e, h _ _ e]
structure GT (K : PySem.W.Frag) (W : Addr → Prop) (HB B : Hp) (a : Addr) (c : String) (l : List (String × D)) (G : List Sl) (σ : St) (F H : Hp) : Prop where
  g : GOk K B (.tre a c l :: G) σ F H
  nb : nbL G = true
  t : ∃ as, TreOk K F B a c l as ∧ W a ∧ ∀ b ∈ as, W b
  out : ∀ b o, ¬ W b → HB b = some o → B b = some o
  new : ∀ b, HB b = none → W b
  pin : ∀ b o, W b → HB b = some o → F b = none ∧ ∃ u, B b = some u
theorem GT.moreF {W : Addr → Prop} {HB : Hp} {a : Addr} {c : String} {l : List (String × D)} {G G' : List Sl} {σ σ' : St} (sF : Same F F') (old : ∀ b o, B b = some o → F' b = F b) (g : GT K W HB B a c l G σ F H) (g' : GOk K B (.tre a c l :: G') σ' F' H') (nb : nbL G' = true) : GT K W HB B a c l G' σ' F' H' :=
  ⟨g', nb, let ⟨as, h1, h2⟩ := g.t; ⟨as, h1.mono sF old, h2⟩, g.out, g.new, fun b o w h => by
    obtain ⟨n, u, hu⟩ := g.pin b o w h
    exact ⟨by rw [old _ _ hu]; exact n, u, hu⟩⟩
theorem GT.ext {W : Addr → Prop} {HB : Hp} {a : Addr} {c : String} {l : List (String × D)} {G : List Sl} {σ : St} (x : Ext F H F' H') (g : GT K W HB B a c l G σ F H) : GT K W HB B a c l G σ F' H' :=
  g.moreF x.sF (fun b o h => x.old _ _ (g.g.sB _ _ h)) (g.g.ext x) g.nb
@[simp] def D.fz : D → D
  | .ow l => .dct l
  | d => d
theorem Rp.fz {v : V} {d : D} (r : Rp K F v d) : d.fz = d := by
  cases r <;> rfl
theorem GOk.rebase {G : List Sl} {σ : St} {b a : Addr} {c : String} {l l' : List (String × D)} {o u : HO} (g : GOk K B (.tre a c l :: G) σ F H) (nb : nbL G = true) (hb : B b = some u) (r : ∃ as, TreOk K F (upd B b o) a c l' as) : GOk K (upd B b o) (.tre a c l' :: G) σ F (upd H b o) where
  sB := fun x z h => by
    by_cases e : x = b
    · subst e
      rw [upd_same] at h ⊢
      exact h
    · rw [upd_ne e] at h ⊢
      exact g.sB _ _ h
  len := g.len
  ok := fun i s hs => by
    cases i with
    | zero =>
      cases hs
      obtain ⟨v, k1, k2⟩ := g.ok 0 _ rfl
      exact ⟨v, k1, k2.1, fun x z h => by
        by_cases e : x = b
        · subst e
          rw [upd_same] at h ⊢
          exact h
        · rw [upd_ne e] at h ⊢
          exact g.sB _ _ h, r⟩
    | succ i =>
      obtain ⟨v, k1, k2⟩ := g.ok (i + 1) s hs
      have hs' : G[i]? = some s := hs
      have nbs := List.all_eq_true.mp nb s (List.mem_of_getElem? hs')
      have ne : ∀ x, B x = none → x ≠ b := fun x hx z => by
        rw [z, hb] at hx
        cases hx
      refine ⟨v, k1, ?_⟩
      cases s with
      | un => exact k2
      | any => trivial
      | tre b _ _ => cases nbs
      | val d => exact k2
      | exn _ _ _ => exact k2
      | bor d => cases nbs
      | own l =>
        obtain ⟨a, xs, e, e2, n, hn, r⟩ := k2
        exact ⟨a, xs, e, by rw [upd_ne (ne a hn)]; exact e2, n, by rw [upd_ne (ne a hn)]; exact hn, r⟩
      | ownd l =>
        obtain ⟨a, e, d, n, hn⟩ := k2
        exact ⟨a, e, by rw [upd_ne (ne a hn)]; exact d, n, by rw [upd_ne (ne a hn)]; exact hn⟩
      | ownu l =>
        obtain ⟨a, e, d, n, hn⟩ := k2
        exact ⟨a, e, by rw [upd_ne (ne a hn)]; exact d, n, by rw [upd_ne (ne a hn)]; exact hn⟩
      | obj a c l =>
        obtain ⟨dx, fs, e, h1, n, hn, h2, r⟩ := k2
        exact ⟨dx, fs, e, by rw [upd_ne (ne a hn)]; exact h1, n, by rw [upd_ne (ne a hn)]; exact hn, h2, r⟩
  dis := fun i j s t d hi hj o1 o2 e1 e2 => by
    cases i with
    | zero => cases hi; cases o1
    | succ i => cases j with
      | zero => cases hj; cases o2
      | succ j => exact g.dis (i + 1) (j + 1) s t d hi hj o1 o2 e1 e2
theorem GOk.base {B' : Hp} {G : List Sl} {σ : St} {a : Addr} {c : String} {l l' : List (String × D)} (g : GOk K B (.tre a c l :: G) σ F H) (nb : nbL G = true) (sB : Same B' H') (sF : Same F F') (hH : ∀ x u, H x = some u → B x = none → H' x = some u ∧ B' x = none ∧ F' x = F x) (r : ∃ as, TreOk K F' B' a c l' as) : GOk K B' (.tre a c l' :: G) σ F' H' where
  sB := sB
  len := g.len
  ok := fun i s hs => by
    cases i with
    | zero =>
      cases hs
      obtain ⟨v, k1, k2⟩ := g.ok 0 _ rfl
      exact ⟨v, k1, k2.1, sB, r⟩
    | succ i =>
      obtain ⟨v, k1, k2⟩ := g.ok (i + 1) s hs
      have hs' : G[i]? = some s := hs
      have nbs := List.all_eq_true.mp nb s (List.mem_of_getElem? hs')
      refine ⟨v, k1, ?_⟩
      cases s with
      | un => exact k2
      | any => trivial
      | exn _ _ _ => exact ⟨k2.1, k2.2.mono sF⟩
      | tre b _ _ => cases nbs
      | val d => exact ⟨k2.choose, k2.choose_spec.1, k2.choose_spec.2.mono sF⟩
      | bor d => cases nbs
      | own l =>
        obtain ⟨a, xs, e, e2, n, hn, r⟩ := k2
        obtain ⟨q1, q2, q3⟩ := hH _ _ e2 hn
        exact ⟨a, xs, e, q1, by rw [q3]; exact n, q2, r.mono sF⟩
      | ownd l =>
        obtain ⟨a, e, d, n, hn⟩ := k2
        obtain ⟨u, hu⟩ := d.some
        obtain ⟨q1, q2, q3⟩ := hH _ _ hu hn
        exact ⟨a, e, by rw [q1, ← hu]; exact d.mono sF, by rw [q3]; exact n, q2⟩
      | ownu l =>
        obtain ⟨a, e, d, n, hn⟩ := k2
        obtain ⟨u, hu⟩ := d.some
        obtain ⟨q1, q2, q3⟩ := hH _ _ hu hn
        exact ⟨a, e, by rw [q1, ← hu]; exact d.mono sF, by rw [q3]; exact n, q2⟩
      | obj a c l =>
        obtain ⟨dx, fs, e, h1, n, hn, h2, r⟩ := k2
        obtain ⟨q1, q2, q3⟩ := hH _ _ h1 hn
        exact ⟨dx, fs, e, q1, by rw [q3]; exact n, q2, h2, r.mono sF⟩
  dis := fun i j s t d hi hj o1 o2 e1 e2 => by
    cases i with
    | zero => cases hi; cases o1
    | succ i => cases j with
      | zero => cases hj; cases o2
      | succ j => exact g.dis (i + 1) (j + 1) s t d hi hj o1 o2 e1 e2
theorem Ext.rebase {B0 : Hp} {b : Addr} {o u : HO} (x : Ext B0 B F H) (fb : F b = none) (hb : B b = some u) : Ext B0 (upd B b o) F (upd H b o) where
  sF := x.sF
  sH := fun c z h => by
    by_cases e : c = b
    · subst e
      rw [upd_same] at h ⊢
      exact h
    · rw [upd_ne e] at h ⊢
      exact x.sH _ _ h
  sFH := fun c z h => by
    rw [upd_ne (ne_of_none h fb)]
    exact x.sFH _ _ h
  old := fun c z h => by
    by_cases e : c = b
    · subst e
      exact x.old _ _ hb
    · rw [upd_ne e] at h
      exact x.old _ _ h
theorem GT.wr {W : Addr → Prop} {HB : Hp} {a b : Addr} {c : String} {l l' : List (String × D)} {G : List Sl} {σ : St} {o u : HO} (g : GT K W HB B a c l G σ F H) (hb : B b = some u) (wb : W b) (t : ∃ as, TreOk K F (upd B b o) a c l' as ∧ ∀ p ∈ as, W p) : GT K W HB (upd B b o) a c l' G σ F (upd H b o) where
  g := let ⟨_, t1, _⟩ := t; g.g.rebase g.nb hb ⟨_, t1⟩
  nb := g.nb
  t := let ⟨as, t1, t2⟩ := t; let ⟨_, _, w, _⟩ := g.t; ⟨as, t1, w, t2⟩
  out := fun x z nw h => by
    have ne : x ≠ b := fun e => nw (by rw [e]; exact wb)
    rw [upd_ne ne]
    exact g.out _ _ nw h
  new := g.new
  pin := fun x z w h => by
    obtain ⟨n, v, hv⟩ := g.pin x z w h
    refine ⟨n, ?_⟩
    by_cases e : x = b
    · subst e
      exact ⟨o, upd_same⟩
    · exact ⟨v, by rw [upd_ne e]; exact hv⟩
theorem GT.fresh {W : Addr → Prop} {HB : Hp} {a p : Addr} {c : String} {l : List (String × D)} {G : List Sl} {σ : St} (g : GT K W HB B a c l G σ F H) (hp : H p = none) : W p := by
  apply Classical.byContradiction
  intro nw
  cases e : HB p with
  | none => exact nw (g.new p e)
  | some o =>
    have := g.g.sB _ _ (g.out p o nw e)
    rw [hp] at this
    cases this
theorem FvL.upd {f : String} {kl : List (D × D)} : ∀ {fs : List (Str × V)} {l : List (String × D)} {as : List Addr}, fs.map (·.1) = l.map (fun q => Str.ofString q.1) → FvL K F B (fs.map (·.2)) (l.map (·.2)) as → as.Nodup → l.lookup f = some (.ow kl) →
    ∃ p, fs.lookup (Str.ofString f) = some (.ref p) ∧ p ∈ as ∧ F p = none ∧ DctAt K F (B p) kl ∧ ∀ o kl', DctAt K F (some o) kl' → fs.map (·.1) = (putD f (.ow kl') l).map (fun q => Str.ofString q.1) ∧ FvL K F (upd B p o) (fs.map (·.2)) ((putD f (.ow kl') l).map (·.2)) as
  | [], [], _, _, _, _, h => by simp at h
  | [], _ :: _, _, h, _, _, _ => by simp at h
  | _ :: _, [], _, h, _, _, _ => by simp at h
  | (g, x) :: fs, (g2, y) :: l, as, hn, q, nd, hl => by
    have h1 : g = Str.ofString g2 ∧ fs.map (·.1) = l.map (fun q => Str.ofString q.1) := by simpa using hn
    obtain ⟨rfl, h2⟩ := h1
    have q' : FvL K F B (x :: fs.map (·.2)) (y :: l.map (·.2)) as := q
    by_cases e : f = g2
    · subst e
      have hy : y = .ow kl := by simpa [List.lookup] using hl
      subst hy
      cases q' with
      | frz r q => cases r
      | dk a1 a2 q2 =>
        rename_i p as2
        refine ⟨p, by simp [List.lookup], List.mem_cons_self .., a1, a2, fun o kl' hd => ?_⟩
        have e2 : putD f (.ow kl') ((f, .ow kl) :: l) = (f, .ow kl') :: l := if_pos rfl
        rw [e2]
        refine ⟨by simp [h2], ?_⟩
        refine FvL.dk a1 (by rw [upd_same]; exact hd) (FvL.same (fun b hb => upd_ne fun z => ?_) q2)
        subst z
        exact (List.nodup_cons.mp nd).1 hb
    · have e1 : (f == g2) = false := beq_eq_false_iff_ne.mpr e
      have e2 : (Str.ofString f == Str.ofString g2) = false := beq_eq_false_iff_ne.mpr fun z => e (ofString_inj z)
      have a1 : List.lookup f ((g2, y) :: l) = l.lookup f := by simp [List.lookup, e1]
      have a2 : List.lookup (Str.ofString f) ((Str.ofString g2, x) :: fs) = fs.lookup (Str.ofString f) := by simp [List.lookup, e2]
      rw [a1] at hl
      rw [a2]
      have e3 : ∀ d, putD f d ((g2, y) :: l) = (g2, y) :: putD f d l := fun d => if_neg (Ne.symm e)
      cases q' with
      | frz r q2 =>
        obtain ⟨p, i1, i2, i3, i4, i5⟩ := FvL.upd h2 q2 nd hl
        refine ⟨p, i1, i2, i3, i4, fun o kl' hd => ?_⟩
        obtain ⟨j1, j2⟩ := i5 o kl' hd
        rw [e3]
        exact ⟨by simp [j1], .frz r j2⟩
      | dk b1 b2 q2 =>
        obtain ⟨nd1, nd2⟩ := List.nodup_cons.mp nd
        obtain ⟨p, i1, i2, i3, i4, i5⟩ := FvL.upd h2 q2 nd2 hl
        refine ⟨p, i1, List.mem_cons_of_mem _ i2, i3, i4, fun o kl' hd => ?_⟩
        obtain ⟨j1, j2⟩ := i5 o kl' hd
        rw [e3]
        refine ⟨by simp [j1], .dk b1 ?_ j2⟩
        rw [upd_ne fun z => nd1 (by rw [z]; exact i2)]
        exact b2
end
end DL

set_option Elab.async false
set_option linter.all false
set_option maxRecDepth 100000
set_option maxHeartbeats 4000000
namespace DL
open PySem PySem.Spec L2
inductive OcT where
  | nx (l : List (String × D)) (G : List Sl)
  | ct (l : List (String × D)) (G : List Sl)
  | bk (l : List (String × D)) (G : List Sl)
  | no
def OutT (W : Addr → Prop) (HB B F : Hp) : Prop := (∀ b o, ¬ W b → HB b = some o → B b = some o) ∧ ∀ b o, W b → HB b = some o → F b = none
section
variable {K : PySem.W.Frag} {E : XK} {W : Addr → Prop} {HB B0 B F F' H H' : Hp} {a : Addr} {c : String}
def OcTP (K : PySem.W.Frag) (a : Addr) (c : String) (W : Addr → Prop) (HB B0 F : Hp) (D : Ends) : OcT → Prop
  | .nx l G => ∀ B σ F' H', Same F F' → Ext B0 B F' H' → GT K W HB B a c l G σ F' H' → D.nx σ H'
  | .ct l G => ∀ B σ F' H', Same F F' → Ext B0 B F' H' → GT K W HB B a c l G σ F' H' → D.ct σ H'
  | .bk l G => ∀ B σ F' H', Same F F' → Ext B0 B F' H' → GT K W HB B a c l G σ F' H' → D.bk σ H'
  | .no => False
def WpT {α : Type} (K : PySem.W.Frag) (E : XK) (a : Addr) (c : String) (W : Addr → Prop) (HB B0 : Hp) (post : α → OcT) (m : M α) (F : Hp) (D : Ends) : Prop :=
  match m with
  | .ok x => OcTP K a c W HB B0 F D (post x)
  | .error .stuck => False
  | .error (.exc x) => ∀ B F' H' c' d, Same F F' → Ext B0 B F' H' → OutT W HB B F' → RpX K F' H' c' d x → E c' d H'
theorem GT.outT {l : List (String × D)} {G : List Sl} {σ : St} (g : GT K W HB B a c l G σ F H) : OutT W HB B F := ⟨g.out, fun b o w h => (g.pin b o w h).1⟩
theorem OcTP.mono {D : Ends} {o : OcT} (s : Same F F') (h : OcTP K a c W HB B0 F D o) : OcTP K a c W HB B0 F' D o := by
  cases o with
  | nx l G => exact fun B σ F2 H2 s2 => h B σ F2 H2 (s.trans s2)
  | ct l G => exact fun B σ F2 H2 s2 => h B σ F2 H2 (s.trans s2)
  | bk l G => exact fun B σ F2 H2 s2 => h B σ F2 H2 (s.trans s2)
  | no => exact h
theorem WpT.mono {α : Type} {post : α → OcT} {m : M α} {D : Ends} (s : Same F F') (h : WpT K E a c W HB B0 post m F D) : WpT K E a c W HB B0 post m F' D := by
  cases m with
  | ok x => exact OcTP.mono s h
  | error e => cases e with
    | stuck => exact h
    | exc x => exact fun B F2 H2 c d s2 => h B F2 H2 c d (s.trans s2)
theorem WpT.err {α β : Type} {post : α → OcT} {p2 : β → OcT} {e : Er} {D : Ends} (h : WpT K E a c W HB B0 post (.error e) F D) : WpT K E a c W HB B0 p2 (.error e) F D := by
  cases e with
  | stuck => exact h
  | exc x => exact h
theorem WpT.bind {α β : Type} {post : α → OcT} {p1 : β → OcT} {m : M β} {k : β → M α} {D D1 : Ends} (h : WpT K E a c W HB B0 post (m >>= k) F D) (hk : ∀ j, m = .ok j → WpT K E a c W HB B0 post (k j) F D → OcTP K a c W HB B0 F D1 (p1 j)) : WpT K E a c W HB B0 p1 m F D1 := by
  cases m with
  | ok j => exact hk j rfl h
  | error e => cases e with
    | stuck => exact h
    | exc x => exact h
theorem WpT.need {α : Type} {post : α → OcT} {b : Bool} {k : Unit → M α} {D : Ends} (h : WpT K E a c W HB B0 post (need b >>= k) F D) : b = true ∧ WpT K E a c W HB B0 post (k ()) F D := by
  cases b with
  | true => exact ⟨rfl, h⟩
  | false => exact h.elim
theorem WpT.expr {α β γ : Type} {post : α → OcT} {rel : Hp → Hp → γ → β → Prop} {m : M β} {k : β → M α} {l : List (String × D)} {G : List Sl} {σ : St} {D : Ends} {Q : γ → Hp → Prop} (x0 : Ext B0 B F H) (g : GT K W HB B a c l G σ F H) (h : WpT K E a c W HB B0 post (m >>= k) F D)
    (hk : ∀ j F' H' v, Ext F H F' H' → Ext B0 B F' H' → GT K W HB B a c l G σ F' H' → rel F' H' v j → WpT K E a c W HB B0 post (k j) F' D → Q v H') : WpG K E rel m F H Q := by
  cases m with
  | ok j => exact fun F' H' v x r => hk j F' H' v x (x0.trans x) (g.ext x) r (WpT.mono x.sF h)
  | error e => cases e with
    | stuck => exact h
    | exc y => exact fun F' H' c d x r => h B F' H' c d x.sF (x0.trans x) (g.ext x).outT r
end
section
variable {X : Cx} {E : XK} {a : Addr} {c : String} {l : List (String × D)} {G : List Sl} {e e2 k : Expr} {ma mb mc : M D} {ta tb : M Bool} {pos : Pos} {st : Stmt} {rest body : List Stmt}
end
end DL

set_option Elab.async false
set_option linter.all false
set_option maxRecDepth 100000
set_option maxHeartbeats 4000000
namespace DL
open PySem PySem.Spec L2
section
variable {K : PySem.W.Frag} {F H : Hp}
end
section
variable {X : Cx} {E : St → XK} {G : List Sl} {a : Expr} {ma : M D} {pos : Pos}
end
section
variable {X : Cx} {E : XK} {a : Addr} {c : String} {l : List (String × D)} {G : List Sl} {e k : Expr} {m mk : M D} {pos : Pos}
theorem GT.self {K : PySem.W.Frag} {W : Addr → Prop} {HB B F H : Hp} {σ : St} (g : GT K W HB B a c l G σ F H) : σ[0]? = some (some (.ref a)) := by
  obtain ⟨o, h1, h2⟩ := g.g.ok 0 _ rfl
  rw [h1, h2.1]
@[simp] abbrev mFld (f : String) (l : List (String × D)) (m : M D) : M (List (String × D)) := m >>= fun d => need (decide (l.length < 1000)) >>= fun _ => .ok (putD f d l)
@[simp] abbrev mFldD (f : String) (l : List (String × D)) : M (List (String × D)) := need (decide (l.length < 1000)) >>= fun _ => .ok (putD f (.ow []) l)
def mOw (f : String) (l : List (String × D)) (k : List (D × D) → M (List (D × D))) : M (List (String × D)) := match l.lookup f with
  | some (.ow kl) => k kl >>= fun kl' => .ok (putD f (.ow kl') l)
  | _ => stuck
theorem GT.dict {K : PySem.W.Frag} {W : Addr → Prop} {HB B B0 F H : Hp} {σ : St} {f : String} {kl : List (D × D)} (x0 : Ext B0 B F H) (g : GT K W HB B a c l G σ F H) (hl : l.lookup f = some (.ow kl)) : ∃ dx fs p, H a = some (.ins (He.ga K (Str.ofString c)) dx fs) ∧ fs.lookup (Str.ofString f) = some (.ref p) ∧ DctAt K F (H p) kl ∧
    ∀ o kl', DctAt K F (some o) kl' → ∃ B', Ext B0 B' F (upd H p o) ∧ GT K W HB B' a c (putD f (.ow kl') l) G σ F (upd H p o) := by
  obtain ⟨as, t1, w1, t2⟩ := g.t
  obtain ⟨dx, fs, h1, h2, h3⟩ := t1.at_
  obtain ⟨p, i1, i2, i3, i4, i5⟩ := FvL.upd h2 h3 t1.nd hl
  obtain ⟨u, hu⟩ := i4.some
  refine ⟨dx, fs, p, g.g.sB _ _ h1, i1, ?_, fun o kl' hd => ⟨upd B p o, x0.rebase i3 hu, g.wr hu (t2 p i2) ⟨as, ⟨⟨dx, fs, ?_, (i5 o kl' hd).1, (i5 o kl' hd).2⟩, t1.na, t1.nd⟩, t2⟩⟩⟩
  · rw [g.g.sB _ _ hu, ← hu]
    exact i4
  · rw [upd_ne (Ne.symm (t1.ne p i2))]
    exact h1
@[simp] abbrev mPutT (f : String) (l : List (String × D)) (me mk : M D) : M (List (String × D)) := me >>= fun d => mOw f l fun kl => mk >>= fun k => need (k.isKey && decide (kl.length < sizeLine)) >>= fun _ => .ok (putDk kl k d)
theorem WpT.ow {α : Type} {K : PySem.W.Frag} {E : XK} {W : Addr → Prop} {HB B0 F : Hp} {post : α → OcT} {f : String} {g : List (D × D) → M (List (D × D))} {k : List (String × D) → M α} {Dn : Ends} (h : WpT K E a c W HB B0 post (mOw f l g >>= k) F Dn) : ∃ kl, l.lookup f = some (.ow kl) ∧ WpT K E a c W HB B0 post (g kl >>= fun kl' => k (putD f (.ow kl') l)) F Dn := by
  unfold mOw at h
  split at h
  · rename_i kl e
    refine ⟨kl, e, ?_⟩
    cases eg : g kl with
    | ok z => rw [eg] at h; exact h
    | error z => rw [eg] at h; exact h
  · exact h.elim
@[simp] abbrev mPopT (f : String) (l : List (String × D)) (mk : M D) : M (List (String × D)) := mOw f l fun kl => mk >>= fun k => need (k.isKey && (D.look kl k).isSome) >>= fun _ => .ok (dropDk kl k)
end
end DL

set_option Elab.async false
set_option linter.all false
set_option maxRecDepth 100000
set_option maxHeartbeats 4000000
namespace DL
open PySem PySem.Spec L2
section
variable {P : Program} {w : World} {K : PySem.W.Frag} {mg : Str → Option Value} {base : Heap} {x qual : Str} {params : Arguments} {body : List Stmt} {scope : Scope} {dvs : List V} {kws : List (Str × V)} {f : Addr} {fd : FuncData}
end
end DL

set_option Elab.async false
set_option linter.all false
set_option maxRecDepth 100000
set_option maxHeartbeats 4000000
namespace DL
open PySem PySem.Spec L2
section
variable {X : Cx} {E : XK} {a : Addr} {c : String} {l : List (String × D)} {G : List Sl} {e : Expr} {pos : Pos} {rest : List Stmt}
@[simp] abbrev mCallT (mn : String) (l : List (String × D)) (m : List (String × D) → List D → M (List (String × D))) (ms : M (List D)) : M (List (String × D)) := need (l.lookup mn).isNone >>= fun _ => ms >>= fun ds => m l ds
end
end DL

set_option Elab.async false
set_option linter.all false
set_option maxRecDepth 100000
set_option maxHeartbeats 4000000
namespace DL
open PySem PySem.Spec L2
section
variable {K : PySem.W.Frag} {F H B : Hp} {G : List Sl} {σ : St}
end
section
variable {X : Cx} {E : St → XK} {a : Addr} {c : String} {l : List (String × D)} {G : List Sl} {e : Expr} {pos : Pos}
end
end DL

set_option Elab.async false
set_option linter.all false
set_option maxRecDepth 100000
set_option maxHeartbeats 4000000
section
open PySem PySem.SeqAt PyProof.Rows PySem.W
namespace PySem.W
section
variable {prog : Program} {w : World} {A : Around} {E : Value → Shared → Prop} {s : Shared}
end
end PySem.W
end
namespace DL
open PySem PySem.Spec L2
mutual
theorem D.py_inj : ∀ {n : Nat} {a b : D}, a.shp n = true → b.shp n = true → a.py = b.py → a = b
  | n, a, b, ha, hb, e => by
    rcases D.shp_cases ha with h1 | ⟨m, l, rfl, hd, hl⟩
    · rcases D.shp_cases hb with h2 | ⟨m2, l2, _, hd2, _⟩
      · rcases D.leaf_cases h1 with rfl | ⟨x, rfl⟩ | ⟨x, rfl⟩ | ⟨x, rfl⟩ <;> rcases D.leaf_cases h2 with rfl | ⟨y, rfl⟩ | ⟨y, rfl⟩ | ⟨y, rfl⟩ <;> simp_all [D.py]
      · rcases D.leaf_cases h1 with rfl | ⟨x, rfl⟩ | ⟨x, rfl⟩ | ⟨x, rfl⟩ <;> rcases hd2 with rfl | rfl <;> simp [D.py] at e
    · rcases D.shp_cases hb with h2 | ⟨m2, l2, e2, hd2, hl2⟩
      · rcases D.leaf_cases h2 with rfl | ⟨x, rfl⟩ | ⟨x, rfl⟩ | ⟨x, rfl⟩ <;> rcases hd with rfl | rfl <;> simp [D.py] at e
      · have e2 := Nat.succ.inj e2
        subst e2
        rcases hd with rfl | rfl <;> rcases hd2 with rfl | rfl <;> simp only [D.py] at e
        · injection e with e
          rw [D.pyL_inj hl hl2 e]
        · cases e
        · cases e
        · injection e with e
          rw [D.pyL_inj hl hl2 e]
theorem D.pyL_inj : ∀ {n : Nat} {a b : List D}, a.all (D.shp n) = true → b.all (D.shp n) = true → D.pyL a = D.pyL b → a = b
  | n, [], [], _, _, _ => rfl
  | n, [], _ :: _, _, _, e => by simp [D.pyL] at e
  | n, _ :: _, [], _, _, e => by simp [D.pyL] at e
  | n, x :: a, y :: b, ha, hb, e => by
    simp only [D.pyL] at e
    injection e with e1 e2
    rw [List.all_cons, Bool.and_eq_true] at ha hb
    rw [D.py_inj ha.1 hb.1 e1, D.pyL_inj ha.2 hb.2 e2]
end
end DL

set_option Elab.async false
set_option linter.all false
set_option maxRecDepth 100000
set_option maxHeartbeats 4000000
namespace DL
open PySem PySem.Spec L2
@[simp] def a0 {α : Type} (f : M α) : List D → M α
  | [] => f
  | _ => stuck
section
variable {X : Cx} {E : XK} {a : Addr} {c : String} {l : List (String × D)} {G : List Sl} {e : Expr} {pos : Pos} {st : Stmt} {rest body : List Stmt}
end
end DL

set_option Elab.async false
set_option linter.all false
set_option maxRecDepth 100000
set_option maxHeartbeats 4000000
namespace DL
open PySem PySem.Spec L2
@[simp] abbrev mDisp1 (mk mv : M D) : M (List (D × D)) := mk >>= fun k => mv >>= fun v => need k.isKey >>= fun _ => .ok [(k, v)]
section
variable {X : Cx} {E : XK} {G : List Sl} {k v : Expr} {mk mv : M D} {pos : Pos}
end
end DL

set_option Elab.async false
set_option linter.all false
set_option maxRecDepth 100000
set_option maxHeartbeats 4000000
namespace DL
open PySem PySem.Spec L2
section
variable {X : Cx} {E : St → XK} {G : List Sl} {a b e z : Expr} {ma mb mz : M D} {pos : Pos}
@[simp] abbrev mRevL (m : M D) : M (List D) := m >>= fun x => match x with | .lst l => .ok l.reverse | _ => stuck
end
end DL
section
open PySem PySem.SeqAt PyProof.Rows PySem.W
namespace PySem.W
section
variable {prog : Program} {w : World} {A : Around} {E : Value → Shared → Prop} {s : Shared}
end
end PySem.W
end
namespace DL
open PySem PySem.Spec L2
section
variable {X : Cx} {E : St → XK} {G : List Sl} {a b e z : Expr} {ma mb mz : M D} {pos : Pos}
end
end DL

set_option Elab.async false
set_option linter.all false
set_option maxRecDepth 100000
set_option maxHeartbeats 4000000
namespace DL
open PySem PySem.Spec L2

structure SupAt (P : Program) (K : PySem.W.Frag) (C fI : Addr) (name qual : Str) (params : Arguments) (body : List Stmt) (scope : Scope) : Prop where
  ex : ∃ (kV doc pm ct oc ccl cl : Value) (an od cdd cld : Option Addr) (osl ccs csl : Array (Option Value)) (cda cc : Addr) (vs : Array Value) (file : Str) (tf : Tok),
    K.lookup fI = some ⟨oc, od, .func (PySem.W.ksFn name qual params body scope .none kV doc pm an (.ref cda) ct cc), osl⟩ ∧ PySem.W.codeIn K (.ref cda) qual = true ∧ K.lookup cda = some ⟨ccl, cdd, .fields vs, ccs⟩ ∧ vs[2]? = some (.str file tf) ∧
      ((P.main.file : Str) == file) = true ∧ K.lookup cc = some ⟨cl, cld, .cell (some (.ref C)), csl⟩
  htop : (P.main.scope.names.lookup ("super" : Str)).isSome = false
  sup : PySem.W.ks_superIn K C C "__init__" = some (some (.builtin "ValueError.__init__"))
  sub : PySem.W.mroIn K C (.ref C) = some true
  ve : PySem.W.subIn K (.ref C) (.type "ValueError") = some true
  sta : PySem.W.nsIn K cStatics "thirdparty.any" = some none
  ini : PySem.W.excInitIn K C He.veBase "ValueError.__new__" = true
  gs : PySem.W.nsIn K mainGlobals "super" = some none
structure SupSt (slf fld : Str) (scope : Scope) : Prop where
  hk : scope.kind = .function
  hco : scope.isCoroutine = false
  hgen : scope.isGenerator = false
  s1 : scope.names.lookup ("super" : Str) = some .globalImplicit
  s2 : scope.names.lookup ("__class__" : Str) = some .free
  s3 : scope.names.lookup slf = some .local
  s4 : scope.names.lookup fld = some .local
  s5 : ∀ x ∈ scope.names, x.2 ≠ .cell
  ne : (slf == fld) = false
  nd1 : (slf == ("__debug__" : Str)) = false
  nd2 : (fld == ("__debug__" : Str)) = false

section
open PySem.W PySem.Calls PyProof.Rows
variable {P : Program} {w : World} {A : Around} {K : Frag} {C fI a t0 : Addr} {name qual self fld txt : Str} {params : Arguments} {body : List Stmt} {scope : Scope} {a1 a2 : Arg} {p0 p1 p2 p3 p4 p5 q1 q2 q3 q4 : Pos} {ck : Nat} {u : Value} {h₀ hp : Heap} {g : Array GenState} {d : Drawn} {t : Nat} {os : OsState} {mg : Str → Option Value} {R : Result → Shared → Prop} {pl : Env → Sem Bool}
end
end DL

set_option Elab.async false
set_option linter.all false
set_option maxRecDepth 100000
set_option maxHeartbeats 4000000
namespace DL
open PySem PySem.Spec L2
section
open PySem.W PySem.Calls PyProof.Rows
variable {X : Cx} {e : Expr} {te : TE}
variable {C fI : Addr} {x name qual self fld txt : Str} {params : Arguments} {body : List Stmt} {scope : Scope} {a1 : Arg} {p pos p0 p1 p2 p3 p4 p5 q1 q2 q3 q4 : Pos} {ck : Nat} {pl : Env → Sem Bool}
structure SupC (P : Program) (K : PySem.W.Frag) (C fI : Addr) (fld : Str) : Prop where
  run : ∀ {w : World} {A : Around} {mg : Str → Option Value} {a t0 : Addr} {u : Value} {h₀ hp : Heap} {g : Array GenState} {d : Drawn} {t : Nat} {os : OsState} {R : Result → Shared → Prop},
    K.In h₀ → (∀ b o, h₀.get? b = some o → hp.get? b = some o) → h₀.get? a = none → L2.Mod K mg h₀ → A.depth < recursionLimit → hp.get? a = some (HandSPX.excO C t0) →
    (∀ h' t' t1 dx, (∀ b o, b ≠ a → hp.get? b = some o → h'.get? b = some o) → hp.objs.size ≤ dx → dx ≠ a →
      h'.get? a = some ({ cls := .ref C, dict := some dx, data := .fields #[.ref t1, .none, .none, .none, .bool false, .none] } : Obj) → h'.Ns1 dx (fun y => if y = fld then some u else none) → R (.ok (.ret .none)) ⟨h', g, d, t', os⟩) →
    codeAny (model P w) A (.call (.ref fI) ⟨[.ref a, u], []⟩) R ⟨hp, g, d, t, os⟩
  o : OexC K C
  iC : findIn K (.ref C) "__init__" = some (some (.ref fI))
  tI : typeIn K (.ref fI) = some (.type "function")
end
end DL

set_option Elab.async false
set_option linter.all false
set_option maxRecDepth 100000
set_option maxHeartbeats 4000000
namespace DL
open PySem PySem.Spec L2 PyProof.Rows
abbrev Hdl : Type := Value × Option Nat × (Addr → Value → Option Addr → TS)
inductive HdsG (X : Cx) : List ExceptHandler → List Hdl → Prop
  | nil : HdsG X [] []
  | cons {x : Str} {c : Value} {ts : Addr → Value → Option Addr → TS} {b₀ : Stmt} {suite : List Stmt} {np pos' : Pos} {hds : List ExceptHandler} {l : List Hdl} (hc : Names X x c)
      (hsu : ∀ (a : Addr) (oe : Obj) (cls : Value) (d : Option Addr) (pn : List (Addr × Obj)), Zc cls d oe → (∃ vs, oe.data = .fields vs) → PSs (X.suite a ((a, oe) :: pn)) (b₀ :: suite) (ts a cls d)) (r : HdsG X hds l) :
      HdsG X (.ExceptHandler (some (.Name x np)) none (b₀ :: suite) pos' :: hds) ((c, none, ts) :: l)
  | consA {x n : Str} {i : Nat} {c : Value} {ts : Addr → Value → Option Addr → TS} {b₀ : Stmt} {suite : List Stmt} {np pos' : Pos} {hds : List ExceptHandler} {l : List Hdl} (hc : Names X x c) (hi : X.N[i]? = some n) (hln : X.env.kindOf n = some .local)
      (hsu : ∀ (a : Addr) (oe : Obj) (cls : Value) (d : Option Addr) (pn : List (Addr × Obj)), Zc cls d oe → (∃ vs, oe.data = .fields vs) → PSs (X.suite a ((a, oe) :: pn)) (b₀ :: suite) (ts a cls d)) (r : HdsG X hds l) :
      HdsG X (.ExceptHandler (some (.Name x np)) (some n) (b₀ :: suite) pos' :: hds) ((c, some i, ts) :: l)
section
variable {X : Cx} {body : List Stmt} {h₀ : ExceptHandler} {hds : List ExceptHandler} {l : List Hdl} {pos : Pos} {tb : WX → TS} {Wout : WX}
end
end DL

set_option Elab.async false
set_option linter.all false
set_option maxRecDepth 100000
set_option maxHeartbeats 4000000
namespace DL
open PySem PySem.Spec L2
structure XC (K : PySem.W.Frag) (Fs : List String) (c : String) : Prop where
  e : ExcC K (He.ga K (Str.ofString c))
  x : XfC K (He.ga K (Str.ofString c))
  no : ∀ f ∈ Fs, PySem.W.findIn K (.ref (He.ga K (Str.ofString c))) (Str.ofString f) = some none
def cvD (K : PySem.W.Frag) : Option String → Value
  | some c => .ref (He.ga K (Str.ofString c))
  | none => .type "ValueError"
structure XP (K : PySem.W.Frag) (U : List String) (t : Option String) (cs : List String) : Prop where
  m : ∀ c ∈ U, PySem.W.exmOne K (.ref (He.ga K (Str.ofString c))) (cvD K t) = some (cs.contains c)
  i : ∀ c ∈ U, PySem.W.kitOne K (.ref (He.ga K (Str.ofString c))) (cvD K t) = some (cs.contains c)
@[simp] abbrev mRs {α : Type} (m : M Empty) : M α := m >>= fun d => nomatch d
def Ex.get (x : Ex) (f : String) : M D := match x.args with
  | [(g, v)] => if g = f then .ok v else stuck
  | _ => stuck
section
variable {X : Cx} {E : XK} {G : List Sl} {a b c e : Expr} {ma mb mc : M D} {pos : Pos} {st : Stmt} {rest body : List Stmt} {F H : Hp}
inductive Wk : List Sl → List Sl → Prop
  | nil : Wk [] []
  | any {s : Sl} {G G' : List Sl} : Wk G G' → Wk (s :: G) (.any :: G')
  | same {s : Sl} {G G' : List Sl} : Wk G G' → Wk (s :: G) (s :: G')
theorem Wk.len : ∀ {G G' : List Sl}, Wk G G' → G.length = G'.length
  | _, _, .nil => rfl
  | _, _, .any h => congrArg Nat.succ h.len
  | _, _, .same h => congrArg Nat.succ h.len
theorem Wk.at : ∀ {G G' : List Sl}, Wk G G' → ∀ (i : Nat) (s : Sl), G'[i]? = some s → s = .any ∨ G[i]? = some s
  | _, _, .nil, i, s, h => by simp at h
  | _, _, .any h, 0, s, e => by
    simp at e
    exact .inl e.symm
  | _, _, .any h, i + 1, s, e => by
    have := h.at i s (by simpa using e)
    simpa using this
  | _, _, .same h, 0, s, e => by
    simp at e
    exact .inr (by simpa using e)
  | _, _, .same h, i + 1, s, e => by
    have := h.at i s (by simpa using e)
    simpa using this
theorem GOk.wk {K : PySem.W.Frag} {B : Hp} {σ : St} {G G' : List Sl} (w : Wk G G') (g : GOk K B G σ F H) : GOk K B G' σ F H where
  sB := g.sB
  len := by rw [g.len, w.len]
  ok := fun i s h => by
    rcases w.at i s h with rfl | h'
    · have hi : i < G'.length := (List.getElem?_eq_some_iff.mp h).1
      have hi2 : i < σ.length := by rw [g.len, w.len]; exact hi
      exact ⟨σ[i], List.getElem?_eq_getElem hi2, trivial⟩
    · exact g.ok i s h'
  dis := fun i j s t a h1 h2 o1 o2 e1 e2 => by
    rcases w.at i s h1 with rfl | h1'
    · cases o1
    · rcases w.at j t h2 with rfl | h2'
      · cases o2
      · exact g.dis i j s t a h1' h2' o1 o2 e1 e2
def WpX {α : Type} (K : PySem.W.Frag) (W : WX) (Gt : List Sl) (B0 B : Hp) (post : α → Oc) (m : M α) (F : Hp) (D : Ends) : Prop :=
  match m with
  | .ok x => OcP K B0 B F D (post x)
  | .error .stuck => False
  | .error (.exc x) => ∀ σ F' H' c d, Same F F' → Ext B0 B F' H' → GOk K B Gt σ F' H' → RpX K F' H' c d x → W c d σ H'
section
variable {K : PySem.W.Frag} {W : WX} {Gt : List Sl} {B0 B F' H' : Hp} {σ : St}
theorem WpX.mono {α : Type} {post : α → Oc} {m : M α} {D : Ends} (s : Same F F') (h : WpX K W Gt B0 B post m F D) : WpX K W Gt B0 B post m F' D := by
  cases m with
  | ok x => exact OcP.mono s h
  | error e => cases e with
    | stuck => exact h
    | exc x => exact fun σ F2 H2 c d s2 => h σ F2 H2 c d (s.trans s2)
theorem WpX.bind {α β : Type} {post : α → Oc} {p1 : β → Oc} {m : M β} {k : β → M α} {D D1 : Ends} (h : WpX K W Gt B0 B post (m >>= k) F D) (hk : ∀ j, m = .ok j → WpX K W Gt B0 B post (k j) F D → OcP K B0 B F D1 (p1 j)) : WpX K W Gt B0 B p1 m F D1 := by
  cases m with
  | ok j => exact hk j rfl h
  | error e => cases e with
    | stuck => exact h
    | exc x => exact h
theorem WpX.expr {α β γ : Type} {post : α → Oc} {rel : Hp → Hp → γ → β → Prop} {m : M β} {k : β → M α} {D : Ends} {Q : γ → Hp → Prop} (x0 : Ext B0 B F H) (wk : Wk G Gt) (g : GOk K B G σ F H) (h : WpX K W Gt B0 B post (m >>= k) F D)
    (hk : ∀ j F' H' v, Ext F H F' H' → Ext B0 B F' H' → rel F' H' v j → WpX K W Gt B0 B post (k j) F' D → Q v H') : WpG K (WE W σ) rel m F H Q := by
  cases m with
  | ok j => exact fun F' H' v x r => hk j F' H' v x (x0.trans x) r (WpX.mono x.sF h)
  | error e => cases e with
    | stuck => exact h
    | exc y => exact fun F' H' c d x r => h σ F' H' c d x.sF (x0.trans x) ((g.ext x).wk wk) r
end
variable {W : WX} {Gt : List Sl}
end
end DL

set_option Elab.async false
set_option linter.all false
set_option maxRecDepth 100000
set_option maxHeartbeats 4000000
namespace DL
open PySem PySem.Spec L2
section
open PyProof.Rows
end
section
variable {X : Cx} {E : St → XK} {G : List Sl} {e : Expr} {pos : Pos} {F H : Hp} {i : Nat} {a : Addr} {oe : Obj} {d : Option Addr} {pn : List (Addr × Obj)} {x : Ex} {Fs U : List String}
end

inductive HJ (X : Cx) (U Fs : List String) (Gt : List Sl) : List ExceptHandler → List (List String × (Ex → M D)) → Prop
  | nil : HJ X U Fs Gt [] []
  | cons {t : String} {cs : List String} {h : Ex → M D} {b₀ : Stmt} {suite : List Stmt} {np pos' : Pos} {hds : List ExceptHandler} {l : List (List String × (Ex → M D))} (hc : Names X (Str.ofString t) (.ref (He.ga X.K (Str.ofString t)))) (hp : XP X.K U (some t) cs)
      (hsu : ∀ (x : Ex), x.cls ∈ U → ∀ (a : Addr) (oe : Obj) (d : Option Addr) (pn : List (Addr × Obj)), Zc (.ref (He.ga X.K (Str.ofString x.cls))) d oe → (∃ vs, oe.data = .fields vs) → DB (X.suite a ((a, oe) :: pn)) EN0 Gt (b₀ :: suite) (h x) .rt) (r : HJ X U Fs Gt hds l) :
      HJ X U Fs Gt (.ExceptHandler (some (.Name (Str.ofString t) np)) none (b₀ :: suite) pos' :: hds) ((cs, h) :: l)
  | consA {t : String} {n : Str} {i : Nat} {cs : List String} {h : Ex → M D} {b₀ : Stmt} {suite : List Stmt} {np pos' : Pos} {hds : List ExceptHandler} {l : List (List String × (Ex → M D))} (hc : Names X (Str.ofString t) (.ref (He.ga X.K (Str.ofString t)))) (hp : XP X.K U (some t) cs)
      (hi : X.N[i]? = some n) (hln : X.env.kindOf n = some .local)
      (hsu : ∀ (x : Ex), x.cls ∈ U → ∀ (a : Addr) (oe : Obj) (d : Option Addr) (pn : List (Addr × Obj)), Zc (.ref (He.ga X.K (Str.ofString x.cls))) d oe → (∃ vs, oe.data = .fields vs) → DB (X.suite a ((a, oe) :: pn)) EN0 (Gt.set i (.exn a d x.args)) (b₀ :: suite) (h x) .rt) (r : HJ X U Fs Gt hds l) :
      HJ X U Fs Gt (.ExceptHandler (some (.Name (Str.ofString t) np)) (some n) (b₀ :: suite) pos' :: hds) ((cs, h) :: l)
section
variable {X : Cx} {E : XK} {G Gt : List Sl} {pos : Pos} {U Fs : List String} {body : List Stmt} {h₀ : ExceptHandler} {hds : List ExceptHandler} {hs : List (List String × (Ex → M D))}
end
end DL

set_option Elab.async false
set_option linter.all false
set_option maxRecDepth 100000
set_option maxHeartbeats 4000000
namespace DL
open PySem PySem.Spec L2
abbrev SupV : Type := Option (Str × Str × Arguments × FuncBody × Scope × Addr × List Str × Addr)
def supO (K : PySem.W.Frag) (fI : Addr) : SupV := (K.lookup fI).bind fun o => match o.data with
  | .func f => some (f.name, f.qualname, f.params, f.body, f.scope, f.globals, f.closure.map (·.1), f.builtins)
  | _ => none
def supD (d : He.DefD) : SupV := some (d.name, d.qual, d.params, .stmts d.body, d.scope, mainGlobals, ["__class__"], builtinsNs)
def fileAt (K : PySem.W.Frag) (c : Value) (f0 : Str) : Bool := match c with
  | .ref a => (match K.lookup a with
    | some o => (match o.data with
      | .fields vs => (match (vs[2]? : Option Value) with
        | some (.str f _) => decide (f = f0)
        | _ => false)
      | _ => false)
    | none => false)
  | _ => false
def cellAt (K : PySem.W.Frag) (a C : Addr) : Bool := match K.lookup a with
  | some o => (match o.data with
    | .cell (some (.ref D)) => decide (D = C)
    | _ => false)
  | none => false
def cloAt (K : PySem.W.Frag) (C : Addr) : List (Str × Addr) → Bool
  | [(_, cc)] => cellAt K cc C
  | _ => false
def supX (K : PySem.W.Frag) (f0 q : Str) (C fI : Addr) : Bool := match K.lookup fI with
  | some o => (match o.data with
    | .func f => PySem.W.codeIn K f.code q && (He.dflB K f.defaults [] && (fileAt K f.code f0 && cloAt K C f.closure))
    | _ => false)
  | none => false
def oexB (K : PySem.W.Frag) (C : Addr) : Bool := match K.lookup C with
  | some ⟨.type "type", _, .cls cd, sl⟩ => (match cd.mro, sl.toList with
    | .ref C' :: bm, [_, _, _, _, some (.builtin n), _] => C' == C && n == "ValueError.__new__" && !cd.hasDel && cd.hasDict && HandSPX.refsVE bm
    | _, _ => false)
  | _ => false
def supB (K : PySem.W.Frag) (f0 q : Str) (C fI : Addr) (fld : Str) : Bool := supX K f0 q C fI && (oexB K C && (
  decide (PySem.W.findIn K (.ref C) "__setattr__" = some (some (.builtin "object.__setattr__"))) && (decide (PySem.W.subIn K (.ref C) (.type "BaseException") = some true) && (decide (PySem.W.typeIn K (.ref C) = some (.type "type")) && (PySem.W.keepIn K (.ref C) && (
  decide (PySem.W.findIn K (.ref C) "__init__" = some (some (.ref fI))) && (decide (PySem.W.typeIn K (.ref fI) = some (.type "function")) && (decide (PySem.W.findIn K (.ref C) fld = some none) && (
  decide (PySem.W.ks_superIn K C C "__init__" = some (some (.builtin "ValueError.__init__"))) && (decide (PySem.W.mroIn K C (.ref C) = some true) && (decide (PySem.W.subIn K (.ref C) (.type "ValueError") = some true) && (decide (PySem.W.nsIn K cStatics "thirdparty.any" = some none) && (
  PySem.W.excInitIn K C He.veBase "ValueError.__new__" && decide (PySem.W.nsIn K mainGlobals "super" = some none))))))))))))))
structure PFx (P : Program) (f0 : Str) : Prop where
  file : ((P.main.file : Str) == f0) = true
  top : (P.main.scope.names.lookup ("super" : Str)).isSome = false
section
variable {P : Program} {K : PySem.W.Frag} {C fI : Addr} {f0 self fld txt : Str} {d : He.DefD} {a1 : Arg} {p0 p1 p2 p3 p4 p5 q1 q2 q3 q4 : Pos} {ck : Nat} {pl : Env → Sem Bool}
end
abbrev AlX : Type := AlG × List SupV
structure SupE where
  cls : Str
  fld : Str
  d : He.DefD
def SupE.fI (K : PySem.W.Frag) (s : SupE) : Addr := He.ma K (He.ga K s.cls) "__init__"
def exX (sx : List SupE) (f0 : Str) (ex : PySem.W.Frag → Bool) (K : PySem.W.Frag) : Bool := ex K && sx.all fun s => supB K f0 s.d.qual (He.ga K s.cls) (s.fI K) s.fld
def seenX (fa : List He.Fa) (fn gt : List He.DefD) (sx : List SupE) (f0 : Str) (ex : PySem.W.Frag → Bool) (K : PySem.W.Frag) : AlX := (seen fa fn gt (exX sx f0 ex) K, sx.map fun s => supO K (s.fI K))
def dueX (fn gt : List He.DefD) (sx : List SupE) : AlX := (due fn gt, sx.map fun s => supD s.d)
def SaysX (fa : List He.Fa) (fn gt : List He.DefD) (sx : List SupE) (f0 : Str) (ex : PySem.W.Frag → Bool) (K : PySem.W.Frag) : Prop := seenX fa fn gt sx f0 ex K = dueX fn gt sx
section
variable {fa : List He.Fa} {fn gt : List He.DefD} {sx : List SupE} {f0 : Str} {ex : PySem.W.Frag → Bool} {K : PySem.W.Frag}
theorem SaysX.g (c : SaysX fa fn gt sx f0 ex K) : SaysG fa fn gt (exX sx f0 ex) K := congrArg (fun z : AlX => z.1) c
theorem SaysX.d (c : SaysX fa fn gt sx f0 ex K) : He.SaysD fa fn K := c.g.d
theorem SaysX.more (c : SaysX fa fn gt sx f0 ex K) : ex K = true := (and2 c.g.more).1
theorem SaysX.get (c : SaysX fa fn gt sx f0 ex K) (i : Nat) {d : He.DefD} (h : gt[i]? = some d) : ∃ fd, FunD K d.name d.qual d.params d.body d.scope [] [] (gAd K d.at_) fd := c.g.get i h
theorem SaysX.sup (c : SaysX fa fn gt sx f0 ex K) (i : Nat) {s : SupE} (h : sx[i]? = some s) : supO K (s.fI K) = supD s.d ∧ supB K f0 s.d.qual (He.ga K s.cls) (s.fI K) s.fld = true := by
  have e : (sx.map fun s => supO K (s.fI K)) = sx.map fun s => supD s.d := congrArg (fun z : AlX => z.2) c
  have e2 : (sx.map fun s => supO K (s.fI K))[i]? = (sx.map fun s => supD s.d)[i]? := by rw [e]
  rw [List.getElem?_map, List.getElem?_map, h] at e2
  exact ⟨Option.some.inj e2, List.all_eq_true.mp (and2 c.g.more).2 s (List.mem_of_getElem? h)⟩
end
end DL

set_option Elab.async false
set_option linter.all false
set_option maxRecDepth 100000
set_option maxHeartbeats 4000000
namespace DL
open PySem PySem.Spec L2
section
variable {X : Cx} {E : XK} {G Gt : List Sl} {c e : Expr} {pos : Pos} {st : Stmt} {rest body : List Stmt} {W : WX}
end
end DL

set_option Elab.async false
set_option linter.all false
set_option maxRecDepth 100000
set_option maxHeartbeats 4000000
namespace DL
open PySem PySem.Spec L2
section
variable {X : Cx} {E : XK} {G : List Sl} {a b c e : Expr} {ma mb mc : M D} {pos : Pos} {st : Stmt} {rest body : List Stmt} {F H : Hp}
def setIx (l : List D) (i v : D) : M (List D) := match i with
  | .int k => (match ixN l.length k with | some j => .ok (l.set j v) | none => stuck)
  | _ => stuck
@[simp] abbrev mSetI (l : List D) (me mk : M D) : M (List D) := me >>= fun d => mk >>= fun i => setIx l i d
def extL (l : List D) (d : D) : M (List D) := match d with
  | .lst l2 => need (decide (l.length + l2.length ≤ sizeLine)) >>= fun _ => .ok (l ++ l2)
  | _ => stuck
theorem ds_extO2 {x : Str} {i : Nat} {l : List D} {p1 p2 p3 : Pos} {me : M D} (hs : G[i]? = some (.own l)) (pv : PE X (.Name x p1) (tVar i)) (h : DE X (cE E) G e me)
    (hfew : ((backTo p3 (starEach [e] X.env)).all (fun x => !x.1) && (backToKw p3 (keywordEach [] X.env)).all (fun x => x.1.isSome)
      && decide (([e] : List Expr).length + ([] : List Keyword).length + (if ([] : List Keyword).isEmpty then 0 else 1) < 30)) = true := by rfl)
    (hbase : attributeBase (.Name x p1) "extend" X.env (eval (.Name x p1) X.env) = eval (.Name x p1) X.env := by rfl)
    (hline : (p2.endLine == p3.line) = true := by rfl) (hst : starEach [e] X.env = (false, eval e X.env) :: starEach [] X.env := by rfl) (hplain : (backTo p3 (starEach [] X.env)).any (·.1) = false := by rfl) :
    DS X E G (.Expr (.Call (.Attribute (.Name x p1) "extend" p2) [e] [] p3) pos) (me >>= fun d => extL l d) (fun l' => .nx (G.set i (.own l'))) := by
  obtain ⟨t, pe, w⟩ := h
  refine ⟨_, ps_expr (pe_bm PySem.F.plainAttrs_list PySem.F.slot_list_extend PySem.F.type_list_extend mt_extend pv (pa_cons pe pa_nil hst) hbase hfew hline hst hplain), fun B0 B σ F H D x0 g q => ?_⟩
  obtain ⟨o, h1, ad, xs, rfl, h2, h3, h4, h5⟩ := g.ok i _ hs
  refine ⟨_, h1, .inl ⟨rfl, xs, SqL.of h2⟩, w B σ F H _ x0.sFH g (WpB.expr (H := H) x0 q fun d F1 H1 v x1 x1' r1 q1 => ?_)⟩
  cases d with
  | lst l2 =>
    have q1 : WpB X.K E B0 B (fun l' => .nx (G.set i (.own l'))) (need (decide (l.length + l2.length ≤ sizeLine)) >>= fun _ => .ok (l ++ l2)) F1 D := q1
    cases hc : decide (l.length + l2.length ≤ sizeLine) with
    | false =>
      rw [hc] at q1
      exact q1.elim
    | true =>
      rw [hc] at q1
      have c1 := of_decide_eq_true hc
      cases r1 with
      | @lst b zs _ hb hr =>
        have f1 : F1 ad = none := by rw [x1.old _ _ h2]; exact h3
        refine ⟨ad, b, xs, zs, rfl, rfl, x1.sH _ _ h2, x1.sFH _ _ hb, by rw [h5.length, hr.length]; exact c1, ?_⟩
        have q3 : OcP X.K B0 B F1 D (.nx (G.set i (.own (l ++ l2)))) := q1.ok
        exact q3 σ F1 _ (Same.refl _) (x1'.write f1 h4) ((g.ext x1).write hs h1 ((h5.mono x1.sF).append hr))
  | _ => exact q1.elim
end
section
variable {X : Cx} {E : St → XK} {G : List Sl} {a b c e : Expr} {ma mb mc : M D} {pos : Pos} {st : Stmt} {rest body : List Stmt} {F H : Hp}
end
section
variable {X : Cx} {G : List Sl} {pos : Pos} {body : List Stmt} {F H : Hp}
end
section
variable {X : Cx} {E : St → XK} {G : List Sl} {a b : Expr} {pos : Pos} {F H : Hp}
end
end DL

set_option Elab.async false
set_option linter.all false
set_option maxRecDepth 100000
set_option maxHeartbeats 4000000
namespace DL
open PySem PySem.Spec L2
def IsDk (u : HO) (kvs : List (Key × V)) : Prop := u = .dK kvs ∨ ∃ o, u = .frz o (.dK kvs)
def lkF (M : Hp) (a : Addr) (u : HO) : Hp := fun b => if b = a then (match M a with | none => none | some _ => some u) else M b
theorem lk_ne {M : Hp} {a b : Addr} {u : HO} (h : b ≠ a) : lkF M a u b = M b := if_neg h
theorem lk_none {M : Hp} {a : Addr} {u : HO} (h : M a = none) : lkF M a u a = none := by
  unfold lkF
  rw [if_pos rfl, h]
theorem lk_some {M : Hp} {a : Addr} {u x : HO} (h : M a = some x) : lkF M a u a = some u := by
  unfold lkF
  rw [if_pos rfl, h]
section
variable {K : PySem.W.Frag} {F H B : Hp} {a : Addr} {u0 u1 : HO} {kvs : List (Key × V)} (d0 : IsDk u0 kvs) (d1 : IsDk u1 kvs) (hF : ∀ x, F a = some x → x = u0)
include d0 d1 hF
theorem lk_keep {b : Addr} {u : HO} (h : F b = some u) (hu : ¬ IsDk u kvs) : lkF F a u1 b = some u := by
  by_cases e : b = a
  · subst e
    exact absurd (by rw [hF u h]; exact d0) hu
  · rw [lk_ne e]
    exact h
theorem lk_rd {b : Addr} {kvs' : List (Key × V)} (h : Rd F b (.dK kvs')) : Rd (lkF F a u1) b (.dK kvs') := by
  by_cases e : b = a
  · subst e
    have key : ∀ x, F b = some x → IsDk x kvs' → Rd (lkF F b u1) b (.dK kvs') := fun x hx hd => by
      have e0 := hF x hx
      have ek : kvs' = kvs := by
        rw [e0] at hd
        rcases d0 with d0 | ⟨o, d0⟩ <;> rcases hd with hd | ⟨o', hd⟩ <;> rw [d0] at hd <;> cases hd <;> rfl
      rw [ek]
      rcases d1 with d1 | ⟨o, d1⟩
      · exact .inl (by rw [lk_some hx, d1])
      · exact .inr ⟨o, by rw [lk_some hx, d1]⟩
    rcases h with h | ⟨o, h⟩
    · exact key _ h (.inl rfl)
    · exact key _ h (.inr ⟨o, rfl⟩)
  · rcases h with h | ⟨o, h⟩
    · exact .inl (by rw [lk_ne e]; exact h)
    · exact .inr ⟨o, by rw [lk_ne e]; exact h⟩
theorem lk_seqL {b : Addr} {xs : List V} (h : SqL K F b xs) : SqL K (lkF F a u1) b xs := by
  rcases h with (h | ⟨o, h⟩) | h
  · exact .inl (.inl (lk_keep d0 d1 hF h (by rintro (z | ⟨_, z⟩) <;> cases z)))
  · exact .inl (.inr ⟨o, lk_keep d0 d1 hF h (by rintro (z | ⟨_, z⟩) <;> cases z)⟩)
  · exact .inr h
theorem lk_plT {b : Addr} {xs : List V} (h : PlT K F b xs) : PlT K (lkF F a u1) b xs := by
  rcases h with ⟨o, h, c⟩ | h
  · exact .inl ⟨o, lk_keep d0 d1 hF h (by rintro (z | ⟨_, z⟩) <;> cases z), c⟩
  · exact .inr h
mutual
theorem Rp.lk : ∀ {v : V} {d : D}, Rp K F v d → Rp K (lkF F a u1) v d
  | _, _, .non => .non
  | _, _, .bl b => .bl b
  | _, _, .int i => .int i
  | _, _, .str x h => .str x h
  | _, _, .tup h hs => .tup (lk_plT d0 d1 hF h) (RpL.lk hs)
  | _, _, .lst h hs => .lst (lk_keep d0 d1 hF h (by rintro (z | ⟨_, z⟩) <;> cases z)) (RpL.lk hs)
  | _, _, .scr h => .scr (lk_seqL d0 d1 hF h)
  | _, _, .dctK h h2 hs => .dctK (lk_rd d0 d1 hF h) h2 (RpL.lk hs)
  | _, _, .dctT h h2 hs => .dctT (lk_keep d0 d1 hF h (by rintro (z | ⟨_, z⟩) <;> cases z)) h2 (RpL.lk hs)
  | _, _, .ins h h2 hs => .ins (lk_keep d0 d1 hF h (by rintro (z | ⟨_, z⟩) <;> cases z)) h2 (RpL.lk hs)
theorem RpL.lk : ∀ {v : List V} {d : List D}, RpL K F v d → RpL K (lkF F a u1) v d
  | _, _, .nil => .nil
  | _, _, .cons h hs => .cons (Rp.lk h) (RpL.lk hs)
end
end
def Sl.noT : Sl → Sl
  | .tre _ _ _ => .any
  | .exn _ _ _ => .any
  | s => s
theorem Sl.noT_owns (s : Sl) : s.noT.owns = s.owns := by cases s <;> rfl
section
variable {K : PySem.W.Frag} {F H B : Hp} {a : Addr} {u0 u1 : HO} {kvs : List (Key × V)} {G : List Sl} {σ : St}
theorem RpOL.lk (d0 : IsDk u0 kvs) (d1 : IsDk u1 kvs) (hF : ∀ x, F a = some x → x = u0) (hB : ∀ x, B a = some x → x = u0) : ∀ {vs : List V} {fv : List D}, RpOL K F B vs fv → RpOL K (lkF F a u1) (lkF B a u1) vs fv
  | _, _, .nil => .nil
  | _, _, .frz r q => .frz (r.lk d0 d1 hF) (RpOL.lk d0 d1 hF hB q)
  | _, _, .dk ⟨ks, r1, r2, r3⟩ q => .dk ⟨ks, lk_rd d0 d1 hB r1, r2, r3.lk d0 d1 hF⟩ (RpOL.lk d0 d1 hF hB q)
theorem same_lk (s : Same F H) : Same (lkF F a u1) (upd H a u1) := fun b z h => by
  by_cases e : b = a
  · subst e
    rw [upd_same]
    cases hb : F b with
    | none =>
      rw [lk_none hb] at h
      cases h
    | some x =>
      rw [lk_some hb] at h
      exact h
  · rw [upd_ne e]
    rw [lk_ne e] at h
    exact s b z h
theorem GOk.lk (d0 : IsDk u0 kvs) (d1 : IsDk u1 kvs) (s : Same F H) (g : GOk K B G σ F H) (hH : H a = some u0) (hab : F a ≠ none ∨ B a ≠ none) : GOk K (lkF B a u1) (G.map Sl.noT) σ (lkF F a u1) (upd H a u1) where
  sB := same_lk g.sB
  len := by rw [List.length_map]; exact g.len
  ok := fun i s1 hs => by
    have hF : ∀ x, F a = some x → x = u0 := fun x hx => Option.some.inj ((s a x hx).symm.trans hH)
    have hB : ∀ x, B a = some x → x = u0 := fun x hx => Option.some.inj ((g.sB a x hx).symm.trans hH)
    rw [List.getElem?_map] at hs
    cases e : G[i]? with
    | none => rw [e] at hs; cases hs
    | some s' =>
      rw [e] at hs
      cases hs
      obtain ⟨v, k1, k2⟩ := g.ok i _ e
      have ne : ∀ x, F x = none → B x = none → x ≠ a := fun x h1 h2 z => by
        subst z
        rcases hab with h | h
        · exact h h1
        · exact h h2
      refine ⟨v, k1, ?_⟩
      cases s' with
      | un => exact k2
      | any => trivial
      | tre b _ _ => trivial
      | exn _ _ _ => trivial
      | val d =>
        obtain ⟨w, e1, r⟩ := k2
        exact ⟨w, e1, r.lk d0 d1 hF⟩
      | own l =>
        obtain ⟨b, xs, e1, e2, n1, n2, r⟩ := k2
        have nb := ne b n1 n2
        exact ⟨b, xs, e1, by rw [upd_ne nb]; exact e2, by rw [lk_ne nb]; exact n1, by rw [lk_ne nb]; exact n2, r.lk d0 d1 hF⟩
      | ownd l =>
        obtain ⟨b, e1, ⟨ks, r1, r2, r3⟩, n1, n2⟩ := k2
        have nb := ne b n1 n2
        exact ⟨b, e1, ⟨ks, by rw [upd_ne nb]; exact r1, r2, r3.lk d0 d1 hF⟩, by rw [lk_ne nb]; exact n1, by rw [lk_ne nb]; exact n2⟩
      | ownu l =>
        obtain ⟨b, e1, ⟨ks, r1, r2, r3⟩, n1, n2⟩ := k2
        have nb := ne b n1 n2
        exact ⟨b, e1, ⟨ks, by rw [upd_ne nb]; exact r1, r2, r3.lk d0 d1 hF⟩, by rw [lk_ne nb]; exact n1, by rw [lk_ne nb]; exact n2⟩
      | obj b c l =>
        obtain ⟨dx, fs, e1, e2, n1, n2, e3, r⟩ := k2
        have nb := ne b n1 n2
        exact ⟨dx, fs, e1, by rw [upd_ne nb]; exact e2, by rw [lk_ne nb]; exact n1, by rw [lk_ne nb]; exact n2, e3, r.lk d0 d1 hF⟩
      | bor d =>
        obtain ⟨w, e1, r⟩ := k2
        refine ⟨w, e1, ?_⟩
        cases r with
        | of r => exact .of (r.lk d0 d1 hF)
        | own h r => exact .own (lk_keep d0 d1 hB h (by rintro (z | ⟨_, z⟩) <;> cases z)) (r.lk d0 d1 hF)
        | ownd r =>
          obtain ⟨ks, r1, r2, r3⟩ := r
          exact .ownd ⟨ks, lk_rd d0 d1 hB r1, r2, r3.lk d0 d1 hF⟩
        | ownu r =>
          obtain ⟨ks, r1, r2, r3⟩ := r
          exact .ownu ⟨ks, lk_keep d0 d1 hB r1 (by rintro (z | ⟨_, z⟩) <;> cases z), r2, r3.lk d0 d1 hF⟩
        | obj h h2 r => exact .obj (lk_keep d0 d1 hB h (by rintro (z | ⟨_, z⟩) <;> cases z)) h2 (r.lk d0 d1 hF)
        | obt h h2 r => exact .obt (lk_keep d0 d1 hB h (by rintro (z | ⟨_, z⟩) <;> cases z)) h2 (RpOL.lk d0 d1 hF hB r)
  dis := fun i j s1 t1 d h1 h2 o1 o2 e1 e2 => by
    rw [List.getElem?_map] at h1 h2
    cases ei : G[i]? with
    | none => rw [ei] at h1; cases h1
    | some x =>
      cases ej : G[j]? with
      | none => rw [ej] at h2; cases h2
      | some y =>
        rw [ei] at h1
        rw [ej] at h2
        cases h1
        cases h2
        rw [Sl.noT_owns] at o1 o2
        exact g.dis i j _ _ d ei ej o1 o2 e1 e2
end
section
variable {X : Cx} {E : St → XK} {G : List Sl} {e c : Expr} {pos : Pos}
end
end DL

set_option Elab.async false
set_option linter.all false
set_option maxRecDepth 100000
set_option maxHeartbeats 4000000
namespace DL
open PySem PySem.Spec L2
section
variable {X : Cx} {E : St → XK} {G : List Sl} {a : Expr} {ma : M D} {pos : Pos}
end
end DL

set_option Elab.async false
set_option linter.all false
set_option maxRecDepth 100000
set_option maxHeartbeats 4000000
namespace DL
open PySem PySem.Spec L2
section
variable {X : Cx} {E : St → XK} {G : List Sl} {a : Expr} {ma : M D} {pos : Pos}
end
end DL

set_option Elab.async false
set_option linter.all false
set_option maxRecDepth 100000
set_option maxHeartbeats 4000000
namespace DL
open PySem PySem.Spec L2
@[simp] def a7 {α : Type} (f : D → D → D → D → D → D → D → M α) : List D → M α
  | [a, b, c, d, e, g, h] => f a b c d e g h
  | _ => stuck
@[simp] def a8 {α : Type} (f : D → D → D → D → D → D → D → D → M α) : List D → M α
  | [a, b, c, d, e, g, h, i] => f a b c d e g h i
  | _ => stuck
section
variable {K : PySem.W.Frag} {B0 B F H F' H' : Hp} {a : Addr} {u0 u1 u : HO}
theorem same_lk2 (s : Same F F') : Same (lkF F a u) (lkF F' a u) := fun b z h => by
  by_cases e : b = a
  · subst e
    cases hb : F b with
    | none =>
      rw [lk_none hb] at h
      cases h
    | some y =>
      rw [lk_some hb] at h
      rw [lk_some (s b y hb)]
      exact h
  · rw [lk_ne e] at h
    rw [lk_ne e]
    exact s b z h
theorem Ext.lk (x : Ext B0 B F H) : Ext (lkF B0 a u) (lkF B a u) (lkF F a u) (upd H a u) where
  sF := same_lk2 x.sF
  sH := same_lk x.sH
  sFH := same_lk x.sFH
  old := fun b z h => by
    by_cases e : b = a
    · subst e
      cases hb : B b with
      | none =>
        rw [lk_none hb] at h
        cases h
      | some y =>
        have h1 := x.old b y hb
        cases h0 : B0 b with
        | none =>
          rw [h0] at h1
          rw [lk_none h1, lk_none h0]
        | some w =>
          rw [h0] at h1
          rw [lk_some h1, lk_some h0]
    · rw [lk_ne e] at h
      rw [lk_ne e, lk_ne e]
      exact x.old b z h
end
section
variable {X : Cx} {E : XK} {G : List Sl} {pos : Pos} {body : List Stmt}
end
end DL

set_option Elab.async false
set_option linter.all false
set_option maxRecDepth 100000
set_option maxHeartbeats 4000000
namespace DL
open PySem PySem.Spec L2
def D.pr : D → Option (D × D)
  | .tup [k, v] => if k.isKey = true then some (k, v) else none
  | _ => none
section
variable {K : PySem.W.Frag} {F F' H H' : Hp}
end
section
variable {X : Cx} {E : St → XK} {G : List Sl} {a : Expr} {ma : M D} {pos : Pos}
end
end DL

set_option Elab.async false
set_option linter.all false
set_option maxRecDepth 100000
set_option maxHeartbeats 4000000
namespace DL
open PySem PySem.Spec L2
section
variable {X : Cx}
end
end DL

set_option Elab.async false
set_option linter.all false
set_option maxRecDepth 100000
set_option maxHeartbeats 4000000
namespace DL
open PySem PySem.Spec L2
section
variable {X : Cx} {E : XK} {G : List Sl} {body : List Stmt}
end
end DL

set_option Elab.async false
set_option linter.all false
set_option maxRecDepth 100000
set_option maxHeartbeats 4000000
namespace DL
open PySem PySem.Spec L2
structure FnG (P : Program) (w : World) (K : PySem.W.Frag) (mg : Str → Option Value) (base : Heap) (CX : CXT) (k : Nat) (f : Addr) (fd : FuncData) (ps : List Str) (sp : Sp) : Prop where
  ln : ∀ vs H Q E, sp vs H Q E → vs.length = ps.length
  go : ∀ (A : Around) (o : List Env) (s : Shared) (H : Hp) (ar : Args) (us : List Value) (vs : List V) (Q : VK) (E : XK), A.guards = some [] → Room k A → Env0 P w K mg base A o s H → BindsTo s fd ar (ps.zip us) → Vals vs us → sp vs H Q E → codeAny (model P w) A (.call (.ref f) ar) (CR CX o P w H s Q E) s
section
variable {P : Program} {w : World} {K : PySem.W.Frag} {mg : Str → Option Value} {base : Heap} {CX : CXT} {f : Addr} {fd : FuncData} {x : Str} {qual : Str} {params : Arguments} {body : List Stmt} {scope : Scope} {dvs : List V} {kws : List (Str × V)}
end
end DL

set_option Elab.async false
set_option linter.all false
set_option maxRecDepth 100000
set_option maxHeartbeats 4000000
namespace DL
open PySem PySem.Spec L2
section
variable {K : PySem.W.Frag} {x qual : Str} {params : Arguments} {body : List Stmt} {scope : Scope} {f : Addr} {fd : FuncData} {ps : List Str}
end
section
variable {X : Cx} {CX : CXT} {k n : Nat} {f : Addr} {fd : FuncData} {ps ks : List Str} {sp : Sp} {E : St → XK} {x : Str} {p pos : Pos} {e : Expr} {es : List Expr} {kws : List Keyword} {t tk : TA} {g : List Value → List Value → List Value} {gV : List V → List V → List V} {pins : List (Addr × Obj)} {σ : St} {H : Hp} {s : Shared} {Q : VK} {us ws : List Value} {vs zs : List V}
end
section
variable {X : Cx} {E : St → XK} {G : List Sl} {a : Expr} {pos : Pos}
theorem RpA.app {K : PySem.W.Frag} {F H : Hp} {b2 : List Bool} {v2 : List V} {d2 : List D} (h2 : RpA K F H b2 v2 d2) : ∀ {bs : List Bool} {vs : List V} {ds : List D}, RpA K F H bs vs ds → RpA K F H (bs ++ b2) (vs ++ v2) (ds ++ d2)
  | _, _, _, .nil => h2
  | _, _, _, .frz r h => .frz r (RpA.app h2 h)
  | _, _, _, .bor r h => .bor r (RpA.app h2 h)
@[simp] abbrev mCallK (m : List D → M D) (gd : List D → List D) (a b : M (List D)) : M D := a >>= fun l => b >>= fun k => m (l ++ gd k)
end
end DL

set_option Elab.async false
set_option linter.all false
set_option maxRecDepth 100000
set_option maxHeartbeats 4000000
namespace DL
open PySem PySem.Spec L2
section
variable {X : Cx} {E : St → XK} {G : List Sl} {a b : Expr} {ma mb : M D} {pos : Pos}
end
end DL

set_option Elab.async false
set_option linter.all false
set_option maxRecDepth 100000
set_option maxHeartbeats 4000000
namespace DL
open PySem PySem.Spec L2
section
variable {X : Cx} {CX : CXT} {k : Nat} {C f : Addr} {fd : FuncData} {ps ks : List Str} {sp : Sp} {E : St → XK} {m : Str} {apos pos : Pos} {o : Expr} {kws : List Keyword} {ta : TE} {tk : TA} {g : List Value → List Value → List Value} {gV : List V → List V → List V}
end
section
variable {X : Cx} {E : St → XK} {G : List Sl} {b : Expr} {mb : M D} {pos : Pos}
@[simp] abbrev mMethK (c mn : String) (m : List D → M D) (gd : List D → List D) (a : M D) (b : M (List D)) : M D := a >>= fun x => D.recv c mn x >>= fun x => b >>= fun l => m (x :: gd l)
end
end DL

set_option Elab.async false
set_option linter.all false
set_option maxRecDepth 100000
set_option maxHeartbeats 4000000
namespace DL
open PySem PySem.Spec L2
section
variable {X : Cx} {E : St → XK} {e fe : Expr} {es : List Expr} {pos : Pos} {tf : TE} {ta : TA}
end
def pickF (ms : List (List D → M D)) : D → M (List D → M D)
  | .int (.ofNat n) => match ms[n]? with
    | some m => .ok m
    | none => stuck
  | _ => stuck
section
variable {X : Cx} {E : St → XK} {G : List Sl} {a ie : Expr} {pos : Pos}
@[simp] abbrev mCallIx (fs : List (List D → M D)) (i : M D) (ms : M (List D)) : M D := i >>= fun i => pickF fs i >>= fun f => ms >>= fun l => f l
end
end DL

set_option Elab.async false
set_option linter.all false
set_option maxRecDepth 100000
set_option maxHeartbeats 4000000
namespace PySem
open Sem (wp)
section
variable {M : Model} {A : Around} {E : Value → Shared → Prop} {s : Shared} {env : Env}
end
end PySem

namespace L2
open PySem PySem.Spec PyProof.Rows
section
variable {X : Cx} {pins : List (Addr × Obj)} {σ : St} {H : Hp} {s s' : Shared} {E : XK} {L : Addr}
end
section
variable {X : Cx} {pins : List (Addr × Obj)} {σ : St} {H3 : Hp} {s3 : Shared} {E : XK} {W : WX} {scope : Scope} {ce : Env} {fp : List Addr}
end
end L2

namespace L2
open PySem PySem.Spec PyProof.Rows
section
variable {X : Cx}
end
end L2

namespace DL
open PySem PySem.Spec L2
section
variable {X : Cx} {E1 : XK} {s : Shared} {H : Hp} {scope : Scope} {cenv : Env} {fp : List Addr}
structure XOk (X : Cx) (E1 : XK) : Prop where
  stk : X.stack = X.env :: X.outer
  frm : X.env.frame = some X.env.locals
  tk : Takes X (fun c d _ H => E1 c d H)
end
section
variable {X : Cx} {E1 : XK} {G : List Sl} {e c : Expr} {pos : Pos}
end
section
variable {X : Cx} {E1 : XK} {G : List Sl} {e c : Expr} {pos : Pos}
end
end DL

set_option Elab.async false
set_option linter.all false
set_option maxRecDepth 100000
set_option maxHeartbeats 4000000
namespace SrtF
open PySem PySem.Calls PyProof.Rows SrtO Srt
section
variable {prog : Program} {w : World} {A : Around} {s : Shared} {E : Value → Shared → Prop}
def FstT (h : Heap) (v : Value) (x : Str) : Prop := ∃ (a : Addr) (o : Obj) (xs : Array Value) (n : Nat) (t : Tok), v = .ref a ∧ h.get? a = some o ∧ o.cls = .type "tuple" ∧ o.data = .seq xs n ∧ xs[0]? = some (.str x t) ∧ ∀ u ∈ xs.toList, (u == u) = true
theorem FstT.keeps {h h' : Heap} {v : Value} {x : Str} (p : FstT h v x) (k : ∀ b o, h.get? b = some o → o.cls = .type "tuple" → h'.get? b = some o) : FstT h' v x := by
  obtain ⟨a, o, xs, n, t, e, ho, hc, hd, h0, hs⟩ := p
  exact ⟨a, o, xs, n, t, e, k _ _ ho hc, hc, hd, h0, hs⟩
theorem kat_self {b fin : Bool} {Q : Bool → Shared → Prop} (hq : Q fin s) : ∀ (l : List Value) (i : Nat), (∀ u ∈ l, (u == u) = true) → PySem.W.KatLex prog w A b fin Q (l.zip l) i s
  | [], _, _ => PySem.W.kat_nil hq
  | u :: l, i, h => by
    rw [List.zip_cons_cons]
    refine PySem.W.kat_cons ?_
    unfold eqBool
    refine wpAny_holding ?_
    rw [if_pos (h u (List.mem_cons_self ..))]
    refine wpAny_bind (wpAny_rule (wpAny_pure ?_))
    exact PySem.W.kat_yes (kat_self hq l (i + 1) fun x hx => h x (List.mem_cons_of_mem _ hx))
def ltS (x y : Str) : Bool := decide (x.cps.toList < y.cps.toList)
theorem ltS_asym {x y : Str} (h : ltS x y = true) : ltS y x = false := by
  unfold ltS at *
  exact decide_eq_false fun z => absurd (List.lt_trans (of_decide_eq_true h) z) (List.lt_irrefl _)
theorem ltS_tr {x y z : Str} (h : ltS y x = false) (h' : ltS z y = false) : ltS z x = false := by
  unfold ltS at *
  have h := of_decide_eq_false h
  have h' := of_decide_eq_false h'
  exact decide_eq_false fun q => by
    have a : x.cps.toList ≤ y.cps.toList := List.not_lt.mp h
    have b : y.cps.toList ≤ z.cps.toList := List.not_lt.mp h'
    exact (List.not_lt.mpr (List.le_trans a b)) q
theorem ltS_anti {x y : Str} (h : ltS y x = false) (h' : ltS x y = false) : x = y := by
  unfold ltS at *
  have h := of_decide_eq_false h
  have h' := of_decide_eq_false h'
  exact PySem.W.str_of_cps (List.le_antisymm (List.not_lt.mp h) (List.not_lt.mp h'))
theorem swo_ltS (k : Value → Str) : Swo fun v u => ltS (k v) (k u) := ⟨fun _ _ h => ltS_asym h, fun _ _ _ h1 h2 => ltS_tr h1 h2⟩
theorem fst_cmp {vs : List Value} {k : Value → Str} (hp : ∀ v ∈ vs, FstT s.heap v (k v)) (hk : ∀ v ∈ vs, ∀ u ∈ vs, k v = k u → v = u) : Cmp prog w A s (tuples' true) (fun p => p.1 ∈ vs) (lt2 fun v u => ltS (k v) (k u)) := by
  intro p q hm hm'
  have h1 := hp _ hm
  have h2 := hp _ hm'
  show wpAny (model prog w) A (keyLt' (tuples' true) p.1 q.1) (fun r s' => s' = s ∧ r = ltS (k p.1) (k q.1)) (fun _ _ => False) s
  by_cases e : p.1 = q.1
  · rw [← e]
    obtain ⟨a, o, xs, n, t, ea, ho, hc, hd, h0, hs⟩ := h1
    rw [ea]
    refine PySem.W.kat_lt ho hd ho hd (kat_self ⟨rfl, ?_⟩ _ 0 hs)
    rw [decide_eq_false (Nat.lt_irrefl _)]
    unfold ltS
    exact (decide_eq_false (List.lt_irrefl _)).symm
  · have ne : ¬ k p.1 = k q.1 := fun z => e (hk _ hm _ hm' z)
    generalize k p.1 = x at h1 ne ⊢
    generalize k q.1 = y at h2 ne ⊢
    obtain ⟨a, o, xs, n, t, ea, ho, hc, hd, h0, hs⟩ := h1
    obtain ⟨a', o', ys, n', t', ea', ho', hc', hd', h0', hs'⟩ := h2
    rw [ea, ea']
    refine PySem.W.kat_lt ho hd ho' hd' ?_
    have zx : ∃ rx, xs.toList = .str x t :: rx := by
      cases q : xs.toList with
      | nil =>
        have : xs.toList[0]? = some (.str x t) := by rw [Array.getElem?_toList]; exact h0
        rw [q] at this
        cases this
      | cons z r =>
        have : xs.toList[0]? = some (.str x t) := by rw [Array.getElem?_toList]; exact h0
        rw [q] at this
        cases this
        exact ⟨r, rfl⟩
    have zy : ∃ ry, ys.toList = .str y t' :: ry := by
      cases q : ys.toList with
      | nil =>
        have : ys.toList[0]? = some (.str y t') := by rw [Array.getElem?_toList]; exact h0'
        rw [q] at this
        cases this
      | cons z r =>
        have : ys.toList[0]? = some (.str y t') := by rw [Array.getElem?_toList]; exact h0'
        rw [q] at this
        cases this
        exact ⟨r, rfl⟩
    obtain ⟨rx, zx⟩ := zx
    obtain ⟨ry, zy⟩ := zy
    rw [zx, zy, List.zip_cons_cons]
    refine PySem.W.kat_cons (SeqAt.EqAt.str_str x t y t' prog w _ _ ?_)
    rw [beq_eq_false_iff_ne.mpr ne]
    exact PySem.W.kat_no (oneLt_str ⟨rfl, rfl⟩)
theorem fst_firsts {h : Heap} {k : Value → Str} : ∀ {vs : List Value}, (∀ v ∈ vs, FstT h v (k v)) → ∃ fs : List Value, PySem.W.KatTups h vs fs ∧ fs.length = vs.length ∧ ∀ f ∈ fs, ∃ x t, f = Value.str x t
  | [], _ => ⟨[], PySem.W.KatTups.nil, rfl, fun _ hm => by simp at hm⟩
  | v :: vs, hp => by
    obtain ⟨fs, h1, h2, h3⟩ := fst_firsts (vs := vs) fun v' hm => hp v' (List.mem_cons_of_mem _ hm)
    obtain ⟨a, o, xs, n, t, e, ho, hc, hd, h0, hs⟩ := hp v (List.mem_cons_self ..)
    generalize k v = x at h0
    subst e
    refine ⟨.str x t :: fs, PySem.W.KatTups.cons ho hc hd h0 h1, by rw [List.length_cons, List.length_cons, h2], fun f hm => ?_⟩
    rcases List.mem_cons.mp hm with rfl | hm
    · exact ⟨x, t, rfl⟩
    · exact h3 f hm
theorem fst_sortableO {a : Addr} {vs : List Value} {k : Value → Str} (h0 : 0 < vs.length) (hp : ∀ v ∈ vs, FstT s.heap v (k v)) (hk : ∀ v ∈ vs, ∀ u ∈ vs, k v = k u → v = u) (ha : ∀ o, s.heap.get? a = some o → o.cls ≠ .type "tuple") :
    SortableO prog w A s a vs fun v u => ltS (k v) (k u) := by
  intro h' keep
  have hp' : ∀ v ∈ vs, FstT h' v (k v) := fun v hm => (hp v hm).keeps fun b o e c => keep b o (fun z => by subst z; exact ha o e c) e
  obtain ⟨fs, h1, h2, h3⟩ := fst_firsts hp'
  refine ⟨tuples' true, fun Q E hq => ?_, fst_cmp hp' hk⟩
  refine PySem.W.kat_kind (T := .type "str") h1 (by omega) (fun f hm => ?_) (by rfl) ?_
  · obtain ⟨x, t, rfl⟩ := h3 f hm
    exact PySem.W.Looks.now
  · have e : (Value.type "str" != Value.type "tuple") = true := by first | decide +kernel | rfl | decide
    rw [e]
    exact hq
theorem sorted_fstO {l : Addr} {vs : List Value} {k : Value → Str} {Q : Value → Shared → Prop} (hl : s.heap.IsList l vs.toArray) (hz : vs.length ≤ sizeLine) (hp : ∀ v ∈ vs, FstT s.heap v (k v)) (hk : ∀ v ∈ vs, ∀ u ∈ vs, k v = k u → v = u)
    (h : ∀ (h' : Heap) (d : Addr) (out : List Value), Srtd (fun v u => ltS (k v) (k u)) out → out.Perm vs → (∀ b o, s.heap.get? b = some o → h'.get? b = some o) → s.heap.objs.size ≤ d → (∃ n, h'.get? d = some (seqObj "list" out.toArray n)) → Q (.ref d) { s with heap := h' }) :
    wpAny (model prog w) A (call (.builtin "sorted") [.ref l]) Q E s := by
  refine sorted_ord (swo_ltS k) hl hz (fun h2 h₁ a ha kk => ?_) fun out hs hb => ?_
  · refine fst_sortableO (s := { s with heap := h₁ }) (by omega) (fun v hm => (hp v hm).keeps fun b o e _ => (kk b o e).2) hk fun o e => ?_
    have e' : some o = some (seqObj "list" vs.toArray 0) := e.symm.trans ha
    cases e'
    intro c
    exact absurd (Value.type.inj c) (by decide)
  · exact h _ _ out hs hb.perm (fun b o e => sortedAll_old e) (Nat.le_succ _) (sortedAll_at s.heap vs out.toArray)
end
end SrtF
namespace DL
open PySem PySem.Spec L2 SrtF
def ltF (a b : V × Str) : Bool := !ltS b.2 a.2
def rSortF (K : PySem.W.Frag) : List V → Hp → VK → Prop := fun vs H Q => ∃ (a : Addr) (bs : List (V × Str)), vs = [V.ref a] ∧ SqL K H a (bs.map (·.1)) ∧
  (∀ b ∈ bs, ∃ c rest, b.1 = V.ref c ∧ SqT K H c (.str b.2 :: rest) ∧ ∀ z ∈ rest, ∀ v, RelV z v → (v == v) = true) ∧ (bs.map (·.2)).Nodup ∧
  ∀ p, H p = none → Q (.ref p) (upd H p (.lst ((bs.mergeSort ltF).map (·.1))))
def gV : V → Value
  | .ref c => .ref c
  | _ => .none
def nmOf (h : Heap) (v : Value) : Str := match v with
  | .ref a => (match h.get? a with
    | some o => (match o.data with
      | .seq xs _ => (match (xs[0]? : Option Value) with
        | some (Value.str x _) => x
        | _ => "")
      | _ => "")
    | none => "")
  | _ => ""
theorem nmOf_fst {h : Heap} {v : Value} {x : Str} (p : FstT h v x) : nmOf h v = x := by
  obtain ⟨a, o, xs, n, t, e, ho, hc, hd, h0, hs⟩ := p
  subst e
  unfold nmOf
  simp only [ho, hd, h0]
theorem fst_all {X : Cx} {pins : List (Addr × Obj)} {σ : St} {H : Hp} {s : Shared} (I : Inv X pins σ H s) : ∀ {bs : List (V × Str)} {its : List Value}, Vals (bs.map (·.1)) its →
    (∀ b ∈ bs, ∃ c rest, b.1 = V.ref c ∧ SqT X.K H c (.str b.2 :: rest) ∧ ∀ z ∈ rest, ∀ v, RelV z v → (v == v) = true) → its = bs.map (fun b => gV b.1) ∧ ∀ b ∈ bs, RelV b.1 (gV b.1) ∧ FstT s.heap (gV b.1) b.2
  | [], _, r, _ => by
    cases r
    exact ⟨rfl, fun b h => nomatch h⟩
  | b :: bs, _, r, h => by
    cases r with
    | cons r1 r2 =>
      obtain ⟨e1, e2⟩ := fst_all I (bs := bs) r2 fun x hx => h x (List.mem_cons_of_mem _ hx)
      obtain ⟨c, rest, eb, hs, pl⟩ := h b (List.mem_cons_self ..)
      obtain ⟨xs, rv, ht, _⟩ := I.tuple hs
      have r1 : RelV b.1 _ := r1
      rw [eb] at r1
      have r1 : _ = Value.ref c := r1
      subst r1
      cases rv with
      | cons q1 q2 =>
        obtain ⟨t, rfl⟩ := q1
        rename_i us
        obtain ⟨o, ho, hc, n, hd⟩ := ht
        refine ⟨by rw [List.map_cons, eb, ← e1]; rfl, fun z hz => ?_⟩
        rcases List.mem_cons.mp hz with rfl | hz
        · rw [eb]
          refine ⟨rfl, c, o, _, n, t, rfl, ho, hc, hd, by simp, fun u hu => ?_⟩
          have hu : u ∈ Value.str z.2 t :: us := by simpa using hu
          rcases List.mem_cons.mp hu with rfl | hu
          · simp
          · have key : ∀ {rest : List V} {us : List Value}, Vals rest us → (∀ z ∈ rest, ∀ v, RelV z v → (v == v) = true) → ∀ u ∈ us, (u == u) = true := by
              intro rest us rv
              induction rv with
              | nil => intro _ u hu; cases hu
              | cons r1 r2 ih =>
                intro pl u hu
                rcases List.mem_cons.mp hu with rfl | hu
                · exact pl _ (List.mem_cons_self ..) _ r1
                · exact ih (fun z hz => pl z (List.mem_cons_of_mem _ hz)) u hu
            exact key q2 pl u hu
        · exact e2 z hz
theorem cr_sortF {X : Cx} : CallR X (.builtin "sorted") (rSortF X.K) := by
  intro pins s σ H vs us Q I r h
  obtain ⟨a, bs, rfl, hs, hd, hn, q⟩ := h
  obtain ⟨its, rv, hl, hz⟩ := I.list hs
  rw [Vals.ref1 r]
  obtain ⟨e1, e2⟩ := fst_all I rv hd
  have hz : its.length ≤ sizeLine := by rw [e1, List.length_map]; rw [List.length_map] at hz; exact hz
  let g : V × Str → Value := fun b => gV b.1
  have e1 : its = bs.map g := e1
  have e2 : ∀ b ∈ bs, RelV b.1 (g b) ∧ FstT s.heap (g b) b.2 := e2
  have kg : ∀ b ∈ bs, nmOf s.heap (g b) = b.2 := fun b hb => nmOf_fst (e2 b hb).2
  have one : ∀ b ∈ bs, ∀ c ∈ bs, b.2 = c.2 → b = c := fun b hb c hc e => by
    have : ∀ (l : List (V × Str)), (l.map (·.2)).Nodup → b ∈ l → c ∈ l → b = c := by
      intro l
      induction l with
      | nil => intro _ h; cases h
      | cons x l ih =>
        intro hn h1 h2
        rw [List.map_cons, List.nodup_cons] at hn
        rcases List.mem_cons.mp h1 with rfl | k1 <;> rcases List.mem_cons.mp h2 with rfl | k2
        · rfl
        · exact (hn.1 (List.mem_map.mpr ⟨c, k2, e.symm⟩)).elim
        · exact (hn.1 (List.mem_map.mpr ⟨b, k1, e⟩)).elim
        · exact ih hn.2 k1 k2
    exact this bs hn hb hc
  refine sorted_fstO (k := nmOf s.heap) hl.isList hz (fun v hv => ?_) (fun v hv u hu e => ?_) fun h' d out so po kp hD hd' => ?_
  · rw [e1] at hv
    obtain ⟨b, hb, rfl⟩ := List.mem_map.mp hv
    rw [kg b hb]
    exact (e2 b hb).2
  · rw [e1] at hv hu
    obtain ⟨b, hb, rfl⟩ := List.mem_map.mp hv
    obtain ⟨c, hc, rfl⟩ := List.mem_map.mp hu
    rw [kg b hb, kg c hc] at e
    rw [one b hb c hc e]
  · -- the one sorted list
    have hm : ∀ b ∈ bs.mergeSort ltF, b ∈ bs := fun b hb => List.mem_mergeSort.mp hb
    have pw : (bs.mergeSort ltF).Pairwise (fun a b => ltF a b = true) := List.pairwise_mergeSort (le := ltF) (fun a b c h1 h2 => by
      unfold ltF at *
      simp only [Bool.not_eq_true'] at *
      exact ltS_tr h1 h2) (fun a b => by
      unfold ltF
      cases h : ltS b.2 a.2 with
      | false => simp
      | true => simp [ltS_asym h]) bs
    have eo : out = (bs.mergeSort ltF).map g := by
      have pm : out.Perm ((bs.mergeSort ltF).map g) := by
        rw [e1] at po
        exact po.trans ((List.mergeSort_perm bs ltF).symm.map g)
      refine pm.eq_of_pairwise (le := fun v u => ltS (nmOf s.heap u) (nmOf s.heap v) = false) (fun v u hv hu h1 h2 => ?_) so (List.pairwise_map.mpr (pw.imp_of_mem fun {a b} ha hb h => ?_))
      · have hv := po.mem_iff.mp hv
        rw [e1] at hv
        obtain ⟨b, hb, rfl⟩ := List.mem_map.mp hv
        obtain ⟨c, hc, rfl⟩ := List.mem_map.mp hu
        have hc := hm c hc
        rw [kg b hb, kg c hc] at h1 h2
        rw [one b hb c hc (ltS_anti h1 h2)]
      · rw [kg a (hm a ha), kg b (hm b hb)]
        unfold ltF at h
        simpa using h
    have rvo : Vals ((bs.mergeSort ltF).map (·.1)) out := by
      rw [eo]
      have : ∀ l : List (V × Str), (∀ b ∈ l, b ∈ bs) → Vals (l.map (·.1)) (l.map g) := by
        intro l
        induction l with
        | nil => intro _; exact .nil
        | cons b l ih => intro h; exact .cons (e2 b (h b (List.mem_cons_self ..))).1 (ih fun x hx => h x (List.mem_cons_of_mem _ hx))
      exact this _ hm
    have hlen : ((bs.mergeSort ltF).map (·.1)).length ≤ sizeLine := by
      rw [List.length_map, List.length_mergeSort]
      rw [e1, List.length_map] at hz
      exact hz
    obtain ⟨ep, hd'⟩ := hd'
    exact ⟨.ref d, upd H d (.lst ((bs.mergeSort ltF).map (·.1))), I.laid (t' := s.toks) kp hD ⟨hlen, out, ep, rvo, hd'⟩, rfl, q d (I.hok.fresh hD)⟩
def D.fst? : D → Option Str
  | .tup (.str x :: _) => some x
  | _ => none
def D.sortF (l : List D) : Bool := l.all (fun d => d.fst?.isSome) && decide ((l.map fun d => d.fst?.getD "").Nodup)
def D.leF (a b : D) : Bool := !ltS (b.fst?.getD "") (a.fst?.getD "")
def D.sorted2 : D → M D
  | .lst l => need (D.sortF l) >>= fun _ => .ok (.lst (l.mergeSort D.leF))
  | _ => stuck
theorem Rp.selfEq {K : PySem.W.Frag} {F : Hp} {u : V} {d : D} (r : Rp K F u d) : ∀ v, RelV u v → (v == v) = true := by
  intro v h
  cases r with
  | non => cases h; rfl
  | bl b => cases h; simp
  | int i =>
    obtain ⟨t, rfl⟩ := h
    simp
  | str x _ =>
    obtain ⟨t, rfl⟩ := h
    simp
  | _ =>
    cases h
    simp
theorem sortF_op {X : Cx} : OpN X.K (f1 D.sorted2) (rSortF X.K) := opN1 fun E F H v d Q s r q => by
  cases d with
  | lst l =>
    have q : WpG X.K E (rE X.K) (need (D.sortF l) >>= fun _ => .ok (.lst (l.mergeSort D.leF))) F H Q := q
    obtain ⟨c, q⟩ := q.need
    obtain ⟨c1, c2⟩ := and2 c
    have c2 := of_decide_eq_true c2
    obtain ⟨p, xs, rfl, h, r⟩ := r.lst s
    have hl : xs.length = l.length := r.length
    let nm : D → Str := fun d => d.fst?.getD ""
    obtain ⟨h1, h2, h3⟩ := rpl_zip r
    have b1 : (xs.zip (l.map nm)).map (·.1) = xs := List.map_fst_zip (by rw [List.length_map]; omega)
    have b2 : (xs.zip (l.map nm)).map (·.2) = l.map nm := List.map_snd_zip (by rw [List.length_map]; omega)
    have bz : xs.zip (l.map nm) = (xs.zip l).map fun c => (c.1, nm c.2) := by
      rw [List.zip_map_right]
      rfl
    have srt : RpL X.K F (((xs.zip (l.map nm)).mergeSort ltF).map (·.1)) (l.mergeSort D.leF) := by
      have e1 : (((xs.zip (l.map nm)).mergeSort ltF).map (·.1)) = ((xs.zip l).mergeSort fun a b => D.leF a.2 b.2).map (·.1) := by
        rw [bz, ← List.map_mergeSort (r := fun a b : V × D => D.leF a.2 b.2), List.map_map]
        · rfl
        · intro a _ b _
          rfl
      have e2 : l.mergeSort D.leF = ((xs.zip l).mergeSort fun a b => D.leF a.2 b.2).map (·.2) := by
        rw [List.map_mergeSort (s := D.leF), h2]
        intro a _ b _
        rfl
      rw [e1, e2]
      exact rpl_of fun c hc => h3 c (List.mem_mergeSort.mp hc)
    refine ⟨p, xs.zip (l.map nm), rfl, by rw [b1]; exact SqL.of h, fun b hb => ?_, by rw [b2]; exact c2, new_lst s srt q⟩
    rw [bz] at hb
    obtain ⟨z, hz, rfl⟩ := List.mem_map.mp hb
    have hz2 : z.2 ∈ l := by
      rw [← h2]
      exact List.mem_map.mpr ⟨z, hz, rfl⟩
    have f1 := List.all_eq_true.mp c1 _ hz2
    have rz := h3 z hz
    show ∃ c rest, z.1 = V.ref c ∧ SqT X.K H c (.str (nm z.2) :: rest) ∧ _
    generalize z.1 = v at rz
    generalize z.2 = dz at rz f1
    cases dz with
    | tup ds =>
      cases rz with
      | tup hs rs =>
        match ds, f1, rs with
        | .str x :: ds', _, .cons rx rs' =>
          cases rx with
          | str _ hx =>
            refine ⟨_, _, rfl, Same.seqT s (hs).sqT, ?_⟩
            have key : ∀ {vs : List V} {ds : List D}, RpL X.K F vs ds → ∀ z ∈ vs, ∀ v, RelV z v → (v == v) = true := by
              intro vs
              induction vs with
              | nil => intro _ _ z hz; cases hz
              | cons u vs ih =>
                intro ds r z hz
                cases r with
                | cons r1 r2 =>
                  rcases List.mem_cons.mp hz with rfl | hz
                  · exact Rp.selfEq r1
                  · exact ih r2 z hz
            exact key rs'
    | _ => cases f1
  | _ => exact q.elim
end DL

set_option Elab.async false
set_option linter.all false
set_option maxRecDepth 100000
set_option maxHeartbeats 4000000
namespace L2
open PySem PySem.Spec PyProof.Rows
section
variable {X : Cx}
end
end L2
namespace DL
open PySem PySem.Spec L2
section
variable {X : Cx} {E : St → XK} {G : List Sl} {pos : Pos}
def DDL (X : Cx) (E : St → XK) (G : List Sl) (e : Expr) (m : M D) : Prop :=
  ∃ t, PE X e t ∧ (∀ {i : Nat} {y : Str} {py spos : Pos}, X.N[i]? = some y → X.env.scope.names.lookup y = some .local → swapsWith e (some (.Name y py)) spos.line X.env = pure true → PS X (.Assign [.Name y py] e spos) (tAsg t (gName i))) ∧
    ∀ B σ F H Q, Same F H → GOk X.K B G σ F H → WpG X.K (E σ) (fun F' _ v d => Rp X.K F' v d) m F H Q → t σ H Q
theorem DDL.de {e : Expr} {m : M D} (h : DDL X E G e m) : DE X E G e m := let ⟨t, p, _, w⟩ := h; ⟨t, p, w⟩
end
section
variable {X : Cx} {E : XK} {G : List Sl} {e : Expr} {pos : Pos}
end
end DL

set_option Elab.async false
set_option linter.all false
set_option maxRecDepth 100000
set_option maxHeartbeats 4000000
namespace DL
open PySem PySem.Spec L2
def Sl.ol : Option (List D) → Sl
  | none => .val .non
  | some l => .own l
section
variable {X : Cx} {E : XK} {G : List Sl} {e : Expr} {pos : Pos} {st : Stmt} {rest body : List Stmt}
end
section
variable {P : Program} {w : World} {K : PySem.W.Frag} {mg : Str → Option Value} {base : Heap} {x qual : Str} {params : Arguments} {body : List Stmt} {scope : Scope} {dvs : List V} {kws : List (Str × V)} {f : Addr} {fd : FuncData}
end
section
variable {X : Cx} {E : St → XK} {G : List Sl} {a b c e : Expr} {ma mb mc : M D} {pos : Pos} {F H : Hp}
end
end DL

set_option Elab.async false
set_option linter.all false
set_option maxRecDepth 100000
set_option maxHeartbeats 4000000
namespace DL
open PySem PySem.Spec L2
structure RoomP (k : Nat) (A : Around) : Prop where
  dp : A.depth + 3 * k + 5 < recursionLimit
  un : A.units + 16 * k + 200 < cLine
theorem RoomP.mono {j k : Nat} {A : Around} (r : RoomP k A) (h : j ≤ k) : RoomP j A := ⟨by have := r.dp; omega, by have := r.un; omega⟩
theorem RoomP.deeper {k : Nat} {A : Around} (r : RoomP (k + 1) A) (env : Env) : RoomP k (A.deeper env) :=
  ⟨by have := r.dp; show A.depth + 1 + 3 * k + 5 < _; omega, by have := r.un; show A.units + 3 + 16 * k + 200 < _; omega⟩
theorem RoomP.u70 {k : Nat} {A : Around} (r : RoomP k A) : A.units + 70 < cLine := by have := r.un; omega
structure FnP (P : Program) (w : World) (K : PySem.W.Frag) (mg : Str → Option Value) (base : Heap) (CX : CXT) (k : Nat) (f : Addr) (fd : FuncData) (ps : List Str) (sp : Sp) : Prop where
  ln : ∀ vs H Q E, sp vs H Q E → vs.length = ps.length
  go : ∀ (A : Around) (o : List Env) (s : Shared) (H : Hp) (ar : Args) (us : List Value) (vs : List V) (Q : VK) (E : XK), RoomP k A → Env0 P w K mg base A o s H → BindsTo s fd ar (ps.zip us) → Vals vs us → sp vs H Q E → codeAny (model P w) A (.call (.ref f) ar) (CR CX o P w H s Q E) s
section
variable {P : Program} {w : World} {K : PySem.W.Frag} {mg : Str → Option Value} {base : Heap} {CX : CXT} {f : Addr} {fd : FuncData} {x : Str} {qual : Str} {params : Arguments} {body : List Stmt} {scope : Scope} {dvs : List V} {kws : List (Str × V)}
end
section
variable {X : Cx} {G : List Sl} {a : Expr} {pos : Pos}
end
end DL

set_option Elab.async false
set_option linter.all false
set_option maxRecDepth 100000
set_option maxHeartbeats 4000000
namespace DL
open PySem PySem.Spec L2
def stepL {α : Type} (k : Int) (l : List α) : List α := (sliceRange 0 (l.length : Nat) k).filterMap (l[·]?)
theorem RpL.pick {K : PySem.W.Frag} {F : Hp} {xs : List V} {ds : List D} (r : RpL K F xs ds) : ∀ is : List Nat, RpL K F (is.filterMap (xs[·]?)) (is.filterMap (ds[·]?))
  | [] => .nil
  | i :: is => by
    have ih := RpL.pick r is
    cases h : xs[i]? with
    | none =>
      have h2 : ds[i]? = none := by
        rw [List.getElem?_eq_none_iff] at h ⊢
        rw [← r.length]
        exact h
      rw [List.filterMap_cons_none h, List.filterMap_cons_none h2]
      exact ih
    | some x =>
      obtain ⟨u, h2, ru⟩ := r.getV h
      rw [List.filterMap_cons_some h, List.filterMap_cons_some h2]
      exact .cons ru ih
section
variable {X : Cx} {E : St → XK} {G : List Sl} {e st : Expr} {te ts : TE} {ma mb : M D} {p3 pos : Pos}
@[simp] abbrev mStepL (ma mb : M D) : M (List D) := ma >>= fun x => mb >>= fun y => match x, y with
  | .lst l, .int k => need (decide (0 < k)) >>= fun _ => .ok (stepL k l)
  | _, _ => stuck
end
end DL

set_option Elab.async false
set_option linter.all false
set_option maxRecDepth 100000
set_option maxHeartbeats 4000000
namespace DL
open PySem PySem.Spec L2
section
variable {X : Cx} {E : XK} {G : List Sl} {e : Expr} {pos : Pos}
end
end DL

set_option Elab.async false
set_option linter.all false
set_option maxRecDepth 100000
set_option maxHeartbeats 4000000
namespace DL
open PySem PySem.Spec L2
section
variable {X : Cx} {E : St → XK} {G : List Sl} {a b : Expr} {ma mb : M D} {pos : Pos}
end
end DL

set_option Elab.async false
set_option linter.all false
set_option maxRecDepth 100000
set_option maxHeartbeats 4000000
namespace DL
open PySem PySem.Spec L2
section
variable {X : Cx} {E : St → XK} {G : List Sl} {pos : Pos} {body : List Stmt}
end
end DL

set_option Elab.async false
set_option linter.all false
set_option maxRecDepth 100000
set_option maxHeartbeats 4000000
namespace DL
open PySem PySem.Spec L2
section
variable {P : Program} {w : World} {K : PySem.W.Frag} {mg : Str → Option Value} {base : Heap} {x qual : Str} {params : Arguments} {body : List Stmt} {scope : Scope} {dvs : List V} {kws : List (Str × V)} {f : Addr} {fd : FuncData}
end
section
variable {X : Cx} {E : St → XK} {G : List Sl} {a b : Expr} {ml : M (List D)} {mb : M D} {pos : Pos}
@[simp] abbrev mCallC (m : List D → M D) (ml : M (List D)) (mb : M D) : M D := ml >>= fun l => mb >>= fun d => m [.lst l, d]
end
end DL

set_option Elab.async false
set_option linter.all false
set_option maxRecDepth 100000
set_option maxHeartbeats 4000000
namespace DL
open PySem PySem.Spec PyProof.Rows L2
open PySem.Builtin PySem.Builtin.Str
section
variable {X : Cx} {o : Expr} {to : TE} {y z : Str} {j k l : Nat} {c0 c1 c2 apos pos : Pos}
end
end DL
namespace DL
open PySem PySem.Spec L2
section
variable {X : Cx} {st : Stmt} {rest : List Stmt} {t u : TS}
end
section
variable {X : Cx} {E : XK} {G : List Sl} {a b c e : Expr} {ma mb mc : M D} {pos : Pos} {st : Stmt} {rest body : List Stmt}
def DBk (X : Cx) (E : XK) (G : List Sl) (body : List Stmt) {α : Type} (m : M α) (post : α → Oc) : Prop :=
  ∃ t, PSsT X body t ∧ ∀ B0 B σ F H D, Ext B0 B F H → GOk X.K B G σ F H → WpB X.K E B0 B post m F D → t D σ H
def DSk (X : Cx) (E : XK) (G : List Sl) (st : Stmt) {α : Type} (m : M α) (post : α → Oc) : Prop :=
  ∃ t, PST X st t ∧ ∀ B0 B σ F H D, Ext B0 B F H → GOk X.K B G σ F H → WpB X.K E B0 B post m F D → t D σ H
theorem DBk.of {α : Type} {m : M α} {post : α → Oc} (h : DB X E G body m post) : DBk X E G body m post := let ⟨t, p, w⟩ := h; ⟨t, PSsT.of p, w⟩
theorem DSk.of {α : Type} {m : M α} {post : α → Oc} (h : DS X E G st m post) : DSk X E G st m post := let ⟨t, p, w⟩ := h; ⟨t, PST.of p, w⟩
end
section
variable {X : Cx} {E : St → XK} {G : List Sl} {a : Expr} {ma : M D} {pos : Pos}
end
end DL

set_option Elab.async false
set_option linter.all false
set_option maxRecDepth 100000
set_option maxHeartbeats 1000000
namespace DL
open PySem PySem.Spec L2
section
variable {X : Cx} {E : St → XK} {G : List Sl} {a b : Expr} {ma mb : M D} {pos : Pos}
end
end DL

set_option Elab.async false
set_option linter.all false
set_option maxRecDepth 100000
set_option maxHeartbeats 1000000
namespace DL
open PySem PySem.Spec L2
abbrev TabL := List (String × D)
def D.inTab (l : TabL) : D → M Bool
  | .str z => .ok (l.any fun q => decide (Str.ofString q.1 = z))
  | _ => stuck
def TabOk (K : PySem.W.Frag) (w : World) (a : Addr) (l : TabL) : Prop := ∃ es n, KDict K w a es n ∧
  ∀ z : Str, (PySem.W.nsIn K a z = some none ∧ l.find? (fun q => decide (Str.ofString q.1 = z)) = none) ∨
    ∃ u v q, PySem.W.nsIn K a z = some (some u) ∧ l.find? (fun q => decide (Str.ofString q.1 = z)) = some q ∧ RelV v u ∧ ∀ F, Rp K F v q.2
section
variable {X : Cx} {E : St → XK} {G : List Sl} {a b : Expr} {ma : M D} {pos : Pos} {d : Addr} {l : TabL} {te : TE}
theorem find_any (l : TabL) (z : Str) : (l.find? fun q => decide (Str.ofString q.1 = z)).isSome = l.any fun q => decide (Str.ofString q.1 = z) := by
  induction l with
  | nil => rfl
  | cons q l ih =>
    rw [List.find?_cons, List.any_cons]
    cases decide (Str.ofString q.1 = z) with
    | true => rfl
    | false => exact ih
theorem tab_in (T : TabOk X.K X.w d l) {neg : Bool} {E₁ : XK} {F H : Hp} {v : V} {x : D} {Q : VK} (s : Same F H) (rx : RpT X.K F H v x) (q : WpG X.K E₁ (rE X.K) (bD (D.inTab l x >>= fun k => .ok (neg != k))) F H Q) :
    ∃ (z : Str) (r : Option Value), v = .str z ∧ PySem.W.nsIn X.K d z = some r ∧ Q (.bl (neg != r.isSome)) H := by
  obtain ⟨es, n, KD, look⟩ := T
  cases x with
  | str z =>
    have e := rx.str.1
    have q : WpG X.K E₁ (rE X.K) (.ok (.bl (neg != l.any fun q => decide (Str.ofString q.1 = z)))) F H Q := q
    rw [← find_any] at q
    rcases look z with ⟨h1, h2⟩ | ⟨u, w, p, h1, h2, _⟩
    · rw [h2] at q
      exact ⟨z, none, e, h1, q F H _ (Ext.refl s) (.bl _)⟩
    · rw [h2] at q
      exact ⟨z, some u, e, h1, q F H _ (Ext.refl s) (.bl _)⟩
  | _ => exact q.elim
theorem bind_bD {m : M D} {f : D → M Bool} : (m >>= fun x => bD (f x)) = bD (m >>= f) := by cases m <;> rfl
theorem inTab_f (l : TabL) (x : D) : D.inTab l x = (D.inTab l x >>= fun k => .ok (false != k)) := by
  cases D.inTab l x with
  | error e => rfl
  | ok k => cases k <;> rfl
theorem dt_inTab (T : TabOk X.K X.w d l) (hn : PE X b (tC (.ref d))) (ha : DR X E G a ma) (hm : behindInMarks .In b = false := by rfl) : DT X E G (.Compare a [.In] [b] pos) (ma >>= fun x => D.inTab l x) := by
  have T0 := T
  obtain ⟨es, n, KD, _⟩ := T
  obtain ⟨ta, pa, wa⟩ := ha
  refine DT.ofE (t := tOp _ ta (tC (.ref d))) (pt_cmpR (op_in_kd KD) pa hn hm) (fun B σ F H Q s g q => wa B σ F H _ s g (WpG.bind (show WpG X.K (E σ) (rE X.K) (ma >>= fun x => bD (D.inTab l x)) F H Q by rw [bind_bD]; exact q) fun y F1 H1 v x1 r1 q1 => ?_)) (fun _ _ _ h => h)
  rw [inTab_f] at q1
  obtain ⟨z, r, h1, h2, h3⟩ := tab_in T0 x1.sFH r1 q1
  refine ⟨z, r, h1, rfl, h2, ?_⟩
  rw [Bool.false_bne] at h3
  exact h3
end
def tvB (K : PySem.W.Frag) : D → Value → Bool
  | .int i, .int j _ => decide (i = j)
  | .str x, .str y _ => decide (x = y) && PyData.strOk x
  | .tup ds, .ref a => (match K.lookup a with
    | some ⟨.type c, none, .seq its _, _⟩ => decide (c = "tuple") && (decide (its.size ≤ sizeLine) && (decide (its.size = ds.length) && (ds.zip its.toList).all fun q => match q.1, q.2 with
      | .str x, .str y _ => decide (x = y) && PyData.strOk x
      | _, _ => false))
    | _ => false)
  | _, _ => false
theorem tvs_ok {K : PySem.W.Frag} {F : Hp} : ∀ {ds : List D} {us : List Value}, us.length = ds.length → ((ds.zip us).all fun q => match q.1, q.2 with
      | .str x, .str y _ => decide (x = y) && PyData.strOk x
      | _, _ => false) = true → ∃ xs, Vals xs us ∧ RpL K F xs ds
  | [], [], _, _ => ⟨[], .nil, .nil⟩
  | [], _ :: _, h, _ => by simp at h
  | _ :: _, [], h, _ => by simp at h
  | d :: ds, u :: us, h, q => by
    rw [List.zip_cons_cons, List.all_cons] at q
    obtain ⟨q1, q2⟩ := and2 q
    obtain ⟨xs, h1, h2⟩ := tvs_ok (K := K) (F := F) (by simpa using h) q2
    cases d with
    | str x => cases u with
      | str y t =>
        obtain ⟨q3, q4⟩ := and2 q1
        have e := of_decide_eq_true q3
        subst e
        exact ⟨.str x :: xs, .cons ⟨t, rfl⟩ h1, .cons (.str x q4) h2⟩
      | _ => cases q1
    | _ => cases q1
theorem tvB_ok {K : PySem.W.Frag} {d : D} {u : Value} (h : tvB K d u = true) : ∃ v, RelV v u ∧ ∀ F, Rp K F v d := by
  unfold tvB at h
  split at h
  · rename_i i j t
    have e := of_decide_eq_true h
    subst e
    exact ⟨.int i, ⟨t, rfl⟩, fun F => .int i⟩
  · rename_i x y t
    obtain ⟨h1, h2⟩ := and2 h
    have e := of_decide_eq_true h1
    subst e
    exact ⟨.str x, ⟨t, rfl⟩, fun F => .str x h2⟩
  · rename_i ds a
    split at h
    · rename_i c its n sl e
      obtain ⟨h1, h2⟩ := and2 h
      obtain ⟨h3, h4⟩ := and2 h2
      obtain ⟨h5, h6⟩ := and2 h4
      have e1 := of_decide_eq_true h1
      subst e1
      refine ⟨.ref a, rfl, fun F => ?_⟩
      obtain ⟨xs, x1, x2⟩ := tvs_ok (K := K) (F := F) (us := its.toList) (by simpa using of_decide_eq_true h5) h6
      exact .tup (.inr ⟨_, its, n, e, rfl, rfl, rfl, of_decide_eq_true h3, x1⟩) x2
    · cases h
  · cases h
abbrev Tb : Type := Str × TabL
def tbB (K : PySem.W.Frag) (t : Tb) : Bool := t.2.all fun q => match PySem.W.nsIn K (He.ga K t.1) (Str.ofString q.1) with
  | some (some u) => tvB K q.2 u
  | _ => false
abbrev AlTb : Type := Bool × List (Option (List (Option (Str × Int))))
def seenTb (ts : List Tb) (K : PySem.W.Frag) : AlTb := (ts.all (tbB K), ts.map fun t => He.dicW K (He.ga K t.1))
def dueTb (ts : List Tb) (w : World) : AlTb := (true, ts.map fun t => some (He.keysIn w.params (t.2.map fun q => Str.ofString q.1)))
theorem keyOf_some {e : DictEntry} {k : Str} {h : Int} (q : He.keyOf e = some (k, h)) : ∃ t, e.key = .str k t := by
  unfold He.keyOf at q
  split at q
  · rename_i x t e
    cases q
    exact ⟨t, e⟩
  · cases q
theorem ns_find {P : Params} {z : Str} : ∀ {es : List DictEntry} {ks : List Str}, es.map He.keyOf = He.keysIn P ks → z ∉ ks → es.find? (·.key.isStr z) = none ∧ es.any (·.refKey) = false
  | [], _, _, _ => ⟨rfl, rfl⟩
  | e :: es, [], h, _ => by cases h
  | e :: es, k :: ks, h, hz => by
    have h1 : He.keyOf e :: es.map He.keyOf = some (k, PyData.keyHash P k) :: He.keysIn P ks := h
    injection h1 with h2 h3
    obtain ⟨t, ek⟩ := keyOf_some h2
    obtain ⟨i1, i2⟩ := ns_find (z := z) h3 (fun m => hz (List.mem_cons_of_mem _ m))
    have n1 : e.key.isStr z = false := by
      rw [ek]
      show decide (k = z) = false
      exact decide_eq_false fun q => hz (by rw [← q]; exact List.mem_cons_self ..)
    refine ⟨?_, ?_⟩
    · rw [List.find?_cons, n1]
      exact i1
    · rw [List.any_cons, i2, Bool.or_false]
      unfold DictEntry.refKey
      rw [ek]
theorem tab_of {K : PySem.W.Frag} {w : World} {ts : List Tb} (c : seenTb ts K = dueTb ts w) {t : Tb} (ht : t ∈ ts) : TabOk K w (He.ga K t.1) t.2 := by
  have c1 : ts.all (tbB K) = true := congrArg (fun z : AlTb => z.1) c
  have c2 : (ts.map fun t => He.dicW K (He.ga K t.1)) = ts.map fun t => some (He.keysIn w.params (t.2.map fun q => Str.ofString q.1)) := congrArg (fun z : AlTb => z.2) c
  have b := List.all_eq_true.mp c1 t ht
  obtain ⟨i, hi, ei⟩ := List.getElem_of_mem ht
  have c3 : He.dicW K (He.ga K t.1) = some (He.keysIn w.params (t.2.map fun q => Str.ofString q.1)) := by
    have e2 : (ts.map fun t => He.dicW K (He.ga K t.1))[i]? = (ts.map fun t => some (He.keysIn w.params (t.2.map fun q => Str.ofString q.1)))[i]? := by rw [c2]
    rw [List.getElem?_map, List.getElem?_map, List.getElem?_eq_getElem hi, ei] at e2
    exact Option.some.inj e2
  obtain ⟨es, n, KD⟩ := He.dicW_ok c3
  refine ⟨es, n, KD, fun z => ?_⟩
  have ek : es.toList.map He.keyOf = He.keysIn w.params (t.2.map fun q => Str.ofString q.1) := by
    unfold He.dicW at c3
    rw [KD.at_] at c3
    dsimp only at c3
    split at c3
    · exact Option.some.inj c3
    · cases c3
  cases hf : t.2.find? fun q => decide (Str.ofString q.1 = z) with
  | none =>
    refine .inl ⟨?_, rfl⟩
    have hz : z ∉ t.2.map fun q => Str.ofString q.1 := fun m => by
      obtain ⟨q, hq, e⟩ := List.mem_map.mp m
      have := List.find?_eq_none.mp hf q hq
      simp [e] at this
    obtain ⟨f1, f2⟩ := ns_find ek hz
    unfold PySem.W.nsIn
    rw [KD.at_]
    dsimp only
    rw [f1, f2]
    rfl
  | some q =>
    have hq := List.mem_of_find?_eq_some hf
    have e : Str.ofString q.1 = z := of_decide_eq_true (List.find?_some (p := fun q : String × D => decide (Str.ofString q.1 = z)) hf)
    have b2 := List.all_eq_true.mp b q hq
    rw [e] at b2
    split at b2
    · rename_i u eu
      obtain ⟨v, h1, h2⟩ := tvB_ok b2
      exact .inr ⟨u, v, q, eu, rfl, h1, h2⟩
    · cases b2
def hookGT (n : Nat) (fa : List He.Fa) (fn gt : List He.DefD) (ex : PySem.W.Frag → Bool) (ts : List Tb) : PySem.W.Hook where
  α := AlG × AlTb
  obs := fun s => (seen fa fn gt ex (He.frG s.heap.get? (He.asD s.heap.get? n)), seenTb ts (He.frG s.heap.get? (He.asD s.heap.get? n)))
  val := fun w => (due fn gt, dueTb ts w)
  says := fun w h => ∃ K : PySem.W.Frag, K.In h ∧ SaysG fa fn gt ex K ∧ seenTb ts K = dueTb ts w
  of := fun _ _ e => ⟨_, He.frG_in, congrArg (fun z : AlG × AlTb => z.1) e, congrArg (fun z : AlG × AlTb => z.2) e⟩
  keeps := fun _ _ _ ⟨K, hK, c⟩ k => ⟨K, PySem.W.Frag.In.keeps hK k, c⟩
theorem obsGT_eq {n : Nat} {fa : List He.Fa} {fn gt : List He.DefD} {ex : PySem.W.Frag → Bool} {ts : List Tb} {g : Addr → Option Obj} {s : Shared} (h : ∀ a, g a = s.heap.get? a) : (seen fa fn gt ex (He.frG g (He.asD g n)), seenTb ts (He.frG g (He.asD g n))) = (hookGT n fa fn gt ex ts).obs s := by
  have e : g = s.heap.get? := funext h
  rw [e] <;> rfl
end DL

set_option Elab.async false
set_option linter.all false
set_option maxRecDepth 100000
set_option maxHeartbeats 1000000
namespace DL
open PySem PySem.Spec L2 PyProof.Rows
section
variable {prog : Program} {w : World} {A : Around} {E : Value → Shared → Prop} {s : Shared}
end
section
variable {X : Cx} {E : XK} {G : List Sl} {e : Expr} {pos : Pos}
end
end DL

set_option Elab.async false
set_option linter.all false
set_option maxRecDepth 100000
set_option maxHeartbeats 4000000
namespace SrtF
open PySem PySem.Calls PyProof.Rows SrtO Srt
section
variable {prog : Program} {w : World} {A : Around} {s : Shared} {E : Value → Shared → Prop}
end
end SrtF
namespace DL
open PySem PySem.Spec L2 SrtF
end DL

set_option Elab.async false
set_option linter.all false
set_option maxRecDepth 100000
set_option maxHeartbeats 2000000
namespace DL
open PySem PySem.Spec L2 PyProof.Rows HT
section
variable {prog : Program} {w : World} {A : Around} {E : Value → Shared → Prop} {s : Shared}
theorem sl_rev {sl : Addr} {t : Tok} {n : Nat} {Q : Int × Int × Nat → Shared → Prop} (at_ : s.heap.IsSliceOf sl .none .none (.int (-1) t)) (fin : Q ((n : Int) - 1, -1, n) s) : wpAny (model prog w) A (Builtin.Slice.sliceApplied (.ref sl) (pure (n : Int))) Q E s := by
  obtain ⟨o, ho, hc, hd⟩ := id at_
  unfold Builtin.Slice.sliceApplied Builtin.Slice.sliceFields
  refine wpAny_bind (wpAny_bind (wpAny_field ho hd (x := .none) rfl (wpAny_bind (wpAny_field ho hd (x := .none) rfl (wpAny_bind (wpAny_field ho hd (x := .int (-1) t) rfl (wpAny_pure ?_)))))))
  refine wpAny_bind (slicePart_int ?_)
  show wpAny _ _ (if ((-1 : Int) == 0) = true then _ else _) _ _ s
  rw [if_neg (by decide)]
  refine wpAny_bind (slicePart_none (wpAny_bind (slicePart_none (wpAny_bind (wpAny_pure ?_)))))
  have ad : Builtin.Slice.sliceAdjust none none (-1) (n : Int) = ((n : Int) - 1, -1) := by
    unfold Builtin.Slice.sliceAdjust
    have h1 : (-1 : Int) < 0 := by omega
    simp only [h1, if_true]
  show wpAny _ _ (match Builtin.Slice.sliceAdjust none none (-1) (n : Int) with | (lo, hi) => pure (lo, (-1 : Int), Builtin.Slice.slicePlaces lo hi (-1))) _ _ s
  rw [ad]
  have pl : Builtin.Slice.slicePlaces ((n : Int) - 1) (-1) (-1) = n := by
    unfold Builtin.Slice.slicePlaces
    have h1 : ¬ (-1 : Int) > 0 := by omega
    simp only [h1, if_false]
    split
    · have : (-(-1 : Int)) = 1 := rfl
      rw [this, Int.ediv_one]
      omega
    · omega
  show wpAny _ _ (pure ((n : Int) - 1, (-1 : Int), Builtin.Slice.slicePlaces ((n : Int) - 1) (-1) (-1))) _ _ s
  rw [pl]
  exact wpAny_pure fin
theorem pick_rev (xs : Array Value) : ((List.range xs.size).filterMap fun (m : Nat) => xs[(((xs.size : Int) - 1) + (m : Int) * -1).toNat]?).toArray = xs.toList.reverse.toArray := by
  have key : ∀ n, n ≤ xs.size → ((List.range n).filterMap fun (m : Nat) => xs[(((xs.size : Int) - 1) + (m : Int) * -1).toNat]?) = xs.toList.reverse.take n := fun n => by
    induction n with
    | zero => intro _; rfl
    | succ n ih =>
      intro h
      have e : (((xs.size : Int) - 1) + (n : Int) * -1).toNat = xs.size - 1 - n := by omega
      have hx : xs.size - 1 - n < xs.size := by omega
      rw [List.range_succ, List.filterMap_append, ih (by omega), List.take_add_one]
      congr 1
      rw [List.getElem?_reverse (by rw [Array.length_toList]; omega)]
      simp only [List.filterMap_cons, List.filterMap_nil, e, Array.length_toList, Array.getElem?_toList]
      rw [Array.getElem?_eq_getElem hx]
      rfl
  have l : xs.toList.reverse.length = xs.size := by simp
  rw [key xs.size (Nat.le_refl _), ← l, List.take_length]
theorem getItem_tuple_rev {t sl : Addr} {items : Array Value} {k : Tok} {Q : Value → Shared → Prop} (tp : IsTup s.heap t items) (at_ : s.heap.IsSliceOf sl .none .none (.int (-1) k))
    (fin : Q (.ref s.heap.objs.size) { s with heap := s.heap.push { cls := .type "tuple", data := .seq items.toList.reverse.toArray } }) (sz : items.size ≤ sizeLine) : wpAny (model prog w) A (getItem (.ref t) (.ref sl)) Q E s := by
  have so : sizeOk (.seq items.toList.reverse.toArray) := by
    show items.toList.reverse.toArray.size ≤ sizeLine
    simpa using sz
  obtain ⟨o, ho, hc, hd⟩ := id at_
  have ts : s.TypeIs (.ref sl) "slice" := ⟨o, ho, hc⟩
  unfold getItem
  try with_reducible refine wpAny_holding ?_
  first | refine wpAny_bind (wpAny_pure ?_) | skip
  refine wpAny_bind (wpAny_sequenceKey tp.typeIs (by decide) ?_)
  refine wpAny_bind (wpAny_callSpecial?_slot (name := Str.ofString "__getitem__") tp.typeIs PyProof.Rows.slot_tuple_getitem
    (wpAny_call_entry PyProof.Rows.slot_tuple_getitem tp.typeIs entry_tuple_getitem ?_ (args_tuple_getitem _ _)))
  show wpAny _ _ (Builtin.Tuple.tupleItemsOf (.ref t) >>= _) _ _ s
  refine wpAny_bind (tupleItemsOf_ tp ?_)
  refine wpAny_bind (wpAny_typeOf ts ?_)
  rw [if_pos (by decide)]
  refine wpAny_bind (sl_rev (n := items.size) at_ ?_)
  show wpAny _ _ (if (((items.size : Int) - 1) == 0 && (-1 : Int) == 1 && items.size == items.size) = true then _ else _) _ _ s
  have no : ¬ ((((items.size : Int) - 1) == 0 && (-1 : Int) == 1 && items.size == items.size) = true) := by
    rw [show ((-1 : Int) == 1) = false from by decide, Bool.and_false, Bool.false_and]
    exact Bool.false_ne_true
  rw [if_neg no, pick_rev]
  first
    | exact wpAny_bind (m := Builtin.Tuple.tupleExact _) (wpAny_newObj_type (wpAny_pure ⟨_, rfl, wpAny_pure fin⟩) so)
    | exact wpAny_bind (m := Builtin.Tuple.tupleExact _) (wpAny_newObj_type (wpAny_bind (wpAny_pure (wpAny_pure ⟨_, rfl, wpAny_pure fin⟩))) so)
    | exact wpAny_bind (wpAny_bind (m := Builtin.Tuple.tupleExact _) (wpAny_newObj_type (wpAny_pure (wpAny_pure ⟨_, rfl, wpAny_pure fin⟩)) so))
    | exact wpAny_bind (wpAny_bind (m := Builtin.Tuple.tupleExact _) (wpAny_newObj_type (wpAny_pure ⟨_, rfl, wpAny_pure fin⟩) so))
end
section
variable {X : Cx} {e : Expr} {te : TE}
def tRevP (K : PySem.W.Frag) (te : TE) : TE := fun σ H Q => te σ H fun x H1 => ∃ a xs, x = .ref a ∧ SqT K H1 a xs ∧ NewT H1 xs.reverse Q
theorem pe_revP {k : Nat} {p1 p2 p3 pos : Pos} (he : PE X e te) : PE X (.Subscript e (.Slice none none (some (.UnaryOp .USub (.Constant (.int 1) k p1) p2)) p3) pos) (tRevP X.K te) := by
  refine ⟨fun pins s σ H Q I h => ?_⟩
  refine Subscript_ (thn (he.run pins s σ H _ I h) fun v s1 ⟨x, H1, I1, r1, a, xs, ex, hx, q⟩ => ?_)
  subst ex
  cases r1
  have st : PO X (some (.UnaryOp .USub (.Constant (.int 1) k p1) p2)) (tPart (tUn (rU fun i => .int (-i)) (tC (.int 1)))) := po_some (pe_un un_neg pe_int)
  refine wpAny_Slice (thn (po_none.run pins s1 σ H1 (fun o H2 => o = none ∧ H2 = H1) I1 ⟨rfl, rfl⟩) fun vl s2 ⟨l, H2, I2, pl, el, e2⟩ => ?_)
  subst el e2
  cases pl
  refine thn (po_none.run pins s2 σ H2 (fun o H3 => o = none ∧ H3 = H2) I2 ⟨rfl, rfl⟩) fun vu s3 ⟨u, H3, I3, pu, eu, e3⟩ => ?_
  subst eu e3
  cases pu
  refine thn (st.run pins s3 σ H3 (fun o H4 => o = some (-1) ∧ H4 = H3) I3 ⟨1, rfl, -1, rfl, rfl, rfl⟩) fun vs s4 ⟨o, H4, I4, ps, eo, e4⟩ => ?_
  subst eo e4
  cases ps with
  | int i tk =>
  have I5 : Inv X pins σ H4 { s4 with heap := s4.heap.push { cls := .type "slice", data := .fields #[.none, .none, .int (-1) tk] } } := I4.kept (t' := s4.toks) fun b ob q => Heap.get?_push_of_some _ q
  obtain ⟨its, r, ht, hz⟩ := I5.tuple hx
  have hlen := r.length
  show wpAny (model X.prog X.w) X.A (subscriptTail e (.Slice none none (some (.UnaryOp .USub (.Constant (.int 1) k p1) p2)) p3) (.ref a) (.ref s4.heap.objs.size)) (EP X pins σ Q) X.xe { s4 with heap := s4.heap.push { cls := .type "slice", data := .fields #[.none, .none, .int (-1) tk] } }
  refine tail_any (ops := [.ref a, .ref s4.heap.objs.size]) ht.typeIs (PyProof.Rows.slot_tuple_getitem.lookup) ?_ (by with_unfolding_all rfl)
  refine getItem_tuple_rev ht (Heap.IsSliceOf.new _ .none .none (.int (-1) tk)) ?_ (by rw [List.size_toArray]; omega)
  refine ⟨.ref _, _, I5.laid (t' := s4.toks) (o := .frz _ (.tup xs.reverse)) (fun b ob q => Heap.get?_push_of_some _ q) (Nat.le_refl _) ⟨Heap.get?_push_size _ rfl, by rw [List.length_reverse]; exact hz, _, r.reverse, IsTup.new _ _⟩, rfl, q _ _ (I5.hok.fresh (Nat.le_refl _)) rfl rfl⟩
end
section
variable {X : Cx} {E : L2.St → XK} {G : List Sl} {a : Expr} {ma : M D} {pos : Pos}
@[simp] abbrev mRevT (m : M D) : M D := m >>= fun x => match x with | .tup l => .ok (.tup l.reverse) | _ => stuck
theorem de_revT {k : Nat} {p1 p2 p3 : Pos} (ha : DR X E G a ma) : DE X E G (.Subscript a (.Slice none none (some (.UnaryOp .USub (.Constant (.int 1) k p1) p2)) p3) pos) (mRevT ma) := by
  obtain ⟨t, p, w⟩ := ha
  refine ⟨_, pe_revP p, fun B σ F H Q s g q => w B σ F H _ s g (WpG.bind q fun x F1 H1 v x1 r1 k1 => ?_)⟩
  cases x with
  | tup l =>
    obtain ⟨pp, xs, rfl, h, r⟩ := r1.tup x1.sFH
    refine ⟨pp, xs, rfl, h, fun q o hq oc oo => ?_⟩
    have xx := Ext.new (o := .frz o (.tup xs.reverse)) x1.sFH hq
    exact k1 _ _ _ xx (.tup (plT_new oc oo) (r.reverse.mono xx.sF))
  | _ => exact k1.elim
end
end DL

set_option Elab.async false
set_option linter.all false
set_option maxRecDepth 100000
set_option maxHeartbeats 4000000
namespace LawWalk
open PySem PySem.Spec L2 DL
def top (i : Nat) : Stmt := PySem.Challenge.pw_waypapers_k46_what_sets_clash_about.main.body.getD i (.Pass ⟨0, 0, 0, 0⟩)
def d_law_row : He.DefD := ⟨("_law_row", none), "_law_row", "_law_row", defArgs (top 8), defBody (top 8), defScope (top 8), [], []⟩
def d_law_numbers : He.DefD := ⟨("_law_numbers", none), "_law_numbers", "_law_numbers", defArgs (top 9), defBody (top 9), defScope (top 9), [], []⟩
def d_law_names : He.DefD := ⟨("_law_names", none), "_law_names", "_law_names", defArgs (top 10), defBody (top 10), defScope (top 10), [], []⟩
def d_law_bars : He.DefD := ⟨("_law_bars", none), "_law_bars", "_law_bars", defArgs (top 13), defBody (top 13), defScope (top 13), [], []⟩
def d_law_hours : He.DefD := ⟨("_law_hours", none), "_law_hours", "_law_hours", defArgs (top 11), defBody (top 11), defScope (top 11), [], []⟩
def d_law_road : He.DefD := ⟨("_law_road", none), "_law_road", "_law_road", defArgs (top 12), defBody (top 12), defScope (top 12), [], []⟩
def d_law_parts : He.DefD := ⟨("_law_parts", none), "_law_parts", "_law_parts", defArgs (top 14), defBody (top 14), defScope (top 14), [], []⟩
def d_law_touched : He.DefD := ⟨("_law_touched", none), "_law_touched", "_law_touched", defArgs (top 19), defBody (top 19), defScope (top 19), [], []⟩
def d_law_once : He.DefD := ⟨("_law_once", none), "_law_once", "_law_once", defArgs (top 21), defBody (top 21), defScope (top 21), [], []⟩
def d_law_leaned : He.DefD := ⟨("_law_leaned", none), "_law_leaned", "_law_leaned", defArgs (top 20), defBody (top 20), defScope (top 20), [], []⟩
def d_law_clashes : He.DefD := ⟨("_law_clashes", none), "_law_clashes", "_law_clashes", defArgs (top 22), defBody (top 22), defScope (top 22), [], []⟩
def d_in_order : He.DefD := ⟨("in_order", none), "in_order", "in_order", defArgs (top 2), defBody (top 2), defScope (top 2), [], []⟩
def d_touched : He.DefD := ⟨("touched", none), "touched", "touched", defArgs (top 3), defBody (top 3), defScope (top 3), [], []⟩
def d_leaned_on : He.DefD := ⟨("leaned_on", none), "leaned_on", "leaned_on", defArgs (top 4), defBody (top 4), defScope (top 4), [], []⟩
def d_clashes : He.DefD := ⟨("clashes", none), "clashes", "clashes", defArgs (top 5), defBody (top 5), defScope (top 5), [], []⟩
def d_are_apart : He.DefD := ⟨("are_apart", none), "are_apart", "are_apart", defArgs (top 6), defBody (top 6), defScope (top 6), [], []⟩
def d_law_drawn_change : He.DefD := ⟨("_law_drawn_change", none), "_law_drawn_change", "_law_drawn_change", defArgs (top 15), defBody (top 15), defScope (top 15), [], []⟩
def d_law : He.DefD := ⟨("law", none), "law", "law", defArgs (top 23), defBody (top 23), defScope (top 23), [], []⟩
def fn : List He.DefD := [d_law_row, d_law_numbers, d_law_names, d_law_bars, d_law_hours, d_law_road, d_law_parts, d_law_touched, d_law_once, d_law_leaned, d_law_clashes, d_in_order, d_touched, d_leaned_on, d_clashes, d_are_apart, d_law_drawn_change, d_law]
def gt : List He.DefD := []
def fa : List He.Fa := [.free "abs", .free "int", .free "range", .free "len", .free "max", .glo "_law_row", .free "min", .free "sorted", .free "tuple", .glo "_law_hours", .glo "_law_names", .glo "_law_road", .glo "_law_bars", .glo "_law_touched", .glo "_law_leaned", .glo "_law_once", .glo "FIELDS", .glo "in_order", .glo "touched", .glo "leaned_on", .glo "clashes", .free "list", .glo "_law_numbers", .glo "_law_parts", .glo "_law_drawn_change", .glo "_law_clashes", .free "isinstance", .glo "are_apart", .free "bool", .glo "law"]
theorem fa_0 : fa[0]? = some (.free "abs") := rfl
theorem fa_1 : fa[1]? = some (.free "int") := rfl
theorem fa_2 : fa[2]? = some (.free "range") := rfl
theorem fa_3 : fa[3]? = some (.free "len") := rfl
theorem fa_4 : fa[4]? = some (.free "max") := rfl
theorem fa_5 : fa[5]? = some (.glo "_law_row") := rfl
theorem fa_6 : fa[6]? = some (.free "min") := rfl
theorem fa_7 : fa[7]? = some (.free "sorted") := rfl
theorem fa_8 : fa[8]? = some (.free "tuple") := rfl
theorem fa_9 : fa[9]? = some (.glo "_law_hours") := rfl
theorem fa_10 : fa[10]? = some (.glo "_law_names") := rfl
theorem fa_11 : fa[11]? = some (.glo "_law_road") := rfl
theorem fa_12 : fa[12]? = some (.glo "_law_bars") := rfl
theorem fa_13 : fa[13]? = some (.glo "_law_touched") := rfl
theorem fa_14 : fa[14]? = some (.glo "_law_leaned") := rfl
theorem fa_15 : fa[15]? = some (.glo "_law_once") := rfl
theorem fa_16 : fa[16]? = some (.glo "FIELDS") := rfl
theorem fa_17 : fa[17]? = some (.glo "in_order") := rfl
theorem fa_18 : fa[18]? = some (.glo "touched") := rfl
theorem fa_19 : fa[19]? = some (.glo "leaned_on") := rfl
theorem fa_20 : fa[20]? = some (.glo "clashes") := rfl
theorem fa_21 : fa[21]? = some (.free "list") := rfl
theorem fa_22 : fa[22]? = some (.glo "_law_numbers") := rfl
theorem fa_23 : fa[23]? = some (.glo "_law_parts") := rfl
theorem fa_24 : fa[24]? = some (.glo "_law_drawn_change") := rfl
theorem fa_25 : fa[25]? = some (.glo "_law_clashes") := rfl
theorem fa_26 : fa[26]? = some (.free "isinstance") := rfl
theorem fa_27 : fa[27]? = some (.glo "are_apart") := rfl
theorem fa_28 : fa[28]? = some (.free "bool") := rfl
theorem fa_29 : fa[29]? = some (.glo "law") := rfl
def insC : List Str := []
def propC : List (Str × Str) := []
def tup0C : List ((Str × Option Str) × Str) := []
def exW (K : PySem.W.Frag) : Bool := insC.all (fun x => insB K (He.ga K x)) && (propC.all (fun p => propB K p.1 p.2) && tup0C.all (fun p => tup0B K (kwdAt p.1 p.2 K)))
def tl_FIELDS : TabL := [("minutes", .int (3)), ("kinds", .int (4)), ("hours", .int (5))]
def ts : List Tb := [("FIELDS", tl_FIELDS)]
abbrev DefOk (K : PySem.W.Frag) (d : He.DefD) (fd : FuncData) : Prop := FunD K d.name d.qual d.params d.body d.scope (d.dvs K) (d.kws K) (He.fAd K d.at_) fd
structure Lw (w : World) (K : PySem.W.Frag) (mg : Str → Option Value) : Prop where
  h : ∃ hp : Heap, K.In hp ∧ hp.Ns mainGlobals mg
  s : SaysG fa fn gt exW K
  t : seenTb ts K = dueTb ts w
theorem Lw.c {w : World} {K : PySem.W.Frag} {mg : Str → Option Value} (L : Lw w K mg) : He.SaysD fa fn K := L.s.d
section
variable {w : World} {K : PySem.W.Frag} {mg : Str → Option Value} (L : Lw w K mg) {i : Nat}
include L
theorem Lw.tab {t : Tb} (h : t ∈ ts) : TabOk K w (He.ga K t.1) t.2 := tab_of L.t h
theorem Lw.glo {x : Str} (e : fa[i]? = some (.glo x)) : mg x = some (.ref (He.ga K x)) := let ⟨_, X, G⟩ := L.h; He.glo_ok X G (L.c.fact i e)
theorem Lw.free {x : Str} (e : fa[i]? = some (.free x)) : mg x = none := let ⟨_, X, G⟩ := L.h; He.free_ok X G (L.c.fact i e)
theorem Lw.int {x : Str} {v : Int} (e : fa[i]? = some (.int x v)) : ∃ t, mg x = some (.int v t) := let ⟨_, X, G⟩ := L.h; He.int_ok X G (L.c.fact i e)
theorem Lw.str {x z : Str} (e : fa[i]? = some (.str x z)) : ∃ t, mg x = some (.str z t) := let ⟨_, X, G⟩ := L.h; He.str_ok X G (L.c.fact i e)
theorem Lw.cls {x : Str} (e : fa[i]? = some (.cls x)) : Cls K (He.ga K x) := He.cls_ok (L.c.fact i e)
theorem Lw.meth {x m : Str} (e : fa[i]? = some (.meth x m)) : Meth K (He.ga K x) m (He.ma K (He.ga K x) m) := He.meth_ok (L.c.fact i e)
end
end LawWalk

set_option Elab.async false
set_option linter.all false
set_option maxRecDepth 100000
set_option maxHeartbeats 0
namespace LawHead
open PySem PySem.Spec PyProof.Rows L2
abbrev R : PySem.W.OpenRow := PySem.W.OpenLaw.row PySem.Challenge.rw_waypapers_k46_what_sets_clash_about
abbrev hk : PySem.W.Hook := DL.hookGT 5 LawWalk.fa LawWalk.fn LawWalk.gt LawWalk.exW LawWalk.ts
def ob (s : PySem.W.SharedT) : DL.AlG × DL.AlTb := (DL.seen LawWalk.fa LawWalk.fn LawWalk.gt LawWalk.exW (He.frG (HandSHeadRun.getT s) (He.asD (HandSHeadRun.getT s) 5)), DL.seenTb LawWalk.ts (He.frG (HandSHeadRun.getT s) (He.asD (HandSHeadRun.getT s) 5)))
theorem ob_eq (s : PySem.W.SharedT) : ob s = hk.obs s.abs := DL.obsGT_eq (HandSHeadRun.getT_eq s)
def loose : List PySem.Str := (["FIELDS", "in_order", "touched", "leaned_on", "clashes", "are_apart", "_law_row", "_law_numbers", "_law_names", "_law_hours", "_law_road", "_law_bars"] : List PySem.Str) ++ (["_law_parts", "_law_drawn_change", "_law_fits_road", "_law_changed", "_law_walked", "_law_touched", "_law_leaned", "_law_once", "_law_clashes"] : List PySem.Str)
theorem run (w : World) : HandSHeadRun.RunEq R (PySem.W.view R.prog [23]) hk ob 20000 loose w := by
  refine PySem.W.byRow2 "special-get-raises" (P := fun w => HandSHeadRun.RunEq R (PySem.W.view R.prog [23]) hk ob 20000 loose w) (fun w os => ?_) (fun w os => ?_) w
  · kernel_rfl
  · kernel_rfl
end LawHead

set_option Elab.async false
set_option linter.all false
set_option maxRecDepth 100000
set_option maxHeartbeats 4000000
namespace DL
open PySem L2
section
variable {α β : Type}
@[simp] theorem okb (a : α) (f : α → M β) : ((.ok a : M α) >>= f) = f a := rfl
@[simp] theorem erb (e : Er) (f : α → M β) : ((.error e : M α) >>= f) = .error e := rfl
@[simp] theorem need_t : need true = .ok () := rfl
@[simp] theorem need_f : need false = stuck := rfl

variable {i j : Int} {l m : List D} {x y : Str} {a b : Bool}
@[simp] theorem f1_1 (f : D → M D) (x : D) : f1 f [x] = f x := rfl
@[simp] theorem f2_2 (f : D → D → M D) (x y : D) : f2 f [x, y] = f x y := rfl
@[simp] theorem add_ii : D.add (.int i) (.int j) = .ok (.int (i + j)) := rfl
@[simp] theorem sub_ii : D.sub (.int i) (.int j) = .ok (.int (i - j)) := rfl
@[simp] theorem mul_ii : D.mul (.int i) (.int j) = (need (decide ((-(2 ^ 64) < i ∧ i < 2 ^ 64) ∨ (-(2 ^ 64) < j ∧ j < 2 ^ 64))) >>= fun _ => .ok (.int (i * j))) := rfl
@[simp] theorem mod_ii : D.mod (.int i) (.int j) = (need (decide (0 < j)) >>= fun _ => .ok (.int (i % j))) := rfl
@[simp] theorem fdiv_ii : D.fdiv (.int i) (.int j) = (need (decide (0 < j ∧ j < 1073741824)) >>= fun _ => .ok (.int (i / j))) := rfl
@[simp] theorem pow_ii : D.pow (.int i) (.int j) = (need (decide (0 ≤ j ∧ j ≤ 1000000 ∧ i.natAbs < 2 ^ 64)) >>= fun _ => .ok (.int (i ^ j.toNat))) := rfl
@[simp] theorem neg_i : D.neg (.int i) = .ok (.int (-i)) := rfl
@[simp] theorem toInt_i : D.toInt (.int i) = .ok (.int i) := rfl
@[simp] theorem abs_i : D.abs (.int i) = .ok (.int (if i < 0 then -i else i)) := rfl
@[simp] theorem lt_ii : D.lt (.int i) (.int j) = .ok (decide (i < j)) := rfl
@[simp] theorem le_ii : D.le (.int i) (.int j) = .ok (decide (i ≤ j)) := rfl
@[simp] theorem gt_ii : D.gt (.int i) (.int j) = .ok (decide (j < i)) := rfl
@[simp] theorem ge_ii : D.ge (.int i) (.int j) = .ok (decide (j ≤ i)) := rfl
@[simp] theorem max_ii : D.max2 (.int i) (.int j) = .ok (.int (if j > i then j else i)) := rfl
@[simp] theorem min_ii : D.min2 (.int i) (.int j) = .ok (.int (if j < i then j else i)) := rfl
@[simp] theorem len_l : D.len (.lst l) = .ok (.int l.length) := rfl
@[simp] theorem len_t : D.len (.tup l) = .ok (.int l.length) := rfl
@[simp] theorem len_scr {l : List Int} : D.len (.scr l) = .ok (.int l.length) := rfl
@[simp] theorem len_s : D.len (.str x) = (need (decide (x.length ≤ sizeLine)) >>= fun _ => .ok (.int x.length)) := rfl
@[simp] theorem tru_b : D.tru (.bl a) = .ok a := rfl
@[simp] theorem tru_i : D.tru (.int i) = .ok (i != 0) := rfl
@[simp] theorem tru_l : D.tru (.lst l) = .ok (!l.isEmpty) := rfl
@[simp] theorem tru_t : D.tru (.tup l) = .ok (!l.isEmpty) := rfl
@[simp] theorem items_l : D.items (.lst l) = .ok l := rfl
@[simp] theorem items_t : D.items (.tup l) = .ok l := rfl
@[simp] theorem items_s : D.items (.str x) = .ok (x.cps.toList.map fun c => D.str ⟨#[c]⟩) := rfl
@[simp] theorem bnd_i : D.bnd (.int i) = .ok (some i) := rfl
@[simp] theorem isN_n {d : D} : D.isN d .non = .ok d.isNon := rfl
@[simp] theorem notN_n {d : D} : D.notN d .non = .ok (!d.isNon) := rfl
@[simp] theorem isNon_n : D.isNon .non = true := rfl
@[simp] theorem isNon_l : D.isNon (.lst l) = false := rfl
@[simp] theorem isNon_t : D.isNon (.tup l) = false := rfl
@[simp] theorem isNon_i : D.isNon (.int i) = false := rfl
@[simp] theorem isNon_s : D.isNon (.str x) = false := rfl
@[simp] theorem bD_ok : bD (.ok a) = .ok (.bl a) := rfl
@[simp] theorem mkLst_l : D.mkLst l = (need (decide (l.length ≤ sizeLine)) >>= fun _ => .ok (.lst l)) := rfl
@[simp] theorem mkTup_l : D.mkTup l = (need (decide (l.length ≤ sizeLine)) >>= fun _ => .ok (.tup l)) := rfl
@[simp] theorem toTup_l : D.toTup (.lst l) = .ok (.tup l) := rfl
@[simp] theorem toTup_t : D.toTup (.tup l) = .ok (.tup l) := rfl
@[simp] theorem toList_l : D.toList (.lst l) = .ok (.lst l) := rfl
@[simp] theorem toList_t : D.toList (.tup l) = .ok (.lst l) := rfl
@[simp] theorem nList_l : nList (.ok [.lst l]) = .ok l := rfl
@[simp] theorem nList_t : nList (.ok [.tup l]) = .ok l := rfl
@[simp] theorem sl_l {lo hi : Option Int} : D.sl (.lst l) lo hi = .ok (.lst (cutL l lo hi)) := rfl
@[simp] theorem sl_t {lo hi : Option Int} : D.sl (.tup l) lo hi = .ok (.tup (cutL l lo hi)) := rfl
@[simp] theorem sl_scr {l : List Int} {lo hi : Option Int} : D.sl (.scr l) lo hi = .ok (.lst ((cutL l lo hi).map D.int)) := rfl
@[simp] theorem sl_s {lo hi : Option Int} : D.sl (.str x) lo hi = (need (decide (x.length ≤ sizeLine)) >>= fun _ => .ok (.str (cutS x lo hi))) := rfl
@[simp] theorem add_ss : D.add (.str x) (.str y) = (need (decide (x.length + y.length ≤ sizeLine)) >>= fun _ => .ok (.str (x ++ y))) := rfl
@[simp] theorem add_ll : D.add (.lst l) (.lst m) = (need (decide (l.length + m.length ≤ sizeLine)) >>= fun _ => .ok (.lst (l ++ m))) := rfl
@[simp] theorem add_tt : D.add (.tup l) (.tup m) = (need (decide (l.length + m.length ≤ sizeLine)) >>= fun _ => .ok (.tup (l ++ m))) := rfl
@[simp] theorem range1_i : D.range1 [.int j] = (need (smallI j) >>= fun _ => .ok (rangeL 0 j.toNat)) := rfl
@[simp] theorem range2_i : D.range2 [.int i, .int j] = (need (smallI i && smallI j) >>= fun _ => .ok (rangeL i (j - i).toNat)) := rfl
theorem ix_nat {n : Nat} {d : D} (h : l[n]? = some d) (e : i = (n : Int)) : D.ix (.lst l) (.int i) = .ok d := by
  subst e
  show (match atI l (n : Int) with | some d => (.ok d : M D) | none => stuck) = _
  have : atI l (n : Int) = some d := by
    have hl := (List.getElem?_eq_some_iff.mp h).1
    have e : ixN l.length (n : Int) = some n := by
      unfold ixN
      simp
      omega
    show (ixN l.length (n : Int)).bind (fun j => l[j]?) = some d
    rw [e]
    exact h
  rw [this]
theorem ix_natT {n : Nat} {d : D} (h : l[n]? = some d) (e : i = (n : Int)) : D.ix (.tup l) (.int i) = .ok d := ix_nat (l := l) h e
end
section
variable {α : Type}
theorem cut_take (xs : List α) {i : Int} (h : 0 ≤ i) : cutL xs none (some i) = xs.take i.toNat := by
  have e1 : HT.sIx xs.length 0 none = 0 := rfl
  have e2 : HT.sIx xs.length xs.length (some i) = min i.toNat xs.length := by
    unfold HT.sIx
    simp
    omega
  unfold cutL
  rw [e1, e2, List.drop_zero, Nat.sub_zero]
  apply List.ext_getElem?
  intro k
  rw [List.getElem?_take, List.getElem?_take]
  by_cases h1 : k < xs.length
  · by_cases h2 : k < i.toNat
    · rw [if_pos (by omega), if_pos h2]
    · rw [if_neg (by omega), if_neg h2]
  · rw [List.getElem?_eq_none (by omega)]
    simp
theorem cut_drop (xs : List α) {i : Int} (h : 0 ≤ i) : cutL xs (some i) none = xs.drop i.toNat := by
  have e1 : HT.sIx xs.length xs.length none = xs.length := rfl
  have e2 : HT.sIx xs.length 0 (some i) = min i.toNat xs.length := by
    unfold HT.sIx
    simp
    omega
  unfold cutL
  rw [e1, e2]
  by_cases h1 : i.toNat ≤ xs.length
  · rw [Nat.min_eq_left h1, List.take_of_length_le (by rw [List.length_drop]; omega)]
  · rw [Nat.min_eq_right (by omega), List.drop_eq_nil_of_le (Nat.le_refl _), List.drop_eq_nil_of_le (by omega), List.take_nil]
end
section
variable {S : Type}
theorem loopF_cons {f : S → D → M S} {s : S} {d : D} {ds : List D} : loopF f (d :: ds) s = (f s d >>= fun s => loopF f ds s) := rfl
theorem loopF_inv {f : S → D → M S} (I : Nat → S → Prop) : ∀ (ds : List D) (k : Nat) (s0 : S), I k s0 → (∀ i d s, ds[i]? = some d → I (k + i) s → ∃ s', f s d = .ok s' ∧ I (k + i + 1) s') → ∃ s', loopF f ds s0 = .ok s' ∧ I (k + ds.length) s'
  | [], k, s0, h, _ => ⟨s0, rfl, h⟩
  | d :: ds, k, s0, h, st => by
    obtain ⟨s1, e1, h1⟩ := st 0 d s0 rfl h
    obtain ⟨s', e2, h2⟩ := loopF_inv I ds (k + 1) s1 h1 (fun i d' s hd hi => by
      have hi' : I (k + (i + 1)) s := by
        have e : k + (i + 1) = k + 1 + i := by omega
        rw [e]
        exact hi
      obtain ⟨s', e, h'⟩ := st (i + 1) d' s (by simpa using hd) hi'
      refine ⟨s', e, ?_⟩
      have e : k + 1 + i + 1 = k + (i + 1) + 1 := by omega
      rw [e]
      exact h')
    refine ⟨s', ?_, ?_⟩
    · rw [loopF_cons, e1]
      exact e2
    · have e : k + (d :: ds).length = k + 1 + ds.length := by simp; omega
      rw [e]
      exact h2
theorem rangeL_len (lo : Int) (n : Nat) : (rangeL lo n).length = n := by simp [rangeL]
theorem rangeL_get {lo : Int} {n i : Nat} {d : D} (h : (rangeL lo n)[i]? = some d) : d = .int (lo + (i : Int)) ∧ i < n := by
  unfold rangeL at h
  rw [List.getElem?_map] at h
  by_cases hi : i < n
  · rw [List.getElem?_range hi] at h
    cases h
    exact ⟨rfl, hi⟩
  · rw [List.getElem?_eq_none (by simpa using hi)] at h
    cases h
theorem small_of {i : Int} (h1 : -4611686018427387904 ≤ i) (h2 : i < 4611686018427387904) : smallI i = true := by
  unfold smallI
  exact decide_eq_true ⟨h1, h2⟩
theorem whileF_inv {c : S → M Bool} {f : S → M S} (I : S → Prop) (μ : S → Nat) (hc : ∀ s, I s → ∃ b, c s = .ok b ∧ (b = true → ∃ s', f s = .ok s' ∧ I s' ∧ μ s' < μ s)) : ∀ (n : Nat) (s : S), I s → μ s < n → ∃ s', whileF c f n s = .ok s' ∧ I s' ∧ c s' = .ok false
  | 0, s, h, hm => absurd hm (Nat.not_lt_zero _)
  | n + 1, s, h, hm => by
    obtain ⟨b, e, hb⟩ := hc s h
    cases b with
    | false =>
      refine ⟨s, ?_, h, e⟩
      show (c s >>= fun b => if b = true then f s >>= fun s => whileF c f n s else .ok s) = _
      rw [e]
      rfl
    | true =>
      obtain ⟨s', e2, h2, h3⟩ := hb rfl
      obtain ⟨s'', e4, h4, h5⟩ := whileF_inv I μ hc n s' h2 (by omega)
      refine ⟨s'', ?_, h4, h5⟩
      show (c s >>= fun b => if b = true then f s >>= fun s => whileF c f n s else .ok s) = _
      rw [e]
      show (f s >>= fun s => whileF c f n s) = _
      rw [e2]
      exact e4
end
end DL

set_option Elab.async false
set_option linter.all false
set_option maxRecDepth 100000
set_option maxHeartbeats 4000000
namespace DL
open PySem L2
theorem need_p {p : Prop} [Decidable p] (h : p) : need (decide p) = .ok () := by
  rw [decide_eq_true h]
  rfl
theorem mul_okl {i j : Int} (h1 : -(2 ^ 64) < i) (h2 : i < 2 ^ 64) : D.mul (.int i) (.int j) = .ok (.int (i * j)) := by
  rw [mul_ii, need_p (.inl ⟨h1, h2⟩)]
  rfl
theorem mod_ok {i j : Int} (h : 0 < j) : D.mod (.int i) (.int j) = .ok (.int (i % j)) := by
  rw [mod_ii, need_p h]
  rfl
abbrev tl (x : Str) : List Nat := TL.tl x
def mk (l : List Nat) : Str := ⟨l.toArray⟩
@[simp] theorem tl_mk (l : List Nat) : tl (mk l) = l := rfl
@[simp] theorem mk_tl (x : Str) : mk (tl x) = x := TL.mk_tl x
theorem len_mk (l : List Nat) : (mk l).length = l.length := TL.len_tl _
theorem mk_app (l m : List Nat) : mk l ++ mk m = mk (l ++ m) := TL.ext_tl (TL.tl_append _ _)
@[simp] theorem mk_inj {l m : List Nat} : mk l = mk m ↔ l = m := ⟨fun h => congrArg tl h, fun h => h ▸ rfl⟩
theorem tl_cut (z : Str) (lo hi : Option Int) : tl (cutS z lo hi) = cutL (tl z) lo hi := by
  unfold cutS cutL
  rw [TL.len_tl z]
theorem cutS_mk (l : List Nat) (lo hi : Option Int) : cutS (mk l) lo hi = mk (cutL l lo hi) := TL.ext_tl (tl_cut _ _ _)
theorem ix_str {x : Str} {n : Nat} {c : Nat} {i : Int} (hl : x.length ≤ 16777216) (h : (tl x)[n]? = some c) (e : i = (n : Int)) : D.ix (.str x) (.int i) = .ok (.str (mk [c])) := by
  subst e
  have hn := (List.getElem?_eq_some_iff.mp h).1
  have e : atI x.cps.toList (n : Int) = some c := by
    have e : ixN (tl x).length (n : Int) = some n := by
      unfold ixN
      simp
      omega
    show (ixN (tl x).length (n : Int)).bind (fun j => (tl x)[j]?) = some c
    rw [e]
    exact h
  show (need (decide (x.length ≤ sizeLine)) >>= fun _ => match atI x.cps.toList (n : Int) with | some c => (.ok (.str ⟨#[c]⟩) : M D) | none => stuck) = _
  rw [PySem.sizeLine_eq, decide_eq_true hl, e]
  rfl
section
variable {α : Type}
theorem compL_mapA {f : D → M D} {k : α → D} {g : α → D} {l : List α} (hl : l.length ≤ 16777216) (h : ∀ a ∈ l, f (k a) = .ok (g a)) : compL (fElt noT f) (l.map k) = .ok (l.map g) := by
  unfold compL
  rw [PySem.sizeLine_eq, List.length_map, decide_eq_true hl]
  show comp _ _ = _
  clear hl
  induction l with
  | nil => rfl
  | cons a l ih =>
    have h1 := h a (List.mem_cons_self ..)
    have h2 := ih fun x hx => h x (List.mem_cons_of_mem _ hx)
    rw [List.map_cons]
    unfold comp
    have e : fElt noT f (k a) = .ok (some (g a)) := by
      unfold fElt
      simp [h1]
    rw [e]
    show (comp (fElt noT f) (l.map k) >>= fun ys => .ok (g a :: ys)) = _
    rw [h2]
    rfl
theorem compL_filterA {t : D → M Bool} {f : D → M D} {k : α → D} {p : α → Bool} {g : α → D} {l : List α} (hl : l.length ≤ 16777216) (ht : ∀ a ∈ l, t (k a) = .ok (p a)) (h : ∀ a ∈ l, p a = true → f (k a) = .ok (g a)) : compL (fElt t f) (l.map k) = .ok ((l.filter p).map g) := by
  unfold compL
  rw [PySem.sizeLine_eq, List.length_map, decide_eq_true hl]
  show comp _ _ = _
  clear hl
  induction l with
  | nil => rfl
  | cons a l ih =>
    have t1 := ht a (List.mem_cons_self ..)
    have h1 := h a (List.mem_cons_self ..)
    have h2 := ih (fun x hx => ht x (List.mem_cons_of_mem _ hx)) fun x hx => h x (List.mem_cons_of_mem _ hx)
    rw [List.map_cons]
    unfold comp
    cases e : p a with
    | true =>
      have e2 : fElt t f (k a) = .ok (some (g a)) := by
        unfold fElt
        simp [h1 e, t1, e]
      rw [e2, List.filter_cons, if_pos e]
      show (comp (fElt t f) (l.map k) >>= fun ys => .ok (g a :: ys)) = _
      rw [h2]
      rfl
    | false =>
      have e2 : fElt t f (k a) = .ok none := by
        unfold fElt
        simp [t1, e]
      rw [e2, List.filter_cons, if_neg (by rw [e]; exact Bool.false_ne_true)]
      exact h2
theorem strs_map : ∀ l : List Str, D.strs (l.map D.str) = some l
  | [] => rfl
  | a :: l => by
    show (D.strs (l.map D.str)).map (a :: ·) = _
    rw [strs_map l]
    rfl
end
@[simp] theorem isStr_s {x : Str} : D.isStr (.str x) = true := rfl
@[simp] theorem meth_s {x : Str} {l : List D} {f : D → List D → M D} : meth D.isStr (.ok (.str x)) (.ok l) f = f (.str x) l := rfl
@[simp] theorem m1_1 {x y : D} {f : D → D → M D} : m1 f x [y] = f x y := rfl
theorem join_ok {y : Str} {l : List Str} (h : (l.map (·.length)).sum + l.length * y.length ≤ 16777216) : D.join (.str y) (.lst (l.map D.str)) = .ok (.str (Str.join y l)) := by
  unfold D.join
  simp only [strs_map]
  show (need (decide ((l.map (·.length)).sum + l.length * y.length ≤ 16777216)) >>= fun _ => (.ok (.str (Txt.join y l)) : M D)) = _
  rw [decide_eq_true h, TL.join_eq]
  rfl
theorem joinL_nil : ∀ l : List (List Nat), TL.joinL [] l = l.flatten
  | [] => rfl
  | [p] => by simp [TL.joinL]
  | p :: q :: r => by
    show p ++ ([] ++ TL.joinL [] (q :: r)) = _
    rw [joinL_nil (q :: r)]
    simp
theorem join0 (l : List Str) : Str.join "" l = mk (l.map tl).flatten := by
  apply TL.ext_tl
  rw [TL.tl_join]
  have : TL.tl ("" : Str) = [] := by decide
  rw [this, joinL_nil]
  rfl
theorem eq_ss {x y : Str} : D.eq (.str x) (.str y) = .ok (decide (x = y)) := by
  unfold D.eq
  simp [D.shp, D.leaf, D.beq]
theorem eq_ii {i j : Int} : D.eq (.int i) (.int j) = .ok (decide (i = j)) := by
  unfold D.eq
  simp [D.shp, D.leaf, D.beq]
theorem eq_of {x y : D} (hx : x.shp 20 = true) (hy : y.shp 20 = true) : D.eq x y = .ok (D.beq x y) := by
  unfold D.eq
  rw [hx, hy]
  rfl
theorem ne_of {x y : D} (hx : x.shp 20 = true) (hy : y.shp 20 = true) : D.ne x y = .ok (!D.beq x y) := by
  unfold D.ne
  rw [eq_of hx hy]
  rfl
theorem shp_leaf {d : D} (h : d.leaf = true) : ∀ n, d.shp n = true
  | 0 => h
  | n + 1 => by cases d <;> first | exact h | cases h
theorem shp_mono : ∀ {n : Nat} {d : D}, d.shp n = true → d.shp (n + 1) = true
  | n, d, h => by
    induction n generalizing d with
    | zero => exact shp_leaf h 1
    | succ n ih =>
      rcases D.shp_cases h with h1 | ⟨m, l, e, hd, hl⟩
      · exact shp_leaf h1 _
      · cases e
        have : l.all (D.shp (n + 1)) = true := List.all_eq_true.mpr fun x hx => ih _ (List.all_eq_true.mp hl x hx)
        rcases hd with rfl | rfl <;> exact this
theorem shp_le {n m : Nat} {d : D} (h : d.shp n = true) (hm : n ≤ m) : d.shp m = true := by
  induction m with
  | zero =>
    have : n = 0 := by omega
    subst this
    exact h
  | succ m ih =>
    by_cases e : n = m + 1
    · subst e
      exact h
    · exact shp_mono (ih (by omega))
theorem beq_refl : ∀ {n : Nat} {d : D}, d.shp n = true → D.beq d d = true
  | n, d, h => by
    induction n generalizing d with
    | zero => rcases D.leaf_cases h with rfl | ⟨b, rfl⟩ | ⟨i, rfl⟩ | ⟨x, rfl⟩ <;> simp [D.beq]
    | succ n ih =>
      have q : ∀ l : List D, l.all (D.shp n) = true → D.beqL l l = true := by
        intro l
        induction l with
        | nil => intro _; rfl
        | cons a l ihl =>
          intro h
          rw [List.all_cons, Bool.and_eq_true] at h
          simp only [D.beqL]
          rw [ih _ h.1, ihl h.2]
          rfl
      rcases D.shp_cases h with h1 | ⟨m, l, e, hd, hl⟩
      · rcases D.leaf_cases h1 with rfl | ⟨b, rfl⟩ | ⟨i, rfl⟩ | ⟨x, rfl⟩ <;> simp [D.beq]
      · cases e
        rcases hd with rfl | rfl <;> (simp only [D.beq]; exact q l hl)
theorem ne_self {d : D} (h : d.shp 20 = true) : D.ne d d = .ok false := by
  rw [ne_of h h, beq_refl h]
  rfl
theorem eq_self {d : D} (h : d.shp 20 = true) : D.eq d d = .ok true := by rw [eq_of h h, beq_refl h]
theorem shp_lst {l : List D} {n : Nat} (h : ∀ d ∈ l, d.shp n = true) : (D.lst l).shp (n + 1) = true := List.all_eq_true.mpr h
theorem shp_tup {l : List D} {n : Nat} (h : ∀ d ∈ l, d.shp n = true) : (D.tup l).shp (n + 1) = true := List.all_eq_true.mpr h
@[simp] theorem shp_str {x : Str} {n : Nat} : (D.str x).shp n = true := shp_leaf rfl n
@[simp] theorem shp_int {x : Int} {n : Nat} : (D.int x).shp n = true := shp_leaf rfl n
@[simp] theorem shp_non {n : Nat} : (D.non).shp n = true := shp_leaf rfl n
@[simp] theorem shp_bl {b : Bool} {n : Nat} : (D.bl b).shp n = true := shp_leaf rfl n
end DL

set_option Elab.async false
set_option linter.all false
set_option maxRecDepth 100000
set_option maxHeartbeats 4000000
namespace DL
open PySem L2
structure En {α : Type} [DecidableEq α] (n : Nat) (e : α → D) : Prop where
  beq : ∀ x y, D.beq (e x) (e y) = decide (x = y)
  shp : ∀ x, (e x).shp n = true
section
variable {α β : Type} [DecidableEq α] [DecidableEq β] {n m : Nat} {e : α → D} {e2 : β → D}
theorem En.le (h : En n e) (hm : n ≤ m) : En m e := ⟨h.beq, fun x => shp_le (h.shp x) hm⟩
theorem en_str : En n D.str := ⟨fun x y => by simp [D.beq], fun x => shp_str⟩
theorem en_int : En n D.int := ⟨fun x y => by simp [D.beq], fun x => shp_int⟩
theorem beq_nl {d : D} (h : d.isNon = false) : D.beq .non d = false := by
  cases d with
  | non => cases h
  | _ => rfl
theorem beq_nr {d : D} (h : d.isNon = false) : D.beq d .non = false := by
  cases d with
  | non => cases h
  | _ => rfl
def optD (e : α → D) : Option α → D
  | none => .non
  | some x => e x
theorem en_opt (h : En n e) (hn : ∀ x, (e x).isNon = false) : En n (optD e) := ⟨fun x y => by
  cases x with
  | none => cases y with
    | none => rfl
    | some b => simp [optD, beq_nl (hn b)]
  | some a => cases y with
    | none => simp [optD, beq_nr (hn a)]
    | some b => simp [optD, h.beq], fun x => by
  cases x with
  | none => exact shp_non
  | some a => exact h.shp a⟩
theorem beqL_map (h : ∀ x y, D.beq (e x) (e y) = decide (x = y)) : ∀ l m : List α, D.beqL (l.map e) (m.map e) = decide (l = m)
  | [], [] => by simp [D.beqL]
  | [], _ :: _ => by simp [D.beqL]
  | _ :: _, [] => by simp [D.beqL]
  | a :: l, b :: m => by
    simp only [List.map_cons, D.beqL, h, beqL_map h l m]
    by_cases e1 : a = b <;> by_cases e2 : l = m <;> simp [e1, e2]
theorem en_lst (h : En n e) : En (n + 1) (fun l : List α => D.lst (l.map e)) := ⟨fun x y => by simp only [D.beq]; exact beqL_map h.beq x y, fun x => shp_lst fun d hd => by
  obtain ⟨a, _, rfl⟩ := List.mem_map.mp hd
  exact h.shp a⟩
theorem en_tup (h : En n e) : En (n + 1) (fun l : List α => D.tup (l.map e)) := ⟨fun x y => by simp only [D.beq]; exact beqL_map h.beq x y, fun x => shp_tup fun d hd => by
  obtain ⟨a, _, rfl⟩ := List.mem_map.mp hd
  exact h.shp a⟩
theorem en_pair (h : En n e) (h2 : En n e2) : En (n + 1) (fun p : α × β => D.tup [e p.1, e2 p.2]) := ⟨fun x y => by
  obtain ⟨a, b⟩ := x
  obtain ⟨c, d⟩ := y
  simp only [D.beq, D.beqL, h.beq, h2.beq]
  by_cases e1 : a = c <;> by_cases e2 : b = d <;> simp [e1, e2], fun x => shp_tup fun d hd => by
  rcases List.mem_cons.mp hd with rfl | hd
  · exact h.shp _
  · rw [List.mem_singleton.mp hd]
    exact h2.shp _⟩
variable (h : En 15 e)
include h
theorem En.eq (x y : α) : D.eq (e x) (e y) = .ok (decide (x = y)) := by rw [eq_of (shp_le (h.shp x) (by omega)) (shp_le (h.shp y) (by omega)), h.beq]
theorem En.ne (x y : α) : D.ne (e x) (e y) = .ok (!decide (x = y)) := by
  unfold D.ne
  rw [h.eq]
  rfl
theorem En.any (x : α) (l : List α) : ((l.map e).any fun z => D.beq z (e x)) = decide (x ∈ l) := by
  induction l with
  | nil => simp
  | cons a l ih =>
    rw [List.map_cons, List.any_cons, h.beq, ih]
    by_cases e1 : a = x
    · simp [e1]
    · have e2 : ¬ x = a := fun z => e1 z.symm
      simp [e1, e2]
theorem En.all (l : List α) : (l.map e).all (D.shp 19) = true := List.all_eq_true.mpr fun d hd => by
  obtain ⟨a, _, rfl⟩ := List.mem_map.mp hd
  exact shp_le (h.shp a) (by omega)
theorem En.mem (x : α) (l : List α) [i : Decidable (x ∈ l)] : D.mem (e x) (.lst (l.map e)) = .ok (decide (x ∈ l)) := by
  have ei : i = List.instDecidableMemOfLawfulBEq x l := Subsingleton.elim _ _
  subst ei
  show (need ((e x).shp 19 && (l.map e).all (D.shp 19)) >>= fun _ => .ok ((l.map e).any fun z => D.beq z (e x))) = _
  rw [shp_le (h.shp x) (by omega), h.all, h.any]
  rfl
theorem En.nmem (x : α) (l : List α) [Decidable (x ∈ l)] : D.nmem (e x) (.lst (l.map e)) = .ok (!decide (x ∈ l)) := by
  unfold D.nmem
  rw [h.mem]
  rfl
end
def leS (a b : Str) : Bool := decide (tl a ≤ tl b)
def sortS (l : List Str) : List Str := l.mergeSort leS
theorem leD_str (a b : Str) : D.leD (.str a) (.str b) = leS a b := by
  unfold D.leD leS
  simp only [D.py]
  rw [PySem.W.dataLt_str, PySem.W.not_lt_str]
theorem sorted_str (l : List Str) : D.sorted (.lst (l.map D.str)) = .ok (.lst ((sortS l).map D.str)) := by
  show (need (D.sortOk (l.map D.str)) >>= fun _ => (.ok (.lst (D.srt (l.map D.str))) : M D)) = _
  have h1 : D.sortOk (l.map D.str) = true := by
    unfold D.sortOk D.alk
    simp only [Bool.and_eq_true, Bool.or_eq_true, List.all_eq_true]
    refine ⟨fun d hd => ?_, fun a ha b hb => ?_, .inr fun d hd => ?_⟩
    · obtain ⟨x, _, rfl⟩ := List.mem_map.mp hd
      exact shp_str
    · obtain ⟨x, _, rfl⟩ := List.mem_map.mp ha
      obtain ⟨y, _, rfl⟩ := List.mem_map.mp hb
      simp [D.py, PySem.W.alike]
    · obtain ⟨x, _, rfl⟩ := List.mem_map.mp hd
      exact ⟨rfl, rfl⟩
  rw [h1]
  have e : D.srt (l.map D.str) = (sortS l).map D.str := by
    unfold D.srt sortS
    rw [List.map_mergeSort (s := D.leD)]
    intro a _ b _
    exact (leD_str a b).symm
  rw [e]
  rfl
theorem leS_trans (a b c : Str) (h1 : leS a b = true) (h2 : leS b c = true) : leS a c = true := by
  unfold leS at *
  exact decide_eq_true (List.le_trans (of_decide_eq_true h1) (of_decide_eq_true h2))
theorem leS_total (a b : Str) : (leS a b || leS b a) = true := by
  unfold leS
  rcases List.le_total (tl a) (tl b) with h | h
  · simp [h]
  · simp [h]
theorem leS_anti {a b : Str} (h1 : leS a b = true) (h2 : leS b a = true) : a = b := by
  unfold leS at *
  have := List.le_antisymm (of_decide_eq_true h1) (of_decide_eq_true h2)
  rw [← mk_tl a, ← mk_tl b, this]
theorem sortS_perm (l : List Str) : (sortS l).Perm l := List.mergeSort_perm l leS
theorem sortS_pw (l : List Str) : (sortS l).Pairwise (fun a b => leS a b = true) := List.pairwise_mergeSort leS_trans leS_total l
def leP (a b : Str × Str) : Bool := if a.1 = b.1 then leS a.2 b.2 else leS a.1 b.1
def prS (p : Str × Str) : D := .tup [.str p.1, .str p.2]
theorem en_prS : En 1 prS := en_pair (n := 0) en_str en_str
def sortP (l : List (Str × Str)) : List (Str × Str) := l.mergeSort leP
theorem leD_pair (a b : Str × Str) : D.leD (prS a) (prS b) = leP a b := by
  unfold D.leD leP prS
  simp only [D.py, D.pyL]
  rw [PySem.W.dataLt_pair (by simp [PySem.W.alike]) (by simp [PySem.W.alike]), PySem.W.dataLt_str, PySem.W.dataLt_str]
  simp only [PyData.eqv, beq_iff_eq]
  have q : ∀ x y : Str, (!decide (y.cps.toList < x.cps.toList)) = leS x y := fun x y => PySem.W.not_lt_str _ _
  by_cases e1 : a.1 = b.1
  · rw [if_pos e1.symm, if_pos e1]
    by_cases e2 : b.2 = a.2
    · rw [if_pos e2, e2]
      have := leS_total a.2 a.2
      simp at this
      simp [this]
    · rw [if_neg e2, q]
  · rw [if_neg (fun z => e1 z.symm), if_neg e1, q]
theorem sorted_pair (l : List (Str × Str)) : D.sorted (.lst (l.map prS)) = .ok (.lst ((sortP l).map prS)) := by
  show (need (D.sortOk (l.map prS)) >>= fun _ => (.ok (.lst (D.srt (l.map prS))) : M D)) = _
  have h1 : D.sortOk (l.map prS) = true := by
    unfold D.sortOk D.alk
    simp only [Bool.and_eq_true, Bool.or_eq_true, List.all_eq_true]
    refine ⟨fun d hd => ?_, fun a ha b hb => ?_, .inl fun d hd => ?_⟩
    · obtain ⟨x, _, rfl⟩ := List.mem_map.mp hd
      exact shp_le (en_prS.shp x) (by omega)
    · obtain ⟨x, _, rfl⟩ := List.mem_map.mp ha
      obtain ⟨y, _, rfl⟩ := List.mem_map.mp hb
      simp [prS, D.py, D.pyL, PySem.W.alike, PySem.W.alikeAll]
    · obtain ⟨x, _, rfl⟩ := List.mem_map.mp hd
      rfl
  rw [h1]
  have e : D.srt (l.map prS) = (sortP l).map prS := by
    unfold D.srt sortP
    rw [List.map_mergeSort (s := D.leD)]
    intro a _ b _
    exact (leD_pair a b).symm
  rw [e]
  rfl
theorem leP_total (a b : Str × Str) : (leP a b || leP b a) = true := by
  unfold leP
  by_cases e : a.1 = b.1
  · rw [if_pos e, if_pos e.symm]
    exact leS_total _ _
  · rw [if_neg e, if_neg fun z => e z.symm]
    exact leS_total _ _
theorem leP_trans (a b c : Str × Str) (h1 : leP a b = true) (h2 : leP b c = true) : leP a c = true := by
  unfold leP at *
  by_cases e1 : a.1 = b.1
  · rw [if_pos e1] at h1
    by_cases e2 : b.1 = c.1
    · rw [if_pos e2] at h2
      rw [if_pos (e1.trans e2)]
      exact leS_trans _ _ _ h1 h2
    · rw [if_neg e2] at h2
      rw [if_neg fun z => e2 (e1.symm.trans z), e1]
      exact h2
  · rw [if_neg e1] at h1
    by_cases e2 : b.1 = c.1
    · rw [if_neg fun z => e1 (z.trans e2.symm), ← e2]
      exact h1
    · rw [if_neg e2] at h2
      have h3 := leS_trans _ _ _ h1 h2
      by_cases e3 : a.1 = c.1
      · rw [← e3] at h2
        exact absurd (leS_anti h1 h2) e1
      · rw [if_neg e3]
        exact h3
theorem sortP_perm (l : List (Str × Str)) : (sortP l).Perm l := List.mergeSort_perm l leP
theorem sortP_pw (l : List (Str × Str)) : (sortP l).Pairwise (fun a b => leP a b = true) := List.pairwise_mergeSort leP_trans leP_total l
theorem nodup_snoc {α : Type} {fs : List α} {q : α} (h : fs.Nodup) (hq : ¬ q ∈ fs) : (fs ++ [q]).Nodup := List.nodup_append.mpr ⟨h, List.nodup_cons.mpr ⟨(fun z => nomatch z), List.nodup_nil⟩, fun a ha b hb z => by
  rw [List.mem_singleton.mp hb] at z
  rw [z] at ha
  exact hq ha⟩
theorem loopF_app {S : Type} {f : S → D → M S} : ∀ (a b : List D) (s : S), loopF f (a ++ b) s = (loopF f a s >>= fun s => loopF f b s)
  | [], b, s => rfl
  | d :: a, b, s => by
    rw [List.cons_append, loopF_cons, loopF_cons]
    cases e : f s d with
    | error z => rfl
    | ok s' => exact loopF_app a b s'
theorem loopF_snoc {S : Type} {f : S → D → M S} (a : List D) (d : D) (s : S) : loopF f (a ++ [d]) s = (loopF f a s >>= fun s => f s d) := by
  rw [loopF_app]
  congr 1
  funext s'
  rw [loopF_cons]
  cases f s' d <;> rfl
section
variable {S : Type}
end
end DL

set_option Elab.async false
set_option linter.all false
set_option maxRecDepth 100000
set_option maxHeartbeats 4000000
namespace LawWalk
open PySem PySem.Spec L2 DL
def m_law_row_l1 (cell_1 : D) : (List D × D × D) → D → M (List D × D × D) := fun s k_1 => match s with | (row_here_2, rest_2, mixed_2) => ((B2 D.mod (B1 (f1 D.toInt) (A1 (B2 D.add (B2 D.mul (.ok mixed_2) (.ok (.int 16807))) (B2 D.mul (.ok (.int 271)) (B2 D.add (.ok k_1) (.ok (.int 3))))) A0)) (.ok (.int 2147483629))) >>= fun mixed_3 => (mIf (B2 D.ge (B1 (f1 D.abs) (A1 (.ok cell_1) A0)) (B2 D.pow (.ok (.int 10)) (.ok (.int 18)))) (mPush row_here_2 (B2 D.mod (B1 (f1 D.toInt) (A1 (.ok rest_2) A0)) (.ok (.int 1009))) >>= fun row_here_3 => ((B2 D.fdiv (.ok rest_2) (.ok (.int 1009))) >>= fun rest_3 => (.ok (row_here_3, rest_3, mixed_3)))) (mPush row_here_2 (B2 D.mod (B1 (f1 D.toInt) (A1 (B2 D.fdiv (.ok mixed_3) (.ok (.int 7))) A0)) (.ok (.int 1009))) >>= fun row_here_4 => (.ok (row_here_4, rest_2, mixed_3)))))
def g_law_row : D → D → M (D) := fun cell_1 many_1 => ((nLst A0) >>= fun row_here_1 => ((B1 (f1 D.abs) (A1 (.ok cell_1) A0)) >>= fun rest_1 => ((B2 D.mod (B1 (f1 D.toInt) (A1 (B2 D.add (B2 D.mul (.ok rest_1) (.ok (.int 48271))) (.ok (.int 69621))) A0)) (.ok (.int 2147483647))) >>= fun mixed_1 => (((B1 D.range1 (A1 (.ok many_1) A0)) >>= fun ds => loopF (m_law_row_l1 cell_1) ds (row_here_1, rest_1, mixed_1)) >>= fun s => match s with | (row_here_5, rest_4, mixed_4) => (.ok (.lst row_here_5))))))
def m_law_row : List D → M (D) := a2 g_law_row
theorem e_law_row (cell_1 many_1 : D) : m_law_row [cell_1, many_1] = g_law_row cell_1 many_1 := a2_ g_law_row cell_1 many_1
theorem sc_law_row : FnScope ["_law_cell", "_law_many", "_law_row_here", "_law_rest", "_law_mixed", "_law_k"] ["_law_cell", "_law_many"] (d_law_row).scope := ⟨rfl, rfl, rfl, by decide +kernel, rfl, by decide +kernel, by decide +kernel⟩
theorem ok_law_row {P : Program} {w : World} {K : PySem.W.Frag} {mg : Str → Option Value} {base : Heap} (L : Lw w K mg) {fd : FuncData} (F : DefOk K d_law_row fd) : FnOk P w K mg base (L2.CX P w) 1 (He.fAd K d_law_row.at_) fd ["_law_cell", "_law_many"] (spD K [true, true] m_law_row) := by
  refine fn_def F sc_law_row rfl (fun cdv A outer s H E hr ds hl => ?_)
  match ds, hl with
  | [cell_1, many_1], _ =>
    first | rw [e_law_row] | skip
    exact db_G [.bor cell_1, .bor many_1, .un, .un, .un, .un] rfl <| db_step (fun row_here_1 => [.bor cell_1, .bor many_1, .own row_here_1, .un, .un, .un]) (ds_setN (dn_lst da_nil) (fun pe => ps_set (i := 2) sc_law_row.nd rfl (Or.inl rfl) pe)) (fun _ => rfl) fun row_here_1 => db_step (fun rest_1 => [.bor cell_1, .bor many_1, .own row_here_1, .val rest_1, .un, .un]) (ds_set (de_callB call_abs abs_op rfl (L.free (fa_0)) boot_abs_ (dra_cons (dr_bor (i := 0) rfl (pv 0)) dra_nil)) (fun pe => ps_set (i := 3) sc_law_row.nd rfl (Or.inl rfl) pe)) (fun _ => rfl) fun rest_1 => db_step (fun mixed_1 => [.bor cell_1, .bor many_1, .own row_here_1, .val rest_1, .val mixed_1, .un]) (ds_set (de_mod (DR.of (de_callTy int_R int_op rfl (L.free (fa_1)) boot_int_ (dra_cons (DR.of (de_add (DR.of (de_mul (dr_val (i := 3) rfl (pv 3)) (DR.of de_int))) (DR.of de_int))) dra_nil))) (DR.of de_int)) (fun pe => ps_set (i := 4) sc_law_row.nd rfl (Or.inl rfl) pe)) (fun _ => rfl) fun mixed_1 => db_any 5 <| db_step (fun (s : List D × D × D) => [.bor cell_1, .bor many_1, .own s.1, .val s.2.1, .val s.2.2, .any]) (ds_for1 (i := 5) (S := List D × D × D) (Γ := (fun (s : List D × D × D) => [.bor cell_1, .bor many_1, .own s.1, .val s.2.1, .val s.2.2, .any])) (f := (m_law_row_l1 cell_1)) (row_here_1, rest_1, mixed_1) rfl ctx_def (di_range1 rfl (L.free (fa_2)) (dra_cons (dr_bor (i := 1) rfl (pv 1)) dra_nil)) (pg_name (i := 5) sc_law_row.nd rfl (Or.inl rfl)) (fun s k_1 => match s with | (row_here_2, rest_2, mixed_2) => db_G [.bor cell_1, .bor many_1, .own row_here_2, .val rest_2, .val mixed_2, .val k_1] rfl <| db_step (fun mixed_3 => [.bor cell_1, .bor many_1, .own row_here_2, .val rest_2, .val mixed_3, .val k_1]) (ds_set (de_mod (DR.of (de_callTy int_R int_op rfl (L.free (fa_1)) boot_int_ (dra_cons (DR.of (de_add (DR.of (de_mul (dr_val (i := 4) rfl (pv 4)) (DR.of de_int))) (DR.of (de_mul (DR.of de_int) (DR.of (de_add (dr_val (i := 5) rfl (pv 5)) (DR.of de_int))))))) dra_nil))) (DR.of de_int)) (fun pe => ps_set (i := 4) sc_law_row.nd rfl (Or.inl rfl) pe)) (fun _ => rfl) fun mixed_3 => db_last (ds_if (dt_cmp op_ge cmp_ge (DR.of (de_callB call_abs abs_op rfl (L.free (fa_0)) boot_abs_ (dra_cons (dr_bor (i := 0) rfl (pv 0)) dra_nil))) (DR.of (de_pow (DR.of de_int) (DR.of de_int))) (nomark _)) (db_step (fun row_here_3 => [.bor cell_1, .bor many_1, .own row_here_3, .val rest_2, .val mixed_3, .val k_1]) (ds_pushO (i := 2) rfl (pv 2) (de_mod (DR.of (de_callTy int_R int_op rfl (L.free (fa_1)) boot_int_ (dra_cons (dr_val (i := 3) rfl (pv 3)) dra_nil))) (DR.of de_int))) (fun _ => rfl) fun row_here_3 => db_step (fun rest_3 => [.bor cell_1, .bor many_1, .own row_here_3, .val rest_3, .val mixed_3, .val k_1]) (ds_set (de_fdiv (dr_val (i := 3) rfl (pv 3)) (DR.of de_int)) (fun pe => ps_set (i := 3) sc_law_row.nd rfl (Or.inl rfl) pe)) (fun _ => rfl) fun rest_3 => db_any 5 <| db_nil rfl) (db_step (fun row_here_4 => [.bor cell_1, .bor many_1, .own row_here_4, .val rest_2, .val mixed_3, .val k_1]) (ds_pushO (i := 2) rfl (pv 2) (de_mod (DR.of (de_callTy int_R int_op rfl (L.free (fa_1)) boot_int_ (dra_cons (DR.of (de_fdiv (dr_val (i := 4) rfl (pv 4)) (DR.of de_int))) dra_nil))) (DR.of de_int))) (fun _ => rfl) fun row_here_4 => db_any 5 <| db_nil rfl)))) (fun _ => rfl) (fun s => match s with | (row_here_5, rest_4, mixed_4) => db_G [.bor cell_1, .bor many_1, .own row_here_5, .val rest_4, .val mixed_4, .any] rfl <| db_fzO 2 rfl <| db_last (ds_ret (de_val (i := 2) rfl (pv 2))))
def m_law_numbers_l1 : (List D) → D → M (List D) := fun numbers_here_3 number_1 => (mPush numbers_here_3 (.ok number_1) >>= fun numbers_here_4 => (.ok numbers_here_4))
def m_law_numbers_l2 (each_1 : D) : (List D) → D → M (List D) := fun numbers_here_2 cell_1 => (((B1 D.items (B1 m_law_row (A1 (.ok cell_1) (A1 (.ok each_1) A0)))) >>= fun ds => loopF m_law_numbers_l1 ds numbers_here_2) >>= fun numbers_here_5 => (.ok numbers_here_5))
def m_law_numbers_l3_c (many_1 : D) : (List D) → M Bool := fun numbers_here_7 => (B2 D.lt (B1 (f1 D.len) (A1 (.ok (.lst numbers_here_7)) A0)) (.ok many_1))
def m_law_numbers_l3 : (List D) → M (List D) := fun numbers_here_7 => (mPush numbers_here_7 (.ok (.int 0)) >>= fun numbers_here_8 => (.ok numbers_here_8))
def g_law_numbers : D → D → M (D) := fun script_1 many_1 => ((S3 (.ok script_1) oN (B1 D.bnd (.ok (.int 63)))) >>= fun cells_1 => ((B2 D.add (.ok (.int 1)) (B2 D.fdiv (.ok many_1) (B1 (f2 D.max2) (A1 (.ok (.int 1)) (A1 (B1 (f1 D.len) (A1 (.ok cells_1) A0)) A0))))) >>= fun each_1 => ((nLst A0) >>= fun numbers_here_1 => (((B1 D.items (.ok cells_1)) >>= fun ds => loopF (m_law_numbers_l2 each_1) ds numbers_here_1) >>= fun numbers_here_6 => ((whileF (m_law_numbers_l3_c many_1) m_law_numbers_l3 100000 numbers_here_6) >>= fun numbers_here_9 => (S3 (.ok (.lst numbers_here_9)) oN (B1 D.bnd (.ok many_1))))))))
def m_law_numbers : List D → M (D) := a2 g_law_numbers
theorem e_law_numbers (script_1 many_1 : D) : m_law_numbers [script_1, many_1] = g_law_numbers script_1 many_1 := a2_ g_law_numbers script_1 many_1
theorem sc_law_numbers : FnScope ["_law_script", "_law_many", "_law_cells", "_law_each", "_law_numbers_here", "_law_cell", "_law_number"] ["_law_script", "_law_many"] (d_law_numbers).scope := ⟨rfl, rfl, rfl, by decide +kernel, rfl, by decide +kernel, by decide +kernel⟩
theorem ok_law_numbers {P : Program} {w : World} {K : PySem.W.Frag} {mg : Str → Option Value} {base : Heap} (L : Lw w K mg) {fd : FuncData} (F : DefOk K d_law_numbers fd) : FnOk P w K mg base (L2.CX P w) 2 (He.fAd K d_law_numbers.at_) fd ["_law_script", "_law_many"] (spD K [true, true] m_law_numbers) := by
  obtain ⟨fd_law_row, F_law_row⟩ := L.c.def_ 0 (d := d_law_row) rfl
  have k_law_row := ok_law_row (P := P) (w := w) (base := base) L F_law_row
  have b_law_row : Binds K fd_law_row ["_law_cell", "_law_many"] [] := F_law_row.bindsN fun _ _ _ _ _ _ us hl => match us, hl with | [_, _], _ => rfl
  refine fn_def F sc_law_numbers rfl (fun cdv A outer s H E hr ds hl => ?_)
  match ds, hl with
  | [script_1, many_1], _ =>
    first | rw [e_law_numbers] | skip
    exact db_G [.bor script_1, .bor many_1, .un, .un, .un, .un, .un] rfl <| db_step (fun cells_1 => [.bor script_1, .bor many_1, .val cells_1, .un, .un, .un, .un]) (ds_set (de_sl (dr_bor (i := 0) rfl (pv 0)) do_none (do_some (DR.of de_int))) (fun pe => ps_set (i := 2) sc_law_numbers.nd rfl (Or.inl rfl) pe)) (fun _ => rfl) fun cells_1 => db_step (fun each_1 => [.bor script_1, .bor many_1, .val cells_1, .val each_1, .un, .un, .un]) (ds_set (de_add (DR.of de_int) (DR.of (de_fdiv (dr_bor (i := 1) rfl (pv 1)) (DR.of (de_callB (call_max2 (CtxOk.calm ctx_def)) max_op rfl (L.free (fa_4)) boot_max_ (dra_cons (DR.of de_int) (dra_cons (DR.of (de_callB lenR len_op rfl (L.free (fa_3)) boot_len_ (dra_cons (dr_val (i := 2) rfl (pv 2)) dra_nil))) dra_nil))))))) (fun pe => ps_set (i := 3) sc_law_numbers.nd rfl (Or.inl rfl) pe)) (fun _ => rfl) fun each_1 => db_step (fun numbers_here_1 => [.bor script_1, .bor many_1, .val cells_1, .val each_1, .own numbers_here_1, .un, .un]) (ds_setN (dn_lst da_nil) (fun pe => ps_set (i := 4) sc_law_numbers.nd rfl (Or.inl rfl) pe)) (fun _ => rfl) fun numbers_here_1 => db_any 5 <| db_any 6 <| db_step (fun (s : List D) => [.bor script_1, .bor many_1, .val cells_1, .val each_1, .own s, .any, .any]) (ds_for1 (i := 5) (S := List D) (Γ := (fun (s : List D) => [.bor script_1, .bor many_1, .val cells_1, .val each_1, .own s, .any, .any])) (f := (m_law_numbers_l2 each_1)) numbers_here_1 rfl ctx_def (di_seq (de_val (i := 2) rfl (pv 2))) (pg_name (i := 5) sc_law_numbers.nd rfl (Or.inl rfl)) (fun numbers_here_2 cell_1 => db_G [.bor script_1, .bor many_1, .val cells_1, .val each_1, .own numbers_here_2, .val cell_1, .any] rfl <| db_step (fun (s : List D) => [.bor script_1, .bor many_1, .val cells_1, .val each_1, .own s, .val cell_1, .any]) (ds_for1 (i := 6) (S := List D) (Γ := (fun (s : List D) => [.bor script_1, .bor many_1, .val cells_1, .val each_1, .own s, .val cell_1, .any])) (f := m_law_numbers_l1) numbers_here_2 rfl ctx_def (di_seq (de_call ctx_def k_law_row (hr.mono (by decide)) rfl (L.glo (fa_5)) F_law_row.kp b_law_row (dam_bor (dr_val (i := 5) rfl (pv 5)) (dam_bor (dr_val (i := 3) rfl (pv 3)) dam_nil)))) (pg_name (i := 6) sc_law_numbers.nd rfl (Or.inl rfl)) (fun numbers_here_3 number_1 => db_G [.bor script_1, .bor many_1, .val cells_1, .val each_1, .own numbers_here_3, .val cell_1, .val number_1] rfl <| db_step (fun numbers_here_4 => [.bor script_1, .bor many_1, .val cells_1, .val each_1, .own numbers_here_4, .val cell_1, .val number_1]) (ds_pushO (i := 4) rfl (pv 4) (de_val (i := 6) rfl (pv 6))) (fun _ => rfl) fun numbers_here_4 => db_any 6 <| db_nil rfl)) (fun _ => rfl) (fun numbers_here_5 => db_G [.bor script_1, .bor many_1, .val cells_1, .val each_1, .own numbers_here_5, .val cell_1, .any] rfl <| db_any 5 <| db_nil rfl))) (fun _ => rfl) (fun numbers_here_6 => db_G [.bor script_1, .bor many_1, .val cells_1, .val each_1, .own numbers_here_6, .any, .any] rfl <| db_step (fun (s : List D) => [.bor script_1, .bor many_1, .val cells_1, .val each_1, .own s, .any, .any]) (ds_whileF (S := List D) (Γ := (fun (s : List D) => [.bor script_1, .bor many_1, .val cells_1, .val each_1, .own s, .any, .any])) (mc := (m_law_numbers_l3_c many_1)) (f := m_law_numbers_l3) 100000 numbers_here_6 rfl (CtxOk.own ctx_def) (fun numbers_here_7 => dt_G [.bor script_1, .bor many_1, .val cells_1, .val each_1, .own numbers_here_7, .any, .any] rfl <| (dt_cmp (op_lt.or op_lt_str) cmp_lt (DR.of (de_callB lenR len_op rfl (L.free (fa_3)) boot_len_ (dra_cons (dr_own (i := 4) rfl (pv 4)) dra_nil))) (dr_bor (i := 1) rfl (pv 1)) (nomark _))) (fun numbers_here_7 => db_G [.bor script_1, .bor many_1, .val cells_1, .val each_1, .own numbers_here_7, .any, .any] rfl <| db_step (fun numbers_here_8 => [.bor script_1, .bor many_1, .val cells_1, .val each_1, .own numbers_here_8, .any, .any]) (ds_pushO (i := 4) rfl (pv 4) de_int) (fun _ => rfl) fun numbers_here_8 => db_nil rfl)) (fun _ => rfl) (fun numbers_here_9 => db_G [.bor script_1, .bor many_1, .val cells_1, .val each_1, .own numbers_here_9, .any, .any] rfl <| db_last (ds_ret (de_sl (dr_own (i := 4) rfl (pv 4)) do_none (do_some (dr_bor (i := 1) rfl (pv 1)))))))
def m_law_names_l1 (number_1 : D) (letters_1 : D) (rest_1 : D) (place_1 : D) : (List D) → D → M (List D) := fun names_here_2 k_2 => ((.ok rest_1) >>= fun own_1 => ((mIf (B2 D.eq (B2 D.mod (B1 (f1 D.toInt) (A1 (B2 D.add (B2 D.fdiv (.ok number_1) (.ok (.int 121))) (.ok k_2)) A0)) (.ok (.int 3))) (.ok (.int 0))) ((S3 (.ok rest_1) (B1 D.bnd (.ok (.int 1))) oN) >>= fun own_2 => (.ok own_2)) (.ok own_1) : M (D)) >>= fun own_3 => ((B1 (f2 D.min2) (A1 (.ok place_1) (A1 (B1 (f1 D.len) (A1 (.ok own_3) A0)) A0))) >>= fun spot_1 => ((.ok (.int 5)) >>= fun step_1 => ((mIf (B2 D.eq (B2 D.mod (B2 D.fdiv (.ok number_1) (.ok (.int 363))) (.ok (.int 2))) (.ok (.int 1))) ((.ok (.int 31)) >>= fun step_2 => (.ok step_2)) (.ok step_1) : M (D)) >>= fun step_3 => (mPush names_here_2 (B2 D.add (B2 D.add (B2 D.add (B2 D.ix (.ok letters_1) (B2 D.mod (B1 (f1 D.toInt) (A1 (B2 D.add (.ok number_1) (B2 D.mul (.ok (.int 3)) (.ok k_2))) A0)) (.ok (.int 26)))) (S3 (.ok own_3) oN (B1 D.bnd (.ok spot_1)))) (B2 D.ix (.ok letters_1) (B2 D.mod (B1 (f1 D.toInt) (A1 (B2 D.add (.ok number_1) (B2 D.mul (.ok step_3) (.ok k_2))) A0)) (.ok (.int 36))))) (S3 (.ok own_3) (B1 D.bnd (.ok spot_1)) oN)) >>= fun names_here_3 => (.ok names_here_3)))))))
def g_law_names : D → D → M (D) := fun number_1 many_1 => ((.ok (.str "abcdefghijklmnopqrstuvwxyz0123456789")) >>= fun letters_1 => ((B2 D.mod (B1 (f1 D.toInt) (A1 (.ok number_1) A0)) (.ok (.int 11))) >>= fun size_1 => ((meth D.isStr (.ok (.str "")) (A1 (L1 ((B1 D.range1 (A1 (.ok size_1) A0)) >>= fun ds => compL (fElt noT (fun k_1 => (B2 D.ix (.ok letters_1) (B2 D.mod (B1 (f1 D.toInt) (A1 (B2 D.add (.ok number_1) (B2 D.mul (B2 D.mul (.ok (.int 7)) (.ok k_1)) (.ok k_1))) A0)) (.ok (.int 36)))))) ds)) A0) (m1 D.join)) >>= fun rest_1 => ((B2 D.mod (B2 D.fdiv (.ok number_1) (.ok (.int 11))) (B2 D.add (.ok size_1) (.ok (.int 1)))) >>= fun place_1 => ((nLst A0) >>= fun names_here_1 => (((B1 D.range1 (A1 (.ok many_1) A0)) >>= fun ds => loopF (m_law_names_l1 number_1 letters_1 rest_1 place_1) ds names_here_1) >>= fun names_here_4 => (.ok (.lst names_here_4))))))))
def m_law_names : List D → M (D) := a2 g_law_names
theorem e_law_names (number_1 many_1 : D) : m_law_names [number_1, many_1] = g_law_names number_1 many_1 := a2_ g_law_names number_1 many_1
theorem sc_law_names : FnScope ["_law_number", "_law_many", "_law_letters", "_law_size", "_law_rest", "_law_place", "_law_names_here", "_law_k", "_law_own", "_law_spot", "_law_step"] ["_law_number", "_law_many"] (d_law_names).scope := ⟨rfl, rfl, rfl, by decide +kernel, rfl, by decide +kernel, by decide +kernel⟩
theorem ok_law_names {P : Program} {w : World} {K : PySem.W.Frag} {mg : Str → Option Value} {base : Heap} (L : Lw w K mg) {fd : FuncData} (F : DefOk K d_law_names fd) : FnOk P w K mg base (L2.CX P w) 1 (He.fAd K d_law_names.at_) fd ["_law_number", "_law_many"] (spD K [true, true] m_law_names) := by
  refine fn_def F sc_law_names rfl (fun cdv A outer s H E hr ds hl => ?_)
  match ds, hl with
  | [number_1, many_1], _ =>
    first | rw [e_law_names] | skip
    exact db_G [.bor number_1, .bor many_1, .un, .un, .un, .un, .un, .un, .un, .un, .un] rfl <| db_step (fun letters_1 => [.bor number_1, .bor many_1, .val letters_1, .un, .un, .un, .un, .un, .un, .un, .un]) (ds_set (de_str (by decide +kernel)) (fun pe => ps_set (i := 2) sc_law_names.nd rfl (Or.inr rfl) pe)) (fun _ => rfl) fun letters_1 => db_step (fun size_1 => [.bor number_1, .bor many_1, .val letters_1, .val size_1, .un, .un, .un, .un, .un, .un, .un]) (ds_set (de_mod (DR.of (de_callTy int_R int_op rfl (L.free (fa_1)) boot_int_ (dra_cons (dr_bor (i := 0) rfl (pv 0)) dra_nil))) (DR.of de_int)) (fun pe => ps_set (i := 3) sc_law_names.nd rfl (Or.inl rfl) pe)) (fun _ => rfl) fun size_1 => db_step (fun rest_1 => [.bor number_1, .bor many_1, .val letters_1, .val size_1, .val rest_1, .un, .un, .un, .un, .un, .un]) (ds_set (de_join (DR.of (de_str (by decide +kernel))) (dra_cons (DR.of (DNL.de (dn_lc1 (own := [("_law_k", 7)]) (i := 7) (me := fun k_1 => (B2 D.ix (.ok letters_1) (B2 D.mod (B1 (f1 D.toInt) (A1 (B2 D.add (.ok number_1) (B2 D.mul (B2 D.mul (.ok (.int 7)) (.ok k_1)) (.ok k_1))) A0)) (.ok (.int 36))))) (CtxOk.calm ctx_def) sc_law_names.nd (DIR.of (di_range1 rfl (L.free (fa_2)) (dra_cons (dr_val (i := 3) rfl (pv 3)) dra_nil))) (blkOk_by (by kernel_rfl)) rfl (fun _ _ _ _ _ => pg_name (i := 7) sc_law_names.nd rfl (Or.inl rfl)) (fun _ _ _ _ _ k_1 => (de_ix hr.u70 (dr_val (i := 2) rfl (pv 2)) (DR.of (de_mod (DR.of (de_callTy int_R int_op rfl (L.free (fa_1)) boot_int_ (dra_cons (DR.of (de_add (dr_bor (i := 0) rfl (pv 0)) (DR.of (de_mul (DR.of (de_mul (DR.of de_int) (dr_val (i := 7) rfl (pv 7)))) (dr_val (i := 7) rfl (pv 7)))))) dra_nil))) (DR.of de_int)))))))) dra_nil)) (fun pe => ps_set (i := 4) sc_law_names.nd rfl (Or.inl rfl) pe)) (fun _ => rfl) fun rest_1 => db_step (fun place_1 => [.bor number_1, .bor many_1, .val letters_1, .val size_1, .val rest_1, .val place_1, .un, .un, .un, .un, .un]) (ds_set (de_mod (DR.of (de_fdiv (dr_bor (i := 0) rfl (pv 0)) (DR.of de_int))) (DR.of (de_add (dr_val (i := 3) rfl (pv 3)) (DR.of de_int)))) (fun pe => ps_set (i := 5) sc_law_names.nd rfl (Or.inl rfl) pe)) (fun _ => rfl) fun place_1 => db_step (fun names_here_1 => [.bor number_1, .bor many_1, .val letters_1, .val size_1, .val rest_1, .val place_1, .own names_here_1, .un, .un, .un, .un]) (ds_setN (dn_lst da_nil) (fun pe => ps_set (i := 6) sc_law_names.nd rfl (Or.inl rfl) pe)) (fun _ => rfl) fun names_here_1 => db_any 7 <| db_any 8 <| db_any 9 <| db_any 10 <| db_step (fun (s : List D) => [.bor number_1, .bor many_1, .val letters_1, .val size_1, .val rest_1, .val place_1, .own s, .any, .any, .any, .any]) (ds_for1 (i := 7) (S := List D) (Γ := (fun (s : List D) => [.bor number_1, .bor many_1, .val letters_1, .val size_1, .val rest_1, .val place_1, .own s, .any, .any, .any, .any])) (f := (m_law_names_l1 number_1 letters_1 rest_1 place_1)) names_here_1 rfl ctx_def (di_range1 rfl (L.free (fa_2)) (dra_cons (dr_bor (i := 1) rfl (pv 1)) dra_nil)) (pg_name (i := 7) sc_law_names.nd rfl (Or.inl rfl)) (fun names_here_2 k_2 => db_G [.bor number_1, .bor many_1, .val letters_1, .val size_1, .val rest_1, .val place_1, .own names_here_2, .val k_2, .any, .any, .any] rfl <| db_step (fun own_1 => [.bor number_1, .bor many_1, .val letters_1, .val size_1, .val rest_1, .val place_1, .own names_here_2, .val k_2, .val own_1, .any, .any]) (ds_set (de_val (i := 4) rfl (pv 4)) (fun pe => ps_set (i := 8) sc_law_names.nd rfl (Or.inl rfl) pe)) (fun _ => rfl) fun own_1 => db_step (fun (s : D) => [.bor number_1, .bor many_1, .val letters_1, .val size_1, .val rest_1, .val place_1, .own names_here_2, .val k_2, .val s, .any, .any]) (ds_if (dt_cmp (op_eqD hr.u64) cmp_eq (DR.of (de_mod (DR.of (de_callTy int_R int_op rfl (L.free (fa_1)) boot_int_ (dra_cons (DR.of (de_add (DR.of (de_fdiv (dr_bor (i := 0) rfl (pv 0)) (DR.of de_int))) (dr_val (i := 7) rfl (pv 7)))) dra_nil))) (DR.of de_int))) (DR.of de_int) (nomark _)) (db_step (fun own_2 => [.bor number_1, .bor many_1, .val letters_1, .val size_1, .val rest_1, .val place_1, .own names_here_2, .val k_2, .val own_2, .any, .any]) (ds_set (de_sl (dr_val (i := 4) rfl (pv 4)) (do_some (DR.of de_int)) do_none) (fun pe => ps_set (i := 8) sc_law_names.nd rfl (Or.inl rfl) pe)) (fun _ => rfl) fun own_2 => db_nil rfl) (db_nil rfl)) (fun _ => rfl) (fun own_3 => db_G [.bor number_1, .bor many_1, .val letters_1, .val size_1, .val rest_1, .val place_1, .own names_here_2, .val k_2, .val own_3, .any, .any] rfl <| db_step (fun spot_1 => [.bor number_1, .bor many_1, .val letters_1, .val size_1, .val rest_1, .val place_1, .own names_here_2, .val k_2, .val own_3, .val spot_1, .any]) (ds_set (de_callB (call_min2 (CtxOk.calm ctx_def)) min_op rfl (L.free (fa_6)) boot_min_ (dra_cons (dr_val (i := 5) rfl (pv 5)) (dra_cons (DR.of (de_callB lenR len_op rfl (L.free (fa_3)) boot_len_ (dra_cons (dr_val (i := 8) rfl (pv 8)) dra_nil))) dra_nil))) (fun pe => ps_set (i := 9) sc_law_names.nd rfl (Or.inl rfl) pe)) (fun _ => rfl) fun spot_1 => db_step (fun step_1 => [.bor number_1, .bor many_1, .val letters_1, .val size_1, .val rest_1, .val place_1, .own names_here_2, .val k_2, .val own_3, .val spot_1, .val step_1]) (ds_set de_int (fun pe => ps_set (i := 10) sc_law_names.nd rfl (Or.inl rfl) pe)) (fun _ => rfl) fun step_1 => db_step (fun (s : D) => [.bor number_1, .bor many_1, .val letters_1, .val size_1, .val rest_1, .val place_1, .own names_here_2, .val k_2, .val own_3, .val spot_1, .val s]) (ds_if (dt_cmp (op_eqD hr.u64) cmp_eq (DR.of (de_mod (DR.of (de_fdiv (dr_bor (i := 0) rfl (pv 0)) (DR.of de_int))) (DR.of de_int))) (DR.of de_int) (nomark _)) (db_step (fun step_2 => [.bor number_1, .bor many_1, .val letters_1, .val size_1, .val rest_1, .val place_1, .own names_here_2, .val k_2, .val own_3, .val spot_1, .val step_2]) (ds_set de_int (fun pe => ps_set (i := 10) sc_law_names.nd rfl (Or.inl rfl) pe)) (fun _ => rfl) fun step_2 => db_nil rfl) (db_nil rfl)) (fun _ => rfl) (fun step_3 => db_G [.bor number_1, .bor many_1, .val letters_1, .val size_1, .val rest_1, .val place_1, .own names_here_2, .val k_2, .val own_3, .val spot_1, .val step_3] rfl <| db_step (fun names_here_3 => [.bor number_1, .bor many_1, .val letters_1, .val size_1, .val rest_1, .val place_1, .own names_here_3, .val k_2, .val own_3, .val spot_1, .val step_3]) (ds_pushO (i := 6) rfl (pv 6) (de_add (DR.of (de_add (DR.of (de_add (DR.of (de_ix hr.u70 (dr_val (i := 2) rfl (pv 2)) (DR.of (de_mod (DR.of (de_callTy int_R int_op rfl (L.free (fa_1)) boot_int_ (dra_cons (DR.of (de_add (dr_bor (i := 0) rfl (pv 0)) (DR.of (de_mul (DR.of de_int) (dr_val (i := 7) rfl (pv 7)))))) dra_nil))) (DR.of de_int))))) (DR.of (de_sl (dr_val (i := 8) rfl (pv 8)) do_none (do_some (dr_val (i := 9) rfl (pv 9))))))) (DR.of (de_ix hr.u70 (dr_val (i := 2) rfl (pv 2)) (DR.of (de_mod (DR.of (de_callTy int_R int_op rfl (L.free (fa_1)) boot_int_ (dra_cons (DR.of (de_add (dr_bor (i := 0) rfl (pv 0)) (DR.of (de_mul (dr_val (i := 10) rfl (pv 10)) (dr_val (i := 7) rfl (pv 7)))))) dra_nil))) (DR.of de_int))))))) (DR.of (de_sl (dr_val (i := 8) rfl (pv 8)) (do_some (dr_val (i := 9) rfl (pv 9))) do_none)))) (fun _ => rfl) fun names_here_3 => db_any 7 <| db_any 8 <| db_any 9 <| db_any 10 <| db_nil rfl)))) (fun _ => rfl) (fun names_here_4 => db_G [.bor number_1, .bor many_1, .val letters_1, .val size_1, .val rest_1, .val place_1, .own names_here_4, .any, .any, .any, .any] rfl <| db_fzO 6 rfl <| db_last (ds_ret (de_val (i := 6) rfl (pv 6))))
def m_law_bars_l1 (one_1 : D) : (List D) → D → M (List D) := fun pairs_3 other_1 => (mIf (B2 D.eq (B2 D.ix (.ok one_1) (.ok (.int 2))) (B2 D.ix (.ok other_1) (.ok (.int 1)))) (mPush pairs_3 (B1 D.mkTup (A1 (B2 D.ix (.ok one_1) (.ok (.int 0))) (A1 (B2 D.ix (.ok other_1) (.ok (.int 0))) A0))) >>= fun pairs_4 => (.ok pairs_4)) (.ok pairs_3))
def m_law_bars_l2 (roads_1 : D) : (List D) → D → M (List D) := fun pairs_2 one_1 => (((B1 D.items (.ok roads_1)) >>= fun ds => loopF (m_law_bars_l1 one_1) ds pairs_2) >>= fun pairs_5 => (.ok pairs_5))
def m_law_bars_l3 (numbers_here_1 : D) (at_1 : D) (pairs_6 : List D) : (List D) → D → M (List D) := fun chosen_2 k_1 => (mIf (mAnd (B2 D.eq (B2 D.mod (B1 (f1 D.toInt) (A1 (B2 D.add (B2 D.ix (.ok numbers_here_1) (B2 D.add (.ok at_1) (B2 D.mod (.ok k_1) (.ok (.int 7))))) (B2 D.mul (.ok (.int 5)) (.ok k_1))) A0)) (.ok (.int 6))) (.ok (.int 0))) (B2 D.lt (B1 (f1 D.len) (A1 (.ok (.lst chosen_2)) A0)) (.ok (.int 40)))) (mPush chosen_2 (B2 D.ix (.ok (.lst pairs_6)) (.ok k_1)) >>= fun chosen_3 => (.ok chosen_3)) (.ok chosen_2))
def g_law_bars : D → D → D → M (D) := fun numbers_here_1 at_1 roads_1 => ((nLst A0) >>= fun pairs_1 => (((B1 D.items (.ok roads_1)) >>= fun ds => loopF (m_law_bars_l2 roads_1) ds pairs_1) >>= fun pairs_6 => ((nLst A0) >>= fun chosen_1 => (((B1 D.range1 (A1 (B1 (f1 D.len) (A1 (.ok (.lst pairs_6)) A0)) A0)) >>= fun ds => loopF (m_law_bars_l3 numbers_here_1 at_1 pairs_6) ds chosen_1) >>= fun chosen_4 => (B1 (f1 D.toTup) (A1 (B1 (f1 D.sorted) (A1 (.ok (.lst chosen_4)) A0)) A0))))))
def m_law_bars : List D → M (D) := a3 g_law_bars
theorem e_law_bars (numbers_here_1 at_1 roads_1 : D) : m_law_bars [numbers_here_1, at_1, roads_1] = g_law_bars numbers_here_1 at_1 roads_1 := a3_ g_law_bars numbers_here_1 at_1 roads_1
theorem sc_law_bars : FnScope ["_law_numbers_here", "_law_at", "_law_roads", "_law_pairs", "_law_one", "_law_other", "_law_chosen", "_law_k"] ["_law_numbers_here", "_law_at", "_law_roads"] (d_law_bars).scope := ⟨rfl, rfl, rfl, by decide +kernel, rfl, by decide +kernel, by decide +kernel⟩
theorem ok_law_bars {P : Program} {w : World} {K : PySem.W.Frag} {mg : Str → Option Value} {base : Heap} (L : Lw w K mg) {fd : FuncData} (F : DefOk K d_law_bars fd) : FnOk P w K mg base (L2.CX P w) 1 (He.fAd K d_law_bars.at_) fd ["_law_numbers_here", "_law_at", "_law_roads"] (spD K [true, true, false] m_law_bars) := by
  refine fn_def F sc_law_bars rfl (fun cdv A outer s H E hr ds hl => ?_)
  match ds, hl with
  | [numbers_here_1, at_1, roads_1], _ =>
    first | rw [e_law_bars] | skip
    exact db_G [.bor numbers_here_1, .bor at_1, .val roads_1, .un, .un, .un, .un, .un] rfl <| db_step (fun pairs_1 => [.bor numbers_here_1, .bor at_1, .val roads_1, .own pairs_1, .un, .un, .un, .un]) (ds_setN (dn_lst da_nil) (fun pe => ps_set (i := 3) sc_law_bars.nd rfl (Or.inl rfl) pe)) (fun _ => rfl) fun pairs_1 => db_any 4 <| db_any 5 <| db_step (fun (s : List D) => [.bor numbers_here_1, .bor at_1, .val roads_1, .own s, .any, .any, .un, .un]) (ds_for1 (i := 4) (S := List D) (Γ := (fun (s : List D) => [.bor numbers_here_1, .bor at_1, .val roads_1, .own s, .any, .any, .un, .un])) (f := (m_law_bars_l2 roads_1)) pairs_1 rfl ctx_def (di_seq (de_val (i := 2) rfl (pv 2))) (pg_name (i := 4) sc_law_bars.nd rfl (Or.inl rfl)) (fun pairs_2 one_1 => db_G [.bor numbers_here_1, .bor at_1, .val roads_1, .own pairs_2, .val one_1, .any, .un, .un] rfl <| db_step (fun (s : List D) => [.bor numbers_here_1, .bor at_1, .val roads_1, .own s, .val one_1, .any, .un, .un]) (ds_for1 (i := 5) (S := List D) (Γ := (fun (s : List D) => [.bor numbers_here_1, .bor at_1, .val roads_1, .own s, .val one_1, .any, .un, .un])) (f := (m_law_bars_l1 one_1)) pairs_2 rfl ctx_def (di_seq (de_val (i := 2) rfl (pv 2))) (pg_name (i := 5) sc_law_bars.nd rfl (Or.inl rfl)) (fun pairs_3 other_1 => db_G [.bor numbers_here_1, .bor at_1, .val roads_1, .own pairs_3, .val one_1, .val other_1, .un, .un] rfl <| db_last (ds_if (dt_cmp (op_eqD hr.u64) cmp_eq (DR.of (de_ix hr.u70 (dr_val (i := 4) rfl (pv 4)) (DR.of de_int))) (DR.of (de_ix hr.u70 (dr_val (i := 5) rfl (pv 5)) (DR.of de_int))) (nomark _)) (db_step (fun pairs_4 => [.bor numbers_here_1, .bor at_1, .val roads_1, .own pairs_4, .val one_1, .val other_1, .un, .un]) (ds_pushO (i := 3) rfl (pv 3) (de_tup (da_cons (de_ix hr.u70 (dr_val (i := 4) rfl (pv 4)) (DR.of de_int)) (da_cons (de_ix hr.u70 (dr_val (i := 5) rfl (pv 5)) (DR.of de_int)) da_nil)))) (fun _ => rfl) fun pairs_4 => db_any 5 <| db_nil rfl) (db_any 5 <| db_nil rfl)))) (fun _ => rfl) (fun pairs_5 => db_G [.bor numbers_here_1, .bor at_1, .val roads_1, .own pairs_5, .val one_1, .any, .un, .un] rfl <| db_any 4 <| db_nil rfl))) (fun _ => rfl) (fun pairs_6 => db_G [.bor numbers_here_1, .bor at_1, .val roads_1, .own pairs_6, .any, .any, .un, .un] rfl <| db_step (fun chosen_1 => [.bor numbers_here_1, .bor at_1, .val roads_1, .own pairs_6, .any, .any, .own chosen_1, .un]) (ds_setN (dn_lst da_nil) (fun pe => ps_set (i := 6) sc_law_bars.nd rfl (Or.inl rfl) pe)) (fun _ => rfl) fun chosen_1 => db_any 7 <| db_step (fun (s : List D) => [.bor numbers_here_1, .bor at_1, .val roads_1, .own pairs_6, .any, .any, .own s, .any]) (ds_for1 (i := 7) (S := List D) (Γ := (fun (s : List D) => [.bor numbers_here_1, .bor at_1, .val roads_1, .own pairs_6, .any, .any, .own s, .any])) (f := (m_law_bars_l3 numbers_here_1 at_1 pairs_6)) chosen_1 rfl ctx_def (di_range1 rfl (L.free (fa_2)) (dra_cons (DR.of (de_callB lenR len_op rfl (L.free (fa_3)) boot_len_ (dra_cons (dr_own (i := 3) rfl (pv 3)) dra_nil))) dra_nil)) (pg_name (i := 7) sc_law_bars.nd rfl (Or.inl rfl)) (fun chosen_2 k_1 => db_G [.bor numbers_here_1, .bor at_1, .val roads_1, .own pairs_6, .any, .any, .own chosen_2, .val k_1] rfl <| db_last (ds_if (DW.dt (dw_and (dt_cmp (op_eqD hr.u64) cmp_eq (DR.of (de_mod (DR.of (de_callTy int_R int_op rfl (L.free (fa_1)) boot_int_ (dra_cons (DR.of (de_add (DR.of (de_ix hr.u70 (dr_bor (i := 0) rfl (pv 0)) (DR.of (de_add (dr_bor (i := 1) rfl (pv 1)) (DR.of (de_mod (dr_val (i := 7) rfl (pv 7)) (DR.of de_int))))))) (DR.of (de_mul (DR.of de_int) (dr_val (i := 7) rfl (pv 7)))))) dra_nil))) (DR.of de_int))) (DR.of de_int) (nomark _)) (dw_and1 (dt_cmp (op_lt.or op_lt_str) cmp_lt (DR.of (de_callB lenR len_op rfl (L.free (fa_3)) boot_len_ (dra_cons (dr_own (i := 6) rfl (pv 6)) dra_nil))) (DR.of de_int) (nomark _))))) (db_step (fun chosen_3 => [.bor numbers_here_1, .bor at_1, .val roads_1, .own pairs_6, .any, .any, .own chosen_3, .val k_1]) (ds_pushO (i := 6) rfl (pv 6) (de_ix hr.u70 (dr_own (i := 3) rfl (pv 3)) (dr_val (i := 7) rfl (pv 7)))) (fun _ => rfl) fun chosen_3 => db_any 7 <| db_nil rfl) (db_any 7 <| db_nil rfl)))) (fun _ => rfl) (fun chosen_4 => db_G [.bor numbers_here_1, .bor at_1, .val roads_1, .own pairs_6, .any, .any, .own chosen_4, .any] rfl <| db_last (ds_ret (de_callTy call_tuple_ofP tup_op rfl (L.free (fa_8)) boot_tuple_ (dra_cons (DR.of (de_callB (cr_sortD hr.u70) sorted_op rfl (L.free (fa_7)) boot_sorted_ (dra_cons (dr_own (i := 6) rfl (pv 6)) dra_nil))) dra_nil)))))
def m_law_hours_l1 (numbers_here_1 : D) (at_1 : D) (day_1 : D) : (List D × D) → D → M (List D × D) := fun s k_1 => match s with | (hours_here_2, last_2) => ((B2 D.add (B2 D.add (.ok last_2) (.ok (.int 1))) (B2 D.mod (B1 (f1 D.toInt) (A1 (B2 D.ix (.ok numbers_here_1) (B2 D.add (B2 D.add (.ok at_1) (.ok (.int 1))) (.ok k_1))) A0)) (.ok (.int 4)))) >>= fun opened_1 => ((B2 D.add (B2 D.add (.ok opened_1) (.ok (.int 1))) (B2 D.mod (B2 D.fdiv (B2 D.ix (.ok numbers_here_1) (B2 D.add (B2 D.add (.ok at_1) (.ok (.int 1))) (.ok k_1))) (.ok (.int 4))) (.ok (.int 6)))) >>= fun closed_1 => (mIf (B2 D.le (.ok closed_1) (.ok day_1)) (mPush hours_here_2 (B1 D.mkTup (A1 (.ok opened_1) (A1 (.ok closed_1) A0))) >>= fun hours_here_3 => ((.ok closed_1) >>= fun last_3 => (.ok (hours_here_3, last_3)))) (.ok (hours_here_2, last_2)))))
def g_law_hours : D → D → D → M (D) := fun numbers_here_1 at_1 day_1 => (mIf (B2 D.eq (B2 D.mod (B1 (f1 D.toInt) (A1 (B2 D.ix (.ok numbers_here_1) (.ok at_1)) A0)) (.ok (.int 3))) (.ok (.int 0))) (.ok .non) ((nLst A0) >>= fun hours_here_1 => ((B1 D.neg (.ok (.int 1))) >>= fun last_1 => (((B1 D.range1 (A1 (B2 D.mod (B1 (f1 D.toInt) (A1 (B2 D.ix (.ok numbers_here_1) (.ok at_1)) A0)) (.ok (.int 4))) A0)) >>= fun ds => loopF (m_law_hours_l1 numbers_here_1 at_1 day_1) ds (hours_here_1, last_1)) >>= fun s => match s with | (hours_here_4, last_4) => (B1 (f1 D.toTup) (A1 (.ok (.lst hours_here_4)) A0))))))
def m_law_hours : List D → M (D) := a3 g_law_hours
theorem e_law_hours (numbers_here_1 at_1 day_1 : D) : m_law_hours [numbers_here_1, at_1, day_1] = g_law_hours numbers_here_1 at_1 day_1 := a3_ g_law_hours numbers_here_1 at_1 day_1
theorem sc_law_hours : FnScope ["_law_numbers_here", "_law_at", "_law_day", "_law_hours_here", "_law_last", "_law_k", "_law_opened", "_law_closed"] ["_law_numbers_here", "_law_at", "_law_day"] (d_law_hours).scope := ⟨rfl, rfl, rfl, by decide +kernel, rfl, by decide +kernel, by decide +kernel⟩
theorem ok_law_hours {P : Program} {w : World} {K : PySem.W.Frag} {mg : Str → Option Value} {base : Heap} (L : Lw w K mg) {fd : FuncData} (F : DefOk K d_law_hours fd) : FnOk P w K mg base (L2.CX P w) 1 (He.fAd K d_law_hours.at_) fd ["_law_numbers_here", "_law_at", "_law_day"] (spD K [true, true, true] m_law_hours) := by
  refine fn_def F sc_law_hours rfl (fun cdv A outer s H E hr ds hl => ?_)
  match ds, hl with
  | [numbers_here_1, at_1, day_1], _ =>
    first | rw [e_law_hours] | skip
    exact db_G [.bor numbers_here_1, .bor at_1, .bor day_1, .un, .un, .un, .un, .un] rfl <| db_ifr (dt_cmp (op_eqD hr.u64) cmp_eq (DR.of (de_mod (DR.of (de_callTy int_R int_op rfl (L.free (fa_1)) boot_int_ (dra_cons (DR.of (de_ix hr.u70 (dr_bor (i := 0) rfl (pv 0)) (dr_bor (i := 1) rfl (pv 1)))) dra_nil))) (DR.of de_int))) (DR.of de_int) (nomark _)) (db_last (ds_ret de_non)) (db_step (fun hours_here_1 => [.bor numbers_here_1, .bor at_1, .bor day_1, .own hours_here_1, .un, .un, .un, .un]) (ds_setN (dn_lst da_nil) (fun pe => ps_set (i := 3) sc_law_hours.nd rfl (Or.inl rfl) pe)) (fun _ => rfl) fun hours_here_1 => db_step (fun last_1 => [.bor numbers_here_1, .bor at_1, .bor day_1, .own hours_here_1, .val last_1, .un, .un, .un]) (ds_set (de_neg (DR.of de_int)) (fun pe => ps_set (i := 4) sc_law_hours.nd rfl (Or.inl rfl) pe)) (fun _ => rfl) fun last_1 => db_any 5 <| db_any 6 <| db_any 7 <| db_step (fun (s : List D × D) => [.bor numbers_here_1, .bor at_1, .bor day_1, .own s.1, .val s.2, .any, .any, .any]) (ds_for1 (i := 5) (S := List D × D) (Γ := (fun (s : List D × D) => [.bor numbers_here_1, .bor at_1, .bor day_1, .own s.1, .val s.2, .any, .any, .any])) (f := (m_law_hours_l1 numbers_here_1 at_1 day_1)) (hours_here_1, last_1) rfl ctx_def (di_range1 rfl (L.free (fa_2)) (dra_cons (DR.of (de_mod (DR.of (de_callTy int_R int_op rfl (L.free (fa_1)) boot_int_ (dra_cons (DR.of (de_ix hr.u70 (dr_bor (i := 0) rfl (pv 0)) (dr_bor (i := 1) rfl (pv 1)))) dra_nil))) (DR.of de_int))) dra_nil)) (pg_name (i := 5) sc_law_hours.nd rfl (Or.inl rfl)) (fun s k_1 => match s with | (hours_here_2, last_2) => db_G [.bor numbers_here_1, .bor at_1, .bor day_1, .own hours_here_2, .val last_2, .val k_1, .any, .any] rfl <| db_step (fun opened_1 => [.bor numbers_here_1, .bor at_1, .bor day_1, .own hours_here_2, .val last_2, .val k_1, .val opened_1, .any]) (ds_set (de_add (DR.of (de_add (dr_val (i := 4) rfl (pv 4)) (DR.of de_int))) (DR.of (de_mod (DR.of (de_callTy int_R int_op rfl (L.free (fa_1)) boot_int_ (dra_cons (DR.of (de_ix hr.u70 (dr_bor (i := 0) rfl (pv 0)) (DR.of (de_add (DR.of (de_add (dr_bor (i := 1) rfl (pv 1)) (DR.of de_int))) (dr_val (i := 5) rfl (pv 5)))))) dra_nil))) (DR.of de_int)))) (fun pe => ps_set (i := 6) sc_law_hours.nd rfl (Or.inl rfl) pe)) (fun _ => rfl) fun opened_1 => db_step (fun closed_1 => [.bor numbers_here_1, .bor at_1, .bor day_1, .own hours_here_2, .val last_2, .val k_1, .val opened_1, .val closed_1]) (ds_set (de_add (DR.of (de_add (dr_val (i := 6) rfl (pv 6)) (DR.of de_int))) (DR.of (de_mod (DR.of (de_fdiv (DR.of (de_ix hr.u70 (dr_bor (i := 0) rfl (pv 0)) (DR.of (de_add (DR.of (de_add (dr_bor (i := 1) rfl (pv 1)) (DR.of de_int))) (dr_val (i := 5) rfl (pv 5)))))) (DR.of de_int))) (DR.of de_int)))) (fun pe => ps_set (i := 7) sc_law_hours.nd rfl (Or.inl rfl) pe)) (fun _ => rfl) fun closed_1 => db_last (ds_if (dt_cmp op_le cmp_le (dr_val (i := 7) rfl (pv 7)) (dr_bor (i := 2) rfl (pv 2)) (nomark _)) (db_step (fun hours_here_3 => [.bor numbers_here_1, .bor at_1, .bor day_1, .own hours_here_3, .val last_2, .val k_1, .val opened_1, .val closed_1]) (ds_pushO (i := 3) rfl (pv 3) (de_tup (da_cons (de_val (i := 6) rfl (pv 6)) (da_cons (de_val (i := 7) rfl (pv 7)) da_nil)))) (fun _ => rfl) fun hours_here_3 => db_step (fun last_3 => [.bor numbers_here_1, .bor at_1, .bor day_1, .own hours_here_3, .val last_3, .val k_1, .val opened_1, .val closed_1]) (ds_set (de_val (i := 7) rfl (pv 7)) (fun pe => ps_set (i := 4) sc_law_hours.nd rfl (Or.inl rfl) pe)) (fun _ => rfl) fun last_3 => db_any 5 <| db_any 6 <| db_any 7 <| db_nil rfl) (db_any 5 <| db_any 6 <| db_any 7 <| db_nil rfl)))) (fun _ => rfl) (fun s => match s with | (hours_here_4, last_4) => db_G [.bor numbers_here_1, .bor at_1, .bor day_1, .own hours_here_4, .val last_4, .any, .any, .any] rfl <| db_last (ds_ret (de_callTy call_tuple_ofP tup_op rfl (L.free (fa_8)) boot_tuple_ (dra_cons (dr_own (i := 3) rfl (pv 3)) dra_nil)))))
def g_law_road : D → D → D → D → D → D → M (D) := fun numbers_here_1 at_1 name_1 day_1 kinds_1 places_1 => ((B2 D.ix (.ok places_1) (B2 D.mod (B1 (f1 D.toInt) (A1 (B2 D.ix (.ok numbers_here_1) (.ok at_1)) A0)) (B1 (f1 D.len) (A1 (.ok places_1) A0)))) >>= fun start_1 => ((B2 D.ix (.ok places_1) (B2 D.mod (B1 (f1 D.toInt) (A1 (B2 D.ix (.ok numbers_here_1) (B2 D.add (.ok at_1) (.ok (.int 1)))) A0)) (B1 (f1 D.len) (A1 (.ok places_1) A0)))) >>= fun end_1 => ((B2 D.add (.ok (.int 1)) (B2 D.mod (B1 (f1 D.toInt) (A1 (B2 D.ix (.ok numbers_here_1) (B2 D.add (.ok at_1) (.ok (.int 2)))) A0)) (B2 D.ix (B1 D.mkTup (A1 (.ok (.int 9)) (A1 (.ok (.int 9)) (A1 (.ok (.int 40)) A0)))) (B2 D.mod (B1 (f1 D.toInt) (A1 (B2 D.ix (.ok numbers_here_1) (B2 D.add (.ok at_1) (.ok (.int 3)))) A0)) (.ok (.int 3)))))) >>= fun minutes_1 => ((B1 (f1 D.toTup) (A1 (L1 ((B1 D.range1 (A1 (B1 (f1 D.len) (A1 (.ok kinds_1) A0)) A0)) >>= fun ds => compL (fElt (fun k_1 => (B2 D.gt (B2 D.mod (B1 (f1 D.toInt) (A1 (B2 D.add (B2 D.ix (.ok numbers_here_1) (B2 D.add (.ok at_1) (.ok (.int 4)))) (.ok k_1)) A0)) (.ok (.int 4))) (.ok (.int 0)))) (fun k_1 => (B2 D.ix (.ok kinds_1) (.ok k_1)))) ds)) A0)) >>= fun used_1 => (B1 D.mkTup (A1 (.ok name_1) (A1 (.ok start_1) (A1 (.ok end_1) (A1 (.ok minutes_1) (A1 (.ok used_1) (A1 (B1 m_law_hours (A1 (.ok numbers_here_1) (A1 (B2 D.add (.ok at_1) (.ok (.int 5))) (A1 (.ok day_1) A0)))) A0)))))))))))
def m_law_road : List D → M (D) := a6 g_law_road
theorem e_law_road (numbers_here_1 at_1 name_1 day_1 kinds_1 places_1 : D) : m_law_road [numbers_here_1, at_1, name_1, day_1, kinds_1, places_1] = g_law_road numbers_here_1 at_1 name_1 day_1 kinds_1 places_1 := a6_ g_law_road numbers_here_1 at_1 name_1 day_1 kinds_1 places_1
theorem sc_law_road : FnScope ["_law_numbers_here", "_law_at", "_law_name", "_law_day", "_law_kinds", "_law_places", "_law_start", "_law_end", "_law_minutes", "_law_used", "_law_k"] ["_law_numbers_here", "_law_at", "_law_name", "_law_day", "_law_kinds", "_law_places"] (d_law_road).scope := ⟨rfl, rfl, rfl, by decide +kernel, rfl, by decide +kernel, by decide +kernel⟩
theorem ok_law_road {P : Program} {w : World} {K : PySem.W.Frag} {mg : Str → Option Value} {base : Heap} (L : Lw w K mg) {fd : FuncData} (F : DefOk K d_law_road fd) : FnOk P w K mg base (L2.CX P w) 2 (He.fAd K d_law_road.at_) fd ["_law_numbers_here", "_law_at", "_law_name", "_law_day", "_law_kinds", "_law_places"] (spD K [true, true, false, true, true, true] m_law_road) := by
  obtain ⟨fd_law_hours, F_law_hours⟩ := L.c.def_ 4 (d := d_law_hours) rfl
  have k_law_hours := ok_law_hours (P := P) (w := w) (base := base) L F_law_hours
  have b_law_hours : Binds K fd_law_hours ["_law_numbers_here", "_law_at", "_law_day"] [] := F_law_hours.bindsN fun _ _ _ _ _ _ us hl => match us, hl with | [_, _, _], _ => rfl
  refine fn_def F sc_law_road rfl (fun cdv A outer s H E hr ds hl => ?_)
  match ds, hl with
  | [numbers_here_1, at_1, name_1, day_1, kinds_1, places_1], _ =>
    first | rw [e_law_road] | skip
    exact db_G [.bor numbers_here_1, .bor at_1, .val name_1, .bor day_1, .bor kinds_1, .bor places_1, .un, .un, .un, .un, .un] rfl <| db_step (fun start_1 => [.bor numbers_here_1, .bor at_1, .val name_1, .bor day_1, .bor kinds_1, .bor places_1, .val start_1, .un, .un, .un, .un]) (ds_set (de_ix hr.u70 (dr_bor (i := 5) rfl (pv 5)) (DR.of (de_mod (DR.of (de_callTy int_R int_op rfl (L.free (fa_1)) boot_int_ (dra_cons (DR.of (de_ix hr.u70 (dr_bor (i := 0) rfl (pv 0)) (dr_bor (i := 1) rfl (pv 1)))) dra_nil))) (DR.of (de_callB lenR len_op rfl (L.free (fa_3)) boot_len_ (dra_cons (dr_bor (i := 5) rfl (pv 5)) dra_nil)))))) (fun pe => ps_set (i := 6) sc_law_road.nd rfl (Or.inl rfl) pe)) (fun _ => rfl) fun start_1 => db_step (fun end_1 => [.bor numbers_here_1, .bor at_1, .val name_1, .bor day_1, .bor kinds_1, .bor places_1, .val start_1, .val end_1, .un, .un, .un]) (ds_set (de_ix hr.u70 (dr_bor (i := 5) rfl (pv 5)) (DR.of (de_mod (DR.of (de_callTy int_R int_op rfl (L.free (fa_1)) boot_int_ (dra_cons (DR.of (de_ix hr.u70 (dr_bor (i := 0) rfl (pv 0)) (DR.of (de_add (dr_bor (i := 1) rfl (pv 1)) (DR.of de_int))))) dra_nil))) (DR.of (de_callB lenR len_op rfl (L.free (fa_3)) boot_len_ (dra_cons (dr_bor (i := 5) rfl (pv 5)) dra_nil)))))) (fun pe => ps_set (i := 7) sc_law_road.nd rfl (Or.inl rfl) pe)) (fun _ => rfl) fun end_1 => db_step (fun minutes_1 => [.bor numbers_here_1, .bor at_1, .val name_1, .bor day_1, .bor kinds_1, .bor places_1, .val start_1, .val end_1, .val minutes_1, .un, .un]) (ds_set (de_add (DR.of de_int) (DR.of (de_mod (DR.of (de_callTy int_R int_op rfl (L.free (fa_1)) boot_int_ (dra_cons (DR.of (de_ix hr.u70 (dr_bor (i := 0) rfl (pv 0)) (DR.of (de_add (dr_bor (i := 1) rfl (pv 1)) (DR.of de_int))))) dra_nil))) (DR.of (de_ix hr.u70 (DR.of (de_tup (da_cons de_int (da_cons de_int (da_cons de_int da_nil))))) (DR.of (de_mod (DR.of (de_callTy int_R int_op rfl (L.free (fa_1)) boot_int_ (dra_cons (DR.of (de_ix hr.u70 (dr_bor (i := 0) rfl (pv 0)) (DR.of (de_add (dr_bor (i := 1) rfl (pv 1)) (DR.of de_int))))) dra_nil))) (DR.of de_int)))))))) (fun pe => ps_set (i := 8) sc_law_road.nd rfl (Or.inl rfl) pe)) (fun _ => rfl) fun minutes_1 => db_step (fun used_1 => [.bor numbers_here_1, .bor at_1, .val name_1, .bor day_1, .bor kinds_1, .bor places_1, .val start_1, .val end_1, .val minutes_1, .val used_1, .un]) (ds_set (de_callTy call_tuple_ofP tup_op rfl (L.free (fa_8)) boot_tuple_ (dra_cons (DR.of (DNL.de (dn_lc2 (own := [("_law_k", 10)]) (i := 10) (mt := fun k_1 => (B2 D.gt (B2 D.mod (B1 (f1 D.toInt) (A1 (B2 D.add (B2 D.ix (.ok numbers_here_1) (B2 D.add (.ok at_1) (.ok (.int 4)))) (.ok k_1)) A0)) (.ok (.int 4))) (.ok (.int 0)))) (me := fun k_1 => (B2 D.ix (.ok kinds_1) (.ok k_1))) (CtxOk.calm ctx_def) sc_law_road.nd (DIR.of (di_range1 rfl (L.free (fa_2)) (dra_cons (DR.of (de_callB lenR len_op rfl (L.free (fa_3)) boot_len_ (dra_cons (dr_bor (i := 4) rfl (pv 4)) dra_nil))) dra_nil))) (blkOk_by (by kernel_rfl)) rfl (fun _ _ _ _ _ => pg_name (i := 10) sc_law_road.nd rfl (Or.inl rfl)) (fun _ _ _ _ _ k_1 => (dt_cmp op_gt cmp_gt (DR.of (de_mod (DR.of (de_callTy int_R int_op rfl (L.free (fa_1)) boot_int_ (dra_cons (DR.of (de_add (DR.of (de_ix hr.u70 (dr_bor (i := 0) rfl (pv 0)) (DR.of (de_add (dr_bor (i := 1) rfl (pv 1)) (DR.of de_int))))) (dr_val (i := 10) rfl (pv 10)))) dra_nil))) (DR.of de_int))) (DR.of de_int) (nomark _))) (fun _ _ _ _ _ k_1 => (de_ix hr.u70 (dr_bor (i := 4) rfl (pv 4)) (dr_val (i := 10) rfl (pv 10))))))) dra_nil)) (fun pe => ps_set (i := 9) sc_law_road.nd rfl (Or.inl rfl) pe)) (fun _ => rfl) fun used_1 => db_last (ds_ret (de_tup (da_cons (de_val (i := 2) rfl (pv 2)) (da_cons (de_val (i := 6) rfl (pv 6)) (da_cons (de_val (i := 7) rfl (pv 7)) (da_cons (de_val (i := 8) rfl (pv 8)) (da_cons (de_val (i := 9) rfl (pv 9)) (da_cons (de_call ctx_def k_law_hours (hr.mono (by decide)) rfl (L.glo (fa_9)) F_law_hours.kp b_law_hours (dam_bor (dr_bor (i := 0) rfl (pv 0)) (dam_bor (DR.of (de_add (dr_bor (i := 1) rfl (pv 1)) (DR.of de_int))) (dam_bor (dr_bor (i := 3) rfl (pv 3)) dam_nil)))) da_nil))))))))
def m_law_parts_l1 (numbers_here_1 : D) (at_1 : D) (day_1 : D) (kinds_1 : D) (places_1 : D) (names_here_1 : D) : (List D) → D → M (List D) := fun roads_2 k_1 => (mPush roads_2 (B1 m_law_road (A1 (.ok numbers_here_1) (A1 (B2 D.add (B2 D.add (.ok at_1) (.ok (.int 8))) (B2 D.mul (.ok (.int 10)) (.ok k_1))) (A1 (B2 D.ix (.ok names_here_1) (.ok k_1)) (A1 (.ok day_1) (A1 (.ok kinds_1) (A1 (.ok places_1) A0))))))) >>= fun roads_3 => (.ok roads_3))
def g_law_parts : D → D → M (D) := fun numbers_here_1 at_1 => ((B2 D.ix (B1 D.mkTup (A1 (B2 D.add (.ok (.int 1)) (B2 D.mod (B1 (f1 D.toInt) (A1 (B2 D.ix (.ok numbers_here_1) (.ok at_1)) A0)) (.ok (.int 24)))) (A1 (.ok (.int 24)) (A1 (.ok (.int 1440)) (A1 (B2 D.add (.ok (.int 1)) (B2 D.mod (B1 (f1 D.toInt) (A1 (B2 D.ix (.ok numbers_here_1) (.ok at_1)) A0)) (.ok (.int 24)))) A0))))) (B2 D.mod (B1 (f1 D.toInt) (A1 (B2 D.ix (.ok numbers_here_1) (B2 D.add (.ok at_1) (.ok (.int 1)))) A0)) (.ok (.int 4)))) >>= fun day_1 => ((B1 (f1 D.toTup) (A1 (B1 (f1 D.sorted) (A1 (B1 m_law_names (A1 (B2 D.ix (.ok numbers_here_1) (B2 D.add (.ok at_1) (.ok (.int 2)))) (A1 (B2 D.add (.ok (.int 1)) (B2 D.mod (B1 (f1 D.toInt) (A1 (B2 D.ix (.ok numbers_here_1) (B2 D.add (.ok at_1) (.ok (.int 3)))) A0)) (.ok (.int 2)))) A0))) A0)) A0)) >>= fun kinds_1 => ((B1 (f1 D.toTup) (A1 (B1 (f1 D.sorted) (A1 (B1 m_law_names (A1 (B2 D.ix (.ok numbers_here_1) (B2 D.add (.ok at_1) (.ok (.int 4)))) (A1 (B2 D.add (.ok (.int 2)) (B2 D.mod (B1 (f1 D.toInt) (A1 (B2 D.ix (.ok numbers_here_1) (B2 D.add (.ok at_1) (.ok (.int 5)))) A0)) (.ok (.int 4)))) A0))) A0)) A0)) >>= fun places_1 => ((B1 m_law_names (A1 (B2 D.ix (.ok numbers_here_1) (B2 D.add (.ok at_1) (.ok (.int 6)))) (A1 (.ok (.int 8)) A0))) >>= fun names_here_1 => ((nLst A0) >>= fun roads_1 => (((B1 D.range1 (A1 (B2 D.add (.ok (.int 1)) (B2 D.mod (B1 (f1 D.toInt) (A1 (B2 D.ix (.ok numbers_here_1) (B2 D.add (.ok at_1) (.ok (.int 7)))) A0)) (.ok (.int 8)))) A0)) >>= fun ds => loopF (m_law_parts_l1 numbers_here_1 at_1 day_1 kinds_1 places_1 names_here_1) ds roads_1) >>= fun roads_4 => ((B1 (f1 D.toTup) (A1 (B1 (f1 D.sorted2) (A1 (.ok (.lst roads_4)) A0)) A0)) >>= fun roads_5 => (B1 D.mkLst (A1 (.ok day_1) (A1 (.ok kinds_1) (A1 (.ok places_1) (A1 (.ok roads_5) (A1 (B1 m_law_bars (A1 (.ok numbers_here_1) (A1 (B2 D.add (.ok at_1) (.ok (.int 90))) (A1 (.ok roads_5) A0)))) A0)))))))))))))
def m_law_parts : List D → M (D) := a2 g_law_parts
theorem e_law_parts (numbers_here_1 at_1 : D) : m_law_parts [numbers_here_1, at_1] = g_law_parts numbers_here_1 at_1 := a2_ g_law_parts numbers_here_1 at_1
theorem sc_law_parts : FnScope ["_law_numbers_here", "_law_at", "_law_day", "_law_kinds", "_law_places", "_law_names_here", "_law_roads", "_law_k"] ["_law_numbers_here", "_law_at"] (d_law_parts).scope := ⟨rfl, rfl, rfl, by decide +kernel, rfl, by decide +kernel, by decide +kernel⟩
theorem ok_law_parts {P : Program} {w : World} {K : PySem.W.Frag} {mg : Str → Option Value} {base : Heap} (L : Lw w K mg) {fd : FuncData} (F : DefOk K d_law_parts fd) : FnOk P w K mg base (L2.CX P w) 3 (He.fAd K d_law_parts.at_) fd ["_law_numbers_here", "_law_at"] (spD K [true, true] m_law_parts) := by
  obtain ⟨fd_law_names, F_law_names⟩ := L.c.def_ 2 (d := d_law_names) rfl
  have k_law_names := ok_law_names (P := P) (w := w) (base := base) L F_law_names
  have b_law_names : Binds K fd_law_names ["_law_number", "_law_many"] [] := F_law_names.bindsN fun _ _ _ _ _ _ us hl => match us, hl with | [_, _], _ => rfl
  obtain ⟨fd_law_road, F_law_road⟩ := L.c.def_ 5 (d := d_law_road) rfl
  have k_law_road := ok_law_road (P := P) (w := w) (base := base) L F_law_road
  have b_law_road : Binds K fd_law_road ["_law_numbers_here", "_law_at", "_law_name", "_law_day", "_law_kinds", "_law_places"] [] := F_law_road.bindsN fun _ _ _ _ _ _ us hl => match us, hl with | [_, _, _, _, _, _], _ => rfl
  obtain ⟨fd_law_bars, F_law_bars⟩ := L.c.def_ 3 (d := d_law_bars) rfl
  have k_law_bars := ok_law_bars (P := P) (w := w) (base := base) L F_law_bars
  have b_law_bars : Binds K fd_law_bars ["_law_numbers_here", "_law_at", "_law_roads"] [] := F_law_bars.bindsN fun _ _ _ _ _ _ us hl => match us, hl with | [_, _, _], _ => rfl
  refine fn_def F sc_law_parts rfl (fun cdv A outer s H E hr ds hl => ?_)
  match ds, hl with
  | [numbers_here_1, at_1], _ =>
    first | rw [e_law_parts] | skip
    exact db_G [.bor numbers_here_1, .bor at_1, .un, .un, .un, .un, .un, .un] rfl <| db_step (fun day_1 => [.bor numbers_here_1, .bor at_1, .val day_1, .un, .un, .un, .un, .un]) (ds_set (de_ix hr.u70 (DR.of (de_tup (da_cons (de_add (DR.of de_int) (DR.of (de_mod (DR.of (de_callTy int_R int_op rfl (L.free (fa_1)) boot_int_ (dra_cons (DR.of (de_ix hr.u70 (dr_bor (i := 0) rfl (pv 0)) (dr_bor (i := 1) rfl (pv 1)))) dra_nil))) (DR.of de_int)))) (da_cons de_int (da_cons de_int (da_cons (de_add (DR.of de_int) (DR.of (de_mod (DR.of (de_callTy int_R int_op rfl (L.free (fa_1)) boot_int_ (dra_cons (DR.of (de_ix hr.u70 (dr_bor (i := 0) rfl (pv 0)) (dr_bor (i := 1) rfl (pv 1)))) dra_nil))) (DR.of de_int)))) da_nil)))))) (DR.of (de_mod (DR.of (de_callTy int_R int_op rfl (L.free (fa_1)) boot_int_ (dra_cons (DR.of (de_ix hr.u70 (dr_bor (i := 0) rfl (pv 0)) (DR.of (de_add (dr_bor (i := 1) rfl (pv 1)) (DR.of de_int))))) dra_nil))) (DR.of de_int)))) (fun pe => ps_set (i := 2) sc_law_parts.nd rfl (Or.inl rfl) pe)) (fun _ => rfl) fun day_1 => db_step (fun kinds_1 => [.bor numbers_here_1, .bor at_1, .val day_1, .val kinds_1, .un, .un, .un, .un]) (ds_set (de_callTy call_tuple_ofP tup_op rfl (L.free (fa_8)) boot_tuple_ (dra_cons (DR.of (de_callB (cr_sortD hr.u70) sorted_op rfl (L.free (fa_7)) boot_sorted_ (dra_cons (DR.of (de_call ctx_def k_law_names (hr.mono (by decide)) rfl (L.glo (fa_10)) F_law_names.kp b_law_names (dam_bor (DR.of (de_ix hr.u70 (dr_bor (i := 0) rfl (pv 0)) (DR.of (de_add (dr_bor (i := 1) rfl (pv 1)) (DR.of de_int))))) (dam_bor (DR.of (de_add (DR.of de_int) (DR.of (de_mod (DR.of (de_callTy int_R int_op rfl (L.free (fa_1)) boot_int_ (dra_cons (DR.of (de_ix hr.u70 (dr_bor (i := 0) rfl (pv 0)) (DR.of (de_add (dr_bor (i := 1) rfl (pv 1)) (DR.of de_int))))) dra_nil))) (DR.of de_int))))) dam_nil)))) dra_nil))) dra_nil)) (fun pe => ps_set (i := 3) sc_law_parts.nd rfl (Or.inl rfl) pe)) (fun _ => rfl) fun kinds_1 => db_step (fun places_1 => [.bor numbers_here_1, .bor at_1, .val day_1, .val kinds_1, .val places_1, .un, .un, .un]) (ds_set (de_callTy call_tuple_ofP tup_op rfl (L.free (fa_8)) boot_tuple_ (dra_cons (DR.of (de_callB (cr_sortD hr.u70) sorted_op rfl (L.free (fa_7)) boot_sorted_ (dra_cons (DR.of (de_call ctx_def k_law_names (hr.mono (by decide)) rfl (L.glo (fa_10)) F_law_names.kp b_law_names (dam_bor (DR.of (de_ix hr.u70 (dr_bor (i := 0) rfl (pv 0)) (DR.of (de_add (dr_bor (i := 1) rfl (pv 1)) (DR.of de_int))))) (dam_bor (DR.of (de_add (DR.of de_int) (DR.of (de_mod (DR.of (de_callTy int_R int_op rfl (L.free (fa_1)) boot_int_ (dra_cons (DR.of (de_ix hr.u70 (dr_bor (i := 0) rfl (pv 0)) (DR.of (de_add (dr_bor (i := 1) rfl (pv 1)) (DR.of de_int))))) dra_nil))) (DR.of de_int))))) dam_nil)))) dra_nil))) dra_nil)) (fun pe => ps_set (i := 4) sc_law_parts.nd rfl (Or.inl rfl) pe)) (fun _ => rfl) fun places_1 => db_step (fun names_here_1 => [.bor numbers_here_1, .bor at_1, .val day_1, .val kinds_1, .val places_1, .val names_here_1, .un, .un]) (ds_set (de_call ctx_def k_law_names (hr.mono (by decide)) rfl (L.glo (fa_10)) F_law_names.kp b_law_names (dam_bor (DR.of (de_ix hr.u70 (dr_bor (i := 0) rfl (pv 0)) (DR.of (de_add (dr_bor (i := 1) rfl (pv 1)) (DR.of de_int))))) (dam_bor (DR.of de_int) dam_nil))) (fun pe => ps_set (i := 5) sc_law_parts.nd rfl (Or.inl rfl) pe)) (fun _ => rfl) fun names_here_1 => db_step (fun roads_1 => [.bor numbers_here_1, .bor at_1, .val day_1, .val kinds_1, .val places_1, .val names_here_1, .own roads_1, .un]) (ds_setN (dn_lst da_nil) (fun pe => ps_set (i := 6) sc_law_parts.nd rfl (Or.inl rfl) pe)) (fun _ => rfl) fun roads_1 => db_any 7 <| db_step (fun (s : List D) => [.bor numbers_here_1, .bor at_1, .val day_1, .val kinds_1, .val places_1, .val names_here_1, .own s, .any]) (ds_for1 (i := 7) (S := List D) (Γ := (fun (s : List D) => [.bor numbers_here_1, .bor at_1, .val day_1, .val kinds_1, .val places_1, .val names_here_1, .own s, .any])) (f := (m_law_parts_l1 numbers_here_1 at_1 day_1 kinds_1 places_1 names_here_1)) roads_1 rfl ctx_def (di_range1 rfl (L.free (fa_2)) (dra_cons (DR.of (de_add (DR.of de_int) (DR.of (de_mod (DR.of (de_callTy int_R int_op rfl (L.free (fa_1)) boot_int_ (dra_cons (DR.of (de_ix hr.u70 (dr_bor (i := 0) rfl (pv 0)) (DR.of (de_add (dr_bor (i := 1) rfl (pv 1)) (DR.of de_int))))) dra_nil))) (DR.of de_int))))) dra_nil)) (pg_name (i := 7) sc_law_parts.nd rfl (Or.inl rfl)) (fun roads_2 k_1 => db_G [.bor numbers_here_1, .bor at_1, .val day_1, .val kinds_1, .val places_1, .val names_here_1, .own roads_2, .val k_1] rfl <| db_step (fun roads_3 => [.bor numbers_here_1, .bor at_1, .val day_1, .val kinds_1, .val places_1, .val names_here_1, .own roads_3, .val k_1]) (ds_pushO (i := 6) rfl (pv 6) (de_call ctx_def k_law_road (hr.mono (by decide)) rfl (L.glo (fa_11)) F_law_road.kp b_law_road (dam_bor (dr_bor (i := 0) rfl (pv 0)) (dam_bor (DR.of (de_add (DR.of (de_add (dr_bor (i := 1) rfl (pv 1)) (DR.of de_int))) (DR.of (de_mul (DR.of de_int) (dr_val (i := 7) rfl (pv 7)))))) (dam_frz (de_ix hr.u70 (dr_val (i := 5) rfl (pv 5)) (dr_val (i := 7) rfl (pv 7))) (dam_bor (dr_val (i := 2) rfl (pv 2)) (dam_bor (dr_val (i := 3) rfl (pv 3)) (dam_bor (dr_val (i := 4) rfl (pv 4)) dam_nil)))))))) (fun _ => rfl) fun roads_3 => db_any 7 <| db_nil rfl)) (fun _ => rfl) (fun roads_4 => db_G [.bor numbers_here_1, .bor at_1, .val day_1, .val kinds_1, .val places_1, .val names_here_1, .own roads_4, .any] rfl <| db_step (fun roads_5 => [.bor numbers_here_1, .bor at_1, .val day_1, .val kinds_1, .val places_1, .val names_here_1, .val roads_5, .any]) (ds_set (de_callTy call_tuple_ofP tup_op rfl (L.free (fa_8)) boot_tuple_ (dra_cons (DR.of (de_callB cr_sortF sortF_op rfl (L.free (fa_7)) boot_sorted_ (dra_cons (dr_own (i := 6) rfl (pv 6)) dra_nil))) dra_nil)) (fun pe => ps_set (i := 6) sc_law_parts.nd rfl (Or.inl rfl) pe)) (fun _ => rfl) fun roads_5 => db_last (ds_ret (de_lst (da_cons (de_val (i := 2) rfl (pv 2)) (da_cons (de_val (i := 3) rfl (pv 3)) (da_cons (de_val (i := 4) rfl (pv 4)) (da_cons (de_val (i := 6) rfl (pv 6)) (da_cons (de_call ctx_def k_law_bars (hr.mono (by decide)) rfl (L.glo (fa_12)) F_law_bars.kp b_law_bars (dam_bor (dr_bor (i := 0) rfl (pv 0)) (dam_bor (DR.of (de_add (dr_bor (i := 1) rfl (pv 1)) (DR.of de_int))) (dam_frz (de_val (i := 6) rfl (pv 6)) dam_nil)))) da_nil))))))))
def m_law_touched_l1 : (List D) → D → M (List D) := fun found_2 change_1 => (mIf (mOr (B2 D.eq (B2 D.ix (.ok change_1) (.ok (.int 0))) (.ok (.str "place"))) (B2 D.eq (B2 D.ix (.ok change_1) (.ok (.int 0))) (.ok (.str "unplace")))) (mPush found_2 (B1 D.mkTup (A1 (.ok (.str "place")) (A1 (B2 D.ix (.ok change_1) (.ok (.int 1))) A0))) >>= fun found_3 => (.ok found_3)) (mIf (mOr (B2 D.eq (B2 D.ix (.ok change_1) (.ok (.int 0))) (.ok (.str "bar"))) (B2 D.eq (B2 D.ix (.ok change_1) (.ok (.int 0))) (.ok (.str "unbar")))) (mPush found_2 (B1 D.mkTup (A1 (.ok (.str "bar")) (A1 (B2 D.ix (.ok change_1) (.ok (.int 1))) (A1 (B2 D.ix (.ok change_1) (.ok (.int 2))) A0)))) >>= fun found_4 => (.ok found_4)) (mIf (mOr (B2 D.eq (B2 D.ix (.ok change_1) (.ok (.int 0))) (.ok (.str "road"))) (B2 D.eq (B2 D.ix (.ok change_1) (.ok (.int 0))) (.ok (.str "unroad")))) (mPush found_2 (B1 D.mkTup (A1 (.ok (.str "road")) (A1 (B2 D.ix (B2 D.ix (.ok change_1) (.ok (.int 1))) (.ok (.int 0))) A0))) >>= fun found_5 => (.ok found_5)) (mPush found_2 (B1 D.mkTup (A1 (.ok (.str "road")) (A1 (B2 D.ix (.ok change_1) (.ok (.int 1))) A0))) >>= fun found_6 => (.ok found_6)))))
def g_law_touched : D → M (D) := fun changes_1 => ((nLst A0) >>= fun found_1 => (((B1 D.items (.ok changes_1)) >>= fun ds => loopF m_law_touched_l1 ds found_1) >>= fun found_7 => (.ok (.lst found_7))))
def m_law_touched : List D → M (D) := a1 g_law_touched
theorem e_law_touched (changes_1 : D) : m_law_touched [changes_1] = g_law_touched changes_1 := a1_ g_law_touched changes_1
theorem sc_law_touched : FnScope ["_law_changes", "_law_found", "_law_change"] ["_law_changes"] (d_law_touched).scope := ⟨rfl, rfl, rfl, by decide +kernel, rfl, by decide +kernel, by decide +kernel⟩
theorem ok_law_touched {P : Program} {w : World} {K : PySem.W.Frag} {mg : Str → Option Value} {base : Heap} (L : Lw w K mg) {fd : FuncData} (F : DefOk K d_law_touched fd) : FnOk P w K mg base (L2.CX P w) 1 (He.fAd K d_law_touched.at_) fd ["_law_changes"] (spD K [false] m_law_touched) := by
  refine fn_def F sc_law_touched rfl (fun cdv A outer s H E hr ds hl => ?_)
  match ds, hl with
  | [changes_1], _ =>
    first | rw [e_law_touched] | skip
    exact db_G [.val changes_1, .un, .un] rfl <| db_step (fun found_1 => [.val changes_1, .own found_1, .un]) (ds_setN (dn_lst da_nil) (fun pe => ps_set (i := 1) sc_law_touched.nd rfl (Or.inl rfl) pe)) (fun _ => rfl) fun found_1 => db_any 2 <| db_step (fun (s : List D) => [.val changes_1, .own s, .any]) (ds_for1 (i := 2) (S := List D) (Γ := (fun (s : List D) => [.val changes_1, .own s, .any])) (f := m_law_touched_l1) found_1 rfl ctx_def (di_seq (de_val (i := 0) rfl (pv 0))) (pg_name (i := 2) sc_law_touched.nd rfl (Or.inl rfl)) (fun found_2 change_1 => db_G [.val changes_1, .own found_2, .val change_1] rfl <| db_last (ds_if (DW.dt (dw_or (dt_cmp (op_eqD hr.u64) cmp_eq (DR.of (de_ix hr.u70 (dr_val (i := 2) rfl (pv 2)) (DR.of de_int))) (DR.of (de_str (by decide +kernel))) (nomark _)) (dw_or1 (dt_cmp (op_eqD hr.u64) cmp_eq (DR.of (de_ix hr.u70 (dr_val (i := 2) rfl (pv 2)) (DR.of de_int))) (DR.of (de_str (by decide +kernel))) (nomark _))))) (db_step (fun found_3 => [.val changes_1, .own found_3, .val change_1]) (ds_pushO (i := 1) rfl (pv 1) (de_tup (da_cons (de_str (by decide +kernel)) (da_cons (de_ix hr.u70 (dr_val (i := 2) rfl (pv 2)) (DR.of de_int)) da_nil)))) (fun _ => rfl) fun found_3 => db_any 2 <| db_nil rfl) (db_last (ds_if (DW.dt (dw_or (dt_cmp (op_eqD hr.u64) cmp_eq (DR.of (de_ix hr.u70 (dr_val (i := 2) rfl (pv 2)) (DR.of de_int))) (DR.of (de_str (by decide +kernel))) (nomark _)) (dw_or1 (dt_cmp (op_eqD hr.u64) cmp_eq (DR.of (de_ix hr.u70 (dr_val (i := 2) rfl (pv 2)) (DR.of de_int))) (DR.of (de_str (by decide +kernel))) (nomark _))))) (db_step (fun found_4 => [.val changes_1, .own found_4, .val change_1]) (ds_pushO (i := 1) rfl (pv 1) (de_tup (da_cons (de_str (by decide +kernel)) (da_cons (de_ix hr.u70 (dr_val (i := 2) rfl (pv 2)) (DR.of de_int)) (da_cons (de_ix hr.u70 (dr_val (i := 2) rfl (pv 2)) (DR.of de_int)) da_nil))))) (fun _ => rfl) fun found_4 => db_any 2 <| db_nil rfl) (db_last (ds_if (DW.dt (dw_or (dt_cmp (op_eqD hr.u64) cmp_eq (DR.of (de_ix hr.u70 (dr_val (i := 2) rfl (pv 2)) (DR.of de_int))) (DR.of (de_str (by decide +kernel))) (nomark _)) (dw_or1 (dt_cmp (op_eqD hr.u64) cmp_eq (DR.of (de_ix hr.u70 (dr_val (i := 2) rfl (pv 2)) (DR.of de_int))) (DR.of (de_str (by decide +kernel))) (nomark _))))) (db_step (fun found_5 => [.val changes_1, .own found_5, .val change_1]) (ds_pushO (i := 1) rfl (pv 1) (de_tup (da_cons (de_str (by decide +kernel)) (da_cons (de_ix hr.u70 (DR.of (de_ix hr.u70 (dr_val (i := 2) rfl (pv 2)) (DR.of de_int))) (DR.of de_int)) da_nil)))) (fun _ => rfl) fun found_5 => db_any 2 <| db_nil rfl) (db_step (fun found_6 => [.val changes_1, .own found_6, .val change_1]) (ds_pushO (i := 1) rfl (pv 1) (de_tup (da_cons (de_str (by decide +kernel)) (da_cons (de_ix hr.u70 (dr_val (i := 2) rfl (pv 2)) (DR.of de_int)) da_nil)))) (fun _ => rfl) fun found_6 => db_any 2 <| db_nil rfl)))))))) (fun _ => rfl) (fun found_7 => db_G [.val changes_1, .own found_7, .any] rfl <| db_fzO 1 rfl <| db_last (ds_ret (de_val (i := 1) rfl (pv 1))))
def m_law_once_l1 : (List D) → D → M (List D) := fun found_2 thing_1 => (mIf (B2 D.nmem (.ok thing_1) (.ok (.lst found_2))) (mPush found_2 (.ok thing_1) >>= fun found_3 => (.ok found_3)) (.ok found_2))
def g_law_once : D → M (D) := fun things_1 => ((nLst A0) >>= fun found_1 => (((B1 D.items (B1 (f1 D.sorted) (A1 (.ok things_1) A0))) >>= fun ds => loopF m_law_once_l1 ds found_1) >>= fun found_4 => (.ok (.lst found_4))))
def m_law_once : List D → M (D) := a1 g_law_once
theorem e_law_once (things_1 : D) : m_law_once [things_1] = g_law_once things_1 := a1_ g_law_once things_1
theorem sc_law_once : FnScope ["_law_things", "_law_found", "_law_thing"] ["_law_things"] (d_law_once).scope := ⟨rfl, rfl, rfl, by decide +kernel, rfl, by decide +kernel, by decide +kernel⟩
theorem ok_law_once {P : Program} {w : World} {K : PySem.W.Frag} {mg : Str → Option Value} {base : Heap} (L : Lw w K mg) {fd : FuncData} (F : DefOk K d_law_once fd) : FnOk P w K mg base (L2.CX P w) 1 (He.fAd K d_law_once.at_) fd ["_law_things"] (spD K [true] m_law_once) := by
  refine fn_def F sc_law_once rfl (fun cdv A outer s H E hr ds hl => ?_)
  match ds, hl with
  | [things_1], _ =>
    first | rw [e_law_once] | skip
    exact db_G [.bor things_1, .un, .un] rfl <| db_step (fun found_1 => [.bor things_1, .own found_1, .un]) (ds_setN (dn_lst da_nil) (fun pe => ps_set (i := 1) sc_law_once.nd rfl (Or.inl rfl) pe)) (fun _ => rfl) fun found_1 => db_any 2 <| db_step (fun (s : List D) => [.bor things_1, .own s, .any]) (ds_for1 (i := 2) (S := List D) (Γ := (fun (s : List D) => [.bor things_1, .own s, .any])) (f := m_law_once_l1) found_1 rfl ctx_def (di_seq (de_callB (cr_sortD hr.u70) sorted_op rfl (L.free (fa_7)) boot_sorted_ (dra_cons (dr_bor (i := 0) rfl (pv 0)) dra_nil))) (pg_name (i := 2) sc_law_once.nd rfl (Or.inl rfl)) (fun found_2 thing_1 => db_G [.bor things_1, .own found_2, .val thing_1] rfl <| db_last (ds_if (dt_cmp (rNinAll_op hr.u70) cmp_nin (dr_val (i := 2) rfl (pv 2)) (dr_own (i := 1) rfl (pv 1)) rfl) (db_step (fun found_3 => [.bor things_1, .own found_3, .val thing_1]) (ds_pushO (i := 1) rfl (pv 1) (de_val (i := 2) rfl (pv 2))) (fun _ => rfl) fun found_3 => db_any 2 <| db_nil rfl) (db_any 2 <| db_nil rfl)))) (fun _ => rfl) (fun found_4 => db_G [.bor things_1, .own found_4, .any] rfl <| db_fzO 1 rfl <| db_last (ds_ret (de_val (i := 1) rfl (pv 1))))
def m_law_leaned_l1 : (D) → D → M (D) := fun found_2 change_1 => ((mIf (mOr (B2 D.eq (B2 D.ix (.ok change_1) (.ok (.int 0))) (.ok (.str "road"))) (B2 D.eq (B2 D.ix (.ok change_1) (.ok (.int 0))) (.ok (.str "unroad")))) ((B2 D.add (.ok found_2) (B1 D.mkLst (A1 (B1 D.mkTup (A1 (.ok (.str "place")) (A1 (B2 D.ix (B2 D.ix (.ok change_1) (.ok (.int 1))) (.ok (.int 1))) A0))) (A1 (B1 D.mkTup (A1 (.ok (.str "place")) (A1 (B2 D.ix (B2 D.ix (.ok change_1) (.ok (.int 1))) (.ok (.int 2))) A0))) A0)))) >>= fun found_3 => (.ok found_3)) (.ok found_2) : M (D)) >>= fun found_4 => (mIf (mOr (B2 D.eq (B2 D.ix (.ok change_1) (.ok (.int 0))) (.ok (.str "bar"))) (B2 D.eq (B2 D.ix (.ok change_1) (.ok (.int 0))) (.ok (.str "unbar")))) ((B2 D.add (.ok found_4) (B1 D.mkLst (A1 (B1 D.mkTup (A1 (.ok (.str "road")) (A1 (B2 D.ix (.ok change_1) (.ok (.int 1))) A0))) (A1 (B1 D.mkTup (A1 (.ok (.str "road")) (A1 (B2 D.ix (.ok change_1) (.ok (.int 2))) A0))) A0)))) >>= fun found_5 => (.ok found_5)) (.ok found_4)))
def g_law_leaned : D → M (D) := fun changes_1 => ((B1 D.mkLst A0) >>= fun found_1 => (((B1 D.items (.ok changes_1)) >>= fun ds => loopF m_law_leaned_l1 ds found_1) >>= fun found_6 => (.ok found_6)))
def m_law_leaned : List D → M (D) := a1 g_law_leaned
theorem e_law_leaned (changes_1 : D) : m_law_leaned [changes_1] = g_law_leaned changes_1 := a1_ g_law_leaned changes_1
theorem sc_law_leaned : FnScope ["_law_changes", "_law_found", "_law_change"] ["_law_changes"] (d_law_leaned).scope := ⟨rfl, rfl, rfl, by decide +kernel, rfl, by decide +kernel, by decide +kernel⟩
theorem ok_law_leaned {P : Program} {w : World} {K : PySem.W.Frag} {mg : Str → Option Value} {base : Heap} (L : Lw w K mg) {fd : FuncData} (F : DefOk K d_law_leaned fd) : FnOk P w K mg base (L2.CX P w) 1 (He.fAd K d_law_leaned.at_) fd ["_law_changes"] (spD K [false] m_law_leaned) := by
  refine fn_def F sc_law_leaned rfl (fun cdv A outer s H E hr ds hl => ?_)
  match ds, hl with
  | [changes_1], _ =>
    first | rw [e_law_leaned] | skip
    exact db_G [.val changes_1, .un, .un] rfl <| db_step (fun found_1 => [.val changes_1, .val found_1, .un]) (ds_set (de_lst da_nil) (fun pe => ps_set (i := 1) sc_law_leaned.nd rfl (Or.inl rfl) pe)) (fun _ => rfl) fun found_1 => db_any 2 <| db_step (fun (s : D) => [.val changes_1, .val s, .any]) (ds_for1 (i := 2) (S := D) (Γ := (fun (s : D) => [.val changes_1, .val s, .any])) (f := m_law_leaned_l1) found_1 rfl ctx_def (di_seq (de_val (i := 0) rfl (pv 0))) (pg_name (i := 2) sc_law_leaned.nd rfl (Or.inl rfl)) (fun found_2 change_1 => db_G [.val changes_1, .val found_2, .val change_1] rfl <| db_step (fun (s : D) => [.val changes_1, .val s, .val change_1]) (ds_if (DW.dt (dw_or (dt_cmp (op_eqD hr.u64) cmp_eq (DR.of (de_ix hr.u70 (dr_val (i := 2) rfl (pv 2)) (DR.of de_int))) (DR.of (de_str (by decide +kernel))) (nomark _)) (dw_or1 (dt_cmp (op_eqD hr.u64) cmp_eq (DR.of (de_ix hr.u70 (dr_val (i := 2) rfl (pv 2)) (DR.of de_int))) (DR.of (de_str (by decide +kernel))) (nomark _))))) (db_step (fun found_3 => [.val changes_1, .val found_3, .val change_1]) (ds_set (de_add (dr_val (i := 1) rfl (pv 1)) (DR.of (de_lst (da_cons (de_tup (da_cons (de_str (by decide +kernel)) (da_cons (de_ix hr.u70 (DR.of (de_ix hr.u70 (dr_val (i := 2) rfl (pv 2)) (DR.of de_int))) (DR.of de_int)) da_nil))) (da_cons (de_tup (da_cons (de_str (by decide +kernel)) (da_cons (de_ix hr.u70 (DR.of (de_ix hr.u70 (dr_val (i := 2) rfl (pv 2)) (DR.of de_int))) (DR.of de_int)) da_nil))) da_nil))))) (fun pe => ps_set (i := 1) sc_law_leaned.nd rfl (Or.inl rfl) pe)) (fun _ => rfl) fun found_3 => db_nil rfl) (db_nil rfl)) (fun _ => rfl) (fun found_4 => db_G [.val changes_1, .val found_4, .val change_1] rfl <| db_last (ds_if (DW.dt (dw_or (dt_cmp (op_eqD hr.u64) cmp_eq (DR.of (de_ix hr.u70 (dr_val (i := 2) rfl (pv 2)) (DR.of de_int))) (DR.of (de_str (by decide +kernel))) (nomark _)) (dw_or1 (dt_cmp (op_eqD hr.u64) cmp_eq (DR.of (de_ix hr.u70 (dr_val (i := 2) rfl (pv 2)) (DR.of de_int))) (DR.of (de_str (by decide +kernel))) (nomark _))))) (db_step (fun found_5 => [.val changes_1, .val found_5, .val change_1]) (ds_set (de_add (dr_val (i := 1) rfl (pv 1)) (DR.of (de_lst (da_cons (de_tup (da_cons (de_str (by decide +kernel)) (da_cons (de_ix hr.u70 (dr_val (i := 2) rfl (pv 2)) (DR.of de_int)) da_nil))) (da_cons (de_tup (da_cons (de_str (by decide +kernel)) (da_cons (de_ix hr.u70 (dr_val (i := 2) rfl (pv 2)) (DR.of de_int)) da_nil))) da_nil))))) (fun pe => ps_set (i := 1) sc_law_leaned.nd rfl (Or.inl rfl) pe)) (fun _ => rfl) fun found_5 => db_any 2 <| db_nil rfl) (db_any 2 <| db_nil rfl))))) (fun _ => rfl) (fun found_6 => db_G [.val changes_1, .val found_6, .any] rfl <| db_last (ds_ret (de_val (i := 1) rfl (pv 1))))
def g_law_clashes : D → D → M (D) := fun changes_1 others_1 => ((B1 m_law_touched (A1 (.ok changes_1) A0)) >>= fun first_1 => ((B1 m_law_touched (A1 (.ok others_1) A0)) >>= fun second_1 => ((L1 ((B1 D.items (.ok first_1)) >>= fun ds => compL (fElt (fun thing_1 => (B2 D.mem (.ok thing_1) (B2 D.add (.ok second_1) (B1 m_law_leaned (A1 (.ok others_1) A0))))) (fun thing_1 => (.ok thing_1))) ds)) >>= fun found_1 => (B1 m_law_once (A1 (B2 D.add (.ok found_1) (L1 ((B1 D.items (.ok second_1)) >>= fun ds => compL (fElt (fun thing_2 => (B2 D.mem (.ok thing_2) (B1 m_law_leaned (A1 (.ok changes_1) A0)))) (fun thing_2 => (.ok thing_2))) ds))) A0)))))
def m_law_clashes : List D → M (D) := a2 g_law_clashes
theorem e_law_clashes (changes_1 others_1 : D) : m_law_clashes [changes_1, others_1] = g_law_clashes changes_1 others_1 := a2_ g_law_clashes changes_1 others_1
theorem sc_law_clashes : FnScope ["_law_changes", "_law_others", "_law_first", "_law_second", "_law_found", "_law_thing"] ["_law_changes", "_law_others"] (d_law_clashes).scope := ⟨rfl, rfl, rfl, by decide +kernel, rfl, by decide +kernel, by decide +kernel⟩
theorem ok_law_clashes {P : Program} {w : World} {K : PySem.W.Frag} {mg : Str → Option Value} {base : Heap} (L : Lw w K mg) {fd : FuncData} (F : DefOk K d_law_clashes fd) : FnOk P w K mg base (L2.CX P w) 2 (He.fAd K d_law_clashes.at_) fd ["_law_changes", "_law_others"] (spD K [false, false] m_law_clashes) := by
  obtain ⟨fd_law_touched, F_law_touched⟩ := L.c.def_ 7 (d := d_law_touched) rfl
  have k_law_touched := ok_law_touched (P := P) (w := w) (base := base) L F_law_touched
  have b_law_touched : Binds K fd_law_touched ["_law_changes"] [] := F_law_touched.bindsN fun _ _ _ _ _ _ us hl => match us, hl with | [_], _ => rfl
  obtain ⟨fd_law_leaned, F_law_leaned⟩ := L.c.def_ 9 (d := d_law_leaned) rfl
  have k_law_leaned := ok_law_leaned (P := P) (w := w) (base := base) L F_law_leaned
  have b_law_leaned : Binds K fd_law_leaned ["_law_changes"] [] := F_law_leaned.bindsN fun _ _ _ _ _ _ us hl => match us, hl with | [_], _ => rfl
  obtain ⟨fd_law_once, F_law_once⟩ := L.c.def_ 8 (d := d_law_once) rfl
  have k_law_once := ok_law_once (P := P) (w := w) (base := base) L F_law_once
  have b_law_once : Binds K fd_law_once ["_law_things"] [] := F_law_once.bindsN fun _ _ _ _ _ _ us hl => match us, hl with | [_], _ => rfl
  refine fn_def F sc_law_clashes rfl (fun cdv A outer s H E hr ds hl => ?_)
  match ds, hl with
  | [changes_1, others_1], _ =>
    first | rw [e_law_clashes] | skip
    exact db_G [.val changes_1, .val others_1, .un, .un, .un, .un] rfl <| db_step (fun first_1 => [.val changes_1, .val others_1, .val first_1, .un, .un, .un]) (ds_set (de_call ctx_def k_law_touched (hr.mono (by decide)) rfl (L.glo (fa_13)) F_law_touched.kp b_law_touched (dam_frz (de_val (i := 0) rfl (pv 0)) dam_nil)) (fun pe => ps_set (i := 2) sc_law_clashes.nd rfl (Or.inl rfl) pe)) (fun _ => rfl) fun first_1 => db_step (fun second_1 => [.val changes_1, .val others_1, .val first_1, .val second_1, .un, .un]) (ds_set (de_call ctx_def k_law_touched (hr.mono (by decide)) rfl (L.glo (fa_13)) F_law_touched.kp b_law_touched (dam_frz (de_val (i := 1) rfl (pv 1)) dam_nil)) (fun pe => ps_set (i := 3) sc_law_clashes.nd rfl (Or.inr rfl) pe)) (fun _ => rfl) fun second_1 => db_step (fun found_1 => [.val changes_1, .val others_1, .val first_1, .val second_1, .val found_1, .un]) (ds_setLc (i := 4) (dn_lc2 (own := [("_law_thing", 5)]) (i := 5) (mt := fun thing_1 => (B2 D.mem (.ok thing_1) (B2 D.add (.ok second_1) (B1 m_law_leaned (A1 (.ok others_1) A0))))) (me := fun thing_1 => (.ok thing_1)) (CtxOk.calm ctx_def) sc_law_clashes.nd (dir_seq (dr_val (i := 2) rfl (pv 2))) (blkOk_by (by kernel_rfl)) rfl (fun _ _ _ _ _ => pg_name (i := 5) sc_law_clashes.nd rfl (Or.inl rfl)) (fun _ _ _ _ _ thing_1 => (dt_cmp (op_inAll hr.u70) cmp_in (dr_val (i := 5) rfl (pv 5)) (DR.of (de_add (dr_val (i := 3) rfl (pv 3)) (DR.of (de_call (CtxOk.blk ctx_def) k_law_leaned (hr.mono (by decide)) rfl (L.glo (fa_14)) F_law_leaned.kp b_law_leaned (dam_frz (de_val (i := 1) rfl (pv 1)) dam_nil))))) rfl)) (fun _ _ _ _ _ thing_1 => (de_val (i := 5) rfl (pv 5)))) rfl rfl rfl) (fun _ => rfl) fun found_1 => db_last (ds_ret (de_call ctx_def k_law_once (hr.mono (by decide)) rfl (L.glo (fa_15)) F_law_once.kp b_law_once (dam_bor (DR.of (de_add (dr_val (i := 4) rfl (pv 4)) (DR.of (DNL.de (dn_lc2 (own := [("_law_thing", 5)]) (i := 5) (mt := fun thing_2 => (B2 D.mem (.ok thing_2) (B1 m_law_leaned (A1 (.ok changes_1) A0)))) (me := fun thing_2 => (.ok thing_2)) (CtxOk.calm ctx_def) sc_law_clashes.nd (dir_seq (dr_val (i := 3) rfl (pv 3))) (blkOk_by (by kernel_rfl)) rfl (fun _ _ _ _ _ => pg_name (i := 5) sc_law_clashes.nd rfl (Or.inl rfl)) (fun _ _ _ _ _ thing_2 => (dt_cmp (op_inAll hr.u70) cmp_in (dr_val (i := 5) rfl (pv 5)) (DR.of (de_call (CtxOk.blk ctx_def) k_law_leaned (hr.mono (by decide)) rfl (L.glo (fa_14)) F_law_leaned.kp b_law_leaned (dam_frz (de_val (i := 0) rfl (pv 0)) dam_nil))) rfl)) (fun _ _ _ _ _ thing_2 => (de_val (i := 5) rfl (pv 5)))))))) dam_nil)))
def m_in_order_l1 : (List D) → D → M (List D) := fun found_2 thing_1 => (mIf (B2 D.nmem (.ok thing_1) (.ok (.lst found_2))) (mPush found_2 (.ok thing_1) >>= fun found_3 => (.ok found_3)) (.ok found_2))
def g_in_order : D → M (List D) := fun things_1 => ((nLst A0) >>= fun found_1 => (((B1 D.items (B1 (f1 D.sorted) (A1 (.ok things_1) A0))) >>= fun ds => loopF m_in_order_l1 ds found_1) >>= fun found_4 => (.ok found_4)))
def m_in_order : List D → M (List D) := a1 g_in_order
theorem e_in_order (things_1 : D) : m_in_order [things_1] = g_in_order things_1 := a1_ g_in_order things_1
theorem sc_in_order : FnScope ["things", "found", "thing"] ["things"] (d_in_order).scope := ⟨rfl, rfl, rfl, by decide +kernel, rfl, by decide +kernel, by decide +kernel⟩
theorem ok_in_order {P : Program} {w : World} {K : PySem.W.Frag} {mg : Str → Option Value} {base : Heap} (L : Lw w K mg) {fd : FuncData} (F : DefOk K d_in_order fd) : FnOk P w K mg base (L2.CX P w) 1 (He.fAd K d_in_order.at_) fd ["things"] (spO K [true] m_in_order) := by
  refine fn_defO F sc_in_order rfl (fun cdv A outer s H E hr ds hl => ?_)
  match ds, hl with
  | [things_1], _ =>
    first | rw [e_in_order] | skip
    exact db_G [.bor things_1, .un, .un] rfl <| db_step (fun found_1 => [.bor things_1, .own found_1, .un]) (ds_setN (dn_lst da_nil) (fun pe => ps_set (i := 1) sc_in_order.nd rfl (Or.inl rfl) pe)) (fun _ => rfl) fun found_1 => db_any 2 <| db_step (fun (s : List D) => [.bor things_1, .own s, .any]) (ds_for1 (i := 2) (S := List D) (Γ := (fun (s : List D) => [.bor things_1, .own s, .any])) (f := m_in_order_l1) found_1 rfl ctx_def (di_seq (de_callB (cr_sortD hr.u70) sorted_op rfl (L.free (fa_7)) boot_sorted_ (dra_cons (dr_bor (i := 0) rfl (pv 0)) dra_nil))) (pg_name (i := 2) sc_in_order.nd rfl (Or.inl rfl)) (fun found_2 thing_1 => db_G [.bor things_1, .own found_2, .val thing_1] rfl <| db_last (ds_if (dt_cmp (rNinAll_op hr.u70) cmp_nin (dr_val (i := 2) rfl (pv 2)) (dr_own (i := 1) rfl (pv 1)) rfl) (db_step (fun found_3 => [.bor things_1, .own found_3, .val thing_1]) (ds_pushO (i := 1) rfl (pv 1) (de_val (i := 2) rfl (pv 2))) (fun _ => rfl) fun found_3 => db_any 2 <| db_nil rfl) (db_any 2 <| db_nil rfl)))) (fun _ => rfl) (fun found_4 => db_G [.bor things_1, .own found_4, .any] rfl <| db_last (ds_retOwn (i := 1) rfl (pv 1)))
def m_touched_l1 : (List D) → D → M (List D) := fun found_2 change_1 => (mIf (B2 D.mem (B2 D.ix (.ok change_1) (.ok (.int 0))) (B1 D.mkTup (A1 (.ok (.str "place")) (A1 (.ok (.str "unplace")) A0)))) (mPush found_2 (B1 D.mkTup (A1 (.ok (.str "place")) (A1 (B2 D.ix (.ok change_1) (.ok (.int 1))) A0))) >>= fun found_3 => (.ok found_3)) (mIf (B2 D.mem (B2 D.ix (.ok change_1) (.ok (.int 0))) (B1 D.mkTup (A1 (.ok (.str "road")) (A1 (.ok (.str "unroad")) A0)))) (mPush found_2 (B1 D.mkTup (A1 (.ok (.str "road")) (A1 (B2 D.ix (B2 D.ix (.ok change_1) (.ok (.int 1))) (.ok (.int 0))) A0))) >>= fun found_4 => (.ok found_4)) (mIf (B1 (D.inTab tl_FIELDS) (B2 D.ix (.ok change_1) (.ok (.int 0)))) (mPush found_2 (B1 D.mkTup (A1 (.ok (.str "road")) (A1 (B2 D.ix (.ok change_1) (.ok (.int 1))) A0))) >>= fun found_5 => (.ok found_5)) (mPush found_2 (B1 D.mkTup (A1 (.ok (.str "bar")) (A1 (B2 D.ix (.ok change_1) (.ok (.int 1))) (A1 (B2 D.ix (.ok change_1) (.ok (.int 2))) A0)))) >>= fun found_6 => (.ok found_6)))))
def g_touched : D → M (D) := fun changes_1 => ((nLst A0) >>= fun found_1 => (((B1 D.items (.ok changes_1)) >>= fun ds => loopF m_touched_l1 ds found_1) >>= fun found_7 => (L1 (B1 m_in_order (A1 (.ok (.lst found_7)) A0)))))
def m_touched : List D → M (D) := a1 g_touched
theorem e_touched (changes_1 : D) : m_touched [changes_1] = g_touched changes_1 := a1_ g_touched changes_1
theorem sc_touched : FnScope ["changes", "found", "change"] ["changes"] (d_touched).scope := ⟨rfl, rfl, rfl, by decide +kernel, rfl, by decide +kernel, by decide +kernel⟩
theorem ok_touched {P : Program} {w : World} {K : PySem.W.Frag} {mg : Str → Option Value} {base : Heap} (L : Lw w K mg) {fd : FuncData} (F : DefOk K d_touched fd) : FnOk P w K mg base (L2.CX P w) 2 (He.fAd K d_touched.at_) fd ["changes"] (spD K [false] m_touched) := by
  obtain ⟨fd_in_order, F_in_order⟩ := L.c.def_ 11 (d := d_in_order) rfl
  have k_in_order := ok_in_order (P := P) (w := w) (base := base) L F_in_order
  have b_in_order : Binds K fd_in_order ["things"] [] := F_in_order.bindsN fun _ _ _ _ _ _ us hl => match us, hl with | [_], _ => rfl
  refine fn_def F sc_touched rfl (fun cdv A outer s H E hr ds hl => ?_)
  match ds, hl with
  | [changes_1], _ =>
    first | rw [e_touched] | skip
    exact db_G [.val changes_1, .un, .un] rfl <| db_step (fun found_1 => [.val changes_1, .own found_1, .un]) (ds_setN (dn_lst da_nil) (fun pe => ps_set (i := 1) sc_touched.nd rfl (Or.inl rfl) pe)) (fun _ => rfl) fun found_1 => db_any 2 <| db_step (fun (s : List D) => [.val changes_1, .own s, .any]) (ds_for1 (i := 2) (S := List D) (Γ := (fun (s : List D) => [.val changes_1, .own s, .any])) (f := m_touched_l1) found_1 rfl ctx_def (di_seq (de_val (i := 0) rfl (pv 0))) (pg_name (i := 2) sc_touched.nd rfl (Or.inl rfl)) (fun found_2 change_1 => db_G [.val changes_1, .own found_2, .val change_1] rfl <| db_last (ds_if (dt_cmp (op_inAll hr.u70) cmp_in (DR.of (de_ix hr.u70 (dr_val (i := 2) rfl (pv 2)) (DR.of de_int))) (DR.of (de_tup (da_cons (de_str (by decide +kernel)) (da_cons (de_str (by decide +kernel)) da_nil)))) rfl) (db_step (fun found_3 => [.val changes_1, .own found_3, .val change_1]) (ds_pushO (i := 1) rfl (pv 1) (de_tup (da_cons (de_str (by decide +kernel)) (da_cons (de_ix hr.u70 (dr_val (i := 2) rfl (pv 2)) (DR.of de_int)) da_nil)))) (fun _ => rfl) fun found_3 => db_any 2 <| db_nil rfl) (db_last (ds_if (dt_cmp (op_inAll hr.u70) cmp_in (DR.of (de_ix hr.u70 (dr_val (i := 2) rfl (pv 2)) (DR.of de_int))) (DR.of (de_tup (da_cons (de_str (by decide +kernel)) (da_cons (de_str (by decide +kernel)) da_nil)))) rfl) (db_step (fun found_4 => [.val changes_1, .own found_4, .val change_1]) (ds_pushO (i := 1) rfl (pv 1) (de_tup (da_cons (de_str (by decide +kernel)) (da_cons (de_ix hr.u70 (DR.of (de_ix hr.u70 (dr_val (i := 2) rfl (pv 2)) (DR.of de_int))) (DR.of de_int)) da_nil)))) (fun _ => rfl) fun found_4 => db_any 2 <| db_nil rfl) (db_last (ds_if (dt_inTab (L.tab (t := ("FIELDS", tl_FIELDS)) (List.mem_of_getElem? (i := 0) rfl)) (pe_cls_ rfl (L.glo (fa_16))) (DR.of (de_ix hr.u70 (dr_val (i := 2) rfl (pv 2)) (DR.of de_int)))) (db_step (fun found_5 => [.val changes_1, .own found_5, .val change_1]) (ds_pushO (i := 1) rfl (pv 1) (de_tup (da_cons (de_str (by decide +kernel)) (da_cons (de_ix hr.u70 (dr_val (i := 2) rfl (pv 2)) (DR.of de_int)) da_nil)))) (fun _ => rfl) fun found_5 => db_any 2 <| db_nil rfl) (db_step (fun found_6 => [.val changes_1, .own found_6, .val change_1]) (ds_pushO (i := 1) rfl (pv 1) (de_tup (da_cons (de_str (by decide +kernel)) (da_cons (de_ix hr.u70 (dr_val (i := 2) rfl (pv 2)) (DR.of de_int)) (da_cons (de_ix hr.u70 (dr_val (i := 2) rfl (pv 2)) (DR.of de_int)) da_nil))))) (fun _ => rfl) fun found_6 => db_any 2 <| db_nil rfl)))))))) (fun _ => rfl) (fun found_7 => db_G [.val changes_1, .own found_7, .any] rfl <| db_last (ds_ret (DN.de (dn_callO ctx_def k_in_order (hr.mono (by decide)) rfl (L.glo (fa_17)) F_in_order.kp b_in_order (dam_bor (dr_own (i := 1) rfl (pv 1)) dam_nil)))))
def m_leaned_on_l1 : (List D) → D → M (List D) := fun found_2 change_1 => (mIf (B2 D.mem (B2 D.ix (.ok change_1) (.ok (.int 0))) (B1 D.mkTup (A1 (.ok (.str "road")) (A1 (.ok (.str "unroad")) A0)))) (((B1 D.mkLst (A1 (B1 D.mkTup (A1 (.ok (.str "place")) (A1 (B2 D.ix (B2 D.ix (.ok change_1) (.ok (.int 1))) (.ok (.int 1))) A0))) (A1 (B1 D.mkTup (A1 (.ok (.str "place")) (A1 (B2 D.ix (B2 D.ix (.ok change_1) (.ok (.int 1))) (.ok (.int 2))) A0))) A0))) >>= fun d => extL found_2 d) >>= fun found_3 => (.ok found_3)) (mIf (B2 D.mem (B2 D.ix (.ok change_1) (.ok (.int 0))) (B1 D.mkTup (A1 (.ok (.str "bar")) (A1 (.ok (.str "unbar")) A0)))) (((B1 D.mkLst (A1 (B1 D.mkTup (A1 (.ok (.str "road")) (A1 (B2 D.ix (.ok change_1) (.ok (.int 1))) A0))) (A1 (B1 D.mkTup (A1 (.ok (.str "road")) (A1 (B2 D.ix (.ok change_1) (.ok (.int 2))) A0))) A0))) >>= fun d => extL found_2 d) >>= fun found_4 => (.ok found_4)) (.ok found_2)))
def g_leaned_on : D → M (D) := fun changes_1 => ((nLst A0) >>= fun found_1 => (((B1 D.items (.ok changes_1)) >>= fun ds => loopF m_leaned_on_l1 ds found_1) >>= fun found_5 => (L1 (B1 m_in_order (A1 (.ok (.lst found_5)) A0)))))
def m_leaned_on : List D → M (D) := a1 g_leaned_on
theorem e_leaned_on (changes_1 : D) : m_leaned_on [changes_1] = g_leaned_on changes_1 := a1_ g_leaned_on changes_1
theorem sc_leaned_on : FnScope ["changes", "found", "change"] ["changes"] (d_leaned_on).scope := ⟨rfl, rfl, rfl, by decide +kernel, rfl, by decide +kernel, by decide +kernel⟩
theorem ok_leaned_on {P : Program} {w : World} {K : PySem.W.Frag} {mg : Str → Option Value} {base : Heap} (L : Lw w K mg) {fd : FuncData} (F : DefOk K d_leaned_on fd) : FnOk P w K mg base (L2.CX P w) 2 (He.fAd K d_leaned_on.at_) fd ["changes"] (spD K [false] m_leaned_on) := by
  obtain ⟨fd_in_order, F_in_order⟩ := L.c.def_ 11 (d := d_in_order) rfl
  have k_in_order := ok_in_order (P := P) (w := w) (base := base) L F_in_order
  have b_in_order : Binds K fd_in_order ["things"] [] := F_in_order.bindsN fun _ _ _ _ _ _ us hl => match us, hl with | [_], _ => rfl
  refine fn_def F sc_leaned_on rfl (fun cdv A outer s H E hr ds hl => ?_)
  match ds, hl with
  | [changes_1], _ =>
    first | rw [e_leaned_on] | skip
    exact db_G [.val changes_1, .un, .un] rfl <| db_step (fun found_1 => [.val changes_1, .own found_1, .un]) (ds_setN (dn_lst da_nil) (fun pe => ps_set (i := 1) sc_leaned_on.nd rfl (Or.inl rfl) pe)) (fun _ => rfl) fun found_1 => db_any 2 <| db_step (fun (s : List D) => [.val changes_1, .own s, .any]) (ds_for1 (i := 2) (S := List D) (Γ := (fun (s : List D) => [.val changes_1, .own s, .any])) (f := m_leaned_on_l1) found_1 rfl ctx_def (di_seq (de_val (i := 0) rfl (pv 0))) (pg_name (i := 2) sc_leaned_on.nd rfl (Or.inl rfl)) (fun found_2 change_1 => db_G [.val changes_1, .own found_2, .val change_1] rfl <| db_last (ds_if (dt_cmp (op_inAll hr.u70) cmp_in (DR.of (de_ix hr.u70 (dr_val (i := 2) rfl (pv 2)) (DR.of de_int))) (DR.of (de_tup (da_cons (de_str (by decide +kernel)) (da_cons (de_str (by decide +kernel)) da_nil)))) rfl) (db_step (fun found_3 => [.val changes_1, .own found_3, .val change_1]) (ds_extO2 (i := 1) rfl (pv 1) (de_lst (da_cons (de_tup (da_cons (de_str (by decide +kernel)) (da_cons (de_ix hr.u70 (DR.of (de_ix hr.u70 (dr_val (i := 2) rfl (pv 2)) (DR.of de_int))) (DR.of de_int)) da_nil))) (da_cons (de_tup (da_cons (de_str (by decide +kernel)) (da_cons (de_ix hr.u70 (DR.of (de_ix hr.u70 (dr_val (i := 2) rfl (pv 2)) (DR.of de_int))) (DR.of de_int)) da_nil))) da_nil)))) (fun _ => rfl) fun found_3 => db_any 2 <| db_nil rfl) (db_last (ds_if (dt_cmp (op_inAll hr.u70) cmp_in (DR.of (de_ix hr.u70 (dr_val (i := 2) rfl (pv 2)) (DR.of de_int))) (DR.of (de_tup (da_cons (de_str (by decide +kernel)) (da_cons (de_str (by decide +kernel)) da_nil)))) rfl) (db_step (fun found_4 => [.val changes_1, .own found_4, .val change_1]) (ds_extO2 (i := 1) rfl (pv 1) (de_lst (da_cons (de_tup (da_cons (de_str (by decide +kernel)) (da_cons (de_ix hr.u70 (dr_val (i := 2) rfl (pv 2)) (DR.of de_int)) da_nil))) (da_cons (de_tup (da_cons (de_str (by decide +kernel)) (da_cons (de_ix hr.u70 (dr_val (i := 2) rfl (pv 2)) (DR.of de_int)) da_nil))) da_nil)))) (fun _ => rfl) fun found_4 => db_any 2 <| db_nil rfl) (db_any 2 <| db_nil rfl)))))) (fun _ => rfl) (fun found_5 => db_G [.val changes_1, .own found_5, .any] rfl <| db_last (ds_ret (DN.de (dn_callO ctx_def k_in_order (hr.mono (by decide)) rfl (L.glo (fa_17)) F_in_order.kp b_in_order (dam_bor (dr_own (i := 1) rfl (pv 1)) dam_nil)))))
def g_clashes : D → D → M (List D) := fun changes_1 others_1 => ((B1 D.mkTup (A1 (B1 m_touched (A1 (.ok changes_1) A0)) (A1 (B1 m_touched (A1 (.ok others_1) A0)) A0))) >>= un2 fun first_1 second_1 => (((B1 D.items (.ok first_1)) >>= fun ds => compL (fElt (fun thing_1 => (mOr (B2 D.mem (.ok thing_1) (.ok second_1)) (B2 D.mem (.ok thing_1) (B1 m_leaned_on (A1 (.ok others_1) A0))))) (fun thing_1 => (.ok thing_1))) ds) >>= fun found_1 => (((L1 ((B1 D.items (.ok second_1)) >>= fun ds => compL (fElt (fun thing_2 => (B2 D.mem (.ok thing_2) (B1 m_leaned_on (A1 (.ok changes_1) A0)))) (fun thing_2 => (.ok thing_2))) ds)) >>= fun d => extL found_1 d) >>= fun found_2 => (B1 m_in_order (A1 (.ok (.lst found_2)) A0)))))
def m_clashes : List D → M (List D) := a2 g_clashes
theorem e_clashes (changes_1 others_1 : D) : m_clashes [changes_1, others_1] = g_clashes changes_1 others_1 := a2_ g_clashes changes_1 others_1
theorem sc_clashes : FnScope ["changes", "others", "first", "second", "found", "thing"] ["changes", "others"] (d_clashes).scope := ⟨rfl, rfl, rfl, by decide +kernel, rfl, by decide +kernel, by decide +kernel⟩
theorem ok_clashes {P : Program} {w : World} {K : PySem.W.Frag} {mg : Str → Option Value} {base : Heap} (L : Lw w K mg) {fd : FuncData} (F : DefOk K d_clashes fd) : FnOk P w K mg base (L2.CX P w) 3 (He.fAd K d_clashes.at_) fd ["changes", "others"] (spO K [false, false] m_clashes) := by
  obtain ⟨fd_touched, F_touched⟩ := L.c.def_ 12 (d := d_touched) rfl
  have k_touched := ok_touched (P := P) (w := w) (base := base) L F_touched
  have b_touched : Binds K fd_touched ["changes"] [] := F_touched.bindsN fun _ _ _ _ _ _ us hl => match us, hl with | [_], _ => rfl
  obtain ⟨fd_leaned_on, F_leaned_on⟩ := L.c.def_ 13 (d := d_leaned_on) rfl
  have k_leaned_on := ok_leaned_on (P := P) (w := w) (base := base) L F_leaned_on
  have b_leaned_on : Binds K fd_leaned_on ["changes"] [] := F_leaned_on.bindsN fun _ _ _ _ _ _ us hl => match us, hl with | [_], _ => rfl
  obtain ⟨fd_in_order, F_in_order⟩ := L.c.def_ 11 (d := d_in_order) rfl
  have k_in_order := ok_in_order (P := P) (w := w) (base := base) L F_in_order
  have b_in_order : Binds K fd_in_order ["things"] [] := F_in_order.bindsN fun _ _ _ _ _ _ us hl => match us, hl with | [_], _ => rfl
  refine fn_defO F sc_clashes rfl (fun cdv A outer s H E hr ds hl => ?_)
  match ds, hl with
  | [changes_1, others_1], _ =>
    first | rw [e_clashes] | skip
    exact db_G [.val changes_1, .val others_1, .un, .un, .un, .un] rfl <| db_un2' [2, 3] (fun first_1 second_1 => [.val changes_1, .val others_1, .val first_1, .val second_1, .un, .un]) (de_tup (da_cons (de_call ctx_def k_touched (hr.mono (by decide)) rfl (L.glo (fa_18)) F_touched.kp b_touched (dam_frz (de_val (i := 0) rfl (pv 0)) dam_nil)) (da_cons (de_call ctx_def k_touched (hr.mono (by decide)) rfl (L.glo (fa_18)) F_touched.kp b_touched (dam_frz (de_val (i := 1) rfl (pv 1)) dam_nil)) da_nil))) rfl (pg_seq rfl (pgs_cons (pg_name (i := 2) sc_clashes.nd rfl (Or.inl rfl)) (pgs_cons (pg_name (i := 3) sc_clashes.nd rfl (Or.inr rfl)) pgs_nil))) rfl rfl rfl (fun _ _ => rfl) fun first_1 second_1 => db_step (fun found_1 => [.val changes_1, .val others_1, .val first_1, .val second_1, .own found_1, .un]) (ds_setLcN (i := 4) (dn_lc2 (own := [("thing", 5)]) (i := 5) (mt := fun thing_1 => (mOr (B2 D.mem (.ok thing_1) (.ok second_1)) (B2 D.mem (.ok thing_1) (B1 m_leaned_on (A1 (.ok others_1) A0))))) (me := fun thing_1 => (.ok thing_1)) (CtxOk.calm ctx_def) sc_clashes.nd (dir_seq (dr_val (i := 2) rfl (pv 2))) (blkOk_by (by kernel_rfl)) rfl (fun _ _ _ _ _ => pg_name (i := 5) sc_clashes.nd rfl (Or.inl rfl)) (fun _ _ _ _ _ thing_1 => (DW.dt (dw_or (dt_cmp (op_inAll hr.u70) cmp_in (dr_val (i := 5) rfl (pv 5)) (dr_val (i := 3) rfl (pv 3)) rfl) (dw_or1 (dt_cmp (op_inAll hr.u70) cmp_in (dr_val (i := 5) rfl (pv 5)) (DR.of (de_call (CtxOk.blk ctx_def) k_leaned_on (hr.mono (by decide)) rfl (L.glo (fa_19)) F_leaned_on.kp b_leaned_on (dam_frz (de_val (i := 1) rfl (pv 1)) dam_nil))) rfl))))) (fun _ _ _ _ _ thing_1 => (de_val (i := 5) rfl (pv 5)))) rfl rfl rfl) (fun _ => rfl) fun found_1 => db_step (fun found_2 => [.val changes_1, .val others_1, .val first_1, .val second_1, .own found_2, .un]) (ds_extO2 (i := 4) rfl (pv 4) (DNL.de (dn_lc2 (own := [("thing", 5)]) (i := 5) (mt := fun thing_2 => (B2 D.mem (.ok thing_2) (B1 m_leaned_on (A1 (.ok changes_1) A0)))) (me := fun thing_2 => (.ok thing_2)) (CtxOk.calm ctx_def) sc_clashes.nd (dir_seq (dr_val (i := 3) rfl (pv 3))) (blkOk_by (by kernel_rfl)) rfl (fun _ _ _ _ _ => pg_name (i := 5) sc_clashes.nd rfl (Or.inl rfl)) (fun _ _ _ _ _ thing_2 => (dt_cmp (op_inAll hr.u70) cmp_in (dr_val (i := 5) rfl (pv 5)) (DR.of (de_call (CtxOk.blk ctx_def) k_leaned_on (hr.mono (by decide)) rfl (L.glo (fa_19)) F_leaned_on.kp b_leaned_on (dam_frz (de_val (i := 0) rfl (pv 0)) dam_nil))) rfl)) (fun _ _ _ _ _ thing_2 => (de_val (i := 5) rfl (pv 5)))))) (fun _ => rfl) fun found_2 => db_last (ds_retO (dn_callO ctx_def k_in_order (hr.mono (by decide)) rfl (L.glo (fa_17)) F_in_order.kp b_in_order (dam_bor (dr_own (i := 4) rfl (pv 4)) dam_nil)))
def g_are_apart : D → D → M (D) := fun changes_1 others_1 => (C2 D.eq (L1 (B1 m_clashes (A1 (.ok changes_1) (A1 (.ok others_1) A0)))) (B1 D.mkLst A0))
def m_are_apart : List D → M (D) := a2 g_are_apart
theorem e_are_apart (changes_1 others_1 : D) : m_are_apart [changes_1, others_1] = g_are_apart changes_1 others_1 := a2_ g_are_apart changes_1 others_1
theorem sc_are_apart : FnScope ["changes", "others"] ["changes", "others"] (d_are_apart).scope := ⟨rfl, rfl, rfl, by decide +kernel, rfl, by decide +kernel, by decide +kernel⟩
theorem ok_are_apart {P : Program} {w : World} {K : PySem.W.Frag} {mg : Str → Option Value} {base : Heap} (L : Lw w K mg) {fd : FuncData} (F : DefOk K d_are_apart fd) : FnOk P w K mg base (L2.CX P w) 4 (He.fAd K d_are_apart.at_) fd ["changes", "others"] (spD K [false, false] m_are_apart) := by
  obtain ⟨fd_clashes, F_clashes⟩ := L.c.def_ 14 (d := d_clashes) rfl
  have k_clashes := ok_clashes (P := P) (w := w) (base := base) L F_clashes
  have b_clashes : Binds K fd_clashes ["changes", "others"] [] := F_clashes.bindsN fun _ _ _ _ _ _ us hl => match us, hl with | [_, _], _ => rfl
  refine fn_def F sc_are_apart rfl (fun cdv A outer s H E hr ds hl => ?_)
  match ds, hl with
  | [changes_1, others_1], _ =>
    first | rw [e_are_apart] | skip
    exact db_G [.val changes_1, .val others_1] rfl <| db_last (ds_ret (de_cmp (op_eqD hr.u64) cmp_eq (DR.of (DN.de (dn_callO ctx_def k_clashes (hr.mono (by decide)) rfl (L.glo (fa_20)) F_clashes.kp b_clashes (dam_frz (de_val (i := 0) rfl (pv 0)) (dam_frz (de_val (i := 1) rfl (pv 1)) dam_nil))))) (DR.of (de_lst da_nil)) (nomark _)))
def g_law_drawn_change : D → D → D → M (D) := fun numbers_here_1 at_1 parts_here_1 => ((B1 D.mkTup (A1 (.ok (.str "place")) (A1 (.ok (.str "unplace")) (A1 (.ok (.str "road")) (A1 (.ok (.str "unroad")) (A1 (.ok (.str "minutes")) (A1 (.ok (.str "minutes")) (A1 (.ok (.str "hours")) (A1 (.ok (.str "kinds")) (A1 (.ok (.str "bar")) (A1 (.ok (.str "unbar")) (A1 (.ok (.str "road")) (A1 (.ok (.str "unroad")) A0))))))))))))) >>= fun words_1 => ((B2 D.ix (.ok words_1) (B2 D.mod (B1 (f1 D.toInt) (A1 (B2 D.ix (.ok numbers_here_1) (.ok at_1)) A0)) (.ok (.int 12)))) >>= fun word_1 => ((L1 ((B1 D.items (B2 D.ix (.ok parts_here_1) (.ok (.int 3)))) >>= fun ds => compL (fElt noT (fun road_here_1 => (B2 D.ix (.ok road_here_1) (.ok (.int 0))))) ds)) >>= fun names_here_1 => (mIf (mOr (B2 D.eq (.ok word_1) (.ok (.str "place"))) (B2 D.eq (.ok word_1) (.ok (.str "unplace")))) ((B2 D.add (B1 (f1 D.toList) (A1 (B2 D.ix (.ok parts_here_1) (.ok (.int 2))) A0)) (B1 D.mkLst (A1 (.ok (.str "new1")) (A1 (.ok (.str "new2")) A0)))) >>= fun options_1 => (B1 D.mkTup (A1 (.ok word_1) (A1 (B2 D.ix (.ok options_1) (B2 D.mod (B1 (f1 D.toInt) (A1 (B2 D.ix (.ok numbers_here_1) (B2 D.add (.ok at_1) (.ok (.int 1)))) A0)) (B1 (f1 D.len) (A1 (.ok options_1) A0)))) A0)))) (mIf (mOr (B2 D.eq (B1 (f1 D.len) (A1 (B2 D.ix (.ok parts_here_1) (.ok (.int 3))) A0)) (.ok (.int 0))) (B2 D.eq (.ok word_1) (.ok (.str "road")))) ((B2 D.ix (B1 D.mkTup (A1 (.ok (.str "fresh")) (A1 (.ok (.str "fresh2")) (A1 (.ok (.str "fresh3")) A0)))) (B2 D.mod (B1 (f1 D.toInt) (A1 (B2 D.ix (.ok numbers_here_1) (B2 D.add (.ok at_1) (.ok (.int 1)))) A0)) (.ok (.int 3)))) >>= fun name_1 => (mIf (B2 D.eq (B1 (f1 D.len) (A1 (B2 D.ix (.ok parts_here_1) (.ok (.int 2))) A0)) (.ok (.int 0))) (B1 D.mkTup (A1 (.ok (.str "place")) (A1 (.ok name_1) A0))) ((B1 m_law_road (A1 (.ok numbers_here_1) (A1 (B2 D.add (.ok at_1) (.ok (.int 2))) (A1 (.ok name_1) (A1 (B2 D.ix (.ok parts_here_1) (.ok (.int 0))) (A1 (B2 D.ix (.ok parts_here_1) (.ok (.int 1))) (A1 (B2 D.add (B2 D.ix (.ok parts_here_1) (.ok (.int 2))) (S3 (B1 D.mkTup (A1 (.ok (.str "new1")) A0)) oN (B1 D.bnd (B2 D.fdiv (B2 D.mod (B1 (f1 D.toInt) (A1 (B2 D.ix (.ok numbers_here_1) (B2 D.add (.ok at_1) (.ok (.int 1)))) A0)) (.ok (.int 5))) (.ok (.int 4)))))) A0))))))) >>= fun road_here_2 => (B1 D.mkTup (A1 (.ok (.str "road")) (A1 (.ok road_here_2) A0)))))) ((B2 D.ix (B2 D.ix (.ok parts_here_1) (.ok (.int 3))) (B2 D.mod (B1 (f1 D.toInt) (A1 (B2 D.ix (.ok numbers_here_1) (B2 D.add (.ok at_1) (.ok (.int 1)))) A0)) (B1 (f1 D.len) (A1 (B2 D.ix (.ok parts_here_1) (.ok (.int 3))) A0)))) >>= fun road_here_3 => (mIf (B2 D.eq (.ok word_1) (.ok (.str "unroad"))) (B1 D.mkTup (A1 (.ok word_1) (A1 (.ok road_here_3) A0))) (mIf (B2 D.eq (.ok word_1) (.ok (.str "minutes"))) (B1 D.mkTup (A1 (.ok word_1) (A1 (B2 D.ix (.ok road_here_3) (.ok (.int 0))) (A1 (B2 D.ix (.ok road_here_3) (.ok (.int 3))) (A1 (mIf (B2 D.eq (B2 D.mod (B1 (f1 D.toInt) (A1 (B2 D.ix (.ok numbers_here_1) (B2 D.add (.ok at_1) (.ok (.int 2)))) A0)) (.ok (.int 9))) (.ok (.int 0))) (B2 D.ix (B1 D.mkTup (A1 (.ok (.int 0)) (A1 (.ok (.int 1001)) (A1 (.ok (.int 1000)) A0)))) (B2 D.mod (B1 (f1 D.toInt) (A1 (B2 D.ix (.ok numbers_here_1) (B2 D.add (.ok at_1) (.ok (.int 3)))) A0)) (.ok (.int 3)))) (B2 D.add (.ok (.int 1)) (B2 D.mod (B1 (f1 D.toInt) (A1 (B2 D.ix (.ok numbers_here_1) (B2 D.add (.ok at_1) (.ok (.int 2)))) A0)) (.ok (.int 12))))) A0))))) (mIf (B2 D.eq (.ok word_1) (.ok (.str "hours"))) (mIf (B2 D.eq (B2 D.mod (B1 (f1 D.toInt) (A1 (B2 D.ix (.ok numbers_here_1) (B2 D.add (.ok at_1) (.ok (.int 2)))) A0)) (.ok (.int 9))) (.ok (.int 4))) (B1 D.mkTup (A1 (.ok word_1) (A1 (B2 D.ix (.ok road_here_3) (.ok (.int 0))) (A1 (B2 D.ix (.ok road_here_3) (.ok (.int 5))) (A1 (B2 D.ix (B1 D.mkTup (A1 (B1 D.mkTup (A1 (B1 D.mkTup (A1 (.ok (.int 0)) (A1 (B2 D.add (B2 D.ix (.ok parts_here_1) (.ok (.int 0))) (.ok (.int 1))) A0))) A0)) (A1 (B1 D.mkTup (A1 (B1 D.mkTup (A1 (.ok (.int 0)) (A1 (.ok (.int 0)) A0))) A0)) (A1 (B1 D.mkTup (A1 (B1 D.mkTup (A1 (.ok (.int 1)) (A1 (.ok (.int 2)) A0))) (A1 (B1 D.mkTup (A1 (.ok (.int 2)) (A1 (.ok (.int 3)) A0))) A0))) (A1 (B1 D.mkTup (A1 (B1 D.mkTup (A1 (.ok (.int 0)) (A1 (.ok (.int 1)) A0))) (A1 (B1 D.mkTup (A1 (.ok (.int 2)) (A1 (.ok (.int 1)) A0))) A0))) A0))))) (B2 D.mod (B1 (f1 D.toInt) (A1 (B2 D.ix (.ok numbers_here_1) (B2 D.add (.ok at_1) (.ok (.int 3)))) A0)) (.ok (.int 4)))) A0))))) (B1 D.mkTup (A1 (.ok word_1) (A1 (B2 D.ix (.ok road_here_3) (.ok (.int 0))) (A1 (B2 D.ix (.ok road_here_3) (.ok (.int 5))) (A1 (B1 m_law_hours (A1 (.ok numbers_here_1) (A1 (B2 D.add (.ok at_1) (.ok (.int 2))) (A1 (B2 D.ix (.ok parts_here_1) (.ok (.int 0))) A0)))) A0)))))) (mIf (B2 D.eq (.ok word_1) (.ok (.str "kinds"))) (mIf (B2 D.eq (B2 D.mod (B1 (f1 D.toInt) (A1 (B2 D.ix (.ok numbers_here_1) (B2 D.add (.ok at_1) (.ok (.int 2)))) A0)) (.ok (.int 7))) (.ok (.int 0))) (B1 D.mkTup (A1 (.ok word_1) (A1 (B2 D.ix (.ok road_here_3) (.ok (.int 0))) (A1 (B2 D.ix (.ok road_here_3) (.ok (.int 4))) (A1 (B2 D.ix (B1 D.mkTup (A1 (B1 D.mkTup (A1 (.ok (.str "zz")) A0)) (A1 (mRevT (B2 D.ix (.ok parts_here_1) (.ok (.int 1)))) (A1 (B2 D.add (B2 D.ix (.ok parts_here_1) (.ok (.int 1))) (S3 (B2 D.ix (.ok parts_here_1) (.ok (.int 1))) oN (B1 D.bnd (.ok (.int 1))))) A0)))) (B2 D.mod (B1 (f1 D.toInt) (A1 (B2 D.ix (.ok numbers_here_1) (B2 D.add (.ok at_1) (.ok (.int 3)))) A0)) (.ok (.int 3)))) A0))))) (B1 D.mkTup (A1 (.ok word_1) (A1 (B2 D.ix (.ok road_here_3) (.ok (.int 0))) (A1 (B2 D.ix (.ok road_here_3) (.ok (.int 4))) (A1 (S3 (B2 D.ix (.ok parts_here_1) (.ok (.int 1))) oN (B1 D.bnd (B2 D.mod (B1 (f1 D.toInt) (A1 (B2 D.ix (.ok numbers_here_1) (B2 D.add (.ok at_1) (.ok (.int 2)))) A0)) (B2 D.add (B1 (f1 D.len) (A1 (B2 D.ix (.ok parts_here_1) (.ok (.int 1))) A0)) (.ok (.int 1)))))) A0)))))) (mIf (mAnd (B2 D.eq (.ok word_1) (.ok (.str "unbar"))) (B2 D.gt (B1 (f1 D.len) (A1 (B2 D.ix (.ok parts_here_1) (.ok (.int 4))) A0)) (.ok (.int 0)))) (B2 D.add (B1 D.mkTup (A1 (.ok word_1) A0)) (B2 D.ix (B2 D.ix (.ok parts_here_1) (.ok (.int 4))) (B2 D.mod (B1 (f1 D.toInt) (A1 (B2 D.ix (.ok numbers_here_1) (B2 D.add (.ok at_1) (.ok (.int 2)))) A0)) (B1 (f1 D.len) (A1 (B2 D.ix (.ok parts_here_1) (.ok (.int 4))) A0))))) ((B2 D.add (L1 ((B1 D.items (B2 D.ix (.ok parts_here_1) (.ok (.int 3)))) >>= fun ds => compL (fElt (fun other_1 => (B2 D.eq (B2 D.ix (.ok other_1) (.ok (.int 1))) (B2 D.ix (.ok road_here_3) (.ok (.int 2))))) (fun other_1 => (B2 D.ix (.ok other_1) (.ok (.int 0))))) ds)) (S3 (.ok names_here_1) oN (B1 D.bnd (.ok (.int 1))))) >>= fun following_1 => (B1 D.mkTup (A1 (.ok (.str "bar")) (A1 (B2 D.ix (.ok road_here_3) (.ok (.int 0))) (A1 (B2 D.ix (.ok following_1) (B2 D.mod (B1 (f1 D.toInt) (A1 (B2 D.ix (.ok numbers_here_1) (B2 D.add (.ok at_1) (.ok (.int 2)))) A0)) (B1 (f1 D.len) (A1 (.ok following_1) A0)))) A0))))))))))))))))
def m_law_drawn_change : List D → M (D) := a3 g_law_drawn_change
theorem e_law_drawn_change (numbers_here_1 at_1 parts_here_1 : D) : m_law_drawn_change [numbers_here_1, at_1, parts_here_1] = g_law_drawn_change numbers_here_1 at_1 parts_here_1 := a3_ g_law_drawn_change numbers_here_1 at_1 parts_here_1
theorem sc_law_drawn_change : FnScope ["_law_numbers_here", "_law_at", "_law_parts_here", "_law_words", "_law_word", "_law_names_here", "_law_options", "_law_name", "_law_road_here", "_law_following", "_law_other"] ["_law_numbers_here", "_law_at", "_law_parts_here"] (d_law_drawn_change).scope := ⟨rfl, rfl, rfl, by decide +kernel, rfl, by decide +kernel, by decide +kernel⟩
theorem ok_law_drawn_change {P : Program} {w : World} {K : PySem.W.Frag} {mg : Str → Option Value} {base : Heap} (L : Lw w K mg) {fd : FuncData} (F : DefOk K d_law_drawn_change fd) : FnOk P w K mg base (L2.CX P w) 3 (He.fAd K d_law_drawn_change.at_) fd ["_law_numbers_here", "_law_at", "_law_parts_here"] (spD K [true, true, true] m_law_drawn_change) := by
  obtain ⟨fd_law_road, F_law_road⟩ := L.c.def_ 5 (d := d_law_road) rfl
  have k_law_road := ok_law_road (P := P) (w := w) (base := base) L F_law_road
  have b_law_road : Binds K fd_law_road ["_law_numbers_here", "_law_at", "_law_name", "_law_day", "_law_kinds", "_law_places"] [] := F_law_road.bindsN fun _ _ _ _ _ _ us hl => match us, hl with | [_, _, _, _, _, _], _ => rfl
  obtain ⟨fd_law_hours, F_law_hours⟩ := L.c.def_ 4 (d := d_law_hours) rfl
  have k_law_hours := ok_law_hours (P := P) (w := w) (base := base) L F_law_hours
  have b_law_hours : Binds K fd_law_hours ["_law_numbers_here", "_law_at", "_law_day"] [] := F_law_hours.bindsN fun _ _ _ _ _ _ us hl => match us, hl with | [_, _, _], _ => rfl
  refine fn_def F sc_law_drawn_change rfl (fun cdv A outer s H E hr ds hl => ?_)
  match ds, hl with
  | [numbers_here_1, at_1, parts_here_1], _ =>
    first | rw [e_law_drawn_change] | skip
    exact db_G [.bor numbers_here_1, .bor at_1, .bor parts_here_1, .un, .un, .un, .un, .un, .un, .un, .un] rfl <| db_step (fun words_1 => [.bor numbers_here_1, .bor at_1, .bor parts_here_1, .val words_1, .un, .un, .un, .un, .un, .un, .un]) (ds_set (de_tup (da_cons (de_str (by decide +kernel)) (da_cons (de_str (by decide +kernel)) (da_cons (de_str (by decide +kernel)) (da_cons (de_str (by decide +kernel)) (da_cons (de_str (by decide +kernel)) (da_cons (de_str (by decide +kernel)) (da_cons (de_str (by decide +kernel)) (da_cons (de_str (by decide +kernel)) (da_cons (de_str (by decide +kernel)) (da_cons (de_str (by decide +kernel)) (da_cons (de_str (by decide +kernel)) (da_cons (de_str (by decide +kernel)) da_nil))))))))))))) (fun pe => ps_set (i := 3) sc_law_drawn_change.nd rfl (Or.inl rfl) pe)) (fun _ => rfl) fun words_1 => db_step (fun word_1 => [.bor numbers_here_1, .bor at_1, .bor parts_here_1, .val words_1, .val word_1, .un, .un, .un, .un, .un, .un]) (ds_set (de_ix hr.u70 (dr_val (i := 3) rfl (pv 3)) (DR.of (de_mod (DR.of (de_callTy int_R int_op rfl (L.free (fa_1)) boot_int_ (dra_cons (DR.of (de_ix hr.u70 (dr_bor (i := 0) rfl (pv 0)) (dr_bor (i := 1) rfl (pv 1)))) dra_nil))) (DR.of de_int)))) (fun pe => ps_set (i := 4) sc_law_drawn_change.nd rfl (Or.inl rfl) pe)) (fun _ => rfl) fun word_1 => db_step (fun names_here_1 => [.bor numbers_here_1, .bor at_1, .bor parts_here_1, .val words_1, .val word_1, .val names_here_1, .un, .un, .un, .un, .un]) (ds_setLc (i := 5) (dn_lc1 (own := [("_law_road_here", 8)]) (i := 8) (me := fun road_here_1 => (B2 D.ix (.ok road_here_1) (.ok (.int 0)))) (CtxOk.calm ctx_def) sc_law_drawn_change.nd (dir_seq (DR.of (de_ix hr.u70 (dr_bor (i := 2) rfl (pv 2)) (DR.of de_int)))) (blkOk_by (by kernel_rfl)) rfl (fun _ _ _ _ _ => pg_name (i := 8) sc_law_drawn_change.nd rfl (Or.inl rfl)) (fun _ _ _ _ _ road_here_1 => (de_ix hr.u70 (dr_val (i := 8) rfl (pv 8)) (DR.of de_int)))) rfl rfl rfl) (fun _ => rfl) fun names_here_1 => db_ifr (DW.dt (dw_or (dt_cmp (op_eqD hr.u64) cmp_eq (dr_val (i := 4) rfl (pv 4)) (DR.of (de_str (by decide +kernel))) (nomark _)) (dw_or1 (dt_cmp (op_eqD hr.u64) cmp_eq (dr_val (i := 4) rfl (pv 4)) (DR.of (de_str (by decide +kernel))) (nomark _))))) (db_step (fun options_1 => [.bor numbers_here_1, .bor at_1, .bor parts_here_1, .val words_1, .val word_1, .val names_here_1, .val options_1, .un, .un, .un, .un]) (ds_set (de_add (DR.of (de_callTy call_list_of list_op rfl (L.free (fa_21)) boot_list_ (dra_cons (DR.of (de_ix hr.u70 (dr_bor (i := 2) rfl (pv 2)) (DR.of de_int))) dra_nil))) (DR.of (de_lst (da_cons (de_str (by decide +kernel)) (da_cons (de_str (by decide +kernel)) da_nil))))) (fun pe => ps_set (i := 6) sc_law_drawn_change.nd rfl (Or.inl rfl) pe)) (fun _ => rfl) fun options_1 => db_last (ds_ret (de_tup (da_cons (de_val (i := 4) rfl (pv 4)) (da_cons (de_ix hr.u70 (dr_val (i := 6) rfl (pv 6)) (DR.of (de_mod (DR.of (de_callTy int_R int_op rfl (L.free (fa_1)) boot_int_ (dra_cons (DR.of (de_ix hr.u70 (dr_bor (i := 0) rfl (pv 0)) (DR.of (de_add (dr_bor (i := 1) rfl (pv 1)) (DR.of de_int))))) dra_nil))) (DR.of (de_callB lenR len_op rfl (L.free (fa_3)) boot_len_ (dra_cons (dr_val (i := 6) rfl (pv 6)) dra_nil)))))) da_nil))))) (db_ifr (DW.dt (dw_or (dt_cmp (op_eqD hr.u64) cmp_eq (DR.of (de_callB lenR len_op rfl (L.free (fa_3)) boot_len_ (dra_cons (DR.of (de_ix hr.u70 (dr_bor (i := 2) rfl (pv 2)) (DR.of de_int))) dra_nil))) (DR.of de_int) (nomark _)) (dw_or1 (dt_cmp (op_eqD hr.u64) cmp_eq (dr_val (i := 4) rfl (pv 4)) (DR.of (de_str (by decide +kernel))) (nomark _))))) (db_step (fun name_1 => [.bor numbers_here_1, .bor at_1, .bor parts_here_1, .val words_1, .val word_1, .val names_here_1, .un, .val name_1, .un, .un, .un]) (ds_set (de_ix hr.u70 (DR.of (de_tup (da_cons (de_str (by decide +kernel)) (da_cons (de_str (by decide +kernel)) (da_cons (de_str (by decide +kernel)) da_nil))))) (DR.of (de_mod (DR.of (de_callTy int_R int_op rfl (L.free (fa_1)) boot_int_ (dra_cons (DR.of (de_ix hr.u70 (dr_bor (i := 0) rfl (pv 0)) (DR.of (de_add (dr_bor (i := 1) rfl (pv 1)) (DR.of de_int))))) dra_nil))) (DR.of de_int)))) (fun pe => ps_set (i := 7) sc_law_drawn_change.nd rfl (Or.inl rfl) pe)) (fun _ => rfl) fun name_1 => db_ifr (dt_cmp (op_eqD hr.u64) cmp_eq (DR.of (de_callB lenR len_op rfl (L.free (fa_3)) boot_len_ (dra_cons (DR.of (de_ix hr.u70 (dr_bor (i := 2) rfl (pv 2)) (DR.of de_int))) dra_nil))) (DR.of de_int) (nomark _)) (db_last (ds_ret (de_tup (da_cons (de_str (by decide +kernel)) (da_cons (de_val (i := 7) rfl (pv 7)) da_nil))))) (db_step (fun road_here_2 => [.bor numbers_here_1, .bor at_1, .bor parts_here_1, .val words_1, .val word_1, .val names_here_1, .un, .val name_1, .val road_here_2, .un, .un]) (ds_set (de_call ctx_def k_law_road (hr.mono (by decide)) rfl (L.glo (fa_11)) F_law_road.kp b_law_road (dam_bor (dr_bor (i := 0) rfl (pv 0)) (dam_bor (DR.of (de_add (dr_bor (i := 1) rfl (pv 1)) (DR.of de_int))) (dam_frz (de_val (i := 7) rfl (pv 7)) (dam_bor (DR.of (de_ix hr.u70 (dr_bor (i := 2) rfl (pv 2)) (DR.of de_int))) (dam_bor (DR.of (de_ix hr.u70 (dr_bor (i := 2) rfl (pv 2)) (DR.of de_int))) (dam_bor (DR.of (de_add (DR.of (de_ix hr.u70 (dr_bor (i := 2) rfl (pv 2)) (DR.of de_int))) (DR.of (de_sl (DR.of (de_tup (da_cons (de_str (by decide +kernel)) da_nil))) do_none (do_some (DR.of (de_fdiv (DR.of (de_mod (DR.of (de_callTy int_R int_op rfl (L.free (fa_1)) boot_int_ (dra_cons (DR.of (de_ix hr.u70 (dr_bor (i := 0) rfl (pv 0)) (DR.of (de_add (dr_bor (i := 1) rfl (pv 1)) (DR.of de_int))))) dra_nil))) (DR.of de_int))) (DR.of de_int)))))))) dam_nil))))))) (fun pe => ps_set (i := 8) sc_law_drawn_change.nd rfl (Or.inr rfl) pe)) (fun _ => rfl) fun road_here_2 => db_last (ds_ret (de_tup (da_cons (de_str (by decide +kernel)) (da_cons (de_val (i := 8) rfl (pv 8)) da_nil)))))) (db_step (fun road_here_3 => [.bor numbers_here_1, .bor at_1, .bor parts_here_1, .val words_1, .val word_1, .val names_here_1, .un, .un, .val road_here_3, .un, .un]) (ds_set (de_ix hr.u70 (DR.of (de_ix hr.u70 (dr_bor (i := 2) rfl (pv 2)) (DR.of de_int))) (DR.of (de_mod (DR.of (de_callTy int_R int_op rfl (L.free (fa_1)) boot_int_ (dra_cons (DR.of (de_ix hr.u70 (dr_bor (i := 0) rfl (pv 0)) (DR.of (de_add (dr_bor (i := 1) rfl (pv 1)) (DR.of de_int))))) dra_nil))) (DR.of (de_callB lenR len_op rfl (L.free (fa_3)) boot_len_ (dra_cons (DR.of (de_ix hr.u70 (dr_bor (i := 2) rfl (pv 2)) (DR.of de_int))) dra_nil)))))) (fun pe => ps_set (i := 8) sc_law_drawn_change.nd rfl (Or.inr rfl) pe)) (fun _ => rfl) fun road_here_3 => db_ifr (dt_cmp (op_eqD hr.u64) cmp_eq (dr_val (i := 4) rfl (pv 4)) (DR.of (de_str (by decide +kernel))) (nomark _)) (db_last (ds_ret (de_tup (da_cons (de_val (i := 4) rfl (pv 4)) (da_cons (de_val (i := 8) rfl (pv 8)) da_nil))))) (db_ifr (dt_cmp (op_eqD hr.u64) cmp_eq (dr_val (i := 4) rfl (pv 4)) (DR.of (de_str (by decide +kernel))) (nomark _)) (db_last (ds_ret (de_tup (da_cons (de_val (i := 4) rfl (pv 4)) (da_cons (de_ix hr.u70 (dr_val (i := 8) rfl (pv 8)) (DR.of de_int)) (da_cons (de_ix hr.u70 (dr_val (i := 8) rfl (pv 8)) (DR.of de_int)) (da_cons (de_if (dt_cmp (op_eqD hr.u64) cmp_eq (DR.of (de_mod (DR.of (de_callTy int_R int_op rfl (L.free (fa_1)) boot_int_ (dra_cons (DR.of (de_ix hr.u70 (dr_bor (i := 0) rfl (pv 0)) (DR.of (de_add (dr_bor (i := 1) rfl (pv 1)) (DR.of de_int))))) dra_nil))) (DR.of de_int))) (DR.of de_int) (nomark _)) (de_ix hr.u70 (DR.of (de_tup (da_cons de_int (da_cons de_int (da_cons de_int da_nil))))) (DR.of (de_mod (DR.of (de_callTy int_R int_op rfl (L.free (fa_1)) boot_int_ (dra_cons (DR.of (de_ix hr.u70 (dr_bor (i := 0) rfl (pv 0)) (DR.of (de_add (dr_bor (i := 1) rfl (pv 1)) (DR.of de_int))))) dra_nil))) (DR.of de_int)))) (de_add (DR.of de_int) (DR.of (de_mod (DR.of (de_callTy int_R int_op rfl (L.free (fa_1)) boot_int_ (dra_cons (DR.of (de_ix hr.u70 (dr_bor (i := 0) rfl (pv 0)) (DR.of (de_add (dr_bor (i := 1) rfl (pv 1)) (DR.of de_int))))) dra_nil))) (DR.of de_int))))) da_nil))))))) (db_ifr (dt_cmp (op_eqD hr.u64) cmp_eq (dr_val (i := 4) rfl (pv 4)) (DR.of (de_str (by decide +kernel))) (nomark _)) (db_ifr (dt_cmp (op_eqD hr.u64) cmp_eq (DR.of (de_mod (DR.of (de_callTy int_R int_op rfl (L.free (fa_1)) boot_int_ (dra_cons (DR.of (de_ix hr.u70 (dr_bor (i := 0) rfl (pv 0)) (DR.of (de_add (dr_bor (i := 1) rfl (pv 1)) (DR.of de_int))))) dra_nil))) (DR.of de_int))) (DR.of de_int) (nomark _)) (db_last (ds_ret (de_tup (da_cons (de_val (i := 4) rfl (pv 4)) (da_cons (de_ix hr.u70 (dr_val (i := 8) rfl (pv 8)) (DR.of de_int)) (da_cons (de_ix hr.u70 (dr_val (i := 8) rfl (pv 8)) (DR.of de_int)) (da_cons (de_ix hr.u70 (DR.of (de_tup (da_cons (de_tup (da_cons (de_tup (da_cons de_int (da_cons (de_add (DR.of (de_ix hr.u70 (dr_bor (i := 2) rfl (pv 2)) (DR.of de_int))) (DR.of de_int)) da_nil))) da_nil)) (da_cons (de_tup (da_cons (de_tup (da_cons de_int (da_cons de_int da_nil))) da_nil)) (da_cons (de_tup (da_cons (de_tup (da_cons de_int (da_cons de_int da_nil))) (da_cons (de_tup (da_cons de_int (da_cons de_int da_nil))) da_nil))) (da_cons (de_tup (da_cons (de_tup (da_cons de_int (da_cons de_int da_nil))) (da_cons (de_tup (da_cons de_int (da_cons de_int da_nil))) da_nil))) da_nil)))))) (DR.of (de_mod (DR.of (de_callTy int_R int_op rfl (L.free (fa_1)) boot_int_ (dra_cons (DR.of (de_ix hr.u70 (dr_bor (i := 0) rfl (pv 0)) (DR.of (de_add (dr_bor (i := 1) rfl (pv 1)) (DR.of de_int))))) dra_nil))) (DR.of de_int)))) da_nil))))))) (db_last (ds_ret (de_tup (da_cons (de_val (i := 4) rfl (pv 4)) (da_cons (de_ix hr.u70 (dr_val (i := 8) rfl (pv 8)) (DR.of de_int)) (da_cons (de_ix hr.u70 (dr_val (i := 8) rfl (pv 8)) (DR.of de_int)) (da_cons (de_call ctx_def k_law_hours (hr.mono (by decide)) rfl (L.glo (fa_9)) F_law_hours.kp b_law_hours (dam_bor (dr_bor (i := 0) rfl (pv 0)) (dam_bor (DR.of (de_add (dr_bor (i := 1) rfl (pv 1)) (DR.of de_int))) (dam_bor (DR.of (de_ix hr.u70 (dr_bor (i := 2) rfl (pv 2)) (DR.of de_int))) dam_nil)))) da_nil)))))))) (db_ifr (dt_cmp (op_eqD hr.u64) cmp_eq (dr_val (i := 4) rfl (pv 4)) (DR.of (de_str (by decide +kernel))) (nomark _)) (db_ifr (dt_cmp (op_eqD hr.u64) cmp_eq (DR.of (de_mod (DR.of (de_callTy int_R int_op rfl (L.free (fa_1)) boot_int_ (dra_cons (DR.of (de_ix hr.u70 (dr_bor (i := 0) rfl (pv 0)) (DR.of (de_add (dr_bor (i := 1) rfl (pv 1)) (DR.of de_int))))) dra_nil))) (DR.of de_int))) (DR.of de_int) (nomark _)) (db_last (ds_ret (de_tup (da_cons (de_val (i := 4) rfl (pv 4)) (da_cons (de_ix hr.u70 (dr_val (i := 8) rfl (pv 8)) (DR.of de_int)) (da_cons (de_ix hr.u70 (dr_val (i := 8) rfl (pv 8)) (DR.of de_int)) (da_cons (de_ix hr.u70 (DR.of (de_tup (da_cons (de_tup (da_cons (de_str (by decide +kernel)) da_nil)) (da_cons (de_revT (DR.of (de_ix hr.u70 (dr_bor (i := 2) rfl (pv 2)) (DR.of de_int)))) (da_cons (de_add (DR.of (de_ix hr.u70 (dr_bor (i := 2) rfl (pv 2)) (DR.of de_int))) (DR.of (de_sl (DR.of (de_ix hr.u70 (dr_bor (i := 2) rfl (pv 2)) (DR.of de_int))) do_none (do_some (DR.of de_int))))) da_nil))))) (DR.of (de_mod (DR.of (de_callTy int_R int_op rfl (L.free (fa_1)) boot_int_ (dra_cons (DR.of (de_ix hr.u70 (dr_bor (i := 0) rfl (pv 0)) (DR.of (de_add (dr_bor (i := 1) rfl (pv 1)) (DR.of de_int))))) dra_nil))) (DR.of de_int)))) da_nil))))))) (db_last (ds_ret (de_tup (da_cons (de_val (i := 4) rfl (pv 4)) (da_cons (de_ix hr.u70 (dr_val (i := 8) rfl (pv 8)) (DR.of de_int)) (da_cons (de_ix hr.u70 (dr_val (i := 8) rfl (pv 8)) (DR.of de_int)) (da_cons (de_sl (DR.of (de_ix hr.u70 (dr_bor (i := 2) rfl (pv 2)) (DR.of de_int))) do_none (do_some (DR.of (de_mod (DR.of (de_callTy int_R int_op rfl (L.free (fa_1)) boot_int_ (dra_cons (DR.of (de_ix hr.u70 (dr_bor (i := 0) rfl (pv 0)) (DR.of (de_add (dr_bor (i := 1) rfl (pv 1)) (DR.of de_int))))) dra_nil))) (DR.of (de_add (DR.of (de_callB lenR len_op rfl (L.free (fa_3)) boot_len_ (dra_cons (DR.of (de_ix hr.u70 (dr_bor (i := 2) rfl (pv 2)) (DR.of de_int))) dra_nil))) (DR.of de_int))))))) da_nil)))))))) (db_ifr (DW.dt (dw_and (dt_cmp (op_eqD hr.u64) cmp_eq (dr_val (i := 4) rfl (pv 4)) (DR.of (de_str (by decide +kernel))) (nomark _)) (dw_and1 (dt_cmp op_gt cmp_gt (DR.of (de_callB lenR len_op rfl (L.free (fa_3)) boot_len_ (dra_cons (DR.of (de_ix hr.u70 (dr_bor (i := 2) rfl (pv 2)) (DR.of de_int))) dra_nil))) (DR.of de_int) (nomark _))))) (db_last (ds_ret (de_add (DR.of (de_tup (da_cons (de_val (i := 4) rfl (pv 4)) da_nil))) (DR.of (de_ix hr.u70 (DR.of (de_ix hr.u70 (dr_bor (i := 2) rfl (pv 2)) (DR.of de_int))) (DR.of (de_mod (DR.of (de_callTy int_R int_op rfl (L.free (fa_1)) boot_int_ (dra_cons (DR.of (de_ix hr.u70 (dr_bor (i := 0) rfl (pv 0)) (DR.of (de_add (dr_bor (i := 1) rfl (pv 1)) (DR.of de_int))))) dra_nil))) (DR.of (de_callB lenR len_op rfl (L.free (fa_3)) boot_len_ (dra_cons (DR.of (de_ix hr.u70 (dr_bor (i := 2) rfl (pv 2)) (DR.of de_int))) dra_nil)))))))))) (db_step (fun following_1 => [.bor numbers_here_1, .bor at_1, .bor parts_here_1, .val words_1, .val word_1, .val names_here_1, .un, .un, .val road_here_3, .val following_1, .un]) (ds_set (de_add (DR.of (DNL.de (dn_lc2 (own := [("_law_other", 10)]) (i := 10) (mt := fun other_1 => (B2 D.eq (B2 D.ix (.ok other_1) (.ok (.int 1))) (B2 D.ix (.ok road_here_3) (.ok (.int 2))))) (me := fun other_1 => (B2 D.ix (.ok other_1) (.ok (.int 0)))) (CtxOk.calm ctx_def) sc_law_drawn_change.nd (dir_seq (DR.of (de_ix hr.u70 (dr_bor (i := 2) rfl (pv 2)) (DR.of de_int)))) (blkOk_by (by kernel_rfl)) rfl (fun _ _ _ _ _ => pg_name (i := 10) sc_law_drawn_change.nd rfl (Or.inl rfl)) (fun _ _ _ _ _ other_1 => (dt_cmp (op_eqD hr.u64) cmp_eq (DR.of (de_ix hr.u70 (dr_val (i := 10) rfl (pv 10)) (DR.of de_int))) (DR.of (de_ix hr.u70 (dr_val (i := 8) rfl (pv 8)) (DR.of de_int))) (nomark _))) (fun _ _ _ _ _ other_1 => (de_ix hr.u70 (dr_val (i := 10) rfl (pv 10)) (DR.of de_int)))))) (DR.of (de_sl (dr_val (i := 5) rfl (pv 5)) do_none (do_some (DR.of de_int))))) (fun pe => ps_set (i := 9) sc_law_drawn_change.nd rfl (Or.inl rfl) pe)) (fun _ => rfl) fun following_1 => db_last (ds_ret (de_tup (da_cons (de_str (by decide +kernel)) (da_cons (de_ix hr.u70 (dr_val (i := 8) rfl (pv 8)) (DR.of de_int)) (da_cons (de_ix hr.u70 (dr_val (i := 9) rfl (pv 9)) (DR.of (de_mod (DR.of (de_callTy int_R int_op rfl (L.free (fa_1)) boot_int_ (dra_cons (DR.of (de_ix hr.u70 (dr_bor (i := 0) rfl (pv 0)) (DR.of (de_add (dr_bor (i := 1) rfl (pv 1)) (DR.of de_int))))) dra_nil))) (DR.of (de_callB lenR len_op rfl (L.free (fa_3)) boot_len_ (dra_cons (dr_val (i := 9) rfl (pv 9)) dra_nil)))))) da_nil))))))))))))
def g_law : D → M (D) := fun script_1 => ((B1 m_law_numbers (A1 (.ok script_1) (A1 (.ok (.int 200)) A0))) >>= fun numbers_here_1 => ((B1 m_law_parts (A1 (.ok numbers_here_1) (A1 (.ok (.int 0)) A0))) >>= fun parts_here_1 => ((L1 ((B1 D.range1 (A1 (B2 D.mod (B1 (f1 D.toInt) (A1 (B2 D.ix (.ok numbers_here_1) (.ok (.int 195))) A0)) (.ok (.int 5))) A0)) >>= fun ds => compL (fElt noT (fun k_1 => (B1 m_law_drawn_change (A1 (.ok numbers_here_1) (A1 (B2 D.add (.ok (.int 105)) (B2 D.mul (.ok (.int 10)) (.ok k_1))) (A1 (.ok parts_here_1) A0)))))) ds)) >>= fun first_1 => ((L1 ((B1 D.range1 (A1 (B2 D.mod (B1 (f1 D.toInt) (A1 (B2 D.ix (.ok numbers_here_1) (.ok (.int 196))) A0)) (.ok (.int 5))) A0)) >>= fun ds => compL (fElt noT (fun k_2 => (B1 m_law_drawn_change (A1 (.ok numbers_here_1) (A1 (B2 D.add (.ok (.int 150)) (B2 D.mul (.ok (.int 10)) (.ok k_2))) (A1 (.ok parts_here_1) A0)))))) ds)) >>= fun second_1 => ((mIf (B2 D.eq (B2 D.mod (B1 (f1 D.toInt) (A1 (B2 D.ix (.ok numbers_here_1) (.ok (.int 197))) A0)) (.ok (.int 3))) (.ok (.int 0))) ((B2 D.add (.ok second_1) (S3 (.ok first_1) oN (B1 D.bnd (.ok (.int 1))))) >>= fun second_2 => (.ok second_2)) (.ok second_1) : M (D)) >>= fun second_3 => (mIf (mOr (B2 D.ne (B1 m_touched (A1 (B1 (f1 D.toList) (A1 (.ok first_1) A0)) A0)) (B1 m_law_once (A1 (B1 m_law_touched (A1 (.ok first_1) A0)) A0))) (B2 D.ne (B1 m_leaned_on (A1 (B1 (f1 D.toList) (A1 (.ok first_1) A0)) A0)) (B1 m_law_once (A1 (B1 m_law_leaned (A1 (.ok first_1) A0)) A0)))) (.ok (.bl false)) ((B1 m_law_clashes (A1 (.ok first_1) (A1 (.ok second_3) A0))) >>= fun due_1 => ((B1 m_clashes (A1 (B1 (f1 D.toList) (A1 (.ok first_1) A0)) (A1 (B1 (f1 D.toList) (A1 (.ok second_3) A0)) A0))) >>= fun told_1 => (mIf (mOr (mNot (B1 D.tru (B1 (D.isB "list") (.ok (.lst told_1))))) (mOr (B2 D.ne (.ok (.lst told_1)) (.ok due_1)) (B2 D.ne (L1 (B1 m_clashes (A1 (.ok second_3) (A1 (.ok first_1) A0)))) (.ok due_1)))) (.ok (.bl false)) (mPush told_1 (.ok (.int 0)) >>= fun told_2 => ((B1 m_are_apart (A1 (.ok first_1) (A1 (.ok second_3) A0))) >>= fun actual_1 => (vAnd (B1 (D.isB "bool") (.ok actual_1)) (vAnd (C2 D.eq (.ok actual_1) (C2 D.eq (B1 (f1 D.len) (A1 (.ok due_1) A0)) (.ok (.int 0)))) (C2 D.eq (L1 (B1 m_clashes (A1 (.ok first_1) (A1 (.ok second_3) A0)))) (.ok due_1)))))))))))))))
def m_law : List D → M (D) := a1 g_law
theorem e_law (script_1 : D) : m_law [script_1] = g_law script_1 := a1_ g_law script_1
theorem sc_law : FnScope ["_law_script", "_law_numbers_here", "_law_parts_here", "_law_first", "_law_second", "_law_due", "_law_told", "_law_actual", "_law_k"] ["_law_script"] (d_law).scope := ⟨rfl, rfl, rfl, by decide +kernel, rfl, by decide +kernel, by decide +kernel⟩
theorem ok_law {P : Program} {w : World} {K : PySem.W.Frag} {mg : Str → Option Value} {base : Heap} (L : Lw w K mg) {fd : FuncData} (F : DefOk K d_law fd) : FnOk P w K mg base (L2.CX P w) 5 (He.fAd K d_law.at_) fd ["_law_script"] (spD K [true] m_law) := by
  obtain ⟨fd_law_numbers, F_law_numbers⟩ := L.c.def_ 1 (d := d_law_numbers) rfl
  have k_law_numbers := ok_law_numbers (P := P) (w := w) (base := base) L F_law_numbers
  have b_law_numbers : Binds K fd_law_numbers ["_law_script", "_law_many"] [] := F_law_numbers.bindsN fun _ _ _ _ _ _ us hl => match us, hl with | [_, _], _ => rfl
  obtain ⟨fd_law_parts, F_law_parts⟩ := L.c.def_ 6 (d := d_law_parts) rfl
  have k_law_parts := ok_law_parts (P := P) (w := w) (base := base) L F_law_parts
  have b_law_parts : Binds K fd_law_parts ["_law_numbers_here", "_law_at"] [] := F_law_parts.bindsN fun _ _ _ _ _ _ us hl => match us, hl with | [_, _], _ => rfl
  obtain ⟨fd_law_drawn_change, F_law_drawn_change⟩ := L.c.def_ 16 (d := d_law_drawn_change) rfl
  have k_law_drawn_change := ok_law_drawn_change (P := P) (w := w) (base := base) L F_law_drawn_change
  have b_law_drawn_change : Binds K fd_law_drawn_change ["_law_numbers_here", "_law_at", "_law_parts_here"] [] := F_law_drawn_change.bindsN fun _ _ _ _ _ _ us hl => match us, hl with | [_, _, _], _ => rfl
  obtain ⟨fd_leaned_on, F_leaned_on⟩ := L.c.def_ 13 (d := d_leaned_on) rfl
  have k_leaned_on := ok_leaned_on (P := P) (w := w) (base := base) L F_leaned_on
  have b_leaned_on : Binds K fd_leaned_on ["changes"] [] := F_leaned_on.bindsN fun _ _ _ _ _ _ us hl => match us, hl with | [_], _ => rfl
  obtain ⟨fd_law_once, F_law_once⟩ := L.c.def_ 8 (d := d_law_once) rfl
  have k_law_once := ok_law_once (P := P) (w := w) (base := base) L F_law_once
  have b_law_once : Binds K fd_law_once ["_law_things"] [] := F_law_once.bindsN fun _ _ _ _ _ _ us hl => match us, hl with | [_], _ => rfl
  obtain ⟨fd_law_leaned, F_law_leaned⟩ := L.c.def_ 9 (d := d_law_leaned) rfl
  have k_law_leaned := ok_law_leaned (P := P) (w := w) (base := base) L F_law_leaned
  have b_law_leaned : Binds K fd_law_leaned ["_law_changes"] [] := F_law_leaned.bindsN fun _ _ _ _ _ _ us hl => match us, hl with | [_], _ => rfl
  obtain ⟨fd_touched, F_touched⟩ := L.c.def_ 12 (d := d_touched) rfl
  have k_touched := ok_touched (P := P) (w := w) (base := base) L F_touched
  have b_touched : Binds K fd_touched ["changes"] [] := F_touched.bindsN fun _ _ _ _ _ _ us hl => match us, hl with | [_], _ => rfl
  obtain ⟨fd_law_touched, F_law_touched⟩ := L.c.def_ 7 (d := d_law_touched) rfl
  have k_law_touched := ok_law_touched (P := P) (w := w) (base := base) L F_law_touched
  have b_law_touched : Binds K fd_law_touched ["_law_changes"] [] := F_law_touched.bindsN fun _ _ _ _ _ _ us hl => match us, hl with | [_], _ => rfl
  obtain ⟨fd_law_clashes, F_law_clashes⟩ := L.c.def_ 10 (d := d_law_clashes) rfl
  have k_law_clashes := ok_law_clashes (P := P) (w := w) (base := base) L F_law_clashes
  have b_law_clashes : Binds K fd_law_clashes ["_law_changes", "_law_others"] [] := F_law_clashes.bindsN fun _ _ _ _ _ _ us hl => match us, hl with | [_, _], _ => rfl
  obtain ⟨fd_clashes, F_clashes⟩ := L.c.def_ 14 (d := d_clashes) rfl
  have k_clashes := ok_clashes (P := P) (w := w) (base := base) L F_clashes
  have b_clashes : Binds K fd_clashes ["changes", "others"] [] := F_clashes.bindsN fun _ _ _ _ _ _ us hl => match us, hl with | [_, _], _ => rfl
  obtain ⟨fd_are_apart, F_are_apart⟩ := L.c.def_ 15 (d := d_are_apart) rfl
  have k_are_apart := ok_are_apart (P := P) (w := w) (base := base) L F_are_apart
  have b_are_apart : Binds K fd_are_apart ["changes", "others"] [] := F_are_apart.bindsN fun _ _ _ _ _ _ us hl => match us, hl with | [_, _], _ => rfl
  refine fn_def F sc_law rfl (fun cdv A outer s H E hr ds hl => ?_)
  match ds, hl with
  | [script_1], _ =>
    first | rw [e_law] | skip
    exact db_G [.bor script_1, .un, .un, .un, .un, .un, .un, .un, .un] rfl <| db_step (fun numbers_here_1 => [.bor script_1, .val numbers_here_1, .un, .un, .un, .un, .un, .un, .un]) (ds_set (de_call ctx_def k_law_numbers (hr.mono (by decide)) rfl (L.glo (fa_22)) F_law_numbers.kp b_law_numbers (dam_bor (dr_bor (i := 0) rfl (pv 0)) (dam_bor (DR.of de_int) dam_nil))) (fun pe => ps_set (i := 1) sc_law.nd rfl (Or.inr rfl) pe)) (fun _ => rfl) fun numbers_here_1 => db_step (fun parts_here_1 => [.bor script_1, .val numbers_here_1, .val parts_here_1, .un, .un, .un, .un, .un, .un]) (ds_set (de_call ctx_def k_law_parts (hr.mono (by decide)) rfl (L.glo (fa_23)) F_law_parts.kp b_law_parts (dam_bor (dr_val (i := 1) rfl (pv 1)) (dam_bor (DR.of de_int) dam_nil))) (fun pe => ps_set (i := 2) sc_law.nd rfl (Or.inr rfl) pe)) (fun _ => rfl) fun parts_here_1 => db_step (fun first_1 => [.bor script_1, .val numbers_here_1, .val parts_here_1, .val first_1, .un, .un, .un, .un, .un]) (ds_setLc (i := 3) (dn_lc1 (own := [("_law_k", 8)]) (i := 8) (me := fun k_1 => (B1 m_law_drawn_change (A1 (.ok numbers_here_1) (A1 (B2 D.add (.ok (.int 105)) (B2 D.mul (.ok (.int 10)) (.ok k_1))) (A1 (.ok parts_here_1) A0))))) (CtxOk.calm ctx_def) sc_law.nd (DIR.of (di_range1 rfl (L.free (fa_2)) (dra_cons (DR.of (de_mod (DR.of (de_callTy int_R int_op rfl (L.free (fa_1)) boot_int_ (dra_cons (DR.of (de_ix hr.u70 (dr_val (i := 1) rfl (pv 1)) (DR.of de_int))) dra_nil))) (DR.of de_int))) dra_nil))) (blkOk_by (by kernel_rfl)) rfl (fun _ _ _ _ _ => pg_name (i := 8) sc_law.nd rfl (Or.inl rfl)) (fun _ _ _ _ _ k_1 => (de_call (CtxOk.blk ctx_def) k_law_drawn_change (hr.mono (by decide)) rfl (L.glo (fa_24)) F_law_drawn_change.kp b_law_drawn_change (dam_bor (dr_val (i := 1) rfl (pv 1)) (dam_bor (DR.of (de_add (DR.of de_int) (DR.of (de_mul (DR.of de_int) (dr_val (i := 8) rfl (pv 8)))))) (dam_bor (dr_val (i := 2) rfl (pv 2)) dam_nil)))))) rfl rfl rfl) (fun _ => rfl) fun first_1 => db_step (fun second_1 => [.bor script_1, .val numbers_here_1, .val parts_here_1, .val first_1, .val second_1, .un, .un, .un, .un]) (ds_setLc (i := 4) (dn_lc1 (own := [("_law_k", 8)]) (i := 8) (me := fun k_2 => (B1 m_law_drawn_change (A1 (.ok numbers_here_1) (A1 (B2 D.add (.ok (.int 150)) (B2 D.mul (.ok (.int 10)) (.ok k_2))) (A1 (.ok parts_here_1) A0))))) (CtxOk.calm ctx_def) sc_law.nd (DIR.of (di_range1 rfl (L.free (fa_2)) (dra_cons (DR.of (de_mod (DR.of (de_callTy int_R int_op rfl (L.free (fa_1)) boot_int_ (dra_cons (DR.of (de_ix hr.u70 (dr_val (i := 1) rfl (pv 1)) (DR.of de_int))) dra_nil))) (DR.of de_int))) dra_nil))) (blkOk_by (by kernel_rfl)) rfl (fun _ _ _ _ _ => pg_name (i := 8) sc_law.nd rfl (Or.inl rfl)) (fun _ _ _ _ _ k_2 => (de_call (CtxOk.blk ctx_def) k_law_drawn_change (hr.mono (by decide)) rfl (L.glo (fa_24)) F_law_drawn_change.kp b_law_drawn_change (dam_bor (dr_val (i := 1) rfl (pv 1)) (dam_bor (DR.of (de_add (DR.of de_int) (DR.of (de_mul (DR.of de_int) (dr_val (i := 8) rfl (pv 8)))))) (dam_bor (dr_val (i := 2) rfl (pv 2)) dam_nil)))))) rfl rfl rfl) (fun _ => rfl) fun second_1 => db_step (fun (s : D) => [.bor script_1, .val numbers_here_1, .val parts_here_1, .val first_1, .val s, .un, .un, .un, .un]) (ds_if (dt_cmp (op_eqD hr.u64) cmp_eq (DR.of (de_mod (DR.of (de_callTy int_R int_op rfl (L.free (fa_1)) boot_int_ (dra_cons (DR.of (de_ix hr.u70 (dr_val (i := 1) rfl (pv 1)) (DR.of de_int))) dra_nil))) (DR.of de_int))) (DR.of de_int) (nomark _)) (db_step (fun second_2 => [.bor script_1, .val numbers_here_1, .val parts_here_1, .val first_1, .val second_2, .un, .un, .un, .un]) (ds_set (de_add (dr_val (i := 4) rfl (pv 4)) (DR.of (de_sl (dr_val (i := 3) rfl (pv 3)) do_none (do_some (DR.of de_int))))) (fun pe => ps_set (i := 4) sc_law.nd rfl (Or.inl rfl) pe)) (fun _ => rfl) fun second_2 => db_nil rfl) (db_nil rfl)) (fun _ => rfl) (fun second_3 => db_G [.bor script_1, .val numbers_here_1, .val parts_here_1, .val first_1, .val second_3, .un, .un, .un, .un] rfl <| db_ifr (DW.dt (dw_or (dt_cmp (op_neD hr.u64) cmp_ne (DR.of (de_call ctx_def k_touched (hr.mono (by decide)) rfl (L.glo (fa_18)) F_touched.kp b_touched (dam_frz (de_callTy call_list_of list_op rfl (L.free (fa_21)) boot_list_ (dra_cons (dr_val (i := 3) rfl (pv 3)) dra_nil)) dam_nil))) (DR.of (de_call ctx_def k_law_once (hr.mono (by decide)) rfl (L.glo (fa_15)) F_law_once.kp b_law_once (dam_bor (DR.of (de_call ctx_def k_law_touched (hr.mono (by decide)) rfl (L.glo (fa_13)) F_law_touched.kp b_law_touched (dam_frz (de_val (i := 3) rfl (pv 3)) dam_nil))) dam_nil))) (nomark _)) (dw_or1 (dt_cmp (op_neD hr.u64) cmp_ne (DR.of (de_call ctx_def k_leaned_on (hr.mono (by decide)) rfl (L.glo (fa_19)) F_leaned_on.kp b_leaned_on (dam_frz (de_callTy call_list_of list_op rfl (L.free (fa_21)) boot_list_ (dra_cons (dr_val (i := 3) rfl (pv 3)) dra_nil)) dam_nil))) (DR.of (de_call ctx_def k_law_once (hr.mono (by decide)) rfl (L.glo (fa_15)) F_law_once.kp b_law_once (dam_bor (DR.of (de_call ctx_def k_law_leaned (hr.mono (by decide)) rfl (L.glo (fa_14)) F_law_leaned.kp b_law_leaned (dam_frz (de_val (i := 3) rfl (pv 3)) dam_nil))) dam_nil))) (nomark _))))) (db_last (ds_ret de_bl)) (db_step (fun due_1 => [.bor script_1, .val numbers_here_1, .val parts_here_1, .val first_1, .val second_3, .val due_1, .un, .un, .un]) (ds_set (de_call ctx_def k_law_clashes (hr.mono (by decide)) rfl (L.glo (fa_25)) F_law_clashes.kp b_law_clashes (dam_frz (de_val (i := 3) rfl (pv 3)) (dam_frz (de_val (i := 4) rfl (pv 4)) dam_nil))) (fun pe => ps_set (i := 5) sc_law.nd rfl (Or.inl rfl) pe)) (fun _ => rfl) fun due_1 => db_step (fun told_1 => [.bor script_1, .val numbers_here_1, .val parts_here_1, .val first_1, .val second_3, .val due_1, .own told_1, .un, .un]) (ds_setN (dn_callO ctx_def k_clashes (hr.mono (by decide)) rfl (L.glo (fa_20)) F_clashes.kp b_clashes (dam_frz (de_callTy call_list_of list_op rfl (L.free (fa_21)) boot_list_ (dra_cons (dr_val (i := 3) rfl (pv 3)) dra_nil)) (dam_frz (de_callTy call_list_of list_op rfl (L.free (fa_21)) boot_list_ (dra_cons (dr_val (i := 4) rfl (pv 4)) dra_nil)) dam_nil))) (fun pe => ps_set (i := 6) sc_law.nd rfl (Or.inl rfl) pe)) (fun _ => rfl) fun told_1 => db_ifr (DW.dt (dw_or (dt_not (dt_val (DR.of (de_isB (T := "list") rfl (L.free (fa_26)) boot_isinstance_ (pe_ty_ rfl (L.free (fa_21)) boot_list_) (dr_own (i := 6) rfl (pv 6)))))) (dw_or (dt_cmp (op_neD hr.u64) cmp_ne (dr_own (i := 6) rfl (pv 6)) (dr_val (i := 5) rfl (pv 5)) (nomark _)) (dw_or1 (dt_cmp (op_neD hr.u64) cmp_ne (DR.of (DN.de (dn_callO ctx_def k_clashes (hr.mono (by decide)) rfl (L.glo (fa_20)) F_clashes.kp b_clashes (dam_frz (de_val (i := 4) rfl (pv 4)) (dam_frz (de_val (i := 3) rfl (pv 3)) dam_nil))))) (dr_val (i := 5) rfl (pv 5)) (nomark _)))))) (db_last (ds_ret de_bl)) (db_step (fun told_2 => [.bor script_1, .val numbers_here_1, .val parts_here_1, .val first_1, .val second_3, .val due_1, .own told_2, .un, .un]) (ds_pushO (i := 6) rfl (pv 6) de_int) (fun _ => rfl) fun told_2 => db_step (fun actual_1 => [.bor script_1, .val numbers_here_1, .val parts_here_1, .val first_1, .val second_3, .val due_1, .own told_2, .val actual_1, .un]) (ds_set (de_call ctx_def k_are_apart (hr.mono (by decide)) rfl (L.glo (fa_27)) F_are_apart.kp b_are_apart (dam_frz (de_val (i := 3) rfl (pv 3)) (dam_frz (de_val (i := 4) rfl (pv 4)) dam_nil))) (fun pe => ps_set (i := 7) sc_law.nd rfl (Or.inl rfl) pe)) (fun _ => rfl) fun actual_1 => db_last (ds_ret (de_and (de_isB (T := "bool") rfl (L.free (fa_26)) boot_isinstance_ (pe_ty_ rfl (L.free (fa_28)) boot_bool_) (dr_val (i := 7) rfl (pv 7))) (de_and (de_cmp (op_eqD hr.u64) cmp_eq (dr_val (i := 7) rfl (pv 7)) (DR.of (de_cmp (op_eqD hr.u64) cmp_eq (DR.of (de_callB lenR len_op rfl (L.free (fa_3)) boot_len_ (dra_cons (dr_val (i := 5) rfl (pv 5)) dra_nil))) (DR.of de_int) (nomark _))) (nomark _)) (de_one (de_cmp (op_eqD hr.u64) cmp_eq (DR.of (DN.de (dn_callO ctx_def k_clashes (hr.mono (by decide)) rfl (L.glo (fa_20)) F_clashes.kp b_clashes (dam_frz (de_val (i := 3) rfl (pv 3)) (dam_frz (de_val (i := 4) rfl (pv 4)) dam_nil))))) (dr_val (i := 5) rfl (pv 5)) (nomark _)))))))))
end LawWalk

set_option Elab.async false
set_option linter.all false
set_option maxRecDepth 100000
set_option maxHeartbeats 4000000
namespace LawMath
open PySem DL LawWalk
def nums (l : List Int) : List D := l.map D.int
theorem nums_len (l : List Int) : (nums l).length = l.length := by simp [nums]
theorem nums_app (l m : List Int) : nums (l ++ m) = nums l ++ nums m := by simp [nums]
def Sm (l : List Int) : Prop := ∀ x ∈ l, 0 ≤ x ∧ x < 1009
theorem Sm.app {l m : List Int} (h : Sm l) (h2 : Sm m) : Sm (l ++ m) := fun x hx => by
  rcases List.mem_append.mp hx with h1 | h1
  · exact h x h1
  · exact h2 x h1
theorem Sm.one {x : Int} (h : 0 ≤ x ∧ x < 1009) : Sm [x] := fun y hy => by
  rw [List.mem_singleton.mp hy]
  exact h
theorem row_ok (c n : Int) (h0 : 0 ≤ n) (h1 : n < 100000) : ∃ l : List Int, m_law_row [.int c, .int n] = .ok (.lst (nums l)) ∧ l.length = n.toNat ∧ Sm l := by
  rw [e_law_row]
  unfold g_law_row
  have hr : smallI n = true := small_of (by omega) (by omega)
  obtain ⟨s', e, hI⟩ := loopF_inv (f := m_law_row_l1 (.int c)) (fun k s => ∃ (l : List Int) (r m : Int), s = (nums l, .int r, .int m) ∧ l.length = k ∧ Sm l ∧ 0 ≤ m) (rangeL 0 n.toNat) 0 ([], .int (if c < 0 then -c else c), .int (((if c < 0 then -c else c) * 48271 + 69621) % 2147483647))
    ⟨[], _, _, rfl, rfl, (fun x hx => by cases hx), by omega⟩ (fun i d s hd hi => by
      obtain ⟨l, r, m, rfl, hl, hs, hm⟩ := hi
      obtain ⟨rfl, hin⟩ := rangeL_get hd
      have hlt : l.length < sizeLine := by
        rw [PySem.sizeLine_eq]
        omega
      unfold m_law_row_l1
      by_cases hc : (10 : Int) ^ 18 ≤ (if c < 0 then -c else c)
      · refine ⟨(nums (l ++ [r % 1009]), .int (r / 1009), .int ((m * 16807 + 271 * (0 + (i : Int) + 3)) % 2147483629)), ?_, _, _, _, rfl, by simp [hl], hs.app (.one (by omega)), by omega⟩
        have hc' : decide ((10 : Int) ^ 18 ≤ (if c < 0 then -c else c)) = true := decide_eq_true hc
        simp at hc'
        simp [hlt, nums_app, nums, hc']
      · refine ⟨(nums (l ++ [(m * 16807 + 271 * (0 + (i : Int) + 3)) % 2147483629 / 7 % 1009]), .int r, .int ((m * 16807 + 271 * (0 + (i : Int) + 3)) % 2147483629)), ?_, _, _, _, rfl, by simp [hl], hs.app (.one (by omega)), by omega⟩
        have hc' : ¬ ((10 : Int) ^ 18 ≤ (if c < 0 then -c else c)) := hc
        simp at hc'
        simp [hlt, nums_app, nums, Int.not_le.mpr hc'])
  obtain ⟨l, r, m, rfl, hl, hs, _⟩ := hI
  refine ⟨l, ?_, by rw [hl, rangeL_len]; omega, hs⟩
  simp [hr, e]
theorem push1_ok (l : List D) (d : D) (h : l.length < 16777216) : m_law_numbers_l1 l d = .ok (l ++ [d]) := by
  unfold m_law_numbers_l1
  have : l.length < sizeLine := by rw [PySem.sizeLine_eq]; exact h
  simp [this]
theorem push3_ok (l : List D) (h : l.length < 16777216) : m_law_numbers_l3 l = .ok (l ++ [.int 0]) := by
  unfold m_law_numbers_l3
  have : l.length < sizeLine := by rw [PySem.sizeLine_eq]; exact h
  simp [this]
theorem pushAll (ds l : List D) (h : l.length + ds.length ≤ 16777216) : loopF m_law_numbers_l1 ds l = .ok (l ++ ds) := by
  obtain ⟨s', e, hI⟩ := loopF_inv (f := m_law_numbers_l1) (fun k s => s = l ++ ds.take k) ds 0 l (by simp) (fun i d s hd hi => by
    subst hi
    have hi := (List.getElem?_eq_some_iff.mp hd).1
    refine ⟨_, push1_ok _ _ (by rw [List.length_append, List.length_take]; omega), ?_⟩
    rw [List.append_assoc]
    congr 1
    have : 0 + i + 1 = i + 1 := by omega
    rw [this, Nat.zero_add, List.take_add_one, hd]
    rfl)
  rw [e, hI]
  simp
theorem numbers_ok (l : List Int) (h : l.length ≤ 63) (n : Int) (h0 : 0 ≤ n) (h1 : n ≤ 1000) : ∃ ns : List Int, m_law_numbers [.scr l, .int n] = .ok (.lst (nums ns)) ∧ ns.length = n.toNat ∧ Sm ns := by
  rw [e_law_numbers]
  have hc : (cutL l none (some 63)).length ≤ 63 := by
    rw [cut_take l (by omega), List.length_take]
    omega
  generalize hcs : cutL l none (some 63) = cs at hc
  have hm : ∀ c : Nat, (0 : Int) < (if (1 : Int) < (c : Int) then (c : Int) else 1) ∧ (c ≤ 63 → (if (1 : Int) < (c : Int) then (c : Int) else 1) < 1073741824) := fun c => by
    split <;> omega
  obtain ⟨hm1, hm2⟩ := hm cs.length
  have hm2 := hm2 hc
  generalize hmm : (if (1 : Int) < (cs.length : Int) then (cs.length : Int) else 1) = mm at hm1 hm2
  have hq0 : 0 ≤ n / mm := Int.ediv_nonneg h0 (by omega)
  have hq1 : n / mm ≤ n := Int.ediv_le_self _ h0
  generalize hq : n / mm = q at hq0 hq1
  obtain ⟨s1, e1, l1, rfl, hl1, hs1⟩ := loopF_inv (f := m_law_numbers_l2 (.int (1 + q))) (fun k s => ∃ ns : List Int, s = nums ns ∧ ns.length = k * (1 + q).toNat ∧ Sm ns) (nums cs) 0 [] ⟨[], rfl, by simp, fun x hx => by cases hx⟩ (fun i d s hd hi => by
    obtain ⟨ns, rfl, hl, hs⟩ := hi
    have hi := (List.getElem?_eq_some_iff.mp hd).1
    rw [nums_len] at hi
    have hd' : ∃ c, d = .int c := by
      unfold nums at hd
      rw [List.getElem?_map] at hd
      cases e : cs[i]? with
      | none => rw [e] at hd; cases hd
      | some c =>
        rw [e] at hd
        cases hd
        exact ⟨c, rfl⟩
    obtain ⟨c, rfl⟩ := hd'
    obtain ⟨r, er, hr, hrs⟩ := row_ok c (1 + q) (by omega) (by omega)
    have hb : i * (1 + q).toNat ≤ 63 * 1001 := Nat.mul_le_mul (by omega) (by omega)
    refine ⟨nums (ns ++ r), ?_, ns ++ r, rfl, ?_, hs.app hrs⟩
    · unfold m_law_numbers_l2
      simp only [B1, A1, A0, okb]
      rw [er]
      simp only [okb, items_l]
      rw [pushAll _ _ (by
        rw [nums_len, nums_len, hl, hr]
        have : (0 + i) * (1 + q).toNat = i * (1 + q).toNat := by rw [Nat.zero_add]
        omega), nums_app]
      rfl
    · rw [List.length_append, hl, hr, Nat.zero_add, Nat.succ_mul])
  have hb : cs.length * (1 + q).toNat ≤ 63 * 1001 := Nat.mul_le_mul (by omega) (by omega)
  rw [nums_len, Nat.zero_add] at hl1
  obtain ⟨s2, e2, ⟨l2, rfl, hl2, hs2⟩, hf⟩ := whileF_inv (c := m_law_numbers_l3_c (.int n)) (f := m_law_numbers_l3) (fun s => ∃ ns : List Int, s = nums ns ∧ ns.length ≤ 100000 ∧ Sm ns) (fun s => n.toNat - s.length) (fun s hs => by
    obtain ⟨ns, rfl, hl, hs⟩ := hs
    refine ⟨decide ((ns.length : Int) < n), ?_, fun hb => ?_⟩
    · unfold m_law_numbers_l3_c
      simp [nums_len]
    · have hb := of_decide_eq_true hb
      refine ⟨nums (ns ++ [0]), ?_, ⟨_, rfl, by simp; omega, hs.app (.one (by omega))⟩, ?_⟩
      · rw [push3_ok _ (by rw [nums_len]; omega), nums_app]
        rfl
      · rw [nums_len, nums_len, List.length_append, List.length_singleton]
        omega) 100000 (nums l1) ⟨l1, rfl, by omega, hs1⟩ (by rw [nums_len]; omega)
  have hge : n ≤ (l2.length : Int) := by
    unfold m_law_numbers_l3_c at hf
    simp [nums_len] at hf
    exact hf
  refine ⟨l2.take n.toNat, ?_, by rw [List.length_take]; omega, fun x hx => hs2 x (List.mem_of_mem_take hx)⟩
  have hcl : (cs.map D.int) = nums cs := rfl
  unfold g_law_numbers
  simp [hcs, hmm, hm1, hm2, hq]
  rw [hcl, e1]
  simp [e2, cut_take _ h0]
  simp [nums]
end LawMath

set_option Elab.async false
set_option linter.all false
set_option maxRecDepth 100000
set_option maxHeartbeats 4000000
namespace LawMath
open PySem DL LawWalk
def letS : Str := "abcdefghijklmnopqrstuvwxyz0123456789"
def lets : List Nat := tl letS
def digs : List Nat := tl "0123456789"
theorem lets_eq : lets = [97, 98, 99, 100, 101, 102, 103, 104, 105, 106, 107, 108, 109, 110, 111, 112, 113, 114, 115, 116, 117, 118, 119, 120, 121, 122, 48, 49, 50, 51, 52, 53, 54, 55, 56, 57] := by decide +kernel
theorem digs_eq : digs = [48, 49, 50, 51, 52, 53, 54, 55, 56, 57] := by decide +kernel
def isNm (l : List Nat) : Bool := match l with
  | [] => false
  | c :: r => decide (r.length < 12) && (!decide (c ∈ digs) && (c :: r).all fun c => decide (c ∈ lets))
def Nm (x : Str) : Prop := isNm (tl x) = true
end LawMath

set_option Elab.async false
set_option linter.all false
set_option maxRecDepth 100000
set_option maxHeartbeats 4000000
namespace LawMath
open PySem DL LawWalk L2
structure Rd where
  nm : Str
  st : Str
  en : Str
  mi : Int
  ks : List Str
  hs : Option (List (Int × Int))
  deriving DecidableEq
def prI (p : Int × Int) : D := .tup [.int p.1, .int p.2]
def tupD {α : Type} (e : α → D) (l : List α) : D := .tup (l.map e)
def hsD : Option (List (Int × Int)) → D := optD (tupD prI)
def Rd.d (r : Rd) : D := .tup [.str r.nm, .str r.st, .str r.en, .int r.mi, tupD D.str r.ks, hsD r.hs]
structure Ch where
  day : Int
  pl : List Str
  ki : List Str
  ro : List Rd
  ba : List (Str × Str)
def Ch.f3 (c : Ch) : List (String × D) := [("day", .int c.day), ("places", tupD D.str c.pl), ("kinds", tupD D.str c.ki)]
def Ch.f4 (c : Ch) : List (String × D) := [("day", .int c.day), ("places", tupD D.str c.pl), ("kinds", tupD D.str c.ki), ("roads", tupD Rd.d c.ro)]
def Ch.f5 (c : Ch) : List (String × D) := [("day", .int c.day), ("places", tupD D.str c.pl), ("kinds", tupD D.str c.ki), ("roads", tupD Rd.d c.ro), ("bars", tupD prS c.ba)]
def Ch.d (c : Ch) : D := .ins "Map" c.f5
theorem en_prI : En 1 prI := en_pair (n := 0) en_int en_int
theorem en_hs : En 2 hsD := en_opt (e := tupD prI) (en_tup en_prI) (fun _ => rfl)
theorem en_rd : En 3 Rd.d := ⟨fun x y => by
  obtain ⟨a1, a2, a3, a4, a5, a6⟩ := x
  obtain ⟨b1, b2, b3, b4, b5, b6⟩ := y
  have h5 : D.beq (tupD D.str a5) (tupD D.str b5) = decide (a5 = b5) := (en_tup (n := 0) en_str).beq a5 b5
  have h6 : D.beq (hsD a6) (hsD b6) = decide (a6 = b6) := en_hs.beq a6 b6
  simp only [Rd.d, D.beq, D.beqL, h5, h6]
  by_cases e1 : a1 = b1 <;> by_cases e2 : a2 = b2 <;> by_cases e3 : a3 = b3 <;> by_cases e4 : a4 = b4 <;> by_cases e5 : a5 = b5 <;> by_cases e6 : a6 = b6 <;> simp [e1, e2, e3, e4, e5, e6], fun x => shp_tup fun d hd => by
  have h5 : (tupD D.str x.ks).shp 2 = true := shp_le ((en_tup (n := 0) en_str).shp x.ks) (by omega)
  have h6 : (hsD x.hs).shp 2 = true := en_hs.shp x.hs
  simp only [List.mem_cons, List.not_mem_nil, or_false] at hd
  rcases hd with rfl | rfl | rfl | rfl | rfl | rfl
  · exact shp_str
  · exact shp_str
  · exact shp_str
  · exact shp_int
  · exact h5
  · exact h6⟩
section
variable {cs : List String} {c : Ch}
end
section
variable {r : Rd}
theorem r0 : D.ix r.d (.int 0) = .ok (.str r.nm) := ix_natT (n := 0) rfl rfl
theorem r1 : D.ix r.d (.int 1) = .ok (.str r.st) := ix_natT (n := 1) rfl rfl
theorem r2 : D.ix r.d (.int 2) = .ok (.str r.en) := ix_natT (n := 2) rfl rfl
theorem r3 : D.ix r.d (.int 3) = .ok (.int r.mi) := ix_natT (n := 3) rfl rfl
theorem r4 : D.ix r.d (.int 4) = .ok (tupD D.str r.ks) := ix_natT (n := 4) rfl rfl
theorem r5 : D.ix r.d (.int 5) = .ok (hsD r.hs) := ix_natT (n := 5) rfl rfl
end
def hOk (day : Int) : Int → List (Int × Int) → Prop
  | _, [] => True
  | b, p :: t => b < p.1 ∧ p.1 < p.2 ∧ p.2 ≤ day ∧ hOk day p.2 t
end LawMath

set_option Elab.async false
set_option linter.all false
set_option maxRecDepth 100000
set_option maxHeartbeats 4000000
namespace LawMath
open PySem DL LawWalk L2
def Rd.norm (ki : List Str) (r : Rd) : Rd := { r with ks := ki.filter fun k => decide (k ∈ r.ks) }
structure RdOk (c : Ch) (r : Rd) : Prop where
  nm : Nm r.nm
  st : r.st ∈ c.pl
  en : r.en ∈ c.pl
  mi : 1 ≤ r.mi ∧ r.mi ≤ 1000
  nd : r.ks.Nodup
  ks : ∀ k ∈ r.ks, k ∈ c.ki
  kl : r.ks.length ≤ 1000
  hs : ∀ l, r.hs = some l → hOk c.day (-1) l ∧ l.length ≤ 4
end LawMath

set_option Elab.async false
set_option linter.all false
set_option maxRecDepth 100000
set_option maxHeartbeats 4000000
namespace LawMath
open PySem DL LawWalk L2
def leR (a b : Rd) : Bool := leS a.nm b.nm
def sortR (l : List Rd) : List Rd := l.mergeSort leR
theorem sortR_perm (l : List Rd) : (sortR l).Perm l := List.mergeSort_perm l leR
theorem sortR_pw (l : List Rd) : (sortR l).Pairwise (fun a b => leR a b = true) := List.pairwise_mergeSort (le := leR) (fun a b c h1 h2 => leS_trans _ _ _ h1 h2) (fun a b => leS_total _ _) l
structure PartsOk (day : Int) (ki pl : List Str) (ro : List Rd) (ba : List (Str × Str)) : Prop where
  day1 : 1 ≤ day
  day2 : day ≤ 1440
  pl1 : pl.length ≤ 30
  pln : pl.Nodup
  plN : ∀ x ∈ pl, Nm x
  ki0 : 1 ≤ ki.length
  ki1 : ki.length ≤ 4
  kin : ki.Nodup
  kiN : ∀ x ∈ ki, Nm x
  ro1 : ro.length ≤ 60
  ron : (ro.map (·.nm)).Nodup
  rok : ∀ r ∈ ro, RdOk ⟨day, pl, ki, [], []⟩ r
  ba1 : ba.length ≤ 40
  ban : ba.Nodup
  bak : ∀ b ∈ ba, ∃ r ∈ ro, ∃ q ∈ ro, r.nm = b.1 ∧ q.nm = b.2 ∧ r.en = q.st
def mkCh (day : Int) (ki pl : List Str) (ro : List Rd) (ba : List (Str × Str)) : Ch := ⟨day, sortS pl, sortS ki, sortR (ro.map (Rd.norm (sortS ki))), sortP ba⟩
end LawMath

set_option Elab.async false
set_option linter.all false
set_option maxRecDepth 100000
set_option maxHeartbeats 4000000
namespace LawMath
open PySem DL LawWalk L2
structure Pt where
  day : Int
  ki : List Str
  pl : List Str
  ro : List Rd
  ba : List (Str × Str)
def Pt.d (p : Pt) : D := .lst [.int p.day, tupD D.str p.ki, tupD D.str p.pl, tupD Rd.d p.ro, tupD prS p.ba]
def Pt.ok (p : Pt) : Prop := PartsOk p.day p.ki p.pl p.ro p.ba
def Pt.ch (p : Pt) : Ch := mkCh p.day p.ki p.pl p.ro p.ba
def Pt.srt (p : Pt) : Prop := p.ch = ⟨p.day, p.pl, p.ki, p.ro, p.ba⟩
section
variable {p : Pt}
theorem p0 : D.ix p.d (.int 0) = .ok (.int p.day) := ix_nat (n := 0) rfl rfl
theorem p1 : D.ix p.d (.int 1) = .ok (tupD D.str p.ki) := ix_nat (n := 1) rfl rfl
theorem p2 : D.ix p.d (.int 2) = .ok (tupD D.str p.pl) := ix_nat (n := 2) rfl rfl
theorem p3 : D.ix p.d (.int 3) = .ok (tupD Rd.d p.ro) := ix_nat (n := 3) rfl rfl
theorem p4 : D.ix p.d (.int 4) = .ok (tupD prS p.ba) := ix_nat (n := 4) rfl rfl
end
theorem ms_id {α : Type} {le : α → α → Bool} {l : List α} (h : l.Pairwise fun a b => le a b = true) : l.mergeSort le = l := List.mergeSort_of_pairwise h
theorem sortS_id {l : List Str} (h : l.Pairwise fun a b => leS a b = true) : sortS l = l := ms_id h
theorem sortP_id {l : List (Str × Str)} (h : l.Pairwise fun a b => leP a b = true) : sortP l = l := ms_id h
theorem sortR_id {l : List Rd} (h : l.Pairwise fun a b => leR a b = true) : sortR l = l := ms_id h
structure SrtP (pl ki : List Str) (ro : List Rd) (ba : List (Str × Str)) : Prop where
  spl : pl.Pairwise fun a b => leS a b = true
  ski : ki.Pairwise fun a b => leS a b = true
  sro : ro.Pairwise fun a b => leR a b = true
  sba : ba.Pairwise fun a b => leP a b = true
  snm : ∀ r ∈ ro, r.norm ki = r
theorem srt_mk {day : Int} {pl ki : List Str} {ro : List Rd} {ba : List (Str × Str)} (h : SrtP pl ki ro ba) : mkCh day ki pl ro ba = ⟨day, pl, ki, ro, ba⟩ := by
  have e : ro.map (Rd.norm ki) = ro := by
    conv => rhs; rw [← List.map_id ro]
    exact List.map_congr_left fun r hr => h.snm r hr
  unfold mkCh
  rw [sortS_id h.spl, sortS_id h.ski, sortP_id h.sba, e, sortR_id h.sro]
theorem srt_of {p : Pt} (h : SrtP p.pl p.ki p.ro p.ba) : p.srt := srt_mk h
theorem norm_norm (ki : List Str) (r : Rd) : (r.norm ki).norm ki = r.norm ki := by
  unfold Rd.norm
  have : (ki.filter fun k => decide (k ∈ ki.filter fun k => decide (k ∈ r.ks))) = ki.filter fun k => decide (k ∈ r.ks) := List.filter_congr fun k hk => by
    simp [hk]
  simp only [this]
theorem ch_srt (p : Pt) : SrtP p.ch.pl p.ch.ki p.ch.ro p.ch.ba where
  spl := sortS_pw _
  ski := sortS_pw _
  sro := sortR_pw _
  sba := sortP_pw _
  snm := fun r hr => by
    obtain ⟨q, _, rfl⟩ := List.mem_map.mp ((sortR_perm _).mem_iff.mp hr)
    exact norm_norm _ q
theorem Pt.srt.S {p : Pt} (h : p.srt) : SrtP p.pl p.ki p.ro p.ba := by
  have := ch_srt p
  rw [show p.ch = _ from h] at this
  exact this
theorem sorted2_ok {l : List Rd} (hn : (l.map (·.nm)).Nodup) : D.sorted2 (.lst (l.map Rd.d)) = .ok (.lst ((sortR l).map Rd.d)) := by
  have h1 : D.sortF (l.map Rd.d) = true := by
    unfold D.sortF
    rw [Bool.and_eq_true]
    refine ⟨List.all_eq_true.mpr fun d hd => ?_, decide_eq_true ?_⟩
    · obtain ⟨r, _, rfl⟩ := List.mem_map.mp hd
      rfl
    · rw [List.map_map]
      exact hn
  have h2 : (l.map Rd.d).mergeSort D.leF = (sortR l).map Rd.d := by
    unfold sortR
    rw [List.map_mergeSort (s := D.leF)]
    intro a _ b _
    show leS a.nm b.nm = !SrtF.ltS b.nm a.nm
    unfold leS SrtF.ltS
    show decide (tl a.nm ≤ tl b.nm) = !decide (tl b.nm < tl a.nm)
    by_cases h : tl b.nm < tl a.nm
    · rw [decide_eq_true h, decide_eq_false (List.not_le.mpr h)]
      rfl
    · rw [decide_eq_false h, decide_eq_true (List.not_lt.mp h)]
      rfl
  show (need (D.sortF (l.map Rd.d)) >>= fun _ => (.ok (.lst ((l.map Rd.d).mergeSort D.leF)) : M D)) = _
  rw [h1, h2]
  rfl
end LawMath

set_option Elab.async false
set_option linter.all false
set_option maxRecDepth 100000
set_option maxHeartbeats 4000000
namespace LawMath
open PySem DL LawWalk L2
theorem lets_len : lets.length = 36 := by rw [lets_eq]; rfl
def lt (i : Int) : Nat := lets.getD i.toNat 0
theorem lt_mem {i : Int} (h1 : i < 36) : lt i ∈ lets := by
  have : i.toNat < lets.length := by rw [lets_len]; omega
  unfold lt
  rw [List.getD_eq_getElem?_getD, List.getElem?_eq_getElem this]
  exact List.getElem_mem this
theorem lt_nd {i : Int} (h1 : i < 26) : ¬ lt i ∈ digs := by
  have q : ∀ k : Fin 26, ¬ lets.getD k.val 0 ∈ digs := by rw [lets_eq, digs_eq]; decide
  exact q ⟨i.toNat, by omega⟩
theorem lt_inj {i j : Int} (h0 : 0 ≤ i) (h1 : i < 36) (g0 : 0 ≤ j) (g1 : j < 36) (e : lt i = lt j) : i = j := by
  have q : ∀ a b : Fin 36, lets.getD a.val 0 = lets.getD b.val 0 → a = b := by rw [lets_eq]; decide +kernel
  have := q ⟨i.toNat, by omega⟩ ⟨j.toNat, by omega⟩ e
  have h2 : i.toNat = j.toNat := congrArg Fin.val this
  omega
theorem let_ix {i : Int} (h0 : 0 ≤ i) (h1 : i < 36) : D.ix (.str letS) (.int i) = .ok (.str (mk [lt i])) := by
  have hl : i.toNat < lets.length := by rw [lets_len]; omega
  refine ix_str (n := i.toNat) (by decide +kernel) ?_ (by omega)
  have h2 : lets[i.toNat]? = some (lt i) := by
    unfold lt
    rw [List.getD_eq_getElem?_getD, List.getElem?_eq_getElem hl]
    rfl
  exact h2
def Al (l : List Nat) : Prop := ∀ c ∈ l, c ∈ lets
theorem nm_of {a b : Nat} {l : List Nat} {k : Nat} (ha : a ∈ lets) (hd : ¬ a ∈ digs) (hb : b ∈ lets) (hl : Al l) (h : l.length ≤ 10) : isNm ([a] ++ l.take k ++ [b] ++ l.drop k) = true := by
  have e : [a] ++ l.take k ++ [b] ++ l.drop k = a :: (l.take k ++ ([b] ++ l.drop k)) := by simp
  rw [e]
  unfold isNm
  have h1 : (l.take k ++ ([b] ++ l.drop k)).length < 12 := by simp; omega
  have h2 : (a :: (l.take k ++ ([b] ++ l.drop k))).all (fun c => decide (c ∈ lets)) = true := by
    apply List.all_eq_true.mpr
    intro x hx
    apply decide_eq_true
    rcases List.mem_cons.mp hx with rfl | hx
    · exact ha
    · rcases List.mem_append.mp hx with hx | hx
      · exact hl x (List.mem_of_mem_take hx)
      · rcases List.mem_append.mp hx with hx | hx
        · rw [List.mem_singleton.mp hx]
          exact hb
        · exact hl x (List.mem_of_mem_drop hx)
  show (decide ((l.take k ++ ([b] ++ l.drop k)).length < 12) && (!decide (a ∈ digs) && (a :: (l.take k ++ ([b] ++ l.drop k))).all (fun c => decide (c ∈ lets)))) = true
  rw [decide_eq_true h1, decide_eq_false hd, h2]
  rfl
theorem flat1 : ∀ cs : List Nat, (cs.map fun c => [c]).flatten = cs
  | [] => rfl
  | c :: cs => by rw [List.map_cons, List.flatten_cons, flat1 cs]; rfl
theorem join1 (cs : List Nat) (h : cs.length ≤ 1000) : D.join (.str "") (.lst ((cs.map fun c => mk [c]).map D.str)) = .ok (.str (mk cs)) := by
  have e1 : (((cs.map fun c => mk [c]).map (·.length)).sum) = cs.length := by
    rw [List.map_map]
    clear h
    induction cs with
    | nil => rfl
    | cons c cs ih =>
      rw [List.map_cons, List.sum_cons, ih, List.length_cons]
      have : (Str.length ∘ fun c => mk [c]) c = 1 := len_mk [c]
      rw [this]
      omega
  have e0 : ("" : Str).length = 0 := by decide +kernel
  rw [join_ok (by rw [e1, e0]; omega), join0]
  have e2 : (cs.map fun c => mk [c]).map tl = cs.map fun c => [c] := by
    rw [List.map_map]
    exact List.map_congr_left fun x _ => tl_mk _
  rw [e2, flat1]
def ltL (f : Nat → Int) (n : Nat) : List Nat := (List.range n).map fun k => lt (f k)
theorem ltL_al {f : Nat → Int} {n : Nat} (h : ∀ k, k < n → f k < 36) : Al (ltL f n) := fun c hc => by
  obtain ⟨k, hk, rfl⟩ := List.mem_map.mp hc
  exact lt_mem (h k (List.mem_range.mp hk))
theorem ltL_len (f : Nat → Int) (n : Nat) : (ltL f n).length = n := by
  unfold ltL
  rw [List.length_map, List.length_range]
theorem ltL_comp {f : Nat → Int} {n : Nat} {g : D → M D} (hn : n ≤ 1000) (h : ∀ k, k < n → g (.int (0 + (k : Int))) = .ok (.str (mk [lt (f k)]))) : compL (fElt noT g) (rangeL 0 n) = .ok (((ltL f n).map fun c => mk [c]).map D.str) := by
  unfold ltL
  rw [List.map_map, List.map_map]
  exact compL_mapA (by rw [List.length_range]; omega) fun k hk => h k (List.mem_range.mp hk)
def nmL (a b : Nat) (l : List Nat) (k : Nat) : List Nat := [a] ++ l.take k ++ [b] ++ l.drop k
theorem nodup_map_range {α : Type} {f : Nat → α} : ∀ {n : Nat}, (∀ i j, i < n → j < n → f i = f j → i = j) → ((List.range n).map f).Nodup := fun {n} h => by
  rw [List.nodup_iff_pairwise_ne] <;> rw [List.pairwise_map]
  refine List.Pairwise.imp_of_mem ?_ (List.nodup_range (n := n))
  intro i j hi hj hij e
  exact hij (h i j (List.mem_range.mp hi) (List.mem_range.mp hj) e)
end LawMath

set_option Elab.async false
set_option linter.all false
set_option maxRecDepth 100000
set_option maxHeartbeats 4000000
namespace LawMath
open PySem DL LawWalk L2
def ownB (n : Int) (cs : List Nat) (k : Nat) : List Nat := if (n / 121 + k) % 3 = 0 then cs.drop 1 else cs
def stB (n : Int) : Int := if n / 363 % 2 = 1 then 31 else 5
def spB (pl : Int) (own : List Nat) : Int := if (own.length : Int) < pl then own.length else pl
def bName (n : Int) (cs : List Nat) (pl : Int) (k : Nat) : Str := mk (nmL (lt ((n + 3 * (k : Int)) % 26)) (lt ((n + stB n * (k : Int)) % 36)) (ownB n cs k) (spB pl (ownB n cs k)).toNat)
theorem ownB_len {n : Int} {cs : List Nat} (h : cs.length ≤ 10) (k : Nat) : (ownB n cs k).length ≤ 10 := by
  unfold ownB
  split
  · rw [List.length_drop]; omega
  · exact h
theorem bname_turn {n : Int} (h0 : 0 ≤ n) {cs : List Nat} (hcs : cs.length ≤ 10) {pl : Int} (hp : 0 ≤ pl) {k : Nat} (hk : k < 100) (xs : List D) (hx : xs.length < 1000) :
    m_law_names_l1 (.int n) (.str letS) (.str (mk cs)) (.int pl) xs (.int (0 + (k : Int))) = .ok (xs ++ [.str (bName n cs pl k)]) := by
  rw [Int.zero_add]
  have hs1 : need (decide (xs.length < sizeLine)) = .ok () := need_p (by rw [PySem.sizeLine_eq]; omega)
  have ol := ownB_len (n := n) hcs k
  have f1' : D.fdiv (.int n) (.int 121) = .ok (.int (n / 121)) := rfl
  have m3 : D.mod (.int (n / 121 + (k : Int))) (.int 3) = .ok (.int ((n / 121 + (k : Int)) % 3)) := mod_ok (by omega)
  have f2' : D.fdiv (.int n) (.int 363) = .ok (.int (n / 363)) := rfl
  have m4 : D.mod (.int (n / 363)) (.int 2) = .ok (.int (n / 363 % 2)) := mod_ok (by omega)
  have b1 : D.bnd (.int 1) = .ok (some 1) := rfl
  have sl1 : D.sl (.str (mk cs)) (some 1) none = .ok (.str (mk (cs.drop 1))) := by
    rw [sl_s, need_p (by rw [PySem.sizeLine_eq, len_mk]; omega), okb, cutS_mk, cut_drop _ (by omega)]
    rfl
  have ow : (if decide ((n / 121 + (k : Int)) % 3 = 0) = true then (D.sl (.str (mk cs)) (some 1) none >>= fun own_2 => (.ok own_2 : M D)) else .ok (.str (mk cs))) = .ok (.str (mk (ownB n cs k))) := by
    unfold ownB
    by_cases h : (n / 121 + (k : Int)) % 3 = 0
    · rw [decide_eq_true h, if_pos rfl, if_pos h, sl1, okb]
    · rw [decide_eq_false h, if_neg Bool.false_ne_true, if_neg h]
  have sx : (if decide (n / 363 % 2 = 1) = true then (.ok (.int 31) : M D) else .ok (.int 5)) = .ok (.int (stB n)) := by
    unfold stB
    by_cases h : n / 363 % 2 = 1
    · rw [decide_eq_true h, if_pos rfl, if_pos h]
    · rw [decide_eq_false h, if_neg Bool.false_ne_true, if_neg h]
  have st1 : 0 ≤ stB n ∧ stB n ≤ 31 := by
    unfold stB
    split <;> omega
  have nn : 0 ≤ stB n * (k : Int) := Int.mul_nonneg st1.1 (by omega)
  unfold bName
  generalize ownB n cs k = own at ow ol
  generalize stB n = st at sx st1 nn
  have ln : D.len (.str (mk own)) = .ok (.int (own.length : Nat)) := by
    have := len_mk own
    rw [len_s, need_p (by rw [PySem.sizeLine_eq, this]; omega), okb, this]
  have mn : D.min2 (.int pl) (.int (own.length : Nat)) = .ok (.int (spB pl own)) := min_ii
  have sp0 : 0 ≤ spB pl own := by
    unfold spB
    split <;> omega
  generalize spB pl own = sp at mn sp0
  have i1 := let_ix (i := (n + 3 * (k : Int)) % 26) (by omega) (by omega)
  have i2 := let_ix (i := (n + st * (k : Int)) % 36) (Int.emod_nonneg _ (by omega)) (Int.emod_lt_of_pos _ (by omega))
  have mu : D.mul (.int 3) (.int (k : Int)) = .ok (.int (3 * (k : Int))) := mul_okl (by omega) (by omega)
  have mu2 : D.mul (.int st) (.int (k : Int)) = .ok (.int (st * (k : Int))) := mul_okl (by omega) (by omega)
  have m1 : D.mod (.int (n + 3 * (k : Int))) (.int 26) = .ok (.int ((n + 3 * (k : Int)) % 26)) := mod_ok (by omega)
  have m2 : D.mod (.int (n + st * (k : Int))) (.int 36) = .ok (.int ((n + st * (k : Int)) % 36)) := mod_ok (by omega)
  have c1 : D.sl (.str (mk own)) none (some sp) = .ok (.str (mk (own.take sp.toNat))) := by
    rw [sl_s, need_p (by rw [PySem.sizeLine_eq, len_mk]; omega), okb, cutS_mk, cut_take _ sp0]
  have c2 : D.sl (.str (mk own)) (some sp) none = .ok (.str (mk (own.drop sp.toNat))) := by
    rw [sl_s, need_p (by rw [PySem.sizeLine_eq, len_mk]; omega), okb, cutS_mk, cut_drop _ sp0]
  have lt1 : (own.take sp.toNat).length ≤ 10 := by rw [List.length_take]; omega
  have lt2 : (own.drop sp.toNat).length ≤ 10 := by rw [List.length_drop]; omega
  have ap : ∀ a b : List Nat, a.length ≤ 100 → b.length ≤ 100 → D.add (.str (mk a)) (.str (mk b)) = .ok (.str (mk (a ++ b))) := fun a b h1 h2 => by
    rw [add_ss, need_p (by rw [PySem.sizeLine_eq, len_mk, len_mk]; omega), okb, mk_app]
  have a1 := ap [lt ((n + 3 * (k : Int)) % 26)] (own.take sp.toNat) (by simp) (by omega)
  have a2 := ap ([lt ((n + 3 * (k : Int)) % 26)] ++ own.take sp.toNat) [lt ((n + st * (k : Int)) % 36)] (by simp; omega) (by simp)
  have a3 := ap ([lt ((n + 3 * (k : Int)) % 26)] ++ own.take sp.toNat ++ [lt ((n + st * (k : Int)) % 36)]) (own.drop sp.toNat) (by simp; omega) (by omega)
  unfold m_law_names_l1 nmL
  simp -implicitDefEqProofs only [B1, B2, A0, A1, S3, mIf, mPush, oN, okb, f1', f1_1, f2_2, toInt_i, add_ii, m3, eq_ii, b1, ow, ln, mn, f2', m4, sx, mu, m1, i1, bnd_i, c1, a1, mu2, m2, i2, a2, c2, a3, hs1]
theorem bnames_okH {n m : Int} (h0 : 0 ≤ n) (hm0 : 0 ≤ m) (hm : m ≤ 9) : ∃ xs : List Str, m_law_names [.int n, .int m] = .ok (.lst (xs.map D.str)) ∧ xs.length = m.toNat ∧ (∀ x ∈ xs, 2 ≤ (tl x).length) ∧ (∀ x ∈ xs, Nm x) ∧ xs.Nodup ∧ ∀ x ∈ xs, ∀ y ∈ xs, (tl x).head? = (tl y).head? → x = y := by
  rw [e_law_names]
  let f : Nat → Int := fun k => (n + 7 * (k : Int) * (k : Int)) % 36
  have hf : ∀ k, 0 ≤ f k ∧ f k < 36 := fun k => by
    show 0 ≤ (n + 7 * (k : Int) * (k : Int)) % 36 ∧ (n + 7 * (k : Int) * (k : Int)) % 36 < 36
    omega
  have co : compL (fElt noT (fun k_1 => (B2 D.ix (.ok (.str letS)) (B2 D.mod (B1 (f1 D.toInt) (A1 (B2 D.add (.ok (.int n)) (B2 D.mul (B2 D.mul (.ok (.int 7)) (.ok k_1)) (.ok k_1))) A0)) (.ok (.int 36)))))) (rangeL 0 (n % 11).toNat) = .ok (((ltL f (n % 11).toNat).map fun c => mk [c]).map D.str) := ltL_comp (by omega) fun k hk => by
    have m1 : (D.int 7).mul (.int (k : Int)) = .ok (.int (7 * (k : Int))) := mul_okl (by omega) (by omega)
    have m2 : (D.int (7 * (k : Int))).mul (.int (k : Int)) = .ok (.int (7 * (k : Int) * (k : Int))) := mul_okl (by omega) (by omega)
    have m3 : (D.int (n + 7 * (k : Int) * (k : Int))).mod (.int 36) = .ok (.int (f k)) := mod_ok (by omega)
    have i1 := let_ix (hf k).1 (hf k).2
    rw [Int.zero_add]
    simp -implicitDefEqProofs only [B1, B2, A0, A1, okb, m1, m2, add_ii, f1_1, toInt_i, m3, i1]
  have hal : Al (ltL f (n % 11).toNat) := ltL_al fun k _ => (hf k).2
  have hln : (ltL f (n % 11).toNat).length = (n % 11).toNat := ltL_len _ _
  have hj := join1 (ltL f (n % 11).toNat) (by omega)
  generalize ltL f (n % 11).toNat = cs at co hal hln hj
  have hp0 : 0 ≤ n / 11 % (n % 11 + 1) := Int.emod_nonneg _ (by omega)
  have hlo : ∀ (j : Nat), j ≤ m.toNat → loopF (m_law_names_l1 (.int n) (.str letS) (.str (mk cs)) (.int (n / 11 % (n % 11 + 1)))) (rangeL 0 j) [] = .ok (((List.range j).map fun k => bName n cs (n / 11 % (n % 11 + 1)) k).map D.str) := by
    intro j
    induction j with
    | zero => intro _; rfl
    | succ j ih =>
      intro hj
      have e : rangeL 0 (j + 1) = rangeL 0 j ++ [.int (0 + (j : Int))] := by
        unfold rangeL
        rw [List.range_succ, List.map_append]
        rfl
      rw [e, loopF_snoc, ih (by omega), okb, bname_turn h0 (by omega) hp0 (by omega) _ (by rw [List.length_map, List.length_map, List.length_range]; omega), List.range_succ]
      simp
  have hl := hlo m.toNat (Nat.le_refl _)
  have alo : ∀ k, Al (ownB n cs k) := fun k => by
    unfold ownB
    split
    · exact fun c hc => hal c (List.mem_of_mem_drop hc)
    · exact hal
  refine ⟨(List.range m.toNat).map fun k => bName n cs (n / 11 % (n % 11 + 1)) k, ?_, by rw [List.length_map, List.length_range], fun x hx => ?_, fun x hx => ?_, ?_⟩
  · have hs' : ("abcdefghijklmnopqrstuvwxyz0123456789" : Str) = letS := rfl
    have r1 : D.range1 [.int (n % 11)] = .ok (rangeL 0 (n % 11).toNat) := by
      rw [range1_i, small_of (by omega) (by omega)]
      rfl
    have r2 : D.range1 [.int m] = .ok (rangeL 0 m.toNat) := by
      rw [range1_i, small_of (by omega) (by omega)]
      rfl
    have md1 : D.mod (.int n) (.int 11) = .ok (.int (n % 11)) := mod_ok (by omega)
    have md2 : D.mod (.int (n / 11)) (.int (n % 11 + 1)) = .ok (.int (n / 11 % (n % 11 + 1))) := mod_ok (by omega)
    have f1' : D.fdiv (.int n) (.int 11) = .ok (.int (n / 11)) := rfl
    have z0 : need (decide (([] : List D).length ≤ sizeLine)) = .ok () := rfl
    have ms : ∀ l : List D, meth D.isStr (.ok (.str "")) (.ok [.lst l]) (m1 D.join) = D.join (.str "") (.lst l) := fun l => rfl
    unfold g_law_names
    rw [hs']
    simp -implicitDefEqProofs only [B1, B2, A0, A1, L1, nLst, okb, f1_1, toInt_i, md1, r1] at co ⊢
    rw [co]
    simp -implicitDefEqProofs only [okb, ms, hj, f1_1, f1', toInt_i, add_ii, md2, z0, r2, hl]
  · obtain ⟨k, hk, rfl⟩ := List.mem_map.mp hx
    unfold bName nmL
    rw [tl_mk]
    simp
    omega
  · obtain ⟨k, hk, rfl⟩ := List.mem_map.mp hx
    exact nm_of (lt_mem (by omega)) (lt_nd (by omega)) (lt_mem (Int.emod_lt_of_pos _ (by omega))) (alo k) (ownB_len (by omega) k)
  · refine ⟨nodup_map_range fun i j hi hj e => ?_, fun x hx y hy e => ?_⟩
    · have e2 := mk_inj.mp e
      unfold nmL at e2
      have e3 : lt ((n + 3 * (i : Int)) % 26) = lt ((n + 3 * (j : Int)) % 26) := by
        have := congrArg (fun l => l[0]?) e2
        simpa using this
      have e4 := lt_inj (by omega) (by omega) (by omega) (by omega) e3
      omega
    · obtain ⟨i, hi, rfl⟩ := List.mem_map.mp hx
      obtain ⟨j, hj, rfl⟩ := List.mem_map.mp hy
      rw [List.mem_range] at hi hj
      unfold bName at e
      rw [tl_mk, tl_mk] at e
      unfold nmL at e
      have e3 : lt ((n + 3 * (i : Int)) % 26) = lt ((n + 3 * (j : Int)) % 26) := by simpa using e
      have e4 := lt_inj (by omega) (by omega) (by omega) (by omega) e3
      have : i = j := by omega
      rw [this]
theorem bnames_ok {n m : Int} (h0 : 0 ≤ n) (hm0 : 0 ≤ m) (hm : m ≤ 9) : ∃ xs : List Str, m_law_names [.int n, .int m] = .ok (.lst (xs.map D.str)) ∧ xs.length = m.toNat ∧ (∀ x ∈ xs, 2 ≤ (tl x).length) ∧ (∀ x ∈ xs, Nm x) ∧ xs.Nodup := by
  obtain ⟨xs, h1, h2, h3, h4, h5, _⟩ := bnames_okH h0 hm0 hm
  exact ⟨xs, h1, h2, h3, h4, h5⟩
end LawMath

set_option Elab.async false
set_option linter.all false
set_option maxRecDepth 100000
set_option maxHeartbeats 4000000
namespace LawMath
open PySem DL LawWalk L2
theorem num_ix {ns : List Int} {i : Int} {j : Nat} (hi : i = (j : Int)) (h : j < ns.length) : D.ix (.lst (nums ns)) (.int i) = .ok (.int (ns.getD j 0)) :=
  ix_nat (n := j) (by
    unfold nums
    rw [List.getElem?_map, List.getElem?_eq_getElem h, List.getD_eq_getElem?_getD, List.getElem?_eq_getElem h]
    rfl) hi
theorem num_sm {ns : List Int} (hs : Sm ns) (j : Nat) : 0 ≤ ns.getD j 0 ∧ ns.getD j 0 < 1009 := by
  rw [List.getD_eq_getElem?_getD]
  cases e : ns[j]? with
  | none => simp
  | some x => exact hs x (List.mem_of_getElem? e)
def lastE : Int → List (Int × Int) → Int
  | b, [] => b
  | _, q :: l => lastE q.2 l
theorem hOk_snoc {day : Int} : ∀ {b : Int} {l : List (Int × Int)} {q : Int × Int}, hOk day b l → lastE b l < q.1 → q.1 < q.2 → q.2 ≤ day → hOk day b (l ++ [q]) ∧ lastE b (l ++ [q]) = q.2
  | b, [], q, _, h1, h2, h3 => ⟨⟨h1, h2, h3, trivial⟩, rfl⟩
  | b, p :: l, q, h, h1, h2, h3 => by
    obtain ⟨g1, g2, g3, g4⟩ := h
    obtain ⟨e1, e2⟩ := hOk_snoc (b := p.2) (l := l) (q := q) g4 h1 h2 h3
    exact ⟨⟨g1, g2, g3, e1⟩, e2⟩
theorem str_ix {l : List Str} {i : Int} {j : Nat} (hi : i = (j : Int)) (h : j < l.length) : ∃ x ∈ l, D.ix (.lst (l.map D.str)) (.int i) = .ok (.str x) :=
  ⟨l[j], List.getElem_mem h, ix_nat (n := j) (by rw [List.getElem?_map, List.getElem?_eq_getElem h]; rfl) hi⟩
theorem str_ixm {l : List Str} {i : Int} (h : 0 < l.length) : ∃ x ∈ l, D.ix (.lst (l.map D.str)) (.int (i % (l.length : Nat))) = .ok (.str x) := by
  have q1 : 0 ≤ i % (l.length : Int) := Int.emod_nonneg _ (by omega)
  have q2 : i % (l.length : Int) < l.length := Int.emod_lt_of_pos _ (by omega)
  exact str_ix (j := (i % (l.length : Int)).toNat) (by omega) (by omega)
end LawMath

set_option Elab.async false
set_option linter.all false
set_option maxRecDepth 100000
set_option maxHeartbeats 4000000
namespace LawMath
open PySem DL LawWalk L2
theorem pick_ix {l : List Str} {t : D → M Bool} {f : D → M D} (hl : l.length ≤ 1000) {b : Nat → Bool} (ht : ∀ k, k < l.length → t (.int (0 + (k : Int))) = .ok (b k)) (hf : ∀ k (h : k < l.length), f (.int (0 + (k : Int))) = .ok (.str l[k])) : ∃ us : List Str, us.Sublist l ∧ compL (fElt t f) (rangeL 0 l.length) = .ok (us.map D.str) := by
  refine ⟨((List.range l.length).filter b).map (fun k => l.getD k ""), ?_, ?_⟩
  · have e : (List.range l.length).map (fun k => l.getD k "") = l := by
      apply List.ext_getElem
      · simp
      · intro i h1 h2
        rw [List.getElem_map, List.getElem_range, List.getD_eq_getElem?_getD, List.getElem?_eq_getElem h2]
        rfl
    conv => rhs; rw [← e]
    exact List.filter_sublist.map _
  · rw [List.map_map]
    exact compL_filterA (k := fun k : Nat => D.int (0 + (k : Int))) (by rw [List.length_range]; omega) (fun k hk => ht k (List.mem_range.mp hk)) fun k hk _ => by
      have hk := List.mem_range.mp hk
      rw [hf k hk]
      show (Except.ok (D.str l[k]) : M D) = .ok (.str (l.getD k ""))
      rw [List.getD_eq_getElem?_getD, List.getElem?_eq_getElem hk]
      rfl
section
variable {ns : List Int} (hs : Sm ns) {day : Int} (hd : 1 ≤ day)
include hs hd
theorem hours_turnD {a : Nat} {k : Nat} (hl : a + 1 + k < ns.length) {l : List (Int × Int)} (hk : l.length ≤ 100) (h : hOk day (-1) l) : ∃ l' : List (Int × Int), m_law_hours_l1 (.lst (nums ns)) (.int (a : Nat)) (.int day) (l.map prI, .int (lastE (-1) l)) (.int (0 + (k : Int))) = .ok (l'.map prI, .int (lastE (-1) l')) ∧ hOk day (-1) l' ∧ l'.length ≤ l.length + 1 := by
  rw [Int.zero_add]
  have ix := num_ix (ns := ns) (i := (a : Nat) + 1 + (k : Int)) (j := a + 1 + k) (by omega) hl
  have n0 := num_sm hs (a + 1 + k)
  generalize ns.getD (a + 1 + k) 0 = n at ix n0
  have d4 : D.fdiv (.int n) (.int 4) = .ok (.int (n / 4)) := rfl
  have ma : D.mod (.int n) (.int 4) = .ok (.int (n % 4)) := mod_ok (by omega)
  have mb : D.mod (.int (n / 4)) (.int 6) = .ok (.int (n / 4 % 6)) := mod_ok (by omega)
  have ga : 0 ≤ n % 4 := Int.emod_nonneg _ (by omega)
  have gb : 0 ≤ n / 4 % 6 := Int.emod_nonneg _ (by omega)
  generalize n % 4 = x at ma ga
  generalize n / 4 % 6 = y at mb gb
  have le : D.le (.int (lastE (-1) l + 1 + x + 1 + y)) (.int day) = .ok (decide (lastE (-1) l + 1 + x + 1 + y ≤ day)) := rfl
  have mk : D.mkTup [.int (lastE (-1) l + 1 + x), .int (lastE (-1) l + 1 + x + 1 + y)] = .ok (prI (lastE (-1) l + 1 + x, lastE (-1) l + 1 + x + 1 + y)) := rfl
  have sx : need (decide ((l.map prI).length < sizeLine)) = .ok () := need_p (by rw [PySem.sizeLine_eq, List.length_map]; omega)
  by_cases hc : lastE (-1) l + 1 + x + 1 + y ≤ day
  · obtain ⟨e1, e2⟩ := hOk_snoc (q := (lastE (-1) l + 1 + x, lastE (-1) l + 1 + x + 1 + y)) h (by show lastE (-1) l < lastE (-1) l + 1 + x; omega) (by show lastE (-1) l + 1 + x < lastE (-1) l + 1 + x + 1 + y; omega) hc
    refine ⟨l ++ [(lastE (-1) l + 1 + x, lastE (-1) l + 1 + x + 1 + y)], ?_, e1, by rw [List.length_append]; exact Nat.le_refl _⟩
    rw [e2]
    unfold m_law_hours_l1
    dsimp only
    simp -implicitDefEqProofs only [B1, B2, A0, A1, mIf, mPush, okb, add_ii, ix, d4, f1_1, toInt_i, ma, mb, le, decide_eq_true hc, if_true, mk, sx, List.map_append]
    rfl
  · refine ⟨l, ?_, h, by omega⟩
    unfold m_law_hours_l1
    dsimp only
    simp -implicitDefEqProofs only [B1, B2, A0, A1, mIf, okb, add_ii, ix, d4, f1_1, toInt_i, ma, mb, le, decide_eq_false hc, Bool.false_eq_true, if_false]
theorem hours_loopD {a : Nat} : ∀ k : Nat, k ≤ 3 → a + 1 + k ≤ ns.length → ∃ l : List (Int × Int), loopF (m_law_hours_l1 (.lst (nums ns)) (.int (a : Nat)) (.int day)) (rangeL 0 k) ([], .int (-1)) = .ok (l.map prI, .int (lastE (-1) l)) ∧ hOk day (-1) l ∧ l.length ≤ k
  | 0, _, _ => ⟨[], rfl, trivial, Nat.le_refl _⟩
  | k + 1, h, hl => by
    obtain ⟨l, e, h1, h2⟩ := hours_loopD (a := a) k (by omega) (by omega)
    obtain ⟨l', e', h1', h2'⟩ := hours_turnD hs hd (a := a) (k := k) (by omega) (l := l) (by omega) h1
    refine ⟨l', ?_, h1', by omega⟩
    have e2 : rangeL 0 (k + 1) = rangeL 0 k ++ [.int (0 + (k : Int))] := by
      unfold rangeL
      rw [List.range_succ, List.map_append]
      rfl
    rw [e2, loopF_snoc, e, okb, e']
theorem hours_drawnD {a : Nat} (hl : a + 4 ≤ ns.length) : ∃ hh : Option (List (Int × Int)), m_law_hours [.lst (nums ns), .int (a : Nat), .int day] = .ok (hsD hh) ∧ ∀ l, hh = some l → hOk day (-1) l ∧ l.length ≤ 3 := by
  rw [e_law_hours]
  have i0 := num_ix (ns := ns) (i := (a : Nat)) (j := a) rfl (by omega)
  have m3 : D.mod (.int (ns.getD a 0)) (.int 3) = .ok (.int (ns.getD a 0 % 3)) := mod_ok (by omega)
  have m4 : D.mod (.int (ns.getD a 0)) (.int 4) = .ok (.int (ns.getD a 0 % 4)) := mod_ok (by omega)
  have g4 : 0 ≤ ns.getD a 0 % 4 := Int.emod_nonneg _ (by omega)
  have g4' : ns.getD a 0 % 4 < 4 := Int.emod_lt_of_pos _ (by omega)
  generalize ns.getD a 0 % 3 = x at m3
  generalize ns.getD a 0 % 4 = y at m4 g4 g4'
  have z0 : need (decide (([] : List D).length ≤ sizeLine)) = .ok () := rfl
  have ng : D.neg (.int 1) = .ok (.int (-1)) := rfl
  have rg : D.range1 [.int y] = .ok (rangeL 0 y.toNat) := by
    rw [range1_i, small_of (by omega) (by omega)]
    rfl
  obtain ⟨l, el, h1, h2⟩ := hours_loopD hs hd (a := a) y.toNat (by omega) (by omega)
  have tt : D.toTup (.lst (l.map prI)) = .ok (hsD (some l)) := rfl
  unfold g_law_hours
  by_cases c1 : x = 0
  · refine ⟨none, ?_, fun l h => nomatch h⟩
    simp -implicitDefEqProofs only [B1, B2, A0, A1, mIf, okb, i0, f1_1, toInt_i, m3, eq_ii, decide_eq_true c1, if_true]
    rfl
  · refine ⟨some l, ?_, fun l' h => by cases h; exact ⟨h1, by omega⟩⟩
    simp -implicitDefEqProofs only [B1, B2, A0, A1, nLst, mIf, okb, i0, f1_1, toInt_i, m3, eq_ii, decide_eq_false c1, Bool.false_eq_true, if_false, z0, ng, m4, rg, el, tt]
end
end LawMath

set_option Elab.async false
set_option linter.all false
set_option maxRecDepth 100000
set_option maxHeartbeats 4000000
namespace LawMath
open PySem DL LawWalk L2
section
variable {ns : List Int} (hs : Sm ns) {day : Int} (hd : 1 ≤ day)
include hs hd
theorem road_drawnD {a : Nat} (hl : a + 9 ≤ ns.length) {ki pl : List Str} (hki2 : ki.length ≤ 4) (hkn : ki.Nodup) (hpl : 0 < pl.length) (hpl2 : pl.length ≤ 100) {x : Str} (hx : Nm x) :
    ∃ r : Rd, m_law_road [.lst (nums ns), .int (a : Nat), .str x, .int day, tupD D.str ki, tupD D.str pl] = .ok r.d ∧ r.nm = x ∧ r.mi ≤ 40 ∧ r.ks.Sublist ki ∧ RdOk ⟨day, pl, ki, [], []⟩ r := by
  rw [e_law_road]
  have i0 := num_ix (ns := ns) (i := (a : Nat)) (j := a) rfl (by omega)
  have i1 := num_ix (ns := ns) (i := (a : Nat) + 1) (j := a + 1) (by omega) (by omega)
  have i2 := num_ix (ns := ns) (i := (a : Nat) + 2) (j := a + 2) (by omega) (by omega)
  have i3 := num_ix (ns := ns) (i := (a : Nat) + 3) (j := a + 3) (by omega) (by omega)
  have i4 := num_ix (ns := ns) (i := (a : Nat) + 4) (j := a + 4) (by omega) (by omega)
  have n2 := num_sm hs (a + 2)
  have n3 := num_sm hs (a + 3)
  obtain ⟨hh, eh, hok⟩ := hours_drawnD hs hd (a := a + 5) (by omega)
  have ea : ((a + 5 : Nat) : Int) = (a : Nat) + 5 := by omega
  rw [ea] at eh
  generalize ns.getD a 0 = b0 at i0
  generalize ns.getD (a + 1) 0 = b1 at i1
  generalize ns.getD (a + 2) 0 = b2 at i2 n2
  generalize ns.getD (a + 3) 0 = b3 at i3 n3
  generalize ns.getD (a + 4) 0 = b4 at i4
  have le : D.len (tupD D.str pl) = .ok (.int (pl.length : Int)) := by unfold tupD; simp
  have lk : D.len (tupD D.str ki) = .ok (.int (ki.length : Int)) := by unfold tupD; simp
  have ma : D.mod (.int b0) (.int (pl.length : Int)) = .ok (.int (b0 % (pl.length : Int))) := mod_ok (by omega)
  have mb : D.mod (.int b1) (.int (pl.length : Int)) = .ok (.int (b1 % (pl.length : Int))) := mod_ok (by omega)
  obtain ⟨st, hst, est⟩ := str_ixm (l := pl) (i := b0) hpl
  obtain ⟨en, hen, een⟩ := str_ixm (l := pl) (i := b1) hpl
  have est : D.ix (tupD D.str pl) (.int (b0 % (pl.length : Int))) = .ok (.str st) := est
  have een : D.ix (tupD D.str pl) (.int (b1 % (pl.length : Int))) = .ok (.str en) := een
  have m3 : D.mod (.int b3) (.int 3) = .ok (.int (b3 % 3)) := mod_ok (by omega)
  have mk3 : D.mkTup [.int 9, .int 9, .int 40] = .ok (.tup [.int 9, .int 9, .int 40]) := rfl
  obtain ⟨w, hw, ew⟩ : ∃ w : Int, (1 ≤ w ∧ w ≤ 40) ∧ D.ix (.tup [.int 9, .int 9, .int 40]) (.int (b3 % 3)) = .ok (.int w) := by
    have : b3 % 3 = 0 ∨ b3 % 3 = 1 ∨ b3 % 3 = 2 := by omega
    rcases this with h | h | h <;> rw [h] <;> exact ⟨_, by decide, rfl⟩
  have mw : D.mod (.int b2) (.int w) = .ok (.int (b2 % w)) := mod_ok (by omega)
  have w1 : 0 ≤ b2 % w := Int.emod_nonneg _ (by omega)
  have w2 : b2 % w < w := Int.emod_lt_of_pos _ (by omega)
  have rg : D.range1 [.int (ki.length : Int)] = .ok (rangeL 0 ki.length) := by
    rw [range1_i, small_of (by omega) (by omega)]
    rfl
  have mk6 : ∀ x1 x2 x3 x4 x5 x6 : D, D.mkTup [x1, x2, x3, x4, x5, x6] = .ok (.tup [x1, x2, x3, x4, x5, x6]) := fun _ _ _ _ _ _ => rfl
  obtain ⟨us, hus, cu⟩ := pick_ix (l := ki) (t := fun k_1 => (B2 D.gt (B2 D.mod (B1 (f1 D.toInt) (A1 (B2 D.add (B2 D.ix (.ok (.lst (nums ns))) (B2 D.add (.ok (.int (a : Nat))) (.ok (.int 4)))) (.ok k_1)) A0)) (.ok (.int 4))) (.ok (.int 0)))) (f := fun k_1 => (B2 D.ix (.ok (tupD D.str ki)) (.ok k_1))) (by omega) (b := fun k => decide (0 < (b4 + (0 + (k : Int))) % 4)) (fun k hk => by
    have m4 : D.mod (.int (b4 + (0 + (k : Int)))) (.int 4) = .ok (.int ((b4 + (0 + (k : Int))) % 4)) := mod_ok (by omega)
    simp -implicitDefEqProofs only [B1, B2, A0, A1, okb, add_ii, i4, f1_1, toInt_i, m4, gt_ii]) fun k hk => by
    have e : D.ix (tupD D.str ki) (.int (0 + (k : Int))) = .ok (.str ki[k]) := ix_natT (n := k) (by rw [List.getElem?_map, List.getElem?_eq_getElem hk]; rfl) (by omega)
    simp -implicitDefEqProofs only [B2, okb, e]
  simp -implicitDefEqProofs only [B1, B2, A0, A1, okb, add_ii, i4, f1_1, toInt_i] at cu
  have tt : D.toTup (.lst (us.map D.str)) = .ok (tupD D.str us) := rfl
  refine ⟨⟨x, st, en, 1 + b2 % w, us, hh⟩, ?_, rfl, by show 1 + b2 % w ≤ 40; omega, hus, ⟨hx, hst, hen, by show 1 ≤ 1 + b2 % w ∧ 1 + b2 % w ≤ 1000; omega, hus.nodup hkn, fun x hx => hus.subset hx, by have := hus.length_le; show us.length ≤ 1000; omega, fun l h => by
    obtain ⟨h1, h2⟩ := hok l h
    exact ⟨h1, by omega⟩⟩⟩
  unfold g_law_road Rd.d
  simp -implicitDefEqProofs only [B1, B2, A0, A1, L1, okb, add_ii, i0, i1, i2, i3, f1_1, toInt_i, le, lk, ma, mb, est, een, mk3, m3, ew, mw, rg, i4, cu, tt, eh, mk6]
end
end LawMath

set_option Elab.async false
set_option linter.all false
set_option maxRecDepth 100000
set_option maxHeartbeats 4000000
namespace LawMath
open PySem DL LawWalk L2
theorem roads_drawnD {ns : List Int} (hs : Sm ns) (hl : 97 ≤ ns.length) {day : Int} (hd : 1 ≤ day) {ki pl nm : List Str} (hki2 : ki.length ≤ 4) (hkn : ki.Nodup) (hpl : 0 < pl.length) (hpl2 : pl.length ≤ 30) (hnm : nm.length = 8) (hN : ∀ x ∈ nm, Nm x) :
    ∀ j, j ≤ 8 → ∃ rs : List Rd, loopF (m_law_parts_l1 (.lst (nums ns)) (.int 0) (.int day) (tupD D.str ki) (tupD D.str pl) (.lst (nm.map D.str))) (rangeL 0 j) [] = .ok (rs.map Rd.d) ∧ rs.map (·.nm) = nm.take j ∧ (∀ r ∈ rs, r.mi ≤ 40) ∧ (∀ r ∈ rs, r.ks.Sublist ki) ∧ ∀ r ∈ rs, RdOk ⟨day, pl, ki, [], []⟩ r
  | 0, _ => ⟨[], rfl, rfl, (fun r hr => nomatch hr), (fun r hr => nomatch hr), fun r hr => nomatch hr⟩
  | j + 1, hj => by
    obtain ⟨rs, e1, e2, e4, e5, e3⟩ := roads_drawnD hs hl hd hki2 hkn hpl hpl2 hnm hN j (by omega)
    have lr : rs.length ≤ 9 := by
      have := congrArg List.length e2
      rw [List.length_map, List.length_take] at this
      omega
    have hjl : j < nm.length := by omega
    obtain ⟨r, f1, f2, f4, f5, f3⟩ := road_drawnD hs hd (a := 8 + 10 * j) (by omega) hki2 hkn hpl (by omega) (hN _ (List.getElem_mem hjl))
    have inm : D.ix (.lst (nm.map D.str)) (.int (j : Int)) = .ok (.str nm[j]) := ix_nat (n := j) (by rw [List.getElem?_map, List.getElem?_eq_getElem hjl]; rfl) rfl
    have ea : ((8 + 10 * j : Nat) : Int) = 0 + 8 + 10 * (j : Int) := by omega
    rw [ea] at f1
    have mk10 : D.mul (.int 10) (.int (j : Int)) = .ok (.int (10 * (j : Int))) := mul_okl (by omega) (by omega)
    have sx : need (decide ((rs.map Rd.d).length < sizeLine)) = .ok () := need_p (by rw [PySem.sizeLine_eq, List.length_map]; omega)
    have t : m_law_parts_l1 (.lst (nums ns)) (.int 0) (.int day) (tupD D.str ki) (tupD D.str pl) (.lst (nm.map D.str)) (rs.map Rd.d) (.int (0 + (j : Int))) = .ok (rs.map Rd.d ++ [r.d]) := by
      rw [Int.zero_add]
      unfold m_law_parts_l1
      simp -implicitDefEqProofs only [B1, B2, A0, A1, mPush, okb, add_ii, mk10, inm, f1, sx]
    refine ⟨rs ++ [r], ?_, ?_, fun x hx => ?_, fun x hx => ?_, fun x hx => ?_⟩
    · have e : rangeL 0 (j + 1) = rangeL 0 j ++ [.int (0 + (j : Int))] := by
        unfold rangeL
        rw [List.range_succ, List.map_append]
        rfl
      rw [e, loopF_snoc, e1, okb, t, List.map_append]
      rfl
    · rw [List.map_append, e2, List.take_add_one, List.getElem?_eq_getElem hjl, ← f2]
      rfl
    · rcases List.mem_append.mp hx with hx | hx
      · exact e4 x hx
      · rw [List.mem_singleton.mp hx]
        exact f4
    · rcases List.mem_append.mp hx with hx | hx
      · exact e5 x hx
      · rw [List.mem_singleton.mp hx]
        exact f5
    · rcases List.mem_append.mp hx with hx | hx
      · exact e3 x hx
      · rw [List.mem_singleton.mp hx]
        exact f3
def prsOf (ro : List Rd) (f : Rd) : List (Str × Str) := (ro.filter fun q => decide (f.en = q.st)).map fun q => (f.nm, q.nm)
theorem pairs_in (f : Rd) : ∀ (qs : List Rd) (xs : List (Str × Str)), xs.length + qs.length ≤ 1000000 → loopF (m_law_bars_l1 f.d) (qs.map Rd.d) (xs.map prS) = .ok ((xs ++ prsOf qs f).map prS)
  | [], xs, _ => by
    have : prsOf [] f = [] := rfl
    rw [this, List.append_nil]
    rfl
  | q :: qs, xs, hx => by
    rw [List.length_cons] at hx
    have sx : need (decide ((xs.map prS).length < sizeLine)) = .ok () := need_p (by rw [PySem.sizeLine_eq, List.length_map]; omega)
    have mk : D.mkTup [.str f.nm, .str q.nm] = .ok (prS (f.nm, q.nm)) := rfl
    have t : m_law_bars_l1 f.d (xs.map prS) q.d = .ok ((xs ++ if f.en = q.st then [(f.nm, q.nm)] else []).map prS) := by
      have eq : D.eq (.str f.en) (.str q.st) = .ok (decide (f.en = q.st)) := eq_ss
      unfold m_law_bars_l1
      by_cases c : f.en = q.st
      · rw [decide_eq_true c] at eq
        rw [if_pos c]
        simp -implicitDefEqProofs only [B1, B2, A0, A1, mIf, mPush, okb, r2, r1, eq, if_true, r0, mk, sx, List.map_append]
        rfl
      · rw [decide_eq_false c] at eq
        rw [if_neg c]
        simp -implicitDefEqProofs only [B1, B2, A0, A1, mIf, okb, r2, r1, eq, Bool.false_eq_true, if_false, List.append_nil]
    have e : prsOf (q :: qs) f = (if f.en = q.st then [(f.nm, q.nm)] else []) ++ prsOf qs f := by
      unfold prsOf
      rw [List.filter_cons]
      by_cases c : f.en = q.st
      · rw [if_pos (decide_eq_true c), if_pos c]
        rfl
      · rw [if_neg (by simpa using c), if_neg c]
        rfl
    rw [List.map_cons, loopF_cons, t, okb, pairs_in f qs _ (by
      rw [List.length_append]
      have : (if f.en = q.st then [(f.nm, q.nm)] else []).length ≤ 1 := by split <;> simp
      omega), e, List.append_assoc]
theorem pairs_loop {ro : List Rd} (hr : ro.length ≤ 100) : ∀ (fs : List Rd) (xs : List (Str × Str)), xs.length + fs.length * 100 ≤ 900000 → loopF (m_law_bars_l2 (tupD Rd.d ro)) (fs.map Rd.d) (xs.map prS) = .ok ((xs ++ (fs.map (prsOf ro)).flatten).map prS)
  | [], xs, _ => by rw [List.map_nil, List.map_nil, List.flatten_nil, List.append_nil]; rfl
  | f :: fs, xs, hx => by
    rw [List.length_cons] at hx
    have lf : (prsOf ro f).length ≤ 100 := by
      unfold prsOf
      rw [List.length_map]
      exact Nat.le_trans (List.length_filter_le _ _) hr
    have it : D.items (tupD Rd.d ro) = .ok (ro.map Rd.d) := rfl
    have i := pairs_in f ro xs (by omega)
    have t : m_law_bars_l2 (tupD Rd.d ro) (xs.map prS) f.d = .ok ((xs ++ prsOf ro f).map prS) := by
      unfold m_law_bars_l2
      simp -implicitDefEqProofs only [B1, okb, it, i]
    rw [List.map_cons, loopF_cons, t, okb, pairs_loop hr fs _ (by rw [List.length_append]; omega), List.map_cons, List.flatten_cons, List.append_assoc]
theorem prsOf_nodup {ro : List Rd} (hn : (ro.map (·.nm)).Nodup) : ∀ (fs : List Rd), (fs.map (·.nm)).Nodup → ((fs.map (prsOf ro)).flatten).Nodup
  | [], _ => List.nodup_nil
  | f :: fs, h => by
    rw [List.map_cons, List.nodup_cons] at h
    rw [List.map_cons, List.flatten_cons]
    refine List.nodup_append.mpr ⟨?_, prsOf_nodup hn fs h.2, fun a ha b hb e => ?_⟩
    · have e1 : ((ro.filter fun q => decide (f.en = q.st)).map (·.nm)).Nodup := (List.filter_sublist.map _).nodup hn
      have e2 : prsOf ro f = ((ro.filter fun q => decide (f.en = q.st)).map (·.nm)).map fun x => (f.nm, x) := by
        unfold prsOf
        rw [List.map_map]
        rfl
      rw [e2]
      exact List.Pairwise.map _ (fun a b hab e => hab (Prod.mk.inj e).2) e1
    · subst e
      obtain ⟨q, _, rfl⟩ := List.mem_map.mp ha
      obtain ⟨l, hl, hb⟩ := List.mem_flatten.mp hb
      obtain ⟨f', hf', rfl⟩ := List.mem_map.mp hl
      obtain ⟨q', _, e⟩ := List.mem_map.mp hb
      exact h.1 (List.mem_map.mpr ⟨f', hf', (Prod.mk.inj e).1⟩)
theorem prsOf_mem {ro fs : List Rd} {b : Str × Str} (h : b ∈ (fs.map (prsOf ro)).flatten) : ∃ f ∈ fs, ∃ q ∈ ro, f.nm = b.1 ∧ q.nm = b.2 ∧ f.en = q.st := by
  obtain ⟨l, hl, hb⟩ := List.mem_flatten.mp h
  obtain ⟨f, hf, rfl⟩ := List.mem_map.mp hl
  obtain ⟨q, hq, rfl⟩ := List.mem_map.mp hb
  obtain ⟨h1, h2⟩ := List.mem_filter.mp hq
  exact ⟨f, hf, q, h1, rfl, rfl, of_decide_eq_true h2⟩
theorem chosen_loop {ns : List Int} {a : Nat} (hl : a + 7 ≤ ns.length) {pr : List (Str × Str)} (hp : pr.length ≤ 10000) : ∀ j : Nat, j ≤ pr.length → ∃ us : List (Str × Str), us.Sublist (pr.take j) ∧ us.length ≤ 40 ∧ loopF (m_law_bars_l3 (.lst (nums ns)) (.int (a : Nat)) (pr.map prS)) (rangeL 0 j) [] = .ok (us.map prS)
  | 0, _ => ⟨[], List.nil_sublist _, by simp, rfl⟩
  | j + 1, hj => by
    obtain ⟨us, h1, h2, h3⟩ := chosen_loop hl hp j (by omega)
    have hjl : j < pr.length := by omega
    have e : rangeL 0 (j + 1) = rangeL 0 j ++ [.int (0 + (j : Int))] := by
      unfold rangeL
      rw [List.range_succ, List.map_append]
      rfl
    have m7 : D.mod (.int (j : Int)) (.int 7) = .ok (.int ((j : Int) % 7)) := mod_ok (by omega)
    have ix := num_ix (ns := ns) (i := (a : Nat) + (j : Int) % 7) (j := a + j % 7) (by omega) (by omega)
    generalize ns.getD (a + j % 7) 0 = n at ix
    have mu : D.mul (.int 5) (.int (j : Int)) = .ok (.int (5 * (j : Int))) := mul_okl (by omega) (by omega)
    have m6 : D.mod (.int (n + 5 * (j : Int))) (.int 6) = .ok (.int ((n + 5 * (j : Int)) % 6)) := mod_ok (by omega)
    have ip : D.ix (.lst (pr.map prS)) (.int (j : Int)) = .ok (prS pr[j]) := ix_nat (n := j) (by rw [List.getElem?_map, List.getElem?_eq_getElem hjl]; rfl) rfl
    have ln : D.len (.lst (us.map prS)) = .ok (.int (us.length : Int)) := by simp
    have ll : D.lt (.int (us.length : Int)) (.int 40) = .ok (decide ((us.length : Int) < 40)) := rfl
    have sx : need (decide ((us.map prS).length < sizeLine)) = .ok () := need_p (by rw [PySem.sizeLine_eq, List.length_map]; omega)
    have tk : pr.take (j + 1) = pr.take j ++ [pr[j]] := by
      rw [List.take_add_one, List.getElem?_eq_getElem hjl]
      rfl
    by_cases c : (n + 5 * (j : Int)) % 6 = 0 ∧ (us.length : Int) < 40
    · refine ⟨us ++ [pr[j]], ?_, by rw [List.length_append, List.length_singleton]; omega, ?_⟩
      · rw [tk]
        exact List.Sublist.append h1 (List.Sublist.refl _)
      · rw [e, loopF_snoc, h3, okb, Int.zero_add]
        unfold m_law_bars_l3
        simp -implicitDefEqProofs only [B1, B2, A0, A1, mIf, mAnd, mPush, okb, m7, add_ii, ix, mu, f1_1, toInt_i, m6, eq_ii, decide_eq_true c.1, if_true, ln, ll, decide_eq_true c.2, ip, sx, List.map_append]
        rfl
    · refine ⟨us, ?_, h2, ?_⟩
      · rw [tk]
        exact h1.trans (List.sublist_append_left _ _)
      · rw [e, loopF_snoc, h3, okb, Int.zero_add]
        unfold m_law_bars_l3
        by_cases c1 : (n + 5 * (j : Int)) % 6 = 0
        · have c2 : ¬ (us.length : Int) < 40 := fun h => c ⟨c1, h⟩
          simp -implicitDefEqProofs only [B1, B2, A0, A1, mIf, mAnd, okb, m7, add_ii, ix, mu, f1_1, toInt_i, m6, eq_ii, decide_eq_true c1, if_true, ln, ll, decide_eq_false c2, Bool.false_eq_true, if_false]
        · simp -implicitDefEqProofs only [B1, B2, A0, A1, mIf, mAnd, okb, m7, add_ii, ix, mu, f1_1, toInt_i, m6, eq_ii, decide_eq_false c1, Bool.false_eq_true, if_false]
theorem bars_drawnD {ns : List Int} {a : Nat} (hl : a + 7 ≤ ns.length) {ro : List Rd} (hn : (ro.map (·.nm)).Nodup) (hr : ro.length ≤ 60) : ∃ bs : List (Str × Str), m_law_bars [.lst (nums ns), .int (a : Nat), tupD Rd.d ro] = .ok (tupD prS bs) ∧ bs.length ≤ 40 ∧ bs.Nodup ∧ bs.Pairwise (fun a b => leP a b = true) ∧ ∀ b ∈ bs, ∃ r ∈ ro, ∃ q ∈ ro, r.nm = b.1 ∧ q.nm = b.2 ∧ r.en = q.st := by
  rw [e_law_bars]
  have e1 := pairs_loop (ro := ro) (by omega) ro [] (by simp; omega)
  have nd := prsOf_nodup hn ro hn
  have mm : ∀ b ∈ (ro.map (prsOf ro)).flatten, _ := fun b hb => prsOf_mem hb
  have ln : ((ro.map (prsOf ro)).flatten).length ≤ 10000 := by
    have : ∀ fs : List Rd, ((fs.map (prsOf ro)).flatten).length ≤ fs.length * 60 := fun fs => by
      induction fs with
      | nil => simp
      | cons f fs ih =>
        rw [List.map_cons, List.flatten_cons, List.length_append, List.length_cons]
        have lf : (prsOf ro f).length ≤ 60 := by
          unfold prsOf
          rw [List.length_map]
          exact Nat.le_trans (List.length_filter_le _ _) hr
        omega
    have := this ro
    omega
  rw [List.nil_append] at e1
  generalize (ro.map (prsOf ro)).flatten = pr at e1 nd mm ln
  obtain ⟨us, h1, h2, h3⟩ := chosen_loop (ns := ns) (a := a) hl (pr := pr) ln pr.length (Nat.le_refl _)
  rw [List.take_length] at h1
  refine ⟨sortP us, ?_, by rw [(sortP_perm us).length_eq]; exact h2, (sortP_perm us).nodup_iff.mpr (h1.nodup nd), sortP_pw us, fun b hb => mm b (h1.subset ((sortP_perm us).mem_iff.mp hb))⟩
  have z0 : need (decide (([] : List D).length ≤ sizeLine)) = .ok () := rfl
  have k0 : D.mkLst [] = .ok (.lst []) := rfl
  have it : D.items (tupD Rd.d ro) = .ok (ro.map Rd.d) := rfl
  have lp : D.len (.lst (pr.map prS)) = .ok (.int (pr.length : Int)) := by simp
  have rg : D.range1 [.int (pr.length : Int)] = .ok (rangeL 0 pr.length) := by
    rw [range1_i, small_of (by omega) (by omega)]
    rfl
  have so := sorted_pair us
  have tt : D.toTup (.lst ((sortP us).map prS)) = .ok (tupD prS (sortP us)) := rfl
  have e1 : loopF (m_law_bars_l2 (tupD Rd.d ro)) (ro.map Rd.d) [] = .ok (pr.map prS) := e1
  unfold g_law_bars
  simp -implicitDefEqProofs only [B1, A0, A1, nLst, okb, k0, it, e1, z0, f1_1, lp, rg, h3, so, tt]
theorem sub_filter {α : Type} [DecidableEq α] : ∀ {us l : List α}, us.Sublist l → l.Nodup → l.filter (fun k => decide (k ∈ us)) = us
  | _, _, .slnil, _ => rfl
  | us, a :: l, .cons _ h, hn => by
    rw [List.nodup_cons] at hn
    rw [List.filter_cons, if_neg (by simpa using fun z => hn.1 (h.subset z))]
    exact sub_filter h hn.2
  | a :: us, _ :: l, .cons_cons _ h, hn => by
    rw [List.nodup_cons] at hn
    rw [List.filter_cons, if_pos (by simp)]
    congr 1
    have e : l.filter (fun k => decide (k ∈ a :: us)) = l.filter fun k => decide (k ∈ us) := List.filter_congr fun k hk => by
      have : k ≠ a := fun z => hn.1 (z ▸ hk)
      simp [this]
    rw [e]
    exact sub_filter h hn.2
end LawMath

set_option Elab.async false
set_option linter.all false
set_option maxRecDepth 100000
set_option maxHeartbeats 4000000
namespace LawMath
open PySem DL LawWalk L2
theorem dparts_drawn {ns : List Int} (hs : Sm ns) (hl : 97 ≤ ns.length) : ∃ p : Pt, m_law_parts [.lst (nums ns), .int 0] = .ok p.d ∧ p.ok ∧ p.srt ∧ 1 ≤ p.ro.length ∧ p.ro.length ≤ 8 ∧ 2 ≤ p.pl.length ∧ p.pl.length ≤ 5 ∧ p.ki.length ≤ 2 ∧ (∀ x ∈ p.ki, 2 ≤ (tl x).length) ∧ (∀ x ∈ p.pl, 2 ≤ (tl x).length) ∧ (∀ r ∈ p.ro, 2 ≤ (tl r.nm).length) := by
  rw [e_law_parts]
  have i0 := num_ix (ns := ns) (i := 0) (j := 0) rfl (by omega)
  have i1 := num_ix (ns := ns) (i := 0 + 1) (j := 1) rfl (by omega)
  have i2 := num_ix (ns := ns) (i := 0 + 2) (j := 2) rfl (by omega)
  have i3 := num_ix (ns := ns) (i := 0 + 3) (j := 3) rfl (by omega)
  have i4 := num_ix (ns := ns) (i := 0 + 4) (j := 4) rfl (by omega)
  have i5 := num_ix (ns := ns) (i := 0 + 5) (j := 5) rfl (by omega)
  have i6 := num_ix (ns := ns) (i := 0 + 6) (j := 6) rfl (by omega)
  have i7 := num_ix (ns := ns) (i := 0 + 7) (j := 7) rfl (by omega)
  have s2 := num_sm hs 2
  have s4 := num_sm hs 4
  have s6 := num_sm hs 6
  have m24 : D.mod (.int (ns.getD 0 0)) (.int 24) = .ok (.int (ns.getD 0 0 % 24)) := mod_ok (by omega)
  have m4 : D.mod (.int (ns.getD 1 0)) (.int 4) = .ok (.int (ns.getD 1 0 % 4)) := mod_ok (by omega)
  have m2 : D.mod (.int (ns.getD 3 0)) (.int 2) = .ok (.int (ns.getD 3 0 % 2)) := mod_ok (by omega)
  have m4' : D.mod (.int (ns.getD 5 0)) (.int 4) = .ok (.int (ns.getD 5 0 % 4)) := mod_ok (by omega)
  have m8 : D.mod (.int (ns.getD 7 0)) (.int 8) = .ok (.int (ns.getD 7 0 % 8)) := mod_ok (by omega)
  have mk4 : ∀ a b c d : D, D.mkTup [a, b, c, d] = .ok (.tup [a, b, c, d]) := fun _ _ _ _ => rfl
  obtain ⟨day, ⟨d1, d2⟩, ed⟩ : ∃ d : Int, (1 ≤ d ∧ d ≤ 1440) ∧ D.ix (.tup [.int (1 + ns.getD 0 0 % 24), .int 24, .int 1440, .int (1 + ns.getD 0 0 % 24)]) (.int (ns.getD 1 0 % 4)) = .ok (.int d) := by
    have : ns.getD 1 0 % 4 = 0 ∨ ns.getD 1 0 % 4 = 1 ∨ ns.getD 1 0 % 4 = 2 ∨ ns.getD 1 0 % 4 = 3 := by omega
    rcases this with h | h | h | h <;> rw [h] <;> exact ⟨_, by omega, rfl⟩
  obtain ⟨ki, eki, lki, Lki, Nki, ndki⟩ := bnames_ok (n := ns.getD 2 0) (m := 1 + ns.getD 3 0 % 2) s2.1 (by omega) (by omega)
  obtain ⟨pl, epl, lpl, Lpl, Npl, ndpl⟩ := bnames_ok (n := ns.getD 4 0) (m := 2 + ns.getD 5 0 % 4) s4.1 (by omega) (by omega)
  obtain ⟨nm, enm, lnm, Lnm, Nnm, ndnm⟩ := bnames_ok (n := ns.getD 6 0) (m := 8) s6.1 (by omega) (by omega)
  have pki := sortS_perm ki
  have ppl := sortS_perm pl
  have lki' := pki.length_eq
  have lpl' := ppl.length_eq
  obtain ⟨ro, ero, nro, rmi, rks, rok⟩ := roads_drawnD hs hl (day := day) d1 (ki := sortS ki) (pl := sortS pl) (nm := nm) (by omega) (pki.nodup_iff.mpr ndki) (by omega) (by omega) (by omega) Nnm (1 + ns.getD 7 0 % 8).toNat (by omega)
  have lro : ro.length = (1 + ns.getD 7 0 % 8).toNat := by
    have := congrArg List.length nro
    rw [List.length_map, List.length_take, lnm] at this
    omega
  have ndro : (ro.map (·.nm)).Nodup := by
    rw [nro]
    exact (List.take_sublist _ _).nodup ndnm
  have pro := sortR_perm ro
  have lro' := pro.length_eq
  have ndro' : ((sortR ro).map (·.nm)).Nodup := ((pro.map (·.nm)).nodup_iff).mpr ndro
  obtain ⟨bs, eb, lb, ndb, sb, hb⟩ := bars_drawnD (ns := ns) (a := 90) (by omega) ndro' (by omega)
  refine ⟨⟨day, sortS ki, sortS pl, sortR ro, bs⟩, ?_, ?_, srt_of ⟨sortS_pw _, sortS_pw _, sortR_pw _, sb, fun r hr => ?_⟩, by show 1 ≤ (sortR ro).length; omega, by show (sortR ro).length ≤ 8; omega, by show 2 ≤ (sortS pl).length; omega, by show (sortS pl).length ≤ 5; omega, by show (sortS ki).length ≤ 2; omega, fun x hx => Lki x (pki.mem_iff.mp hx), fun x hx => Lpl x (ppl.mem_iff.mp hx), fun r hr => Lnm _ ?_⟩
  · have z0 : need (decide (([] : List D).length ≤ sizeLine)) = .ok () := rfl
    have rg : D.range1 [.int (1 + ns.getD 7 0 % 8)] = .ok (rangeL 0 (1 + ns.getD 7 0 % 8).toNat) := by
      rw [range1_i, small_of (by omega) (by omega)]
      rfl
    have mk5 : ∀ a b c d e : D, D.mkLst [a, b, c, d, e] = .ok (.lst [a, b, c, d, e]) := fun _ _ _ _ _ => rfl
    have so1 := sorted_str ki
    have so2 := sorted_str pl
    have so3 := sorted2_ok ndro
    have t1 : D.toTup (.lst ((sortS ki).map D.str)) = .ok (tupD D.str (sortS ki)) := rfl
    have t2 : D.toTup (.lst ((sortS pl).map D.str)) = .ok (tupD D.str (sortS pl)) := rfl
    have t3 : D.toTup (.lst ((sortR ro).map Rd.d)) = .ok (tupD Rd.d (sortR ro)) := rfl
    have eb : m_law_bars [.lst (nums ns), .int (0 + 90), tupD Rd.d (sortR ro)] = .ok (tupD prS bs) := eb
    unfold g_law_parts Pt.d
    simp -implicitDefEqProofs only [B1, B2, A0, A1, nLst, okb, mk4, i0, f1_1, toInt_i, m24, add_ii, i1, m4, ed, i2, i3, m2, eki, so1, t1, i4, i5, m4', epl, so2, t2, i6, enm, z0, i7, m8, rg, ero, so3, t3, eb, mk5]
  · exact ⟨d1, d2, by show (sortS pl).length ≤ 30; omega, ppl.nodup_iff.mpr ndpl, fun x hx => Npl x (ppl.mem_iff.mp hx), by show 1 ≤ (sortS ki).length; omega, by show (sortS ki).length ≤ 4; omega, pki.nodup_iff.mpr ndki, fun x hx => Nki x (pki.mem_iff.mp hx), by show (sortR ro).length ≤ 60; omega, ndro', fun r hr => rok r (pro.mem_iff.mp hr), by show bs.length ≤ 40; omega, ndb, fun b h => hb b h⟩
  · have hr' := pro.mem_iff.mp hr
    have sub := rks r hr'
    have ks : (sortS ki).filter (fun k => decide (k ∈ r.ks)) = r.ks := sub_filter sub (pki.nodup_iff.mpr ndki)
    unfold Rd.norm
    rw [ks]
  · have : r.nm ∈ ro.map (·.nm) := List.mem_map.mpr ⟨r, pro.mem_iff.mp hr, rfl⟩
    rw [nro] at this
    exact List.mem_of_mem_take this
end LawMath

set_option Elab.async false
set_option linter.all false
set_option maxRecDepth 100000
set_option maxHeartbeats 4000000
namespace LawMath
open PySem DL LawWalk L2
inductive Chg where
  | place (un : Bool) (x : Str)
  | road (un : Bool) (r : Rd)
  | mins (n : Str) (a b : Int)
  | kinds (n : Str) (a b : List Str)
  | hours (n : Str) (a b : Option (List (Int × Int)))
  | bar (un : Bool) (a b : Str)
def Chg.word : Chg → Str
  | .place un _ => if un then "unplace" else "place"
  | .road un _ => if un then "unroad" else "road"
  | .mins _ _ _ => "minutes"
  | .kinds _ _ _ => "kinds"
  | .hours _ _ _ => "hours"
  | .bar un _ _ => if un then "unbar" else "bar"
def Chg.args : Chg → List D
  | .place _ x => [.str x]
  | .road _ r => [r.d]
  | .mins n a b => [.str n, .int a, .int b]
  | .kinds n a b => [.str n, tupD D.str a, tupD D.str b]
  | .hours n a b => [.str n, hsD a, hsD b]
  | .bar _ a b => [.str a, .str b]
def Chg.d (c : Chg) : D := .tup (.str c.word :: c.args)
def ChB (day : Int) (ki : List Str) : Chg → Prop
  | .place _ x => Nm x
  | .road _ r => Nm r.nm ∧ Nm r.st ∧ Nm r.en ∧ (1 ≤ r.mi ∧ r.mi ≤ 1000) ∧ r.ks.Sublist ki ∧ ∀ l, r.hs = some l → hOk day (-1) l ∧ l.length ≤ 4
  | .mins _ _ _ => True
  | .kinds _ a b => a.length ≤ 10 ∧ b.length ≤ 10
  | .hours _ a b => (∀ l, a = some l → l.length ≤ 4) ∧ ∀ l, b = some l → l.length ≤ 4
  | .bar _ _ _ => True
theorem Chg.shp (c : Chg) : c.d.shp 15 = true := by
  refine shp_tup (n := 14) fun d hd => ?_
  rcases List.mem_cons.mp hd with rfl | hd
  · exact shp_str
  · have h1 : ∀ l : List Str, (tupD D.str l).shp 14 = true := fun l => shp_le (n := 1) (m := 14) ((en_tup (n := 0) en_str).shp l) (by omega)
    have h2 : ∀ l, (hsD l).shp 14 = true := fun l => shp_le (n := 2) (m := 14) (en_hs.shp l) (by omega)
    cases c with
    | place un x => rw [List.mem_singleton.mp hd]; exact shp_str
    | road un r => rw [List.mem_singleton.mp hd]; exact shp_le (n := 3) (m := 14) (en_rd.shp r) (by omega)
    | mins n a b =>
      simp only [Chg.args, List.mem_cons, List.not_mem_nil, or_false] at hd
      rcases hd with rfl | rfl | rfl
      · exact shp_str
      · exact shp_int
      · exact shp_int
    | kinds n a b =>
      simp only [Chg.args, List.mem_cons, List.not_mem_nil, or_false] at hd
      rcases hd with rfl | rfl | rfl
      · exact shp_str
      · exact h1 _
      · exact h1 _
    | hours n a b =>
      simp only [Chg.args, List.mem_cons, List.not_mem_nil, or_false] at hd
      rcases hd with rfl | rfl | rfl
      · exact shp_str
      · exact h2 _
      · exact h2 _
    | bar un a b =>
      simp only [Chg.args, List.mem_cons, List.not_mem_nil, or_false] at hd
      rcases hd with rfl | rfl
      · exact shp_str
      · exact shp_str
theorem ixmT {α : Type} {e : α → D} {l : List α} {i : Int} (h : 0 < l.length) : ∃ x ∈ l, D.ix (tupD e l) (.int (i % (l.length : Nat))) = .ok (e x) := by
  have q1 : 0 ≤ i % (l.length : Int) := Int.emod_nonneg _ (by omega)
  have q2 : i % (l.length : Int) < l.length := Int.emod_lt_of_pos _ (by omega)
  have h' : (i % (l.length : Int)).toNat < l.length := by omega
  exact ⟨l[(i % (l.length : Int)).toNat], List.getElem_mem h', ix_natT (n := (i % (l.length : Int)).toNat) (by rw [List.getElem?_map, List.getElem?_eq_getElem h']; rfl) (by omega)⟩
theorem nm_lit {x : Str} (h : isNm x.cps.toList = true) : Nm x := h
theorem nm_new1 : Nm "new1" := nm_lit (by decide +kernel)
theorem nm_new2 : Nm "new2" := nm_lit (by decide +kernel)
theorem nm_fresh : Nm "fresh" := nm_lit (by decide +kernel)
theorem nm_fresh2 : Nm "fresh2" := nm_lit (by decide +kernel)
theorem nm_fresh3 : Nm "fresh3" := nm_lit (by decide +kernel)
theorem srt_sub {p : Pt} (P : p.ok) (S : p.srt) {r : Rd} (hr : r ∈ p.ro) : r.ks.Sublist p.ki := by
  have e := S.S.snm r hr
  have : p.ki.filter (fun k => decide (k ∈ r.ks)) = r.ks := congrArg Rd.ks e
  rw [← this]
  exact List.filter_sublist
section
variable {ns : List Int} (hs : Sm ns) {a : Nat} (hl : a + 12 ≤ ns.length) {p : Pt} (P : p.ok) (S : p.srt)
include hs hl P S
set_option maxHeartbeats 8000000 in
theorem drawn_ok : ∃ c : Chg, m_law_drawn_change [.lst (nums ns), .int (a : Nat), p.d] = .ok c.d ∧ ChB p.day p.ki c := by
  rw [e_law_drawn_change]
  have i0 := num_ix (ns := ns) (i := (a : Nat)) (j := a) rfl (by omega)
  have i1 := num_ix (ns := ns) (i := (a : Nat) + 1) (j := a + 1) (by omega) (by omega)
  have i2 := num_ix (ns := ns) (i := (a : Nat) + 2) (j := a + 2) (by omega) (by omega)
  have i3 := num_ix (ns := ns) (i := (a : Nat) + 3) (j := a + 3) (by omega) (by omega)
  have s0 := (num_sm hs a).1
  have s1 := (num_sm hs (a + 1)).1
  have s2 := (num_sm hs (a + 2)).1
  have s3 := (num_sm hs (a + 3)).1
  have rd := fun (pl : List Str) (x : Str) (h1 : 0 < pl.length) (h2 : pl.length ≤ 100) (hx : Nm x) => road_drawnD hs (day := p.day) P.day1 (a := a + 2) (by omega) (ki := p.ki) (pl := pl) P.ki1 P.kin h1 h2 hx
  obtain ⟨hh, eh, hok⟩ := hours_drawnD hs (day := p.day) P.day1 (a := a + 2) (by omega)
  have ea : ((a + 2 : Nat) : Int) = (a : Nat) + 2 := by omega
  rw [ea] at eh
  simp only [ea] at rd
  generalize ns.getD a 0 = n0 at i0 s0
  generalize ns.getD (a + 1) 0 = n1 at i1 s1
  generalize ns.getD (a + 2) 0 = n2 at i2 s2
  generalize ns.getD (a + 3) 0 = n3 at i3 s3
  generalize D.lst (nums ns) = N at *
  have pl1 := P.pl1
  have ro1 := P.ro1
  have ba1 := P.ba1
  have ki1 := P.ki1
  have ki0 := P.ki0
  have mk1 : ∀ x : D, D.mkTup [x] = .ok (.tup [x]) := fun _ => rfl
  have mk2 : ∀ x y : D, D.mkTup [x, y] = .ok (.tup [x, y]) := fun _ _ => rfl
  have mk3 : ∀ x y z : D, D.mkTup [x, y, z] = .ok (.tup [x, y, z]) := fun _ _ _ => rfl
  have mk4 : ∀ x y z u : D, D.mkTup [x, y, z, u] = .ok (.tup [x, y, z, u]) := fun _ _ _ _ => rfl
  have mkL2 : ∀ x y : D, D.mkLst [x, y] = .ok (.lst [x, y]) := fun _ _ => rfl
  have bn : ∀ i : Int, D.bnd (.int i) = .ok (some i) := fun _ => rfl
  have m12 : D.mod (.int n0) (.int 12) = .ok (.int (n0 % 12)) := mod_ok (by omega)
  have mk12 : D.mkTup [.str "place", .str "unplace", .str "road", .str "unroad", .str "minutes", .str "minutes", .str "hours", .str "kinds", .str "bar", .str "unbar", .str "road", .str "unroad"] = .ok (.tup [.str "place", .str "unplace", .str "road", .str "unroad", .str "minutes", .str "minutes", .str "hours", .str "kinds", .str "bar", .str "unbar", .str "road", .str "unroad"]) := rfl
  obtain ⟨w, hw, ew⟩ : ∃ w : Str, (w = "place" ∨ w = "unplace" ∨ w = "road" ∨ w = "unroad" ∨ w = "minutes" ∨ w = "hours" ∨ w = "kinds" ∨ w = "bar" ∨ w = "unbar") ∧ D.ix (.tup [.str "place", .str "unplace", .str "road", .str "unroad", .str "minutes", .str "minutes", .str "hours", .str "kinds", .str "bar", .str "unbar", .str "road", .str "unroad"]) (.int (n0 % 12)) = .ok (.str w) := by
    have : n0 % 12 = 0 ∨ n0 % 12 = 1 ∨ n0 % 12 = 2 ∨ n0 % 12 = 3 ∨ n0 % 12 = 4 ∨ n0 % 12 = 5 ∨ n0 % 12 = 6 ∨ n0 % 12 = 7 ∨ n0 % 12 = 8 ∨ n0 % 12 = 9 ∨ n0 % 12 = 10 ∨ n0 % 12 = 11 := by omega
    rcases this with h | h | h | h | h | h | h | h | h | h | h | h <;> rw [h]
    · exact ⟨"place", by simp, rfl⟩
    · exact ⟨"unplace", by simp, rfl⟩
    · exact ⟨"road", by simp, rfl⟩
    · exact ⟨"unroad", by simp, rfl⟩
    · exact ⟨"minutes", by simp, rfl⟩
    · exact ⟨"minutes", by simp, rfl⟩
    · exact ⟨"hours", by simp, rfl⟩
    · exact ⟨"kinds", by simp, rfl⟩
    · exact ⟨"bar", by simp, rfl⟩
    · exact ⟨"unbar", by simp, rfl⟩
    · exact ⟨"road", by simp, rfl⟩
    · exact ⟨"unroad", by simp, rfl⟩
  have it3 : D.items (tupD Rd.d p.ro) = .ok (p.ro.map Rd.d) := rfl
  have c0 : compL (fElt noT (fun road_here_1 => (B2 D.ix (.ok road_here_1) (.ok (.int 0))))) (p.ro.map Rd.d) = .ok ((p.ro.map (·.nm)).map D.str) := by
    rw [List.map_map]
    exact compL_mapA (by omega) fun r _ => by
      simp -implicitDefEqProofs only [B2, okb, r0]
      rfl
  have lro : D.len (tupD Rd.d p.ro) = .ok (.int (p.ro.length : Nat)) := by unfold tupD; simp
  have lpl : D.len (tupD D.str p.pl) = .ok (.int (p.pl.length : Nat)) := by unfold tupD; simp
  have lki : D.len (tupD D.str p.ki) = .ok (.int (p.ki.length : Nat)) := by unfold tupD; simp
  have lba : D.len (tupD prS p.ba) = .ok (.int (p.ba.length : Nat)) := by unfold tupD; simp
  have eqs : ∀ z : Str, D.eq (.str w) (.str z) = .ok (decide (w = z)) := fun z => eq_ss
  unfold g_law_drawn_change
  -- places
  by_cases hpl : w = "place" ∨ w = "unplace"
  · have tl1 : D.toList (tupD D.str p.pl) = .ok (.lst (p.pl.map D.str)) := rfl
    have ad : D.add (.lst (p.pl.map D.str)) (.lst [.str "new1", .str "new2"]) = .ok (.lst ((p.pl ++ [("new1" : Str), "new2"]).map D.str)) := by
      rw [add_ll, need_p (by rw [PySem.sizeLine_eq, List.length_map]; show p.pl.length + 2 ≤ _; omega), okb, List.map_append]
      rfl
    have lo : D.len (.lst ((p.pl ++ [("new1" : Str), "new2"]).map D.str)) = .ok (.int ((p.pl ++ [("new1" : Str), "new2"]).length : Nat)) := by simp
    have lp : 0 < (p.pl ++ [("new1" : Str), "new2"]).length := by simp
    have md : D.mod (.int n1) (.int ((p.pl ++ [("new1" : Str), "new2"]).length : Nat)) = .ok (.int (n1 % ((p.pl ++ [("new1" : Str), "new2"]).length : Nat))) := mod_ok (by omega)
    obtain ⟨x, hx, ex⟩ := str_ixm (l := p.pl ++ [("new1" : Str), "new2"]) (i := n1) lp
    have hN : Nm x := by
      rcases List.mem_append.mp hx with h | h
      · exact P.plN x h
      · simp only [List.mem_cons, List.not_mem_nil, or_false] at h
        rcases h with rfl | rfl
        · exact nm_new1
        · exact nm_new2
    have cnd : (mOr (B2 D.eq (.ok (.str w)) (.ok (.str "place"))) (B2 D.eq (.ok (.str w)) (.ok (.str "unplace"))) : M Bool) = .ok true := by
      rcases hpl with rfl | rfl <;> rfl
    refine ⟨.place (decide (w = "unplace")) x, ?_, hN⟩
    have ed : Chg.d (.place (decide (w = "unplace")) x) = .tup [.str w, .str x] := by
      rcases hpl with rfl | rfl <;> rfl
    rw [ed]
    generalize (p.pl ++ [("new1" : Str), "new2"]).map D.str = Y at *
    generalize ((p.pl ++ [("new1" : Str), "new2"]).length : Nat) = m at *
    generalize (p.ro.map (·.nm)).map D.str = RN at *
    generalize p.ro.map Rd.d = RD at *
    simp -implicitDefEqProofs only [B1, B2, A0, A1, L1, mIf, okb, mk12, i0, f1_1, toInt_i, m12, ew, p3, it3] at c0 ⊢
    rw [c0]
    simp -implicitDefEqProofs only [B1, B2, A0, A1, L1, okb] at cnd ⊢
    rw [cnd]
    simp -implicitDefEqProofs only [okb, if_true, p2, f1_1, tl1, mkL2, ad, add_ii, i1, toInt_i, lo, md, ex, mk2]
  have cn1 : (mOr (B2 D.eq (.ok (.str w)) (.ok (.str "place"))) (B2 D.eq (.ok (.str w)) (.ok (.str "unplace"))) : M Bool) = .ok false := by
    have h1 := eqs "place"
    have h2 := eqs "unplace"
    rw [decide_eq_false (fun e => hpl (.inl e))] at h1
    rw [decide_eq_false (fun e => hpl (.inr e))] at h2
    simp -implicitDefEqProofs only [B2, mOr, okb, h1, h2, Bool.false_eq_true, if_false]
  by_cases hro : p.ro.length = 0 ∨ w = "road"
  · -- a new road
    have cn2 : (mOr (B2 D.eq (B1 (f1 D.len) (A1 (B2 D.ix (.ok p.d) (.ok (.int 3))) A0)) (.ok (.int 0))) (B2 D.eq (.ok (.str w)) (.ok (.str "road"))) : M Bool) = .ok true := by
      have e0 : D.eq (.int (p.ro.length : Nat)) (.int 0) = .ok (decide (p.ro.length = 0)) := by
        rw [eq_ii]
        congr 1
        exact decide_eq_decide.mpr (by omega)
      have e1 := eqs "road"
      by_cases c : p.ro.length = 0
      · rw [decide_eq_true c] at e0
        simp -implicitDefEqProofs only [B1, B2, A0, A1, mOr, okb, p3, f1_1, lro, e0, if_true]
      · rw [decide_eq_false c] at e0
        rw [decide_eq_true (hro.resolve_left c)] at e1
        simp -implicitDefEqProofs only [B1, B2, A0, A1, mOr, okb, p3, f1_1, lro, e0, Bool.false_eq_true, if_false, e1]
    have m3 : D.mod (.int n1) (.int 3) = .ok (.int (n1 % 3)) := mod_ok (by omega)
    obtain ⟨x, hx, ex⟩ : ∃ x : Str, Nm x ∧ D.ix (.tup [.str "fresh", .str "fresh2", .str "fresh3"]) (.int (n1 % 3)) = .ok (.str x) := by
      have : n1 % 3 = 0 ∨ n1 % 3 = 1 ∨ n1 % 3 = 2 := by omega
      rcases this with h | h | h <;> rw [h]
      · exact ⟨_, nm_fresh, rfl⟩
      · exact ⟨_, nm_fresh2, rfl⟩
      · exact ⟨_, nm_fresh3, rfl⟩
    have el : D.eq (.int (p.pl.length : Nat)) (.int 0) = .ok (decide (p.pl.length = 0)) := by
      rw [eq_ii]
      congr 1
      exact decide_eq_decide.mpr (by omega)
    by_cases c : p.pl.length = 0
    · rw [decide_eq_true c] at el
      refine ⟨.place false x, ?_, hx⟩
      have ed : Chg.d (.place false x) = .tup [.str "place", .str x] := rfl
      rw [ed]
      generalize (p.ro.map (·.nm)).map D.str = RN at *
      generalize p.ro.map Rd.d = RD at *
      simp -implicitDefEqProofs only [B1, B2, A0, A1, L1, mIf, okb, mk12, i0, f1_1, toInt_i, m12, ew, p3, it3] at c0 cn1 cn2 ⊢
      rw [c0]
      simp -implicitDefEqProofs only [okb]
      rw [cn1]
      simp -implicitDefEqProofs only [okb, Bool.false_eq_true, if_false]
      rw [cn2]
      simp -implicitDefEqProofs only [okb, if_true, mk3, add_ii, i1, f1_1, toInt_i, m3, ex, p2, lpl, el, mk2]
    · rw [decide_eq_false c] at el
      have m5 : D.mod (.int n1) (.int 5) = .ok (.int (n1 % 5)) := mod_ok (by omega)
      have f4 : D.fdiv (.int (n1 % 5)) (.int 4) = .ok (.int (n1 % 5 / 4)) := rfl
      obtain ⟨q, hq, eq⟩ : ∃ q : List Str, (q = [] ∨ q = [("new1" : Str)]) ∧ D.sl (.tup [.str "new1"]) none (some (n1 % 5 / 4)) = .ok (tupD D.str q) := by
        have : n1 % 5 / 4 = 0 ∨ n1 % 5 / 4 = 1 := by omega
        rcases this with h | h <;> rw [h]
        · exact ⟨[], .inl rfl, rfl⟩
        · exact ⟨[("new1" : Str)], .inr rfl, rfl⟩
      have lq : q.length ≤ 1 := by rcases hq with rfl | rfl <;> simp
      have at_ : D.add (tupD D.str p.pl) (tupD D.str q) = .ok (tupD D.str (p.pl ++ q)) := by
        unfold tupD
        rw [add_tt, need_p (by rw [PySem.sizeLine_eq, List.length_map, List.length_map]; omega), okb, List.map_append]
      obtain ⟨r, er, rn, rm, rk, rok⟩ := rd (p.pl ++ q) x (by rw [List.length_append]; omega) (by rw [List.length_append]; omega) hx
      have hN : ∀ y ∈ p.pl ++ q, Nm y := fun y hy => by
        rcases List.mem_append.mp hy with h | h
        · exact P.plN y h
        · rcases hq with rfl | rfl
          · cases h
          · rw [List.mem_singleton.mp h]; exact nm_new1
      refine ⟨.road false r, ?_, rok.nm, hN _ rok.st, hN _ rok.en, rok.mi, rk, rok.hs⟩
      have ed : Chg.d (.road false r) = .tup [.str "road", r.d] := rfl
      rw [ed]
      generalize (p.ro.map (·.nm)).map D.str = RN at *
      generalize p.ro.map Rd.d = RD at *
      simp -implicitDefEqProofs only [B1, B2, A0, A1, L1, mIf, okb, mk12, i0, f1_1, toInt_i, m12, ew, p3, it3] at c0 cn1 cn2 ⊢
      rw [c0]
      simp -implicitDefEqProofs only [okb]
      rw [cn1]
      simp -implicitDefEqProofs only [okb, Bool.false_eq_true, if_false]
      rw [cn2]
      simp -implicitDefEqProofs only [S3, oN, okb, if_true, mk3, add_ii, i1, f1_1, toInt_i, m3, ex, p0, p1, p2, lpl, el, Bool.false_eq_true, if_false, mk1, m5, f4, bn, eq, at_, er, mk2]
  -- a road that is there
  have hro0 : 0 < p.ro.length := by
    have : p.ro.length ≠ 0 := fun e => hro (.inl e)
    omega
  have cn2 : (mOr (B2 D.eq (B1 (f1 D.len) (A1 (B2 D.ix (.ok p.d) (.ok (.int 3))) A0)) (.ok (.int 0))) (B2 D.eq (.ok (.str w)) (.ok (.str "road"))) : M Bool) = .ok false := by
    have e0 : D.eq (.int (p.ro.length : Nat)) (.int 0) = .ok false := by
      rw [eq_ii, decide_eq_false (by omega)]
    have e1 := eqs "road"
    rw [decide_eq_false (fun e => hro (.inr e))] at e1
    simp -implicitDefEqProofs only [B1, B2, A0, A1, mOr, okb, p3, f1_1, lro, e0, Bool.false_eq_true, if_false, e1]
  have mro : D.mod (.int n1) (.int (p.ro.length : Nat)) = .ok (.int (n1 % (p.ro.length : Nat))) := mod_ok (by omega)
  obtain ⟨r, hr, er⟩ := ixmT (e := Rd.d) (l := p.ro) (i := n1) hro0
  have R := P.rok r hr
  have rks : r.ks.length ≤ 4 := Nat.le_trans (srt_sub P S hr).length_le ki1
  have rhs : ∀ l, r.hs = some l → l.length ≤ 4 := fun l e => (R.hs l e).2
  have x0 := r0 (r := r)
  have x2 := r2 (r := r)
  have x3 := r3 (r := r)
  have x4 := r4 (r := r)
  have x5 := r5 (r := r)
  have e4 := eqs "unroad"
  have e5 := eqs "minutes"
  have e6 := eqs "hours"
  have e7 := eqs "kinds"
  have e8 := eqs "unbar"
  by_cases w4 : w = "unroad"
  · refine ⟨.road true r, ?_, R.nm, P.plN _ R.st, P.plN _ R.en, R.mi, srt_sub P S hr, R.hs⟩
    rw [decide_eq_true w4] at e4
    have ed : Chg.d (.road true r) = .tup [.str w, r.d] := by rw [w4]; rfl
    rw [ed]
    generalize (p.ro.map (·.nm)).map D.str = RN at *
    generalize p.ro.map Rd.d = RD at *
    simp -implicitDefEqProofs only [B1, B2, A0, A1, L1, mIf, okb, mk12, i0, f1_1, toInt_i, m12, ew, p3, it3] at c0 cn1 cn2 ⊢
    rw [c0]
    simp -implicitDefEqProofs only [okb]
    rw [cn1]
    simp -implicitDefEqProofs only [okb, Bool.false_eq_true, if_false]
    rw [cn2]
    simp -implicitDefEqProofs only [okb, Bool.false_eq_true, if_false, if_true, add_ii, i1, f1_1, toInt_i, lro, mro, er, e4, mk2]
  rw [decide_eq_false w4] at e4
  by_cases w5 : w = "minutes"
  · rw [decide_eq_true w5] at e5
    obtain ⟨v, ev⟩ : ∃ v : Int, (mIf (B2 D.eq (B2 D.mod (.ok (.int n2)) (.ok (.int 9))) (.ok (.int 0))) (B2 D.ix (B1 D.mkTup (A1 (.ok (.int 0)) (A1 (.ok (.int 1001)) (A1 (.ok (.int 1000)) A0)))) (B2 D.mod (.ok (.int n3)) (.ok (.int 3)))) (B2 D.add (.ok (.int 1)) (B2 D.mod (.ok (.int n2)) (.ok (.int 12)))) : M D) = .ok (.int v) := by
      have m9 : D.mod (.int n2) (.int 9) = .ok (.int (n2 % 9)) := mod_ok (by omega)
      have m12' : D.mod (.int n2) (.int 12) = .ok (.int (n2 % 12)) := mod_ok (by omega)
      have m3 : D.mod (.int n3) (.int 3) = .ok (.int (n3 % 3)) := mod_ok (by omega)
      have q : D.eq (.int (n2 % 9)) (.int 0) = .ok (decide (n2 % 9 = 0)) := eq_ii
      by_cases c : n2 % 9 = 0
      · rw [decide_eq_true c] at q
        obtain ⟨v, ev⟩ : ∃ v : Int, D.ix (.tup [.int 0, .int 1001, .int 1000]) (.int (n3 % 3)) = .ok (.int v) := by
          have : n3 % 3 = 0 ∨ n3 % 3 = 1 ∨ n3 % 3 = 2 := by omega
          rcases this with h | h | h <;> rw [h] <;> exact ⟨_, rfl⟩
        exact ⟨v, by simp -implicitDefEqProofs only [B1, B2, A0, A1, mIf, okb, m9, q, if_true, mk3, m3, ev]⟩
      · rw [decide_eq_false c] at q
        exact ⟨_, by simp -implicitDefEqProofs only [B1, B2, A0, A1, mIf, okb, m9, q, Bool.false_eq_true, if_false, m12', add_ii]; rfl⟩
    refine ⟨.mins r.nm r.mi v, ?_, trivial⟩
    have ed : Chg.d (.mins r.nm r.mi v) = .tup [.str w, .str r.nm, .int r.mi, .int v] := by rw [w5]; rfl
    rw [ed]
    generalize (p.ro.map (·.nm)).map D.str = RN at *
    generalize p.ro.map Rd.d = RD at *
    simp -implicitDefEqProofs only [B1, B2, A0, A1, L1, mIf, okb, mk12, i0, f1_1, toInt_i, m12, ew, p3, it3] at c0 cn1 cn2 ev ⊢
    rw [c0]
    simp -implicitDefEqProofs only [okb]
    rw [cn1]
    simp -implicitDefEqProofs only [okb, Bool.false_eq_true, if_false]
    rw [cn2]
    simp -implicitDefEqProofs only [okb, Bool.false_eq_true, if_false, add_ii, i1, i2, i3, f1_1, toInt_i, lro, mro, er, e4, e5, x0, x3] at ev ⊢
    simp -implicitDefEqProofs only [if_true]
    rw [ev]
    simp -implicitDefEqProofs only [okb, mk4]
  rw [decide_eq_false w5] at e5
  by_cases w6 : w = "hours"
  · rw [decide_eq_true w6] at e6
    have m9 : D.mod (.int n2) (.int 9) = .ok (.int (n2 % 9)) := mod_ok (by omega)
    have m4 : D.mod (.int n3) (.int 4) = .ok (.int (n3 % 4)) := mod_ok (by omega)
    have q : D.eq (.int (n2 % 9)) (.int 4) = .ok (decide (n2 % 9 = 4)) := eq_ii
    by_cases c : n2 % 9 = 4
    · rw [decide_eq_true c] at q
      obtain ⟨b, hb, eb⟩ : ∃ b : List (Int × Int), b.length ≤ 4 ∧ D.ix (.tup [.tup [.tup [.int 0, .int (p.day + 1)]], .tup [.tup [.int 0, .int 0]], .tup [.tup [.int 1, .int 2], .tup [.int 2, .int 3]], .tup [.tup [.int 0, .int 1], .tup [.int 2, .int 1]]]) (.int (n3 % 4)) = .ok (hsD (some b)) := by
        have : n3 % 4 = 0 ∨ n3 % 4 = 1 ∨ n3 % 4 = 2 ∨ n3 % 4 = 3 := by omega
        rcases this with h | h | h | h <;> rw [h]
        · exact ⟨[(0, p.day + 1)], by simp, rfl⟩
        · exact ⟨[(0, 0)], by simp, rfl⟩
        · exact ⟨[(1, 2), (2, 3)], by simp, rfl⟩
        · exact ⟨[(0, 1), (2, 1)], by simp, rfl⟩
      refine ⟨.hours r.nm r.hs (some b), ?_, rhs, fun l e => by cases e; exact hb⟩
      have ed : Chg.d (.hours r.nm r.hs (some b)) = .tup [.str w, .str r.nm, hsD r.hs, hsD (some b)] := by rw [w6]; rfl
      rw [ed]
      generalize (p.ro.map (·.nm)).map D.str = RN at *
      generalize p.ro.map Rd.d = RD at *
      simp -implicitDefEqProofs only [B1, B2, A0, A1, L1, mIf, okb, mk12, i0, f1_1, toInt_i, m12, ew, p3, it3] at c0 cn1 cn2 ⊢
      rw [c0]
      simp -implicitDefEqProofs only [okb]
      rw [cn1]
      simp -implicitDefEqProofs only [okb, Bool.false_eq_true, if_false]
      rw [cn2]
      simp -implicitDefEqProofs only [okb, Bool.false_eq_true, if_false, if_true, add_ii, i1, i2, i3, f1_1, toInt_i, lro, mro, er, e4, e5, e6, m9, q, x0, x5, p0, mk2, mk1, mk4, m4, eb]
    · rw [decide_eq_false c] at q
      refine ⟨.hours r.nm r.hs hh, ?_, rhs, fun l e => by have := (hok l e).2; omega⟩
      have ed : Chg.d (.hours r.nm r.hs hh) = .tup [.str w, .str r.nm, hsD r.hs, hsD hh] := by rw [w6]; rfl
      rw [ed]
      generalize (p.ro.map (·.nm)).map D.str = RN at *
      generalize p.ro.map Rd.d = RD at *
      simp -implicitDefEqProofs only [B1, B2, A0, A1, L1, mIf, okb, mk12, i0, f1_1, toInt_i, m12, ew, p3, it3] at c0 cn1 cn2 ⊢
      rw [c0]
      simp -implicitDefEqProofs only [okb]
      rw [cn1]
      simp -implicitDefEqProofs only [okb, Bool.false_eq_true, if_false]
      rw [cn2]
      simp -implicitDefEqProofs only [okb, Bool.false_eq_true, if_false, if_true, add_ii, i1, i2, i3, f1_1, toInt_i, lro, mro, er, e4, e5, e6, m9, q, x0, x5, p0, eh, mk4]
  rw [decide_eq_false w6] at e6
  by_cases w7 : w = "kinds"
  · rw [decide_eq_true w7] at e7
    have m7 : D.mod (.int n2) (.int 7) = .ok (.int (n2 % 7)) := mod_ok (by omega)
    have m3 : D.mod (.int n3) (.int 3) = .ok (.int (n3 % 3)) := mod_ok (by omega)
    have q : D.eq (.int (n2 % 7)) (.int 0) = .ok (decide (n2 % 7 = 0)) := eq_ii
    by_cases c : n2 % 7 = 0
    · rw [decide_eq_true c] at q
      have s1 : D.sl (tupD D.str p.ki) none (some 1) = .ok (tupD D.str (p.ki.take 1)) := by
        unfold tupD
        rw [sl_t, cut_take _ (by omega), ← List.map_take]
        rfl
      have ad : D.add (tupD D.str p.ki) (tupD D.str (p.ki.take 1)) = .ok (tupD D.str (p.ki ++ p.ki.take 1)) := by
        unfold tupD
        rw [add_tt, need_p (by rw [PySem.sizeLine_eq, List.length_map, List.length_map, List.length_take]; omega), okb, List.map_append]
      have rv : (match tupD D.str p.ki with | .tup l => .ok (.tup l.reverse) | _ => stuck : M D) = .ok (tupD D.str p.ki.reverse) := by
        show (Except.ok (D.tup (p.ki.map D.str).reverse) : M D) = _
        rw [← List.map_reverse]
        rfl
      obtain ⟨b, hb, eb⟩ : ∃ b : List Str, b.length ≤ 10 ∧ D.ix (.tup [.tup [.str "zz"], tupD D.str p.ki.reverse, tupD D.str (p.ki ++ p.ki.take 1)]) (.int (n3 % 3)) = .ok (tupD D.str b) := by
        have : n3 % 3 = 0 ∨ n3 % 3 = 1 ∨ n3 % 3 = 2 := by omega
        rcases this with h | h | h <;> rw [h]
        · exact ⟨["zz"], by simp, rfl⟩
        · exact ⟨p.ki.reverse, by rw [List.length_reverse]; omega, rfl⟩
        · exact ⟨p.ki ++ p.ki.take 1, by rw [List.length_append, List.length_take]; omega, rfl⟩
      refine ⟨.kinds r.nm r.ks b, ?_, by omega, hb⟩
      have ed : Chg.d (.kinds r.nm r.ks b) = .tup [.str w, .str r.nm, tupD D.str r.ks, tupD D.str b] := by rw [w7]; rfl
      rw [ed]
      generalize (p.ro.map (·.nm)).map D.str = RN at *
      generalize p.ro.map Rd.d = RD at *
      have rv2 : (mRevT (B2 D.ix (.ok p.d) (.ok (.int 1))) : M D) = .ok (tupD D.str p.ki.reverse) := by
        have : (B2 D.ix (.ok p.d) (.ok (.int 1)) : M D) = .ok (tupD D.str p.ki) := p1
        rw [this]
        exact rv
      generalize tupD D.str p.ki.reverse = KR at *
      simp -implicitDefEqProofs only [B1, B2, A0, A1, L1, mIf, mRevT, okb, mk12, i0, f1_1, toInt_i, m12, ew, p3, it3] at c0 cn1 cn2 rv2 ⊢
      rw [c0]
      simp -implicitDefEqProofs only [okb]
      rw [cn1]
      simp -implicitDefEqProofs only [okb, Bool.false_eq_true, if_false]
      rw [cn2]
      simp -implicitDefEqProofs only [S3, oN, okb, Bool.false_eq_true, if_false, if_true, add_ii, i1, i2, i3, f1_1, toInt_i, lro, mro, er, e4, e5, e6, e7, m7, q, x0, x4, mk1, mk3, mk4, m3, bn]
      rw [rv2]
      simp -implicitDefEqProofs only [okb, p1, s1, ad, mk3, eb, mk4]
    · rw [decide_eq_false c] at q
      have mk : D.mod (.int n2) (.int ((p.ki.length : Nat) + 1)) = .ok (.int (n2 % ((p.ki.length : Nat) + 1))) := mod_ok (by omega)
      have z0 := Int.emod_nonneg n2 (b := ((p.ki.length : Nat) : Int) + 1) (by omega)
      have s1 : D.sl (tupD D.str p.ki) none (some (n2 % ((p.ki.length : Nat) + 1))) = .ok (tupD D.str (p.ki.take (n2 % ((p.ki.length : Nat) + 1)).toNat)) := by
        unfold tupD
        rw [sl_t, cut_take _ z0, ← List.map_take]
      refine ⟨.kinds r.nm r.ks (p.ki.take (n2 % ((p.ki.length : Nat) + 1)).toNat), ?_, by omega, by rw [List.length_take]; omega⟩
      generalize p.ki.take (n2 % ((p.ki.length : Nat) + 1)).toNat = b at *
      have ed : Chg.d (.kinds r.nm r.ks b) = .tup [.str w, .str r.nm, tupD D.str r.ks, tupD D.str b] := by rw [w7]; rfl
      rw [ed]
      generalize (p.ro.map (·.nm)).map D.str = RN at *
      generalize p.ro.map Rd.d = RD at *
      simp -implicitDefEqProofs only [B1, B2, A0, A1, L1, mIf, okb, mk12, i0, f1_1, toInt_i, m12, ew, p3, it3] at c0 cn1 cn2 ⊢
      rw [c0]
      simp -implicitDefEqProofs only [okb]
      rw [cn1]
      simp -implicitDefEqProofs only [okb, Bool.false_eq_true, if_false]
      rw [cn2]
      simp -implicitDefEqProofs only [S3, oN, okb, Bool.false_eq_true, if_false, if_true, add_ii, i1, i2, i3, f1_1, toInt_i, lro, mro, er, e4, e5, e6, e7, m7, q, x0, x4, p1, lki, mk, bn, s1, mk4]
  rw [decide_eq_false w7] at e7
  by_cases w8 : w = "unbar" ∧ 0 < p.ba.length
  · rw [decide_eq_true w8.1] at e8
    have g : D.gt (.int (p.ba.length : Nat)) (.int 0) = .ok true := by rw [gt_ii, decide_eq_true (by omega)]
    have mb : D.mod (.int n2) (.int (p.ba.length : Nat)) = .ok (.int (n2 % (p.ba.length : Nat))) := mod_ok (by omega)
    obtain ⟨b, hb, eb⟩ := ixmT (e := prS) (l := p.ba) (i := n2) w8.2
    have ad : D.add (.tup [.str w]) (prS b) = .ok (.tup [.str w, .str b.1, .str b.2]) := by
      show D.add (.tup [.str w]) (.tup [.str b.1, .str b.2]) = _
      rw [add_tt, need_p (by rw [PySem.sizeLine_eq]; simp), okb]
      rfl
    refine ⟨.bar true b.1 b.2, ?_, trivial⟩
    have ed : Chg.d (.bar true b.1 b.2) = .tup [.str w, .str b.1, .str b.2] := by rw [w8.1]; rfl
    rw [ed]
    generalize (p.ro.map (·.nm)).map D.str = RN at *
    generalize p.ro.map Rd.d = RD at *
    simp -implicitDefEqProofs only [B1, B2, A0, A1, L1, mIf, okb, mk12, i0, f1_1, toInt_i, m12, ew, p3, it3] at c0 cn1 cn2 ⊢
    rw [c0]
    simp -implicitDefEqProofs only [okb]
    rw [cn1]
    simp -implicitDefEqProofs only [okb, Bool.false_eq_true, if_false]
    rw [cn2]
    simp -implicitDefEqProofs only [mAnd, okb, Bool.false_eq_true, if_false, if_true, add_ii, i1, i2, i3, f1_1, toInt_i, lro, mro, er, e4, e5, e6, e7, e8, p4, lba, g, mk1, mb, eb, ad]
  · have cn3 : (mAnd (B2 D.eq (.ok (.str w)) (.ok (.str "unbar"))) (B2 D.gt (B1 (f1 D.len) (A1 (B2 D.ix (.ok p.d) (.ok (.int 4))) A0)) (.ok (.int 0))) : M Bool) = .ok false := by
      by_cases c : w = "unbar"
      · have g : D.gt (.int (p.ba.length : Nat)) (.int 0) = .ok false := by
          rw [gt_ii, decide_eq_false (fun h => w8 ⟨c, by omega⟩)]
        rw [decide_eq_true c] at e8
        simp -implicitDefEqProofs only [B1, B2, A0, A1, mAnd, okb, e8, if_true, p4, f1_1, lba, g]
      · rw [decide_eq_false c] at e8
        simp -implicitDefEqProofs only [B1, B2, A0, A1, mAnd, okb, e8, Bool.false_eq_true, if_false]
    have c1 : compL (fElt (fun other_1 => (B2 D.eq (B2 D.ix (.ok other_1) (.ok (.int 1))) (B2 D.ix (.ok r.d) (.ok (.int 2))))) (fun other_1 => (B2 D.ix (.ok other_1) (.ok (.int 0))))) (p.ro.map Rd.d) = .ok (((p.ro.filter fun q => decide (q.st = r.en)).map (·.nm)).map D.str) := by
      rw [List.map_map]
      exact compL_filterA (by omega) (fun q _ => by simp -implicitDefEqProofs only [B2, okb, r1, r2, eq_ss]) fun q _ _ => by
        simp -implicitDefEqProofs only [B2, okb, r0]
        rfl
    have s1 : D.sl (.lst ((p.ro.map (·.nm)).map D.str)) none (some 1) = .ok (.lst (((p.ro.map (·.nm)).take 1).map D.str)) := by
      rw [sl_l, cut_take _ (by omega), ← List.map_take]
      rfl
    have lf : (p.ro.filter fun q => decide (q.st = r.en)).length ≤ 60 := Nat.le_trans (List.length_filter_le _ _) ro1
    have ad : D.add (.lst (((p.ro.filter fun q => decide (q.st = r.en)).map (·.nm)).map D.str)) (.lst (((p.ro.map (·.nm)).take 1).map D.str)) = .ok (.lst ((((p.ro.filter fun q => decide (q.st = r.en)).map (·.nm)) ++ (p.ro.map (·.nm)).take 1).map D.str)) := by
      rw [add_ll, need_p (by rw [PySem.sizeLine_eq, List.length_map, List.length_map, List.length_map, List.length_take]; omega), okb, List.map_append]
    have lpos : 0 < (((p.ro.filter fun q => decide (q.st = r.en)).map (·.nm)) ++ (p.ro.map (·.nm)).take 1).length := by
      rw [List.length_append, List.length_take, List.length_map, List.length_map]
      omega
    have ll : D.len (.lst ((((p.ro.filter fun q => decide (q.st = r.en)).map (·.nm)) ++ (p.ro.map (·.nm)).take 1).map D.str)) = .ok (.int ((((p.ro.filter fun q => decide (q.st = r.en)).map (·.nm)) ++ (p.ro.map (·.nm)).take 1).length : Nat)) := by
      generalize (((p.ro.filter fun q => decide (q.st = r.en)).map (·.nm)) ++ (p.ro.map (·.nm)).take 1) = L
      simp
    generalize (((p.ro.filter fun q => decide (q.st = r.en)).map (·.nm)) ++ (p.ro.map (·.nm)).take 1) = L at ad lpos ll
    have ml : D.mod (.int n2) (.int (L.length : Nat)) = .ok (.int (n2 % (L.length : Nat))) := mod_ok (by omega)
    obtain ⟨y, hy, ey⟩ := str_ixm (l := L) (i := n2) lpos
    refine ⟨.bar false r.nm y, ?_, trivial⟩
    have ed : Chg.d (.bar false r.nm y) = .tup [.str "bar", .str r.nm, .str y] := rfl
    rw [ed]
    generalize L.map D.str = LD at *
    generalize ((p.ro.map (·.nm)).take 1).map D.str = TD at *
    generalize ((p.ro.filter fun q => decide (q.st = r.en)).map (·.nm)).map D.str = FD at *
    generalize (p.ro.map (·.nm)).map D.str = RN at *
    generalize p.ro.map Rd.d = RD at *
    simp -implicitDefEqProofs only [B1, B2, A0, A1, L1, mIf, okb, mk12, i0, f1_1, toInt_i, m12, ew, p3, it3] at c0 c1 cn1 cn2 cn3 ⊢
    rw [c0]
    simp -implicitDefEqProofs only [okb]
    rw [cn1]
    simp -implicitDefEqProofs only [okb, Bool.false_eq_true, if_false]
    rw [cn2]
    simp -implicitDefEqProofs only [S3, oN, okb, Bool.false_eq_true, if_false, if_true, add_ii, i1, i2, i3, f1_1, toInt_i, lro, mro, er, e4, e5, e6, e7] at cn3 ⊢
    rw [cn3]
    simp -implicitDefEqProofs only [okb, Bool.false_eq_true, if_false, x2, p3, it3] at c1 ⊢
    rw [c1]
    simp -implicitDefEqProofs only [okb, bn, s1, ad, x0, ll, ml, ey, mk3]
end
end LawMath

set_option Elab.async false
set_option linter.all false
set_option maxRecDepth 100000
set_option maxHeartbeats 4000000
namespace LawMath
open PySem DL LawWalk L2
abbrev Th := List Str
def thD (t : Th) : D := tupD D.str t
theorem en_th : En 15 thD := (en_tup (n := 0) en_str).le (by omega)
def lS (x y : Str) : Bool := decide (tl x < tl y)
theorem lS_irr (x : Str) : lS x x = false := decide_eq_false (List.lt_irrefl _)
theorem lS_tr {x y z : Str} (h : lS x y = true) (g : lS y z = true) : lS x z = true := decide_eq_true (List.lt_trans (of_decide_eq_true h) (of_decide_eq_true g))
theorem lS_tri {x y : Str} (h : lS x y = false) (g : lS y x = false) : x = y := by
  have h1 : ¬ tl x < tl y := of_decide_eq_false h
  have h2 : ¬ tl y < tl x := of_decide_eq_false g
  exact leS_anti (decide_eq_true (List.not_lt.mp h2)) (decide_eq_true (List.not_lt.mp h1))
def lT : Th → Th → Bool
  | [], [] => false
  | [], _ :: _ => true
  | _ :: _, [] => false
  | x :: xs, y :: ys => if x = y then lT xs ys else lS x y
theorem lT_irr : ∀ t : Th, lT t t = false
  | [] => rfl
  | x :: t => by
    unfold lT
    rw [if_pos rfl]
    exact lT_irr t
theorem lT_tr : ∀ {a b c : Th}, lT a b = true → lT b c = true → lT a c = true
  | [], _, [], h, g => by
    rename_i b
    cases b with
    | nil => exact h
    | cons y b => cases g
  | [], _, _ :: _, _, _ => rfl
  | _ :: _, [], _, h, _ => by cases h
  | _ :: _, _ :: _, [], _, g => by cases g
  | x :: a, y :: b, z :: c, h, g => by
    unfold lT at h g ⊢
    by_cases e1 : x = y
    · subst e1
      rw [if_pos rfl] at h
      by_cases e2 : x = z
      · rw [if_pos e2] at g ⊢
        exact lT_tr h g
      · rw [if_neg e2] at g ⊢
        exact g
    · rw [if_neg e1] at h
      by_cases e2 : y = z
      · subst e2
        rw [if_neg e1]
        exact h
      · rw [if_neg e2] at g
        have := lS_tr h g
        by_cases e3 : x = z
        · subst e3
          rw [lS_irr] at this
          cases this
        · rw [if_neg e3]
          exact this
theorem lT_tri : ∀ {a b : Th}, lT a b = false → lT b a = false → a = b
  | [], [], _, _ => rfl
  | [], _ :: _, h, _ => by cases h
  | _ :: _, [], _, g => by cases g
  | x :: a, y :: b, h, g => by
    unfold lT at h g
    by_cases e : x = y
    · subst e
      rw [if_pos rfl] at h g
      rw [lT_tri h g]
    · rw [if_neg e] at h
      rw [if_neg (fun z => e z.symm)] at g
      exact absurd (lS_tri h g) e
theorem lT_as {a b : Th} (h : lT a b = true) : lT b a = false := by
  cases e : lT b a with
  | false => rfl
  | true =>
    have := lT_tr h e
    rw [lT_irr] at this
    cases this
def leT (a b : Th) : Bool := !lT b a
theorem leT_total (a b : Th) : (leT a b || leT b a) = true := by
  unfold leT
  cases h : lT b a with
  | false => rfl
  | true => rw [lT_as h]; rfl
theorem leT_anti {a b : Th} (h1 : leT a b = true) (h2 : leT b a = true) : a = b := by
  unfold leT at h1 h2
  exact lT_tri (by simpa using h2) (by simpa using h1)
theorem leT_trans (a b c : Th) (h1 : leT a b = true) (h2 : leT b c = true) : leT a c = true := by
  unfold leT at *
  have h1 : lT b a = false := by simpa using h1
  have h2 : lT c b = false := by simpa using h2
  cases h : lT c a with
  | false => rfl
  | true =>
    exfalso
    cases e1 : lT a b with
    | true =>
      have := lT_tr h e1
      rw [h2] at this
      cases this
    | false =>
      have := lT_tri e1 h1
      subst this
      rw [h2] at h
      cases h
theorem lT_eq : ∀ a b : Th, PySem.W.listLt a b = lT a b
  | [], [] => rfl
  | [], _ :: _ => rfl
  | _ :: _, [] => rfl
  | x :: a, y :: b => by
    show (if x = y then PySem.W.listLt a b else PySem.W.DatumOrd.lt x y) = (if x = y then lT a b else lS x y)
    rw [lT_eq a b]
    rfl
theorem pyL_strs : ∀ l : List Str, D.pyL (l.map D.str) = l.map PyData.str
  | [] => rfl
  | x :: l => by
    rw [List.map_cons, List.map_cons, ← pyL_strs l]
    rfl
theorem th_py (t : Th) : (thD t).py = PyData.tuple (t.map PyData.str) := by
  show PyData.tuple (D.pyL (t.map D.str)) = _
  rw [pyL_strs]
theorem leD_th (a b : Th) : D.leD (thD a) (thD b) = leT a b := by
  unfold D.leD leT
  rw [th_py, th_py]
  have e := PySem.W.DatumOrd.lt_eq (PySem.W.Tup.mk b) (PySem.W.Tup.mk a)
  have e2 : PySem.W.dataLt (PyData.tuple (b.map PyData.str)) (PyData.tuple (a.map PyData.str)) = PySem.W.listLt b a := e
  rw [e2, lT_eq]
theorem alk_th (l : List Th) : D.alk (l.map thD) = true := by
  unfold D.alk
  refine List.all_eq_true.mpr fun x hx => List.all_eq_true.mpr fun y hy => ?_
  obtain ⟨a, _, rfl⟩ := List.mem_map.mp hx
  obtain ⟨b, _, rfl⟩ := List.mem_map.mp hy
  rw [th_py, th_py]
  exact PySem.W.DatumOrd.alike (PySem.W.Tup.mk a) (PySem.W.Tup.mk b)
def sortT (l : List Th) : List Th := l.mergeSort leT
theorem sortT_perm (l : List Th) : (sortT l).Perm l := List.mergeSort_perm l leT
theorem sortT_pw (l : List Th) : (sortT l).Pairwise (fun a b => leT a b = true) := List.pairwise_mergeSort leT_trans leT_total l
theorem sorted_th {l : List Th} (h : ∀ t ∈ l, t ≠ []) : D.sorted (.lst (l.map thD)) = .ok (.lst ((sortT l).map thD)) := by
  have ok : D.sortOk (l.map thD) = true := by
    unfold D.sortOk
    rw [alk_th, Bool.true_and, Bool.and_eq_true]
    refine ⟨List.all_eq_true.mpr fun x hx => ?_, ?_⟩
    · obtain ⟨a, _, rfl⟩ := List.mem_map.mp hx
      exact shp_le (en_th.shp a) (by omega)
    · have : (l.map thD).all D.tupN = true := List.all_eq_true.mpr fun x hx => by
        obtain ⟨a, ha, rfl⟩ := List.mem_map.mp hx
        cases a with
        | nil => exact absurd rfl (h _ ha)
        | cons y a => rfl
      rw [this]
      rfl
  show (need (D.sortOk (l.map thD)) >>= fun _ => (.ok (.lst (D.srt (l.map thD))) : M D)) = _
  rw [ok]
  have e : D.srt (l.map thD) = (sortT l).map thD := by
    unfold D.srt sortT
    rw [List.map_mergeSort (s := D.leD)]
    intro a _ b _
    exact (leD_th a b).symm
  rw [e]
  rfl
def ddp : List Th → List Th → List Th
  | acc, [] => acc
  | acc, t :: l => ddp (if t ∈ acc then acc else acc ++ [t]) l
theorem ddp_mem : ∀ (l acc : List Th) (x : Th), x ∈ ddp acc l ↔ x ∈ acc ∨ x ∈ l
  | [], acc, x => by simp [ddp]
  | t :: l, acc, x => by
    unfold ddp
    rw [ddp_mem l]
    by_cases h : t ∈ acc
    · rw [if_pos h, List.mem_cons]
      constructor
      · rintro (h1 | h1)
        · exact .inl h1
        · exact .inr (.inr h1)
      · rintro (h1 | rfl | h1)
        · exact .inl h1
        · exact .inl h
        · exact .inr h1
    · rw [if_neg h, List.mem_append, List.mem_singleton, List.mem_cons]
      constructor
      · rintro ((h1 | h1) | h1)
        · exact .inl h1
        · exact .inr (.inl h1)
        · exact .inr (.inr h1)
      · rintro (h1 | h1 | h1)
        · exact .inl (.inl h1)
        · exact .inl (.inr h1)
        · exact .inr h1
theorem ddp_nd : ∀ (l acc : List Th), acc.Nodup → (ddp acc l).Nodup
  | [], acc, h => h
  | t :: l, acc, h => by
    unfold ddp
    refine ddp_nd l _ ?_
    split
    · exact h
    · exact nodup_snoc h ‹_›
theorem ddp_len : ∀ (l acc : List Th), (ddp acc l).length ≤ acc.length + l.length
  | [], acc => by simp [ddp]
  | t :: l, acc => by
    unfold ddp
    refine Nat.le_trans (ddp_len l _) ?_
    split
    · rw [List.length_cons]; omega
    · rw [List.length_append, List.length_singleton, List.length_cons]; omega
theorem ddp_pw : ∀ (l acc : List Th), (acc ++ l).Pairwise (fun a b => leT a b = true) → (ddp acc l).Pairwise (fun a b => leT a b = true)
  | [], acc, h => by
    rw [List.append_nil] at h
    exact h
  | t :: l, acc, h => by
    unfold ddp
    refine ddp_pw l _ ?_
    split
    · exact h.sublist (List.Sublist.append (List.Sublist.refl _) (List.sublist_cons_self ..))
    · rw [List.append_assoc]
      exact h
def ordT (l : List Th) : List Th := ddp [] (sortT l)
theorem ordT_mem {l : List Th} {x : Th} : x ∈ ordT l ↔ x ∈ l := by
  unfold ordT
  rw [ddp_mem, (sortT_perm l).mem_iff]
  simp
theorem ordT_nd (l : List Th) : (ordT l).Nodup := ddp_nd _ _ List.nodup_nil
theorem ordT_pw (l : List Th) : (ordT l).Pairwise (fun a b => leT a b = true) := ddp_pw _ _ (by rw [List.nil_append]; exact sortT_pw l)
theorem ordT_len (l : List Th) : (ordT l).length ≤ l.length := by
  have := ddp_len (sortT l) []
  rw [(sortT_perm l).length_eq] at this
  unfold ordT
  simpa using this
theorem ordT_eq {l m : List Th} (h : ∀ x, x ∈ l ↔ x ∈ m) : ordT l = ordT m := by
  have p : (ordT l).Perm (ordT m) := (List.perm_ext_iff_of_nodup (ordT_nd l) (ordT_nd m)).mpr fun x => by rw [ordT_mem, ordT_mem, h]
  exact p.eq_of_pairwise (fun a b _ _ h1 h2 => leT_anti h1 h2) (ordT_pw l) (ordT_pw m)
def Chg.tch : Chg → Th
  | .place _ x => ["place", x]
  | .road _ r => ["road", r.nm]
  | .mins n _ _ => ["road", n]
  | .kinds n _ _ => ["road", n]
  | .hours n _ _ => ["road", n]
  | .bar _ a b => ["bar", a, b]
def Chg.lean : Chg → List Th
  | .road _ r => [["place", r.st], ["place", r.en]]
  | .bar _ a b => [["road", a], ["road", b]]
  | _ => []
theorem tch_ne (c : Chg) : c.tch ≠ [] := by cases c <;> exact List.cons_ne_nil _ _
theorem lean_ne {c : Chg} {t : Th} (h : t ∈ c.lean) : t ≠ [] := by
  cases c with
  | road un r =>
    simp only [Chg.lean, List.mem_cons, List.not_mem_nil, or_false] at h
    rcases h with rfl | rfl <;> exact List.cons_ne_nil _ _
  | bar un a b =>
    simp only [Chg.lean, List.mem_cons, List.not_mem_nil, or_false] at h
    rcases h with rfl | rfl <;> exact List.cons_ne_nil _ _
  | _ => simp [Chg.lean] at h
theorem lean_len (c : Chg) : c.lean.length ≤ 2 := by cases c <;> simp [Chg.lean]
def tchs (cs : List Chg) : List Th := cs.map Chg.tch
def leans (cs : List Chg) : List Th := cs.flatMap Chg.lean
theorem leans_len : ∀ cs : List Chg, (leans cs).length ≤ 2 * cs.length
  | [] => by simp [leans]
  | c :: cs => by
    have := leans_len cs
    have := lean_len c
    unfold leans at *
    rw [List.flatMap_cons, List.length_append, List.length_cons]
    omega
theorem tchs_ne {cs : List Chg} : ∀ t ∈ tchs cs, t ≠ [] := fun t h => by
  obtain ⟨c, _, rfl⟩ := List.mem_map.mp h
  exact tch_ne c
theorem leans_ne {cs : List Chg} : ∀ t ∈ leans cs, t ≠ [] := fun t h => by
  obtain ⟨c, _, h⟩ := List.mem_flatMap.mp h
  exact lean_ne h
def clsh (cs ds : List Chg) : List Th := ordT ((tchs cs).filter (fun t => decide (t ∈ tchs ds) || decide (t ∈ leans ds)) ++ (tchs ds).filter fun t => decide (t ∈ leans cs))
theorem clsh_comm (cs ds : List Chg) : clsh cs ds = clsh ds cs := ordT_eq fun x => by
  simp only [List.mem_append, List.mem_filter, Bool.or_eq_true, decide_eq_true_eq]
  constructor
  · rintro (⟨h1, h2 | h2⟩ | ⟨h1, h2⟩)
    · exact .inl ⟨h2, .inl h1⟩
    · exact .inr ⟨h1, h2⟩
    · exact .inl ⟨h1, .inr h2⟩
  · rintro (⟨h1, h2 | h2⟩ | ⟨h1, h2⟩)
    · exact .inl ⟨h2, .inl h1⟩
    · exact .inr ⟨h1, h2⟩
    · exact .inl ⟨h1, .inr h2⟩
end LawMath

set_option Elab.async false
set_option linter.all false
set_option maxRecDepth 100000
set_option maxHeartbeats 4000000
namespace LawMath
open PySem DL LawWalk L2
theorem mk2T (x y : D) : D.mkTup [x, y] = .ok (.tup [x, y]) := rfl
theorem mk3T (x y z : D) : D.mkTup [x, y, z] = .ok (.tup [x, y, z]) := rfl
theorem mk2L (x y : D) : D.mkLst [x, y] = .ok (.lst [x, y]) := rfl
theorem th_push {acc : List Th} (h : acc.length ≤ 1000) (t : Th) : (need (decide ((acc.map thD).length < sizeLine)) >>= fun _ => (.ok (acc.map thD ++ [thD t]) : M (List D))) = .ok ((acc ++ [t]).map thD) := by
  rw [need_p (by rw [PySem.sizeLine_eq, List.length_map]; omega), okb, List.map_append]
  rfl
theorem touched_l1 {acc : List Th} (h : acc.length ≤ 1000) : ∀ c : Chg, m_touched_l1 (acc.map thD) c.d = .ok ((acc ++ [c.tch]).map thD)
  | .place false x => by
    have ed : Chg.d (.place false x) = .tup [.str "place", .str x] := rfl
    have x0 : D.ix (.tup [.str "place", .str x]) (.int 0) = .ok (.str "place") := ix_natT (n := 0) rfl rfl
    have x1 : D.ix (.tup [.str "place", .str x]) (.int 1) = .ok (.str x) := ix_natT (n := 1) rfl rfl
    have q1 : D.mem (.str "place") (.tup [.str "place", .str "unplace"]) = .ok true := rfl
    have q2 : D.mem (.str "place") (.tup [.str "road", .str "unroad"]) = .ok false := rfl
    have q3 : D.inTab tl_FIELDS (.str "place") = .ok false := rfl
    have q4 : D.mem (.str "place") (.tup [.str "bar", .str "unbar"]) = .ok false := rfl
    have e0 : D.eq (.str "place") (.str "place") = .ok true := rfl
    have e1 : D.eq (.str "place") (.str "unplace") = .ok false := rfl
    have e2 : D.eq (.str "place") (.str "road") = .ok false := rfl
    have e3 : D.eq (.str "place") (.str "unroad") = .ok false := rfl
    have e4 : D.eq (.str "place") (.str "bar") = .ok false := rfl
    have e5 : D.eq (.str "place") (.str "unbar") = .ok false := rfl
    have ps : (need (decide ((acc.map thD).length < sizeLine)) >>= fun _ => (.ok (acc.map thD ++ [.tup [.str "place", .str x]]) : M (List D))) = .ok ((acc ++ [Chg.tch (.place false x)]).map thD) := th_push h [("place" : Str), x]
    rw [ed]
    unfold m_touched_l1
    generalize acc.map thD = Y at ps ⊢
    simp -implicitDefEqProofs only [B1, B2, A0, A1, mIf, mOr, mPush, okb, x0, x1, r0, mk2T, mk3T, q1, q2, q3, e0, e1, e2, e3, e4, e5, if_true, Bool.false_eq_true, if_false]
    rw [ps]
    rfl
  | .place true x => by
    have ed : Chg.d (.place true x) = .tup [.str "unplace", .str x] := rfl
    have x0 : D.ix (.tup [.str "unplace", .str x]) (.int 0) = .ok (.str "unplace") := ix_natT (n := 0) rfl rfl
    have x1 : D.ix (.tup [.str "unplace", .str x]) (.int 1) = .ok (.str x) := ix_natT (n := 1) rfl rfl
    have q1 : D.mem (.str "unplace") (.tup [.str "place", .str "unplace"]) = .ok true := rfl
    have q2 : D.mem (.str "unplace") (.tup [.str "road", .str "unroad"]) = .ok false := rfl
    have q3 : D.inTab tl_FIELDS (.str "unplace") = .ok false := rfl
    have q4 : D.mem (.str "unplace") (.tup [.str "bar", .str "unbar"]) = .ok false := rfl
    have e0 : D.eq (.str "unplace") (.str "place") = .ok false := rfl
    have e1 : D.eq (.str "unplace") (.str "unplace") = .ok true := rfl
    have e2 : D.eq (.str "unplace") (.str "road") = .ok false := rfl
    have e3 : D.eq (.str "unplace") (.str "unroad") = .ok false := rfl
    have e4 : D.eq (.str "unplace") (.str "bar") = .ok false := rfl
    have e5 : D.eq (.str "unplace") (.str "unbar") = .ok false := rfl
    have ps : (need (decide ((acc.map thD).length < sizeLine)) >>= fun _ => (.ok (acc.map thD ++ [.tup [.str "place", .str x]]) : M (List D))) = .ok ((acc ++ [Chg.tch (.place true x)]).map thD) := th_push h [("place" : Str), x]
    rw [ed]
    unfold m_touched_l1
    generalize acc.map thD = Y at ps ⊢
    simp -implicitDefEqProofs only [B1, B2, A0, A1, mIf, mOr, mPush, okb, x0, x1, r0, mk2T, mk3T, q1, q2, q3, e0, e1, e2, e3, e4, e5, if_true, Bool.false_eq_true, if_false]
    rw [ps]
    rfl
  | .road false r => by
    have ed : Chg.d (.road false r) = .tup [.str "road", r.d] := rfl
    have x0 : D.ix (.tup [.str "road", r.d]) (.int 0) = .ok (.str "road") := ix_natT (n := 0) rfl rfl
    have x1 : D.ix (.tup [.str "road", r.d]) (.int 1) = .ok (r.d) := ix_natT (n := 1) rfl rfl
    have q1 : D.mem (.str "road") (.tup [.str "place", .str "unplace"]) = .ok false := rfl
    have q2 : D.mem (.str "road") (.tup [.str "road", .str "unroad"]) = .ok true := rfl
    have q3 : D.inTab tl_FIELDS (.str "road") = .ok false := rfl
    have q4 : D.mem (.str "road") (.tup [.str "bar", .str "unbar"]) = .ok false := rfl
    have e0 : D.eq (.str "road") (.str "place") = .ok false := rfl
    have e1 : D.eq (.str "road") (.str "unplace") = .ok false := rfl
    have e2 : D.eq (.str "road") (.str "road") = .ok true := rfl
    have e3 : D.eq (.str "road") (.str "unroad") = .ok false := rfl
    have e4 : D.eq (.str "road") (.str "bar") = .ok false := rfl
    have e5 : D.eq (.str "road") (.str "unbar") = .ok false := rfl
    have ps : (need (decide ((acc.map thD).length < sizeLine)) >>= fun _ => (.ok (acc.map thD ++ [.tup [.str "road", .str r.nm]]) : M (List D))) = .ok ((acc ++ [Chg.tch (.road false r)]).map thD) := th_push h [("road" : Str), r.nm]
    rw [ed]
    unfold m_touched_l1
    generalize acc.map thD = Y at ps ⊢
    simp -implicitDefEqProofs only [B1, B2, A0, A1, mIf, mOr, mPush, okb, x0, x1, r0, mk2T, mk3T, q1, q2, q3, e0, e1, e2, e3, e4, e5, if_true, Bool.false_eq_true, if_false]
    rw [ps]
    rfl
  | .road true r => by
    have ed : Chg.d (.road true r) = .tup [.str "unroad", r.d] := rfl
    have x0 : D.ix (.tup [.str "unroad", r.d]) (.int 0) = .ok (.str "unroad") := ix_natT (n := 0) rfl rfl
    have x1 : D.ix (.tup [.str "unroad", r.d]) (.int 1) = .ok (r.d) := ix_natT (n := 1) rfl rfl
    have q1 : D.mem (.str "unroad") (.tup [.str "place", .str "unplace"]) = .ok false := rfl
    have q2 : D.mem (.str "unroad") (.tup [.str "road", .str "unroad"]) = .ok true := rfl
    have q3 : D.inTab tl_FIELDS (.str "unroad") = .ok false := rfl
    have q4 : D.mem (.str "unroad") (.tup [.str "bar", .str "unbar"]) = .ok false := rfl
    have e0 : D.eq (.str "unroad") (.str "place") = .ok false := rfl
    have e1 : D.eq (.str "unroad") (.str "unplace") = .ok false := rfl
    have e2 : D.eq (.str "unroad") (.str "road") = .ok false := rfl
    have e3 : D.eq (.str "unroad") (.str "unroad") = .ok true := rfl
    have e4 : D.eq (.str "unroad") (.str "bar") = .ok false := rfl
    have e5 : D.eq (.str "unroad") (.str "unbar") = .ok false := rfl
    have ps : (need (decide ((acc.map thD).length < sizeLine)) >>= fun _ => (.ok (acc.map thD ++ [.tup [.str "road", .str r.nm]]) : M (List D))) = .ok ((acc ++ [Chg.tch (.road true r)]).map thD) := th_push h [("road" : Str), r.nm]
    rw [ed]
    unfold m_touched_l1
    generalize acc.map thD = Y at ps ⊢
    simp -implicitDefEqProofs only [B1, B2, A0, A1, mIf, mOr, mPush, okb, x0, x1, r0, mk2T, mk3T, q1, q2, q3, e0, e1, e2, e3, e4, e5, if_true, Bool.false_eq_true, if_false]
    rw [ps]
    rfl
  | .mins n a b => by
    have ed : Chg.d (.mins n a b) = .tup [.str "minutes", .str n, .int a, .int b] := rfl
    have x0 : D.ix (.tup [.str "minutes", .str n, .int a, .int b]) (.int 0) = .ok (.str "minutes") := ix_natT (n := 0) rfl rfl
    have x1 : D.ix (.tup [.str "minutes", .str n, .int a, .int b]) (.int 1) = .ok (.str n) := ix_natT (n := 1) rfl rfl
    have q1 : D.mem (.str "minutes") (.tup [.str "place", .str "unplace"]) = .ok false := rfl
    have q2 : D.mem (.str "minutes") (.tup [.str "road", .str "unroad"]) = .ok false := rfl
    have q3 : D.inTab tl_FIELDS (.str "minutes") = .ok true := rfl
    have q4 : D.mem (.str "minutes") (.tup [.str "bar", .str "unbar"]) = .ok false := rfl
    have e0 : D.eq (.str "minutes") (.str "place") = .ok false := rfl
    have e1 : D.eq (.str "minutes") (.str "unplace") = .ok false := rfl
    have e2 : D.eq (.str "minutes") (.str "road") = .ok false := rfl
    have e3 : D.eq (.str "minutes") (.str "unroad") = .ok false := rfl
    have e4 : D.eq (.str "minutes") (.str "bar") = .ok false := rfl
    have e5 : D.eq (.str "minutes") (.str "unbar") = .ok false := rfl
    have ps : (need (decide ((acc.map thD).length < sizeLine)) >>= fun _ => (.ok (acc.map thD ++ [.tup [.str "road", .str n]]) : M (List D))) = .ok ((acc ++ [Chg.tch (.mins n a b)]).map thD) := th_push h [("road" : Str), n]
    rw [ed]
    unfold m_touched_l1
    generalize acc.map thD = Y at ps ⊢
    simp -implicitDefEqProofs only [B1, B2, A0, A1, mIf, mOr, mPush, okb, x0, x1, r0, mk2T, mk3T, q1, q2, q3, e0, e1, e2, e3, e4, e5, if_true, Bool.false_eq_true, if_false]
    rw [ps]
    rfl
  | .kinds n a b => by
    have ed : Chg.d (.kinds n a b) = .tup [.str "kinds", .str n, tupD D.str a, tupD D.str b] := rfl
    have x0 : D.ix (.tup [.str "kinds", .str n, tupD D.str a, tupD D.str b]) (.int 0) = .ok (.str "kinds") := ix_natT (n := 0) rfl rfl
    have x1 : D.ix (.tup [.str "kinds", .str n, tupD D.str a, tupD D.str b]) (.int 1) = .ok (.str n) := ix_natT (n := 1) rfl rfl
    have q1 : D.mem (.str "kinds") (.tup [.str "place", .str "unplace"]) = .ok false := rfl
    have q2 : D.mem (.str "kinds") (.tup [.str "road", .str "unroad"]) = .ok false := rfl
    have q3 : D.inTab tl_FIELDS (.str "kinds") = .ok true := rfl
    have q4 : D.mem (.str "kinds") (.tup [.str "bar", .str "unbar"]) = .ok false := rfl
    have e0 : D.eq (.str "kinds") (.str "place") = .ok false := rfl
    have e1 : D.eq (.str "kinds") (.str "unplace") = .ok false := rfl
    have e2 : D.eq (.str "kinds") (.str "road") = .ok false := rfl
    have e3 : D.eq (.str "kinds") (.str "unroad") = .ok false := rfl
    have e4 : D.eq (.str "kinds") (.str "bar") = .ok false := rfl
    have e5 : D.eq (.str "kinds") (.str "unbar") = .ok false := rfl
    have ps : (need (decide ((acc.map thD).length < sizeLine)) >>= fun _ => (.ok (acc.map thD ++ [.tup [.str "road", .str n]]) : M (List D))) = .ok ((acc ++ [Chg.tch (.kinds n a b)]).map thD) := th_push h [("road" : Str), n]
    rw [ed]
    unfold m_touched_l1
    generalize acc.map thD = Y at ps ⊢
    simp -implicitDefEqProofs only [B1, B2, A0, A1, mIf, mOr, mPush, okb, x0, x1, r0, mk2T, mk3T, q1, q2, q3, e0, e1, e2, e3, e4, e5, if_true, Bool.false_eq_true, if_false]
    rw [ps]
    rfl
  | .hours n a b => by
    have ed : Chg.d (.hours n a b) = .tup [.str "hours", .str n, hsD a, hsD b] := rfl
    have x0 : D.ix (.tup [.str "hours", .str n, hsD a, hsD b]) (.int 0) = .ok (.str "hours") := ix_natT (n := 0) rfl rfl
    have x1 : D.ix (.tup [.str "hours", .str n, hsD a, hsD b]) (.int 1) = .ok (.str n) := ix_natT (n := 1) rfl rfl
    have q1 : D.mem (.str "hours") (.tup [.str "place", .str "unplace"]) = .ok false := rfl
    have q2 : D.mem (.str "hours") (.tup [.str "road", .str "unroad"]) = .ok false := rfl
    have q3 : D.inTab tl_FIELDS (.str "hours") = .ok true := rfl
    have q4 : D.mem (.str "hours") (.tup [.str "bar", .str "unbar"]) = .ok false := rfl
    have e0 : D.eq (.str "hours") (.str "place") = .ok false := rfl
    have e1 : D.eq (.str "hours") (.str "unplace") = .ok false := rfl
    have e2 : D.eq (.str "hours") (.str "road") = .ok false := rfl
    have e3 : D.eq (.str "hours") (.str "unroad") = .ok false := rfl
    have e4 : D.eq (.str "hours") (.str "bar") = .ok false := rfl
    have e5 : D.eq (.str "hours") (.str "unbar") = .ok false := rfl
    have ps : (need (decide ((acc.map thD).length < sizeLine)) >>= fun _ => (.ok (acc.map thD ++ [.tup [.str "road", .str n]]) : M (List D))) = .ok ((acc ++ [Chg.tch (.hours n a b)]).map thD) := th_push h [("road" : Str), n]
    rw [ed]
    unfold m_touched_l1
    generalize acc.map thD = Y at ps ⊢
    simp -implicitDefEqProofs only [B1, B2, A0, A1, mIf, mOr, mPush, okb, x0, x1, r0, mk2T, mk3T, q1, q2, q3, e0, e1, e2, e3, e4, e5, if_true, Bool.false_eq_true, if_false]
    rw [ps]
    rfl
  | .bar false a b => by
    have ed : Chg.d (.bar false a b) = .tup [.str "bar", .str a, .str b] := rfl
    have x0 : D.ix (.tup [.str "bar", .str a, .str b]) (.int 0) = .ok (.str "bar") := ix_natT (n := 0) rfl rfl
    have x1 : D.ix (.tup [.str "bar", .str a, .str b]) (.int 1) = .ok (.str a) := ix_natT (n := 1) rfl rfl
    have x2 : D.ix (.tup [.str "bar", .str a, .str b]) (.int 2) = .ok (.str b) := ix_natT (n := 2) rfl rfl
    have q1 : D.mem (.str "bar") (.tup [.str "place", .str "unplace"]) = .ok false := rfl
    have q2 : D.mem (.str "bar") (.tup [.str "road", .str "unroad"]) = .ok false := rfl
    have q3 : D.inTab tl_FIELDS (.str "bar") = .ok false := rfl
    have q4 : D.mem (.str "bar") (.tup [.str "bar", .str "unbar"]) = .ok true := rfl
    have e0 : D.eq (.str "bar") (.str "place") = .ok false := rfl
    have e1 : D.eq (.str "bar") (.str "unplace") = .ok false := rfl
    have e2 : D.eq (.str "bar") (.str "road") = .ok false := rfl
    have e3 : D.eq (.str "bar") (.str "unroad") = .ok false := rfl
    have e4 : D.eq (.str "bar") (.str "bar") = .ok true := rfl
    have e5 : D.eq (.str "bar") (.str "unbar") = .ok false := rfl
    have ps : (need (decide ((acc.map thD).length < sizeLine)) >>= fun _ => (.ok (acc.map thD ++ [.tup [.str "bar", .str a, .str b]]) : M (List D))) = .ok ((acc ++ [Chg.tch (.bar false a b)]).map thD) := th_push h [("bar" : Str), a, b]
    rw [ed]
    unfold m_touched_l1
    generalize acc.map thD = Y at ps ⊢
    simp -implicitDefEqProofs only [B1, B2, A0, A1, mIf, mOr, mPush, okb, x0, x1, x2, r0, mk2T, mk3T, q1, q2, q3, e0, e1, e2, e3, e4, e5, if_true, Bool.false_eq_true, if_false]
    rw [ps]
    rfl
  | .bar true a b => by
    have ed : Chg.d (.bar true a b) = .tup [.str "unbar", .str a, .str b] := rfl
    have x0 : D.ix (.tup [.str "unbar", .str a, .str b]) (.int 0) = .ok (.str "unbar") := ix_natT (n := 0) rfl rfl
    have x1 : D.ix (.tup [.str "unbar", .str a, .str b]) (.int 1) = .ok (.str a) := ix_natT (n := 1) rfl rfl
    have x2 : D.ix (.tup [.str "unbar", .str a, .str b]) (.int 2) = .ok (.str b) := ix_natT (n := 2) rfl rfl
    have q1 : D.mem (.str "unbar") (.tup [.str "place", .str "unplace"]) = .ok false := rfl
    have q2 : D.mem (.str "unbar") (.tup [.str "road", .str "unroad"]) = .ok false := rfl
    have q3 : D.inTab tl_FIELDS (.str "unbar") = .ok false := rfl
    have q4 : D.mem (.str "unbar") (.tup [.str "bar", .str "unbar"]) = .ok true := rfl
    have e0 : D.eq (.str "unbar") (.str "place") = .ok false := rfl
    have e1 : D.eq (.str "unbar") (.str "unplace") = .ok false := rfl
    have e2 : D.eq (.str "unbar") (.str "road") = .ok false := rfl
    have e3 : D.eq (.str "unbar") (.str "unroad") = .ok false := rfl
    have e4 : D.eq (.str "unbar") (.str "bar") = .ok false := rfl
    have e5 : D.eq (.str "unbar") (.str "unbar") = .ok true := rfl
    have ps : (need (decide ((acc.map thD).length < sizeLine)) >>= fun _ => (.ok (acc.map thD ++ [.tup [.str "bar", .str a, .str b]]) : M (List D))) = .ok ((acc ++ [Chg.tch (.bar true a b)]).map thD) := th_push h [("bar" : Str), a, b]
    rw [ed]
    unfold m_touched_l1
    generalize acc.map thD = Y at ps ⊢
    simp -implicitDefEqProofs only [B1, B2, A0, A1, mIf, mOr, mPush, okb, x0, x1, x2, r0, mk2T, mk3T, q1, q2, q3, e0, e1, e2, e3, e4, e5, if_true, Bool.false_eq_true, if_false]
    rw [ps]
    rfl

theorem law_touched_l1 {acc : List Th} (h : acc.length ≤ 1000) : ∀ c : Chg, m_law_touched_l1 (acc.map thD) c.d = .ok ((acc ++ [c.tch]).map thD)
  | .place false x => by
    have ed : Chg.d (.place false x) = .tup [.str "place", .str x] := rfl
    have x0 : D.ix (.tup [.str "place", .str x]) (.int 0) = .ok (.str "place") := ix_natT (n := 0) rfl rfl
    have x1 : D.ix (.tup [.str "place", .str x]) (.int 1) = .ok (.str x) := ix_natT (n := 1) rfl rfl
    have q1 : D.mem (.str "place") (.tup [.str "place", .str "unplace"]) = .ok true := rfl
    have q2 : D.mem (.str "place") (.tup [.str "road", .str "unroad"]) = .ok false := rfl
    have q3 : D.inTab tl_FIELDS (.str "place") = .ok false := rfl
    have q4 : D.mem (.str "place") (.tup [.str "bar", .str "unbar"]) = .ok false := rfl
    have e0 : D.eq (.str "place") (.str "place") = .ok true := rfl
    have e1 : D.eq (.str "place") (.str "unplace") = .ok false := rfl
    have e2 : D.eq (.str "place") (.str "road") = .ok false := rfl
    have e3 : D.eq (.str "place") (.str "unroad") = .ok false := rfl
    have e4 : D.eq (.str "place") (.str "bar") = .ok false := rfl
    have e5 : D.eq (.str "place") (.str "unbar") = .ok false := rfl
    have ps : (need (decide ((acc.map thD).length < sizeLine)) >>= fun _ => (.ok (acc.map thD ++ [.tup [.str "place", .str x]]) : M (List D))) = .ok ((acc ++ [Chg.tch (.place false x)]).map thD) := th_push h [("place" : Str), x]
    rw [ed]
    unfold m_law_touched_l1
    generalize acc.map thD = Y at ps ⊢
    simp -implicitDefEqProofs only [B1, B2, A0, A1, mIf, mOr, mPush, okb, x0, x1, r0, mk2T, mk3T, q1, q2, q3, e0, e1, e2, e3, e4, e5, if_true, Bool.false_eq_true, if_false]
    rw [ps]
    rfl
  | .place true x => by
    have ed : Chg.d (.place true x) = .tup [.str "unplace", .str x] := rfl
    have x0 : D.ix (.tup [.str "unplace", .str x]) (.int 0) = .ok (.str "unplace") := ix_natT (n := 0) rfl rfl
    have x1 : D.ix (.tup [.str "unplace", .str x]) (.int 1) = .ok (.str x) := ix_natT (n := 1) rfl rfl
    have q1 : D.mem (.str "unplace") (.tup [.str "place", .str "unplace"]) = .ok true := rfl
    have q2 : D.mem (.str "unplace") (.tup [.str "road", .str "unroad"]) = .ok false := rfl
    have q3 : D.inTab tl_FIELDS (.str "unplace") = .ok false := rfl
    have q4 : D.mem (.str "unplace") (.tup [.str "bar", .str "unbar"]) = .ok false := rfl
    have e0 : D.eq (.str "unplace") (.str "place") = .ok false := rfl
    have e1 : D.eq (.str "unplace") (.str "unplace") = .ok true := rfl
    have e2 : D.eq (.str "unplace") (.str "road") = .ok false := rfl
    have e3 : D.eq (.str "unplace") (.str "unroad") = .ok false := rfl
    have e4 : D.eq (.str "unplace") (.str "bar") = .ok false := rfl
    have e5 : D.eq (.str "unplace") (.str "unbar") = .ok false := rfl
    have ps : (need (decide ((acc.map thD).length < sizeLine)) >>= fun _ => (.ok (acc.map thD ++ [.tup [.str "place", .str x]]) : M (List D))) = .ok ((acc ++ [Chg.tch (.place true x)]).map thD) := th_push h [("place" : Str), x]
    rw [ed]
    unfold m_law_touched_l1
    generalize acc.map thD = Y at ps ⊢
    simp -implicitDefEqProofs only [B1, B2, A0, A1, mIf, mOr, mPush, okb, x0, x1, r0, mk2T, mk3T, q1, q2, q3, e0, e1, e2, e3, e4, e5, if_true, Bool.false_eq_true, if_false]
    rw [ps]
    rfl
  | .road false r => by
    have ed : Chg.d (.road false r) = .tup [.str "road", r.d] := rfl
    have x0 : D.ix (.tup [.str "road", r.d]) (.int 0) = .ok (.str "road") := ix_natT (n := 0) rfl rfl
    have x1 : D.ix (.tup [.str "road", r.d]) (.int 1) = .ok (r.d) := ix_natT (n := 1) rfl rfl
    have q1 : D.mem (.str "road") (.tup [.str "place", .str "unplace"]) = .ok false := rfl
    have q2 : D.mem (.str "road") (.tup [.str "road", .str "unroad"]) = .ok true := rfl
    have q3 : D.inTab tl_FIELDS (.str "road") = .ok false := rfl
    have q4 : D.mem (.str "road") (.tup [.str "bar", .str "unbar"]) = .ok false := rfl
    have e0 : D.eq (.str "road") (.str "place") = .ok false := rfl
    have e1 : D.eq (.str "road") (.str "unplace") = .ok false := rfl
    have e2 : D.eq (.str "road") (.str "road") = .ok true := rfl
    have e3 : D.eq (.str "road") (.str "unroad") = .ok false := rfl
    have e4 : D.eq (.str "road") (.str "bar") = .ok false := rfl
    have e5 : D.eq (.str "road") (.str "unbar") = .ok false := rfl
    have ps : (need (decide ((acc.map thD).length < sizeLine)) >>= fun _ => (.ok (acc.map thD ++ [.tup [.str "road", .str r.nm]]) : M (List D))) = .ok ((acc ++ [Chg.tch (.road false r)]).map thD) := th_push h [("road" : Str), r.nm]
    rw [ed]
    unfold m_law_touched_l1
    generalize acc.map thD = Y at ps ⊢
    simp -implicitDefEqProofs only [B1, B2, A0, A1, mIf, mOr, mPush, okb, x0, x1, r0, mk2T, mk3T, q1, q2, q3, e0, e1, e2, e3, e4, e5, if_true, Bool.false_eq_true, if_false]
    rw [ps]
    rfl
  | .road true r => by
    have ed : Chg.d (.road true r) = .tup [.str "unroad", r.d] := rfl
    have x0 : D.ix (.tup [.str "unroad", r.d]) (.int 0) = .ok (.str "unroad") := ix_natT (n := 0) rfl rfl
    have x1 : D.ix (.tup [.str "unroad", r.d]) (.int 1) = .ok (r.d) := ix_natT (n := 1) rfl rfl
    have q1 : D.mem (.str "unroad") (.tup [.str "place", .str "unplace"]) = .ok false := rfl
    have q2 : D.mem (.str "unroad") (.tup [.str "road", .str "unroad"]) = .ok true := rfl
    have q3 : D.inTab tl_FIELDS (.str "unroad") = .ok false := rfl
    have q4 : D.mem (.str "unroad") (.tup [.str "bar", .str "unbar"]) = .ok false := rfl
    have e0 : D.eq (.str "unroad") (.str "place") = .ok false := rfl
    have e1 : D.eq (.str "unroad") (.str "unplace") = .ok false := rfl
    have e2 : D.eq (.str "unroad") (.str "road") = .ok false := rfl
    have e3 : D.eq (.str "unroad") (.str "unroad") = .ok true := rfl
    have e4 : D.eq (.str "unroad") (.str "bar") = .ok false := rfl
    have e5 : D.eq (.str "unroad") (.str "unbar") = .ok false := rfl
    have ps : (need (decide ((acc.map thD).length < sizeLine)) >>= fun _ => (.ok (acc.map thD ++ [.tup [.str "road", .str r.nm]]) : M (List D))) = .ok ((acc ++ [Chg.tch (.road true r)]).map thD) := th_push h [("road" : Str), r.nm]
    rw [ed]
    unfold m_law_touched_l1
    generalize acc.map thD = Y at ps ⊢
    simp -implicitDefEqProofs only [B1, B2, A0, A1, mIf, mOr, mPush, okb, x0, x1, r0, mk2T, mk3T, q1, q2, q3, e0, e1, e2, e3, e4, e5, if_true, Bool.false_eq_true, if_false]
    rw [ps]
    rfl
  | .mins n a b => by
    have ed : Chg.d (.mins n a b) = .tup [.str "minutes", .str n, .int a, .int b] := rfl
    have x0 : D.ix (.tup [.str "minutes", .str n, .int a, .int b]) (.int 0) = .ok (.str "minutes") := ix_natT (n := 0) rfl rfl
    have x1 : D.ix (.tup [.str "minutes", .str n, .int a, .int b]) (.int 1) = .ok (.str n) := ix_natT (n := 1) rfl rfl
    have q1 : D.mem (.str "minutes") (.tup [.str "place", .str "unplace"]) = .ok false := rfl
    have q2 : D.mem (.str "minutes") (.tup [.str "road", .str "unroad"]) = .ok false := rfl
    have q3 : D.inTab tl_FIELDS (.str "minutes") = .ok true := rfl
    have q4 : D.mem (.str "minutes") (.tup [.str "bar", .str "unbar"]) = .ok false := rfl
    have e0 : D.eq (.str "minutes") (.str "place") = .ok false := rfl
    have e1 : D.eq (.str "minutes") (.str "unplace") = .ok false := rfl
    have e2 : D.eq (.str "minutes") (.str "road") = .ok false := rfl
    have e3 : D.eq (.str "minutes") (.str "unroad") = .ok false := rfl
    have e4 : D.eq (.str "minutes") (.str "bar") = .ok false := rfl
    have e5 : D.eq (.str "minutes") (.str "unbar") = .ok false := rfl
    have ps : (need (decide ((acc.map thD).length < sizeLine)) >>= fun _ => (.ok (acc.map thD ++ [.tup [.str "road", .str n]]) : M (List D))) = .ok ((acc ++ [Chg.tch (.mins n a b)]).map thD) := th_push h [("road" : Str), n]
    rw [ed]
    unfold m_law_touched_l1
    generalize acc.map thD = Y at ps ⊢
    simp -implicitDefEqProofs only [B1, B2, A0, A1, mIf, mOr, mPush, okb, x0, x1, r0, mk2T, mk3T, q1, q2, q3, e0, e1, e2, e3, e4, e5, if_true, Bool.false_eq_true, if_false]
    rw [ps]
    rfl
  | .kinds n a b => by
    have ed : Chg.d (.kinds n a b) = .tup [.str "kinds", .str n, tupD D.str a, tupD D.str b] := rfl
    have x0 : D.ix (.tup [.str "kinds", .str n, tupD D.str a, tupD D.str b]) (.int 0) = .ok (.str "kinds") := ix_natT (n := 0) rfl rfl
    have x1 : D.ix (.tup [.str "kinds", .str n, tupD D.str a, tupD D.str b]) (.int 1) = .ok (.str n) := ix_natT (n := 1) rfl rfl
    have q1 : D.mem (.str "kinds") (.tup [.str "place", .str "unplace"]) = .ok false := rfl
    have q2 : D.mem (.str "kinds") (.tup [.str "road", .str "unroad"]) = .ok false := rfl
    have q3 : D.inTab tl_FIELDS (.str "kinds") = .ok true := rfl
    have q4 : D.mem (.str "kinds") (.tup [.str "bar", .str "unbar"]) = .ok false := rfl
    have e0 : D.eq (.str "kinds") (.str "place") = .ok false := rfl
    have e1 : D.eq (.str "kinds") (.str "unplace") = .ok false := rfl
    have e2 : D.eq (.str "kinds") (.str "road") = .ok false := rfl
    have e3 : D.eq (.str "kinds") (.str "unroad") = .ok false := rfl
    have e4 : D.eq (.str "kinds") (.str "bar") = .ok false := rfl
    have e5 : D.eq (.str "kinds") (.str "unbar") = .ok false := rfl
    have ps : (need (decide ((acc.map thD).length < sizeLine)) >>= fun _ => (.ok (acc.map thD ++ [.tup [.str "road", .str n]]) : M (List D))) = .ok ((acc ++ [Chg.tch (.kinds n a b)]).map thD) := th_push h [("road" : Str), n]
    rw [ed]
    unfold m_law_touched_l1
    generalize acc.map thD = Y at ps ⊢
    simp -implicitDefEqProofs only [B1, B2, A0, A1, mIf, mOr, mPush, okb, x0, x1, r0, mk2T, mk3T, q1, q2, q3, e0, e1, e2, e3, e4, e5, if_true, Bool.false_eq_true, if_false]
    rw [ps]
    rfl
  | .hours n a b => by
    have ed : Chg.d (.hours n a b) = .tup [.str "hours", .str n, hsD a, hsD b] := rfl
    have x0 : D.ix (.tup [.str "hours", .str n, hsD a, hsD b]) (.int 0) = .ok (.str "hours") := ix_natT (n := 0) rfl rfl
    have x1 : D.ix (.tup [.str "hours", .str n, hsD a, hsD b]) (.int 1) = .ok (.str n) := ix_natT (n := 1) rfl rfl
    have q1 : D.mem (.str "hours") (.tup [.str "place", .str "unplace"]) = .ok false := rfl
    have q2 : D.mem (.str "hours") (.tup [.str "road", .str "unroad"]) = .ok false := rfl
    have q3 : D.inTab tl_FIELDS (.str "hours") = .ok true := rfl
    have q4 : D.mem (.str "hours") (.tup [.str "bar", .str "unbar"]) = .ok false := rfl
    have e0 : D.eq (.str "hours") (.str "place") = .ok false := rfl
    have e1 : D.eq (.str "hours") (.str "unplace") = .ok false := rfl
    have e2 : D.eq (.str "hours") (.str "road") = .ok false := rfl
    have e3 : D.eq (.str "hours") (.str "unroad") = .ok false := rfl
    have e4 : D.eq (.str "hours") (.str "bar") = .ok false := rfl
    have e5 : D.eq (.str "hours") (.str "unbar") = .ok false := rfl
    have ps : (need (decide ((acc.map thD).length < sizeLine)) >>= fun _ => (.ok (acc.map thD ++ [.tup [.str "road", .str n]]) : M (List D))) = .ok ((acc ++ [Chg.tch (.hours n a b)]).map thD) := th_push h [("road" : Str), n]
    rw [ed]
    unfold m_law_touched_l1
    generalize acc.map thD = Y at ps ⊢
    simp -implicitDefEqProofs only [B1, B2, A0, A1, mIf, mOr, mPush, okb, x0, x1, r0, mk2T, mk3T, q1, q2, q3, e0, e1, e2, e3, e4, e5, if_true, Bool.false_eq_true, if_false]
    rw [ps]
    rfl
  | .bar false a b => by
    have ed : Chg.d (.bar false a b) = .tup [.str "bar", .str a, .str b] := rfl
    have x0 : D.ix (.tup [.str "bar", .str a, .str b]) (.int 0) = .ok (.str "bar") := ix_natT (n := 0) rfl rfl
    have x1 : D.ix (.tup [.str "bar", .str a, .str b]) (.int 1) = .ok (.str a) := ix_natT (n := 1) rfl rfl
    have x2 : D.ix (.tup [.str "bar", .str a, .str b]) (.int 2) = .ok (.str b) := ix_natT (n := 2) rfl rfl
    have q1 : D.mem (.str "bar") (.tup [.str "place", .str "unplace"]) = .ok false := rfl
    have q2 : D.mem (.str "bar") (.tup [.str "road", .str "unroad"]) = .ok false := rfl
    have q3 : D.inTab tl_FIELDS (.str "bar") = .ok false := rfl
    have q4 : D.mem (.str "bar") (.tup [.str "bar", .str "unbar"]) = .ok true := rfl
    have e0 : D.eq (.str "bar") (.str "place") = .ok false := rfl
    have e1 : D.eq (.str "bar") (.str "unplace") = .ok false := rfl
    have e2 : D.eq (.str "bar") (.str "road") = .ok false := rfl
    have e3 : D.eq (.str "bar") (.str "unroad") = .ok false := rfl
    have e4 : D.eq (.str "bar") (.str "bar") = .ok true := rfl
    have e5 : D.eq (.str "bar") (.str "unbar") = .ok false := rfl
    have ps : (need (decide ((acc.map thD).length < sizeLine)) >>= fun _ => (.ok (acc.map thD ++ [.tup [.str "bar", .str a, .str b]]) : M (List D))) = .ok ((acc ++ [Chg.tch (.bar false a b)]).map thD) := th_push h [("bar" : Str), a, b]
    rw [ed]
    unfold m_law_touched_l1
    generalize acc.map thD = Y at ps ⊢
    simp -implicitDefEqProofs only [B1, B2, A0, A1, mIf, mOr, mPush, okb, x0, x1, x2, r0, mk2T, mk3T, q1, q2, q3, e0, e1, e2, e3, e4, e5, if_true, Bool.false_eq_true, if_false]
    rw [ps]
    rfl
  | .bar true a b => by
    have ed : Chg.d (.bar true a b) = .tup [.str "unbar", .str a, .str b] := rfl
    have x0 : D.ix (.tup [.str "unbar", .str a, .str b]) (.int 0) = .ok (.str "unbar") := ix_natT (n := 0) rfl rfl
    have x1 : D.ix (.tup [.str "unbar", .str a, .str b]) (.int 1) = .ok (.str a) := ix_natT (n := 1) rfl rfl
    have x2 : D.ix (.tup [.str "unbar", .str a, .str b]) (.int 2) = .ok (.str b) := ix_natT (n := 2) rfl rfl
    have q1 : D.mem (.str "unbar") (.tup [.str "place", .str "unplace"]) = .ok false := rfl
    have q2 : D.mem (.str "unbar") (.tup [.str "road", .str "unroad"]) = .ok false := rfl
    have q3 : D.inTab tl_FIELDS (.str "unbar") = .ok false := rfl
    have q4 : D.mem (.str "unbar") (.tup [.str "bar", .str "unbar"]) = .ok true := rfl
    have e0 : D.eq (.str "unbar") (.str "place") = .ok false := rfl
    have e1 : D.eq (.str "unbar") (.str "unplace") = .ok false := rfl
    have e2 : D.eq (.str "unbar") (.str "road") = .ok false := rfl
    have e3 : D.eq (.str "unbar") (.str "unroad") = .ok false := rfl
    have e4 : D.eq (.str "unbar") (.str "bar") = .ok false := rfl
    have e5 : D.eq (.str "unbar") (.str "unbar") = .ok true := rfl
    have ps : (need (decide ((acc.map thD).length < sizeLine)) >>= fun _ => (.ok (acc.map thD ++ [.tup [.str "bar", .str a, .str b]]) : M (List D))) = .ok ((acc ++ [Chg.tch (.bar true a b)]).map thD) := th_push h [("bar" : Str), a, b]
    rw [ed]
    unfold m_law_touched_l1
    generalize acc.map thD = Y at ps ⊢
    simp -implicitDefEqProofs only [B1, B2, A0, A1, mIf, mOr, mPush, okb, x0, x1, x2, r0, mk2T, mk3T, q1, q2, q3, e0, e1, e2, e3, e4, e5, if_true, Bool.false_eq_true, if_false]
    rw [ps]
    rfl

theorem th_app {acc : List Th} (h : acc.length ≤ 1000) {l : List Th} (hl : l.length ≤ 1000) : D.add (.lst (acc.map thD)) (.lst (l.map thD)) = .ok (.lst ((acc ++ l).map thD)) := by
  rw [add_ll, need_p (by rw [PySem.sizeLine_eq, List.length_map, List.length_map]; omega), okb, List.map_append]
theorem th_ext {acc : List Th} (h : acc.length ≤ 1000) {l : List Th} (hl : l.length ≤ 1000) : extL (acc.map thD) (.lst (l.map thD)) = .ok ((acc ++ l).map thD) := by
  show (need (decide ((acc.map thD).length + (l.map thD).length ≤ sizeLine)) >>= fun _ => (.ok (acc.map thD ++ l.map thD) : M (List D))) = _
  rw [need_p (by rw [PySem.sizeLine_eq, List.length_map, List.length_map]; omega), okb, List.map_append]
theorem leaned_l1 {acc : List Th} (h : acc.length ≤ 1000) : ∀ c : Chg, m_leaned_on_l1 (acc.map thD) c.d = .ok ((acc ++ c.lean).map thD)
  | .place false x => by
    have ed : Chg.d (.place false x) = .tup [.str "place", .str x] := rfl
    have x0 : D.ix (.tup [.str "place", .str x]) (.int 0) = .ok (.str "place") := ix_natT (n := 0) rfl rfl
    have x1 : D.ix (.tup [.str "place", .str x]) (.int 1) = .ok (.str x) := ix_natT (n := 1) rfl rfl
    have q1 : D.mem (.str "place") (.tup [.str "place", .str "unplace"]) = .ok true := rfl
    have q2 : D.mem (.str "place") (.tup [.str "road", .str "unroad"]) = .ok false := rfl
    have q3 : D.inTab tl_FIELDS (.str "place") = .ok false := rfl
    have q4 : D.mem (.str "place") (.tup [.str "bar", .str "unbar"]) = .ok false := rfl
    have e0 : D.eq (.str "place") (.str "place") = .ok true := rfl
    have e1 : D.eq (.str "place") (.str "unplace") = .ok false := rfl
    have e2 : D.eq (.str "place") (.str "road") = .ok false := rfl
    have e3 : D.eq (.str "place") (.str "unroad") = .ok false := rfl
    have e4 : D.eq (.str "place") (.str "bar") = .ok false := rfl
    have e5 : D.eq (.str "place") (.str "unbar") = .ok false := rfl
    have ps : acc ++ Chg.lean (.place false x) = acc := List.append_nil _
    rw [ps]
    rw [ed]
    unfold m_leaned_on_l1
    generalize acc.map thD = Y at *
    simp -implicitDefEqProofs only [B1, B2, A0, A1, mIf, mOr, okb, x0, x1, r1, r2, mk2T, mk2L, q1, q2, q3, q4, e0, e1, e2, e3, e4, e5, if_true, Bool.false_eq_true, if_false]
  | .place true x => by
    have ed : Chg.d (.place true x) = .tup [.str "unplace", .str x] := rfl
    have x0 : D.ix (.tup [.str "unplace", .str x]) (.int 0) = .ok (.str "unplace") := ix_natT (n := 0) rfl rfl
    have x1 : D.ix (.tup [.str "unplace", .str x]) (.int 1) = .ok (.str x) := ix_natT (n := 1) rfl rfl
    have q1 : D.mem (.str "unplace") (.tup [.str "place", .str "unplace"]) = .ok true := rfl
    have q2 : D.mem (.str "unplace") (.tup [.str "road", .str "unroad"]) = .ok false := rfl
    have q3 : D.inTab tl_FIELDS (.str "unplace") = .ok false := rfl
    have q4 : D.mem (.str "unplace") (.tup [.str "bar", .str "unbar"]) = .ok false := rfl
    have e0 : D.eq (.str "unplace") (.str "place") = .ok false := rfl
    have e1 : D.eq (.str "unplace") (.str "unplace") = .ok true := rfl
    have e2 : D.eq (.str "unplace") (.str "road") = .ok false := rfl
    have e3 : D.eq (.str "unplace") (.str "unroad") = .ok false := rfl
    have e4 : D.eq (.str "unplace") (.str "bar") = .ok false := rfl
    have e5 : D.eq (.str "unplace") (.str "unbar") = .ok false := rfl
    have ps : acc ++ Chg.lean (.place true x) = acc := List.append_nil _
    rw [ps]
    rw [ed]
    unfold m_leaned_on_l1
    generalize acc.map thD = Y at *
    simp -implicitDefEqProofs only [B1, B2, A0, A1, mIf, mOr, okb, x0, x1, r1, r2, mk2T, mk2L, q1, q2, q3, q4, e0, e1, e2, e3, e4, e5, if_true, Bool.false_eq_true, if_false]
  | .road false r => by
    have ed : Chg.d (.road false r) = .tup [.str "road", r.d] := rfl
    have x0 : D.ix (.tup [.str "road", r.d]) (.int 0) = .ok (.str "road") := ix_natT (n := 0) rfl rfl
    have x1 : D.ix (.tup [.str "road", r.d]) (.int 1) = .ok (r.d) := ix_natT (n := 1) rfl rfl
    have q1 : D.mem (.str "road") (.tup [.str "place", .str "unplace"]) = .ok false := rfl
    have q2 : D.mem (.str "road") (.tup [.str "road", .str "unroad"]) = .ok true := rfl
    have q3 : D.inTab tl_FIELDS (.str "road") = .ok false := rfl
    have q4 : D.mem (.str "road") (.tup [.str "bar", .str "unbar"]) = .ok false := rfl
    have e0 : D.eq (.str "road") (.str "place") = .ok false := rfl
    have e1 : D.eq (.str "road") (.str "unplace") = .ok false := rfl
    have e2 : D.eq (.str "road") (.str "road") = .ok true := rfl
    have e3 : D.eq (.str "road") (.str "unroad") = .ok false := rfl
    have e4 : D.eq (.str "road") (.str "bar") = .ok false := rfl
    have e5 : D.eq (.str "road") (.str "unbar") = .ok false := rfl
    have ps : extL (acc.map thD) (.lst [.tup [.str "place", .str r.st], .tup [.str "place", .str r.en]]) = .ok ((acc ++ Chg.lean (.road false r)).map thD) := th_ext h (l := [[("place" : Str), r.st], [("place" : Str), r.en]]) (by simp)
    rw [ed]
    unfold m_leaned_on_l1
    generalize acc.map thD = Y at *
    simp -implicitDefEqProofs only [B1, B2, A0, A1, mIf, mOr, okb, x0, x1, r1, r2, mk2T, mk2L, q1, q2, q3, q4, e0, e1, e2, e3, e4, e5, if_true, Bool.false_eq_true, if_false, ps]
  | .road true r => by
    have ed : Chg.d (.road true r) = .tup [.str "unroad", r.d] := rfl
    have x0 : D.ix (.tup [.str "unroad", r.d]) (.int 0) = .ok (.str "unroad") := ix_natT (n := 0) rfl rfl
    have x1 : D.ix (.tup [.str "unroad", r.d]) (.int 1) = .ok (r.d) := ix_natT (n := 1) rfl rfl
    have q1 : D.mem (.str "unroad") (.tup [.str "place", .str "unplace"]) = .ok false := rfl
    have q2 : D.mem (.str "unroad") (.tup [.str "road", .str "unroad"]) = .ok true := rfl
    have q3 : D.inTab tl_FIELDS (.str "unroad") = .ok false := rfl
    have q4 : D.mem (.str "unroad") (.tup [.str "bar", .str "unbar"]) = .ok false := rfl
    have e0 : D.eq (.str "unroad") (.str "place") = .ok false := rfl
    have e1 : D.eq (.str "unroad") (.str "unplace") = .ok false := rfl
    have e2 : D.eq (.str "unroad") (.str "road") = .ok false := rfl
    have e3 : D.eq (.str "unroad") (.str "unroad") = .ok true := rfl
    have e4 : D.eq (.str "unroad") (.str "bar") = .ok false := rfl
    have e5 : D.eq (.str "unroad") (.str "unbar") = .ok false := rfl
    have ps : extL (acc.map thD) (.lst [.tup [.str "place", .str r.st], .tup [.str "place", .str r.en]]) = .ok ((acc ++ Chg.lean (.road true r)).map thD) := th_ext h (l := [[("place" : Str), r.st], [("place" : Str), r.en]]) (by simp)
    rw [ed]
    unfold m_leaned_on_l1
    generalize acc.map thD = Y at *
    simp -implicitDefEqProofs only [B1, B2, A0, A1, mIf, mOr, okb, x0, x1, r1, r2, mk2T, mk2L, q1, q2, q3, q4, e0, e1, e2, e3, e4, e5, if_true, Bool.false_eq_true, if_false, ps]
  | .mins n a b => by
    have ed : Chg.d (.mins n a b) = .tup [.str "minutes", .str n, .int a, .int b] := rfl
    have x0 : D.ix (.tup [.str "minutes", .str n, .int a, .int b]) (.int 0) = .ok (.str "minutes") := ix_natT (n := 0) rfl rfl
    have x1 : D.ix (.tup [.str "minutes", .str n, .int a, .int b]) (.int 1) = .ok (.str n) := ix_natT (n := 1) rfl rfl
    have q1 : D.mem (.str "minutes") (.tup [.str "place", .str "unplace"]) = .ok false := rfl
    have q2 : D.mem (.str "minutes") (.tup [.str "road", .str "unroad"]) = .ok false := rfl
    have q3 : D.inTab tl_FIELDS (.str "minutes") = .ok true := rfl
    have q4 : D.mem (.str "minutes") (.tup [.str "bar", .str "unbar"]) = .ok false := rfl
    have e0 : D.eq (.str "minutes") (.str "place") = .ok false := rfl
    have e1 : D.eq (.str "minutes") (.str "unplace") = .ok false := rfl
    have e2 : D.eq (.str "minutes") (.str "road") = .ok false := rfl
    have e3 : D.eq (.str "minutes") (.str "unroad") = .ok false := rfl
    have e4 : D.eq (.str "minutes") (.str "bar") = .ok false := rfl
    have e5 : D.eq (.str "minutes") (.str "unbar") = .ok false := rfl
    have ps : acc ++ Chg.lean (.mins n a b) = acc := List.append_nil _
    rw [ps]
    rw [ed]
    unfold m_leaned_on_l1
    generalize acc.map thD = Y at *
    simp -implicitDefEqProofs only [B1, B2, A0, A1, mIf, mOr, okb, x0, x1, r1, r2, mk2T, mk2L, q1, q2, q3, q4, e0, e1, e2, e3, e4, e5, if_true, Bool.false_eq_true, if_false]
  | .kinds n a b => by
    have ed : Chg.d (.kinds n a b) = .tup [.str "kinds", .str n, tupD D.str a, tupD D.str b] := rfl
    have x0 : D.ix (.tup [.str "kinds", .str n, tupD D.str a, tupD D.str b]) (.int 0) = .ok (.str "kinds") := ix_natT (n := 0) rfl rfl
    have x1 : D.ix (.tup [.str "kinds", .str n, tupD D.str a, tupD D.str b]) (.int 1) = .ok (.str n) := ix_natT (n := 1) rfl rfl
    have q1 : D.mem (.str "kinds") (.tup [.str "place", .str "unplace"]) = .ok false := rfl
    have q2 : D.mem (.str "kinds") (.tup [.str "road", .str "unroad"]) = .ok false := rfl
    have q3 : D.inTab tl_FIELDS (.str "kinds") = .ok true := rfl
    have q4 : D.mem (.str "kinds") (.tup [.str "bar", .str "unbar"]) = .ok false := rfl
    have e0 : D.eq (.str "kinds") (.str "place") = .ok false := rfl
    have e1 : D.eq (.str "kinds") (.str "unplace") = .ok false := rfl
    have e2 : D.eq (.str "kinds") (.str "road") = .ok false := rfl
    have e3 : D.eq (.str "kinds") (.str "unroad") = .ok false := rfl
    have e4 : D.eq (.str "kinds") (.str "bar") = .ok false := rfl
    have e5 : D.eq (.str "kinds") (.str "unbar") = .ok false := rfl
    have ps : acc ++ Chg.lean (.kinds n a b) = acc := List.append_nil _
    rw [ps]
    rw [ed]
    unfold m_leaned_on_l1
    generalize acc.map thD = Y at *
    simp -implicitDefEqProofs only [B1, B2, A0, A1, mIf, mOr, okb, x0, x1, r1, r2, mk2T, mk2L, q1, q2, q3, q4, e0, e1, e2, e3, e4, e5, if_true, Bool.false_eq_true, if_false]
  | .hours n a b => by
    have ed : Chg.d (.hours n a b) = .tup [.str "hours", .str n, hsD a, hsD b] := rfl
    have x0 : D.ix (.tup [.str "hours", .str n, hsD a, hsD b]) (.int 0) = .ok (.str "hours") := ix_natT (n := 0) rfl rfl
    have x1 : D.ix (.tup [.str "hours", .str n, hsD a, hsD b]) (.int 1) = .ok (.str n) := ix_natT (n := 1) rfl rfl
    have q1 : D.mem (.str "hours") (.tup [.str "place", .str "unplace"]) = .ok false := rfl
    have q2 : D.mem (.str "hours") (.tup [.str "road", .str "unroad"]) = .ok false := rfl
    have q3 : D.inTab tl_FIELDS (.str "hours") = .ok true := rfl
    have q4 : D.mem (.str "hours") (.tup [.str "bar", .str "unbar"]) = .ok false := rfl
    have e0 : D.eq (.str "hours") (.str "place") = .ok false := rfl
    have e1 : D.eq (.str "hours") (.str "unplace") = .ok false := rfl
    have e2 : D.eq (.str "hours") (.str "road") = .ok false := rfl
    have e3 : D.eq (.str "hours") (.str "unroad") = .ok false := rfl
    have e4 : D.eq (.str "hours") (.str "bar") = .ok false := rfl
    have e5 : D.eq (.str "hours") (.str "unbar") = .ok false := rfl
    have ps : acc ++ Chg.lean (.hours n a b) = acc := List.append_nil _
    rw [ps]
    rw [ed]
    unfold m_leaned_on_l1
    generalize acc.map thD = Y at *
    simp -implicitDefEqProofs only [B1, B2, A0, A1, mIf, mOr, okb, x0, x1, r1, r2, mk2T, mk2L, q1, q2, q3, q4, e0, e1, e2, e3, e4, e5, if_true, Bool.false_eq_true, if_false]
  | .bar false a b => by
    have ed : Chg.d (.bar false a b) = .tup [.str "bar", .str a, .str b] := rfl
    have x0 : D.ix (.tup [.str "bar", .str a, .str b]) (.int 0) = .ok (.str "bar") := ix_natT (n := 0) rfl rfl
    have x1 : D.ix (.tup [.str "bar", .str a, .str b]) (.int 1) = .ok (.str a) := ix_natT (n := 1) rfl rfl
    have x2 : D.ix (.tup [.str "bar", .str a, .str b]) (.int 2) = .ok (.str b) := ix_natT (n := 2) rfl rfl
    have q1 : D.mem (.str "bar") (.tup [.str "place", .str "unplace"]) = .ok false := rfl
    have q2 : D.mem (.str "bar") (.tup [.str "road", .str "unroad"]) = .ok false := rfl
    have q3 : D.inTab tl_FIELDS (.str "bar") = .ok false := rfl
    have q4 : D.mem (.str "bar") (.tup [.str "bar", .str "unbar"]) = .ok true := rfl
    have e0 : D.eq (.str "bar") (.str "place") = .ok false := rfl
    have e1 : D.eq (.str "bar") (.str "unplace") = .ok false := rfl
    have e2 : D.eq (.str "bar") (.str "road") = .ok false := rfl
    have e3 : D.eq (.str "bar") (.str "unroad") = .ok false := rfl
    have e4 : D.eq (.str "bar") (.str "bar") = .ok true := rfl
    have e5 : D.eq (.str "bar") (.str "unbar") = .ok false := rfl
    have ps : extL (acc.map thD) (.lst [.tup [.str "road", .str a], .tup [.str "road", .str b]]) = .ok ((acc ++ Chg.lean (.bar false a b)).map thD) := th_ext h (l := [[("road" : Str), a], [("road" : Str), b]]) (by simp)
    rw [ed]
    unfold m_leaned_on_l1
    generalize acc.map thD = Y at *
    simp -implicitDefEqProofs only [B1, B2, A0, A1, mIf, mOr, okb, x0, x1, x2, r1, r2, mk2T, mk2L, q1, q2, q3, q4, e0, e1, e2, e3, e4, e5, if_true, Bool.false_eq_true, if_false, ps]
  | .bar true a b => by
    have ed : Chg.d (.bar true a b) = .tup [.str "unbar", .str a, .str b] := rfl
    have x0 : D.ix (.tup [.str "unbar", .str a, .str b]) (.int 0) = .ok (.str "unbar") := ix_natT (n := 0) rfl rfl
    have x1 : D.ix (.tup [.str "unbar", .str a, .str b]) (.int 1) = .ok (.str a) := ix_natT (n := 1) rfl rfl
    have x2 : D.ix (.tup [.str "unbar", .str a, .str b]) (.int 2) = .ok (.str b) := ix_natT (n := 2) rfl rfl
    have q1 : D.mem (.str "unbar") (.tup [.str "place", .str "unplace"]) = .ok false := rfl
    have q2 : D.mem (.str "unbar") (.tup [.str "road", .str "unroad"]) = .ok false := rfl
    have q3 : D.inTab tl_FIELDS (.str "unbar") = .ok false := rfl
    have q4 : D.mem (.str "unbar") (.tup [.str "bar", .str "unbar"]) = .ok true := rfl
    have e0 : D.eq (.str "unbar") (.str "place") = .ok false := rfl
    have e1 : D.eq (.str "unbar") (.str "unplace") = .ok false := rfl
    have e2 : D.eq (.str "unbar") (.str "road") = .ok false := rfl
    have e3 : D.eq (.str "unbar") (.str "unroad") = .ok false := rfl
    have e4 : D.eq (.str "unbar") (.str "bar") = .ok false := rfl
    have e5 : D.eq (.str "unbar") (.str "unbar") = .ok true := rfl
    have ps : extL (acc.map thD) (.lst [.tup [.str "road", .str a], .tup [.str "road", .str b]]) = .ok ((acc ++ Chg.lean (.bar true a b)).map thD) := th_ext h (l := [[("road" : Str), a], [("road" : Str), b]]) (by simp)
    rw [ed]
    unfold m_leaned_on_l1
    generalize acc.map thD = Y at *
    simp -implicitDefEqProofs only [B1, B2, A0, A1, mIf, mOr, okb, x0, x1, x2, r1, r2, mk2T, mk2L, q1, q2, q3, q4, e0, e1, e2, e3, e4, e5, if_true, Bool.false_eq_true, if_false, ps]

theorem law_leaned_l1 {acc : List Th} (h : acc.length ≤ 1000) : ∀ c : Chg, m_law_leaned_l1 (.lst (acc.map thD)) c.d = .ok (.lst ((acc ++ c.lean).map thD))
  | .place false x => by
    have ed : Chg.d (.place false x) = .tup [.str "place", .str x] := rfl
    have x0 : D.ix (.tup [.str "place", .str x]) (.int 0) = .ok (.str "place") := ix_natT (n := 0) rfl rfl
    have x1 : D.ix (.tup [.str "place", .str x]) (.int 1) = .ok (.str x) := ix_natT (n := 1) rfl rfl
    have q1 : D.mem (.str "place") (.tup [.str "place", .str "unplace"]) = .ok true := rfl
    have q2 : D.mem (.str "place") (.tup [.str "road", .str "unroad"]) = .ok false := rfl
    have q3 : D.inTab tl_FIELDS (.str "place") = .ok false := rfl
    have q4 : D.mem (.str "place") (.tup [.str "bar", .str "unbar"]) = .ok false := rfl
    have e0 : D.eq (.str "place") (.str "place") = .ok true := rfl
    have e1 : D.eq (.str "place") (.str "unplace") = .ok false := rfl
    have e2 : D.eq (.str "place") (.str "road") = .ok false := rfl
    have e3 : D.eq (.str "place") (.str "unroad") = .ok false := rfl
    have e4 : D.eq (.str "place") (.str "bar") = .ok false := rfl
    have e5 : D.eq (.str "place") (.str "unbar") = .ok false := rfl
    have ps : acc ++ Chg.lean (.place false x) = acc := List.append_nil _
    rw [ps]
    rw [ed]
    unfold m_law_leaned_l1
    generalize acc.map thD = Y at *
    simp -implicitDefEqProofs only [B1, B2, A0, A1, mIf, mOr, okb, x0, x1, r1, r2, mk2T, mk2L, q1, q2, q3, q4, e0, e1, e2, e3, e4, e5, if_true, Bool.false_eq_true, if_false]
  | .place true x => by
    have ed : Chg.d (.place true x) = .tup [.str "unplace", .str x] := rfl
    have x0 : D.ix (.tup [.str "unplace", .str x]) (.int 0) = .ok (.str "unplace") := ix_natT (n := 0) rfl rfl
    have x1 : D.ix (.tup [.str "unplace", .str x]) (.int 1) = .ok (.str x) := ix_natT (n := 1) rfl rfl
    have q1 : D.mem (.str "unplace") (.tup [.str "place", .str "unplace"]) = .ok true := rfl
    have q2 : D.mem (.str "unplace") (.tup [.str "road", .str "unroad"]) = .ok false := rfl
    have q3 : D.inTab tl_FIELDS (.str "unplace") = .ok false := rfl
    have q4 : D.mem (.str "unplace") (.tup [.str "bar", .str "unbar"]) = .ok false := rfl
    have e0 : D.eq (.str "unplace") (.str "place") = .ok false := rfl
    have e1 : D.eq (.str "unplace") (.str "unplace") = .ok true := rfl
    have e2 : D.eq (.str "unplace") (.str "road") = .ok false := rfl
    have e3 : D.eq (.str "unplace") (.str "unroad") = .ok false := rfl
    have e4 : D.eq (.str "unplace") (.str "bar") = .ok false := rfl
    have e5 : D.eq (.str "unplace") (.str "unbar") = .ok false := rfl
    have ps : acc ++ Chg.lean (.place true x) = acc := List.append_nil _
    rw [ps]
    rw [ed]
    unfold m_law_leaned_l1
    generalize acc.map thD = Y at *
    simp -implicitDefEqProofs only [B1, B2, A0, A1, mIf, mOr, okb, x0, x1, r1, r2, mk2T, mk2L, q1, q2, q3, q4, e0, e1, e2, e3, e4, e5, if_true, Bool.false_eq_true, if_false]
  | .road false r => by
    have ed : Chg.d (.road false r) = .tup [.str "road", r.d] := rfl
    have x0 : D.ix (.tup [.str "road", r.d]) (.int 0) = .ok (.str "road") := ix_natT (n := 0) rfl rfl
    have x1 : D.ix (.tup [.str "road", r.d]) (.int 1) = .ok (r.d) := ix_natT (n := 1) rfl rfl
    have q1 : D.mem (.str "road") (.tup [.str "place", .str "unplace"]) = .ok false := rfl
    have q2 : D.mem (.str "road") (.tup [.str "road", .str "unroad"]) = .ok true := rfl
    have q3 : D.inTab tl_FIELDS (.str "road") = .ok false := rfl
    have q4 : D.mem (.str "road") (.tup [.str "bar", .str "unbar"]) = .ok false := rfl
    have e0 : D.eq (.str "road") (.str "place") = .ok false := rfl
    have e1 : D.eq (.str "road") (.str "unplace") = .ok false := rfl
    have e2 : D.eq (.str "road") (.str "road") = .ok true := rfl
    have e3 : D.eq (.str "road") (.str "unroad") = .ok false := rfl
    have e4 : D.eq (.str "road") (.str "bar") = .ok false := rfl
    have e5 : D.eq (.str "road") (.str "unbar") = .ok false := rfl
    have ps : D.add (.lst (acc.map thD)) (.lst [.tup [.str "place", .str r.st], .tup [.str "place", .str r.en]]) = .ok (.lst ((acc ++ Chg.lean (.road false r)).map thD)) := th_app h (l := [[("place" : Str), r.st], [("place" : Str), r.en]]) (by simp)
    rw [ed]
    unfold m_law_leaned_l1
    generalize acc.map thD = Y at *
    simp -implicitDefEqProofs only [B1, B2, A0, A1, mIf, mOr, okb, x0, x1, r1, r2, mk2T, mk2L, q1, q2, q3, q4, e0, e1, e2, e3, e4, e5, if_true, Bool.false_eq_true, if_false, ps]
  | .road true r => by
    have ed : Chg.d (.road true r) = .tup [.str "unroad", r.d] := rfl
    have x0 : D.ix (.tup [.str "unroad", r.d]) (.int 0) = .ok (.str "unroad") := ix_natT (n := 0) rfl rfl
    have x1 : D.ix (.tup [.str "unroad", r.d]) (.int 1) = .ok (r.d) := ix_natT (n := 1) rfl rfl
    have q1 : D.mem (.str "unroad") (.tup [.str "place", .str "unplace"]) = .ok false := rfl
    have q2 : D.mem (.str "unroad") (.tup [.str "road", .str "unroad"]) = .ok true := rfl
    have q3 : D.inTab tl_FIELDS (.str "unroad") = .ok false := rfl
    have q4 : D.mem (.str "unroad") (.tup [.str "bar", .str "unbar"]) = .ok false := rfl
    have e0 : D.eq (.str "unroad") (.str "place") = .ok false := rfl
    have e1 : D.eq (.str "unroad") (.str "unplace") = .ok false := rfl
    have e2 : D.eq (.str "unroad") (.str "road") = .ok false := rfl
    have e3 : D.eq (.str "unroad") (.str "unroad") = .ok true := rfl
    have e4 : D.eq (.str "unroad") (.str "bar") = .ok false := rfl
    have e5 : D.eq (.str "unroad") (.str "unbar") = .ok false := rfl
    have ps : D.add (.lst (acc.map thD)) (.lst [.tup [.str "place", .str r.st], .tup [.str "place", .str r.en]]) = .ok (.lst ((acc ++ Chg.lean (.road true r)).map thD)) := th_app h (l := [[("place" : Str), r.st], [("place" : Str), r.en]]) (by simp)
    rw [ed]
    unfold m_law_leaned_l1
    generalize acc.map thD = Y at *
    simp -implicitDefEqProofs only [B1, B2, A0, A1, mIf, mOr, okb, x0, x1, r1, r2, mk2T, mk2L, q1, q2, q3, q4, e0, e1, e2, e3, e4, e5, if_true, Bool.false_eq_true, if_false, ps]
  | .mins n a b => by
    have ed : Chg.d (.mins n a b) = .tup [.str "minutes", .str n, .int a, .int b] := rfl
    have x0 : D.ix (.tup [.str "minutes", .str n, .int a, .int b]) (.int 0) = .ok (.str "minutes") := ix_natT (n := 0) rfl rfl
    have x1 : D.ix (.tup [.str "minutes", .str n, .int a, .int b]) (.int 1) = .ok (.str n) := ix_natT (n := 1) rfl rfl
    have q1 : D.mem (.str "minutes") (.tup [.str "place", .str "unplace"]) = .ok false := rfl
    have q2 : D.mem (.str "minutes") (.tup [.str "road", .str "unroad"]) = .ok false := rfl
    have q3 : D.inTab tl_FIELDS (.str "minutes") = .ok true := rfl
    have q4 : D.mem (.str "minutes") (.tup [.str "bar", .str "unbar"]) = .ok false := rfl
    have e0 : D.eq (.str "minutes") (.str "place") = .ok false := rfl
    have e1 : D.eq (.str "minutes") (.str "unplace") = .ok false := rfl
    have e2 : D.eq (.str "minutes") (.str "road") = .ok false := rfl
    have e3 : D.eq (.str "minutes") (.str "unroad") = .ok false := rfl
    have e4 : D.eq (.str "minutes") (.str "bar") = .ok false := rfl
    have e5 : D.eq (.str "minutes") (.str "unbar") = .ok false := rfl
    have ps : acc ++ Chg.lean (.mins n a b) = acc := List.append_nil _
    rw [ps]
    rw [ed]
    unfold m_law_leaned_l1
    generalize acc.map thD = Y at *
    simp -implicitDefEqProofs only [B1, B2, A0, A1, mIf, mOr, okb, x0, x1, r1, r2, mk2T, mk2L, q1, q2, q3, q4, e0, e1, e2, e3, e4, e5, if_true, Bool.false_eq_true, if_false]
  | .kinds n a b => by
    have ed : Chg.d (.kinds n a b) = .tup [.str "kinds", .str n, tupD D.str a, tupD D.str b] := rfl
    have x0 : D.ix (.tup [.str "kinds", .str n, tupD D.str a, tupD D.str b]) (.int 0) = .ok (.str "kinds") := ix_natT (n := 0) rfl rfl
    have x1 : D.ix (.tup [.str "kinds", .str n, tupD D.str a, tupD D.str b]) (.int 1) = .ok (.str n) := ix_natT (n := 1) rfl rfl
    have q1 : D.mem (.str "kinds") (.tup [.str "place", .str "unplace"]) = .ok false := rfl
    have q2 : D.mem (.str "kinds") (.tup [.str "road", .str "unroad"]) = .ok false := rfl
    have q3 : D.inTab tl_FIELDS (.str "kinds") = .ok true := rfl
    have q4 : D.mem (.str "kinds") (.tup [.str "bar", .str "unbar"]) = .ok false := rfl
    have e0 : D.eq (.str "kinds") (.str "place") = .ok false := rfl
    have e1 : D.eq (.str "kinds") (.str "unplace") = .ok false := rfl
    have e2 : D.eq (.str "kinds") (.str "road") = .ok false := rfl
    have e3 : D.eq (.str "kinds") (.str "unroad") = .ok false := rfl
    have e4 : D.eq (.str "kinds") (.str "bar") = .ok false := rfl
    have e5 : D.eq (.str "kinds") (.str "unbar") = .ok false := rfl
    have ps : acc ++ Chg.lean (.kinds n a b) = acc := List.append_nil _
    rw [ps]
    rw [ed]
    unfold m_law_leaned_l1
    generalize acc.map thD = Y at *
    simp -implicitDefEqProofs only [B1, B2, A0, A1, mIf, mOr, okb, x0, x1, r1, r2, mk2T, mk2L, q1, q2, q3, q4, e0, e1, e2, e3, e4, e5, if_true, Bool.false_eq_true, if_false]
  | .hours n a b => by
    have ed : Chg.d (.hours n a b) = .tup [.str "hours", .str n, hsD a, hsD b] := rfl
    have x0 : D.ix (.tup [.str "hours", .str n, hsD a, hsD b]) (.int 0) = .ok (.str "hours") := ix_natT (n := 0) rfl rfl
    have x1 : D.ix (.tup [.str "hours", .str n, hsD a, hsD b]) (.int 1) = .ok (.str n) := ix_natT (n := 1) rfl rfl
    have q1 : D.mem (.str "hours") (.tup [.str "place", .str "unplace"]) = .ok false := rfl
    have q2 : D.mem (.str "hours") (.tup [.str "road", .str "unroad"]) = .ok false := rfl
    have q3 : D.inTab tl_FIELDS (.str "hours") = .ok true := rfl
    have q4 : D.mem (.str "hours") (.tup [.str "bar", .str "unbar"]) = .ok false := rfl
    have e0 : D.eq (.str "hours") (.str "place") = .ok false := rfl
    have e1 : D.eq (.str "hours") (.str "unplace") = .ok false := rfl
    have e2 : D.eq (.str "hours") (.str "road") = .ok false := rfl
    have e3 : D.eq (.str "hours") (.str "unroad") = .ok false := rfl
    have e4 : D.eq (.str "hours") (.str "bar") = .ok false := rfl
    have e5 : D.eq (.str "hours") (.str "unbar") = .ok false := rfl
    have ps : acc ++ Chg.lean (.hours n a b) = acc := List.append_nil _
    rw [ps]
    rw [ed]
    unfold m_law_leaned_l1
    generalize acc.map thD = Y at *
    simp -implicitDefEqProofs only [B1, B2, A0, A1, mIf, mOr, okb, x0, x1, r1, r2, mk2T, mk2L, q1, q2, q3, q4, e0, e1, e2, e3, e4, e5, if_true, Bool.false_eq_true, if_false]
  | .bar false a b => by
    have ed : Chg.d (.bar false a b) = .tup [.str "bar", .str a, .str b] := rfl
    have x0 : D.ix (.tup [.str "bar", .str a, .str b]) (.int 0) = .ok (.str "bar") := ix_natT (n := 0) rfl rfl
    have x1 : D.ix (.tup [.str "bar", .str a, .str b]) (.int 1) = .ok (.str a) := ix_natT (n := 1) rfl rfl
    have x2 : D.ix (.tup [.str "bar", .str a, .str b]) (.int 2) = .ok (.str b) := ix_natT (n := 2) rfl rfl
    have q1 : D.mem (.str "bar") (.tup [.str "place", .str "unplace"]) = .ok false := rfl
    have q2 : D.mem (.str "bar") (.tup [.str "road", .str "unroad"]) = .ok false := rfl
    have q3 : D.inTab tl_FIELDS (.str "bar") = .ok false := rfl
    have q4 : D.mem (.str "bar") (.tup [.str "bar", .str "unbar"]) = .ok true := rfl
    have e0 : D.eq (.str "bar") (.str "place") = .ok false := rfl
    have e1 : D.eq (.str "bar") (.str "unplace") = .ok false := rfl
    have e2 : D.eq (.str "bar") (.str "road") = .ok false := rfl
    have e3 : D.eq (.str "bar") (.str "unroad") = .ok false := rfl
    have e4 : D.eq (.str "bar") (.str "bar") = .ok true := rfl
    have e5 : D.eq (.str "bar") (.str "unbar") = .ok false := rfl
    have ps : D.add (.lst (acc.map thD)) (.lst [.tup [.str "road", .str a], .tup [.str "road", .str b]]) = .ok (.lst ((acc ++ Chg.lean (.bar false a b)).map thD)) := th_app h (l := [[("road" : Str), a], [("road" : Str), b]]) (by simp)
    rw [ed]
    unfold m_law_leaned_l1
    generalize acc.map thD = Y at *
    simp -implicitDefEqProofs only [B1, B2, A0, A1, mIf, mOr, okb, x0, x1, x2, r1, r2, mk2T, mk2L, q1, q2, q3, q4, e0, e1, e2, e3, e4, e5, if_true, Bool.false_eq_true, if_false, ps]
  | .bar true a b => by
    have ed : Chg.d (.bar true a b) = .tup [.str "unbar", .str a, .str b] := rfl
    have x0 : D.ix (.tup [.str "unbar", .str a, .str b]) (.int 0) = .ok (.str "unbar") := ix_natT (n := 0) rfl rfl
    have x1 : D.ix (.tup [.str "unbar", .str a, .str b]) (.int 1) = .ok (.str a) := ix_natT (n := 1) rfl rfl
    have x2 : D.ix (.tup [.str "unbar", .str a, .str b]) (.int 2) = .ok (.str b) := ix_natT (n := 2) rfl rfl
    have q1 : D.mem (.str "unbar") (.tup [.str "place", .str "unplace"]) = .ok false := rfl
    have q2 : D.mem (.str "unbar") (.tup [.str "road", .str "unroad"]) = .ok false := rfl
    have q3 : D.inTab tl_FIELDS (.str "unbar") = .ok false := rfl
    have q4 : D.mem (.str "unbar") (.tup [.str "bar", .str "unbar"]) = .ok true := rfl
    have e0 : D.eq (.str "unbar") (.str "place") = .ok false := rfl
    have e1 : D.eq (.str "unbar") (.str "unplace") = .ok false := rfl
    have e2 : D.eq (.str "unbar") (.str "road") = .ok false := rfl
    have e3 : D.eq (.str "unbar") (.str "unroad") = .ok false := rfl
    have e4 : D.eq (.str "unbar") (.str "bar") = .ok false := rfl
    have e5 : D.eq (.str "unbar") (.str "unbar") = .ok true := rfl
    have ps : D.add (.lst (acc.map thD)) (.lst [.tup [.str "road", .str a], .tup [.str "road", .str b]]) = .ok (.lst ((acc ++ Chg.lean (.bar true a b)).map thD)) := th_app h (l := [[("road" : Str), a], [("road" : Str), b]]) (by simp)
    rw [ed]
    unfold m_law_leaned_l1
    generalize acc.map thD = Y at *
    simp -implicitDefEqProofs only [B1, B2, A0, A1, mIf, mOr, okb, x0, x1, x2, r1, r2, mk2T, mk2L, q1, q2, q3, q4, e0, e1, e2, e3, e4, e5, if_true, Bool.false_eq_true, if_false, ps]

end LawMath

set_option Elab.async false
set_option linter.all false
set_option maxRecDepth 100000
set_option maxHeartbeats 4000000
namespace LawMath
open PySem DL LawWalk L2
theorem th_nmem (t : Th) (l : List Th) : D.nmem (thD t) (.lst (l.map thD)) = .ok (!decide (t ∈ l)) := en_th.nmem t l
theorem th_mem (t : Th) (l : List Th) : D.mem (thD t) (.lst (l.map thD)) = .ok (decide (t ∈ l)) := en_th.mem t l
theorem once_turn {f : List D → D → M (List D)} (hf : ∀ acc t, f acc t = (mIf (B2 D.nmem (.ok t) (.ok (.lst acc))) (mPush acc (.ok t) >>= fun z => (.ok z)) (.ok acc))) : ∀ (l acc : List Th), acc.length + l.length ≤ 1000 → loopF f (l.map thD) (acc.map thD) = .ok ((ddp acc l).map thD)
  | [], acc, _ => rfl
  | t :: l, acc, h => by
    rw [List.length_cons] at h
    have nm := th_nmem t acc
    have ps := th_push (acc := acc) (by omega) t
    have e : f (acc.map thD) (thD t) = .ok ((if t ∈ acc then acc else acc ++ [t]).map thD) := by
      rw [hf]
      by_cases c : t ∈ acc
      · rw [decide_eq_true c] at nm
        rw [if_pos c]
        simp -implicitDefEqProofs only [B2, mIf, okb, nm, Bool.not_true, Bool.false_eq_true, if_false]
      · rw [decide_eq_false c] at nm
        rw [if_neg c]
        generalize acc.map thD = Y at *
        simp -implicitDefEqProofs only [B2, mIf, mPush, okb, nm, Bool.not_false, if_true]
        rw [ps]
        rfl
    have ln : (if t ∈ acc then acc else acc ++ [t]).length ≤ acc.length + 1 := by
      split
      · omega
      · rw [List.length_append, List.length_singleton]; omega
    rw [List.map_cons, loopF_cons, e, okb, once_turn hf l _ (by omega)]
    rfl
section
variable {l : List Th} (h : ∀ t ∈ l, t ≠ []) (hl : l.length ≤ 500)
include h hl
theorem in_order_ok : m_in_order [.lst (l.map thD)] = .ok ((ordT l).map thD) := by
  rw [e_in_order]
  have so := sorted_th h
  have lo := once_turn (f := m_in_order_l1) (fun _ _ => rfl) (sortT l) [] (by rw [(sortT_perm l).length_eq]; simp; omega)
  have lo : loopF m_in_order_l1 ((sortT l).map thD) [] = .ok ((ordT l).map thD) := lo
  have z0 : nLst A0 = .ok [] := rfl
  unfold g_in_order
  rw [z0]
  simp -implicitDefEqProofs only [B1, A0, A1, okb, f1_1, so, items_l, lo]
theorem once_ok : m_law_once [.lst (l.map thD)] = .ok (.lst ((ordT l).map thD)) := by
  rw [e_law_once]
  have so := sorted_th h
  have lo := once_turn (f := m_law_once_l1) (fun _ _ => rfl) (sortT l) [] (by rw [(sortT_perm l).length_eq]; simp; omega)
  have lo : loopF m_law_once_l1 ((sortT l).map thD) [] = .ok ((ordT l).map thD) := lo
  have z0 : nLst A0 = .ok [] := rfl
  unfold g_law_once
  rw [z0]
  simp -implicitDefEqProofs only [B1, A0, A1, okb, f1_1, so, items_l, lo]
end
theorem grow_loop {f : List D → D → M (List D)} {g : Chg → List Th} (hg : ∀ c, (g c).length ≤ 2) (hf : ∀ {acc : List Th}, acc.length ≤ 1000 → ∀ c : Chg, f (acc.map thD) c.d = .ok ((acc ++ g c).map thD)) : ∀ (cs : List Chg) (acc : List Th), acc.length + 2 * cs.length ≤ 500 → loopF f (cs.map Chg.d) (acc.map thD) = .ok ((acc ++ cs.flatMap g).map thD)
  | [], acc, _ => by
    rw [List.flatMap_nil, List.append_nil]
    rfl
  | c :: cs, acc, h => by
    rw [List.length_cons] at h
    have := hg c
    rw [List.map_cons, loopF_cons, hf (by omega) c, okb, grow_loop hg hf cs _ (by rw [List.length_append]; omega), List.flatMap_cons, List.append_assoc]
theorem tchs_flat (cs : List Chg) : cs.flatMap (fun c => [c.tch]) = tchs cs := by
  unfold tchs
  induction cs with
  | nil => rfl
  | cons c cs ih =>
    rw [List.flatMap_cons, ih]
    rfl
section
variable {cs : List Chg} (hc : cs.length ≤ 100)
include hc
theorem touched_ok : m_touched [.lst (cs.map Chg.d)] = .ok (.lst ((ordT (tchs cs)).map thD)) := by
  rw [e_touched]
  have lo := grow_loop (g := fun c => [c.tch]) (fun _ => by simp) (fun h c => touched_l1 h c) cs [] (by simp; omega)
  rw [List.nil_append, tchs_flat] at lo
  have lo : loopF m_touched_l1 (cs.map Chg.d) [] = .ok ((tchs cs).map thD) := lo
  have io := in_order_ok (l := tchs cs) tchs_ne (by unfold tchs; rw [List.length_map]; omega)
  have z0 : nLst A0 = .ok [] := rfl
  unfold g_touched
  rw [z0]
  simp -implicitDefEqProofs only [B1, A0, A1, L1, okb, items_l, lo, io]
theorem ltouched_ok : m_law_touched [.lst (cs.map Chg.d)] = .ok (.lst ((tchs cs).map thD)) := by
  rw [e_law_touched]
  have lo := grow_loop (g := fun c => [c.tch]) (fun _ => by simp) (fun h c => law_touched_l1 h c) cs [] (by simp; omega)
  rw [List.nil_append, tchs_flat] at lo
  have lo : loopF m_law_touched_l1 (cs.map Chg.d) [] = .ok ((tchs cs).map thD) := lo
  have z0 : nLst A0 = .ok [] := rfl
  unfold g_law_touched
  rw [z0]
  simp -implicitDefEqProofs only [B1, okb, items_l, lo]
theorem leaned_ok : m_leaned_on [.lst (cs.map Chg.d)] = .ok (.lst ((ordT (leans cs)).map thD)) := by
  rw [e_leaned_on]
  have lo := grow_loop (g := Chg.lean) lean_len (fun h c => leaned_l1 h c) cs [] (by simp; omega)
  rw [List.nil_append] at lo
  have lo : loopF m_leaned_on_l1 (cs.map Chg.d) [] = .ok ((leans cs).map thD) := lo
  have io := in_order_ok (l := leans cs) leans_ne (by have := leans_len cs; omega)
  have z0 : nLst A0 = .ok [] := rfl
  unfold g_leaned_on
  rw [z0]
  simp -implicitDefEqProofs only [B1, A0, A1, L1, okb, items_l, lo, io]
omit hc in
theorem lleaned_loop : ∀ (cs : List Chg) (acc : List Th), acc.length + 2 * cs.length ≤ 500 → loopF m_law_leaned_l1 (cs.map Chg.d) (.lst (acc.map thD)) = .ok (.lst ((acc ++ leans cs).map thD))
  | [], acc, _ => by
    unfold leans
    rw [List.flatMap_nil, List.append_nil]
    rfl
  | c :: cs, acc, h => by
    rw [List.length_cons] at h
    have := lean_len c
    rw [List.map_cons, loopF_cons, law_leaned_l1 (by omega) c, okb, lleaned_loop cs _ (by rw [List.length_append]; omega), List.append_assoc]
    rfl
theorem lleaned_ok : m_law_leaned [.lst (cs.map Chg.d)] = .ok (.lst ((leans cs).map thD)) := by
  rw [e_law_leaned]
  have lo := lleaned_loop cs [] (by simp; omega)
  rw [List.nil_append] at lo
  have lo : loopF m_law_leaned_l1 (cs.map Chg.d) (.lst []) = .ok (.lst ((leans cs).map thD)) := lo
  have z0 : D.mkLst [] = .ok (.lst []) := rfl
  unfold g_law_leaned
  simp -implicitDefEqProofs only [B1, A0, okb, z0, items_l, lo]
end
theorem tchs_len (cs : List Chg) : (tchs cs).length = cs.length := by unfold tchs; rw [List.length_map]
theorem filt_th {l : List Th} (hl : l.length ≤ 1000) {t : D → M Bool} {q : Th → Bool} (h : ∀ x ∈ l, t (thD x) = .ok (q x)) : compL (fElt t (fun thing_1 => (.ok thing_1))) (l.map thD) = .ok ((l.filter q).map thD) :=
  compL_filterA (by omega) h fun _ _ _ => rfl
section
variable {cs ds : List Chg} (hc : cs.length ≤ 100) (hd : ds.length ≤ 100)
include hc hd
theorem clashes_ok : m_clashes [.lst (cs.map Chg.d), .lst (ds.map Chg.d)] = .ok ((clsh cs ds).map thD) := by
  rw [e_clashes]
  have t1 := touched_ok hc
  have t2 := touched_ok hd
  have l1 := leaned_ok hc
  have l2 := leaned_ok hd
  have n1 : (ordT (tchs cs)).length ≤ 100 := by have := ordT_len (tchs cs); rw [tchs_len] at this; omega
  have n2 : (ordT (tchs ds)).length ≤ 100 := by have := ordT_len (tchs ds); rw [tchs_len] at this; omega
  have c1 : compL (fElt (fun thing_1 => (mOr (B2 D.mem (.ok thing_1) (.ok (.lst ((ordT (tchs ds)).map thD)))) (B2 D.mem (.ok thing_1) (B1 m_leaned_on (A1 (.ok (.lst (ds.map Chg.d))) A0))))) (fun thing_1 => (.ok thing_1))) ((ordT (tchs cs)).map thD) = .ok (((ordT (tchs cs)).filter fun x => decide (x ∈ ordT (tchs ds)) || decide (x ∈ ordT (leans ds))).map thD) := filt_th (by omega) fun x _ => by
    have m1 := th_mem x (ordT (tchs ds))
    have m2 := th_mem x (ordT (leans ds))
    cases h : decide (x ∈ ordT (tchs ds)) with
    | true =>
      rw [h] at m1
      simp -implicitDefEqProofs only [B1, B2, A0, A1, mOr, okb, m1, if_true, Bool.true_or]
    | false =>
      rw [h] at m1
      simp -implicitDefEqProofs only [B1, B2, A0, A1, mOr, okb, m1, Bool.false_eq_true, if_false, l2, m2, Bool.false_or]
  have c2 : compL (fElt (fun thing_2 => (B2 D.mem (.ok thing_2) (B1 m_leaned_on (A1 (.ok (.lst (cs.map Chg.d))) A0)))) (fun thing_2 => (.ok thing_2))) ((ordT (tchs ds)).map thD) = .ok (((ordT (tchs ds)).filter fun x => decide (x ∈ ordT (leans cs))).map thD) := filt_th (by omega) fun x _ => by
    have m2 := th_mem x (ordT (leans cs))
    simp -implicitDefEqProofs only [B1, B2, A0, A1, okb, l1, m2]
  have f1 : ((ordT (tchs cs)).filter fun x => decide (x ∈ ordT (tchs ds)) || decide (x ∈ ordT (leans ds))).length ≤ 100 := Nat.le_trans (List.length_filter_le _ _) n1
  have f2 : ((ordT (tchs ds)).filter fun x => decide (x ∈ ordT (leans cs))).length ≤ 100 := Nat.le_trans (List.length_filter_le _ _) n2
  have ex := th_ext (acc := (ordT (tchs cs)).filter fun x => decide (x ∈ ordT (tchs ds)) || decide (x ∈ ordT (leans ds))) (by omega) (l := (ordT (tchs ds)).filter fun x => decide (x ∈ ordT (leans cs))) (by omega)
  have io := in_order_ok (l := ((ordT (tchs cs)).filter fun x => decide (x ∈ ordT (tchs ds)) || decide (x ∈ ordT (leans ds))) ++ (ordT (tchs ds)).filter fun x => decide (x ∈ ordT (leans cs))) (fun t ht => by
    rcases List.mem_append.mp ht with h | h
    · exact tchs_ne t (ordT_mem.mp (List.mem_filter.mp h).1)
    · exact tchs_ne t (ordT_mem.mp (List.mem_filter.mp h).1)) (by rw [List.length_append]; omega)
  have eo : ordT (((ordT (tchs cs)).filter fun x => decide (x ∈ ordT (tchs ds)) || decide (x ∈ ordT (leans ds))) ++ (ordT (tchs ds)).filter fun x => decide (x ∈ ordT (leans cs))) = clsh cs ds := ordT_eq fun x => by
    simp only [List.mem_append, List.mem_filter, Bool.or_eq_true, decide_eq_true_eq, ordT_mem]
  rw [eo] at io
  have u2 : ∀ (f : D → D → M (List D)) (a b : D), un2 f (.tup [a, b]) = f a b := fun _ _ _ => rfl
  unfold g_clashes
  generalize (((ordT (tchs cs)).filter fun x => decide (x ∈ ordT (tchs ds)) || decide (x ∈ ordT (leans ds))) ++ (ordT (tchs ds)).filter fun x => decide (x ∈ ordT (leans cs))).map thD = Z1 at ex io
  generalize ((ordT (tchs cs)).filter fun x => decide (x ∈ ordT (tchs ds)) || decide (x ∈ ordT (leans ds))).map thD = Z2 at c1 ex
  generalize ((ordT (tchs ds)).filter fun x => decide (x ∈ ordT (leans cs))).map thD = Z3 at c2 ex
  generalize (ordT (tchs cs)).map thD = Z4 at *
  generalize (ordT (tchs ds)).map thD = Z5 at *
  generalize cs.map Chg.d = C1 at *
  generalize ds.map Chg.d = C2 at *
  simp -implicitDefEqProofs only [B1, B2, A0, A1, L1, okb, t1, t2, mk2T, u2, items_l] at c1 c2 ⊢
  rw [c1]
  simp -implicitDefEqProofs only [okb, items_l]
  rw [c2]
  simp -implicitDefEqProofs only [okb, ex, io]
theorem lclashes_ok : m_law_clashes [.lst (cs.map Chg.d), .lst (ds.map Chg.d)] = .ok (.lst ((clsh cs ds).map thD)) := by
  rw [e_law_clashes]
  have t1 := ltouched_ok hc
  have t2 := ltouched_ok hd
  have l1 := lleaned_ok hc
  have l2 := lleaned_ok hd
  have n1 := tchs_len cs
  have n2 := tchs_len ds
  have ln1 := leans_len cs
  have ln2 := leans_len ds
  have a1 := th_app (acc := tchs ds) (by omega) (l := leans ds) (by omega)
  have c1 : compL (fElt (fun thing_1 => (B2 D.mem (.ok thing_1) (B2 D.add (.ok (.lst ((tchs ds).map thD))) (B1 m_law_leaned (A1 (.ok (.lst (ds.map Chg.d))) A0))))) (fun thing_1 => (.ok thing_1))) ((tchs cs).map thD) = .ok (((tchs cs).filter fun x => decide (x ∈ tchs ds ++ leans ds)).map thD) := filt_th (by omega) fun x _ => by
    have m1 := th_mem x (tchs ds ++ leans ds)
    simp -implicitDefEqProofs only [B1, B2, A0, A1, okb, l2, a1, m1]
  have c2 : compL (fElt (fun thing_2 => (B2 D.mem (.ok thing_2) (B1 m_law_leaned (A1 (.ok (.lst (cs.map Chg.d))) A0)))) (fun thing_2 => (.ok thing_2))) ((tchs ds).map thD) = .ok (((tchs ds).filter fun x => decide (x ∈ leans cs)).map thD) := filt_th (by omega) fun x _ => by
    have m1 := th_mem x (leans cs)
    simp -implicitDefEqProofs only [B1, B2, A0, A1, okb, l1, m1]
  have f1 : ((tchs cs).filter fun x => decide (x ∈ tchs ds ++ leans ds)).length ≤ 100 := Nat.le_trans (List.length_filter_le _ _) (by omega)
  have f2 : ((tchs ds).filter fun x => decide (x ∈ leans cs)).length ≤ 100 := Nat.le_trans (List.length_filter_le _ _) (by omega)
  have ex := th_app (acc := (tchs cs).filter fun x => decide (x ∈ tchs ds ++ leans ds)) (by omega) (l := (tchs ds).filter fun x => decide (x ∈ leans cs)) (by omega)
  have io := once_ok (l := ((tchs cs).filter fun x => decide (x ∈ tchs ds ++ leans ds)) ++ (tchs ds).filter fun x => decide (x ∈ leans cs)) (fun t ht => by
    rcases List.mem_append.mp ht with h | h
    · exact tchs_ne t (List.mem_filter.mp h).1
    · exact tchs_ne t (List.mem_filter.mp h).1) (by rw [List.length_append]; omega)
  have eo : ordT (((tchs cs).filter fun x => decide (x ∈ tchs ds ++ leans ds)) ++ (tchs ds).filter fun x => decide (x ∈ leans cs)) = clsh cs ds := ordT_eq fun x => by
    simp only [List.mem_append, List.mem_filter, Bool.or_eq_true, decide_eq_true_eq]
  rw [eo] at io
  unfold g_law_clashes
  generalize (((tchs cs).filter fun x => decide (x ∈ tchs ds ++ leans ds)) ++ (tchs ds).filter fun x => decide (x ∈ leans cs)).map thD = Z1 at ex io
  generalize ((tchs cs).filter fun x => decide (x ∈ tchs ds ++ leans ds)).map thD = Z2 at c1 ex
  generalize ((tchs ds).filter fun x => decide (x ∈ leans cs)).map thD = Z3 at c2 ex
  generalize (tchs ds ++ leans ds).map thD = Z6 at *
  generalize (leans ds).map thD = Z7 at *
  generalize (leans cs).map thD = Z8 at *
  generalize (tchs cs).map thD = Z4 at *
  generalize (tchs ds).map thD = Z5 at *
  generalize cs.map Chg.d = C1 at *
  generalize ds.map Chg.d = C2 at *
  simp -implicitDefEqProofs only [B1, B2, A0, A1, L1, okb, t1, t2, items_l] at c1 c2 ⊢
  rw [c1]
  simp -implicitDefEqProofs only [okb, items_l]
  rw [c2]
  simp -implicitDefEqProofs only [okb, ex, io]
end
end LawMath

set_option Elab.async false
set_option linter.all false
set_option maxRecDepth 100000
set_option maxHeartbeats 4000000
namespace LawMath
open PySem DL LawWalk L2
section
variable {ns : List Int} (hs : Sm ns) {p : Pt} (P : p.ok) (S : p.srt)
include hs P S
theorem drawn_list {b : Nat} {n : Nat} (hl : b + 10 * n + 2 ≤ ns.length) (hn : n ≤ 100) : ∃ cs : List Chg, compL (fElt noT (fun k_1 => (B1 m_law_drawn_change (A1 (.ok (.lst (nums ns))) (A1 (B2 D.add (.ok (.int (b : Nat))) (B2 D.mul (.ok (.int 10)) (.ok k_1))) (A1 (.ok p.d) A0)))))) (rangeL 0 n) = .ok (cs.map Chg.d) ∧ cs.length = n ∧ ∀ c ∈ cs, ChB p.day p.ki c := by
  have key : ∀ j : Nat, ∃ c : Chg, j < n → m_law_drawn_change [.lst (nums ns), .int ((b + 10 * j : Nat) : Int), p.d] = .ok c.d ∧ ChB p.day p.ki c := fun j => by
    by_cases h : j < n
    · obtain ⟨c, h1, h2⟩ := drawn_ok hs (a := b + 10 * j) (by omega) P S
      exact ⟨c, fun _ => ⟨h1, h2⟩⟩
    · exact ⟨.place false "", fun z => absurd z h⟩
  obtain ⟨f, hf⟩ := Classical.axiomOfChoice key
  refine ⟨(List.range n).map f, ?_, by rw [List.length_map, List.length_range], fun c hc => ?_⟩
  · unfold rangeL
    rw [List.map_map]
    refine compL_mapA (by rw [List.length_range]; omega) fun j hj => ?_
    rw [List.mem_range] at hj
    have mu : D.mul (.int 10) (.int (0 + (j : Int))) = .ok (.int (10 * (0 + (j : Int)))) := mul_okl (by omega) (by omega)
    have e := (hf j hj).1
    have ea : ((b + 10 * j : Nat) : Int) = (b : Int) + 10 * (0 + (j : Int)) := by omega
    rw [ea] at e
    simp -implicitDefEqProofs only [B1, B2, A0, A1, okb, mu, add_ii, e]
    rfl
  · obtain ⟨j, hj, rfl⟩ := List.mem_map.mp hc
    rw [List.mem_range] at hj
    exact (hf j hj).2
end
theorem ne_same {d : D} (h : d.shp 20 = true) : D.ne d d = .ok false := ne_self h
theorem ths_shp (l : List Th) : (D.lst (l.map thD)).shp 20 = true := shp_lst (n := 19) fun d hd => by
  obtain ⟨t, _, rfl⟩ := List.mem_map.mp hd
  exact shp_le (en_th.shp t) (by omega)
theorem law_true (l : List Int) (h : l.length ≤ 63) : m_law [.scr l] = .ok (.bl true) := by
  obtain ⟨ns, en, ln, hs⟩ := numbers_ok l h 200 (by omega) (by omega)
  have ln : ns.length = 200 := by rw [ln]; rfl
  obtain ⟨p, ep, P, S, _⟩ := dparts_drawn hs (by omega)
  have i195 := num_ix (ns := ns) (i := 195) (j := 195) rfl (by omega)
  have i196 := num_ix (ns := ns) (i := 196) (j := 196) rfl (by omega)
  have i197 := num_ix (ns := ns) (i := 197) (j := 197) rfl (by omega)
  have a0 := (num_sm hs 195).1
  have b0 := (num_sm hs 196).1
  have c0 := (num_sm hs 197).1
  have m5 : D.mod (.int (ns.getD 195 0)) (.int 5) = .ok (.int (ns.getD 195 0 % 5)) := mod_ok (by omega)
  have m5' : D.mod (.int (ns.getD 196 0)) (.int 5) = .ok (.int (ns.getD 196 0 % 5)) := mod_ok (by omega)
  have m3 : D.mod (.int (ns.getD 197 0)) (.int 3) = .ok (.int (ns.getD 197 0 % 3)) := mod_ok (by omega)
  have r1 : D.range1 [.int (ns.getD 195 0 % 5)] = .ok (rangeL 0 (ns.getD 195 0 % 5).toNat) := by
    rw [range1_i, small_of (by omega) (by omega)]
    rfl
  have r2 : D.range1 [.int (ns.getD 196 0 % 5)] = .ok (rangeL 0 (ns.getD 196 0 % 5).toNat) := by
    rw [range1_i, small_of (by omega) (by omega)]
    rfl
  obtain ⟨cs, ec, lc, _⟩ := drawn_list hs P S (b := 105) (n := (ns.getD 195 0 % 5).toNat) (by omega) (by omega)
  obtain ⟨ds, ed, ld, _⟩ := drawn_list hs P S (b := 150) (n := (ns.getD 196 0 % 5).toNat) (by omega) (by omega)
  have lc : cs.length ≤ 4 := by omega
  have ld : ds.length ≤ 4 := by omega
  obtain ⟨es, ee, le⟩ : ∃ es : List Chg, (mIf (B2 D.eq (.ok (.int (ns.getD 197 0 % 3))) (.ok (.int 0))) ((B2 D.add (.ok (.lst (ds.map Chg.d))) (S3 (.ok (.lst (cs.map Chg.d))) oN (B1 D.bnd (.ok (.int 1))))) >>= fun second_2 => (.ok second_2)) (.ok (.lst (ds.map Chg.d))) : M D) = .ok (.lst (es.map Chg.d)) ∧ es.length ≤ 5 := by
    have q : D.eq (.int (ns.getD 197 0 % 3)) (.int 0) = .ok (decide (ns.getD 197 0 % 3 = 0)) := eq_ii
    by_cases c : ns.getD 197 0 % 3 = 0
    · rw [decide_eq_true c] at q
      have sl : D.sl (.lst (cs.map Chg.d)) none (some 1) = .ok (.lst ((cs.take 1).map Chg.d)) := by
        rw [sl_l, cut_take _ (by omega), ← List.map_take]
        rfl
      have l1 : (cs.take 1).length ≤ 1 := by rw [List.length_take]; omega
      have ad : D.add (.lst (ds.map Chg.d)) (.lst ((cs.take 1).map Chg.d)) = .ok (.lst ((ds ++ cs.take 1).map Chg.d)) := by
        rw [add_ll, need_p (by rw [PySem.sizeLine_eq, List.length_map, List.length_map]; omega), okb, List.map_append]
      have bn : D.bnd (.int 1) = .ok (some 1) := rfl
      exact ⟨ds ++ cs.take 1, by simp -implicitDefEqProofs only [B1, B2, S3, oN, mIf, okb, q, if_true, bn, sl, ad], by rw [List.length_append]; omega⟩
    · rw [decide_eq_false c] at q
      exact ⟨ds, by simp -implicitDefEqProofs only [B2, mIf, okb, q, Bool.false_eq_true, if_false], by omega⟩
  have t1 := touched_ok (cs := cs) (by omega)
  have t2 := ltouched_ok (cs := cs) (by omega)
  have t3 := leaned_ok (cs := cs) (by omega)
  have t4 := lleaned_ok (cs := cs) (by omega)
  have o1 := once_ok (l := tchs cs) tchs_ne (by rw [tchs_len]; omega)
  have o2 := once_ok (l := leans cs) leans_ne (by have := leans_len cs; omega)
  have n1 := ne_same (ths_shp (ordT (tchs cs)))
  have n2 := ne_same (ths_shp (ordT (leans cs)))
  have k1 := clashes_ok (cs := cs) (ds := es) (by omega) (by omega)
  have k2 := clashes_ok (cs := es) (ds := cs) (by omega) (by omega)
  have k3 := lclashes_ok (cs := cs) (ds := es) (by omega) (by omega)
  rw [clsh_comm es cs] at k2
  have n3 := ne_same (ths_shp (clsh cs es))
  have q3 := DL.eq_self (ths_shp (clsh cs es))
  have tl1 : D.toList (.lst (cs.map Chg.d)) = .ok (.lst (cs.map Chg.d)) := rfl
  have tl2 : D.toList (.lst (es.map Chg.d)) = .ok (.lst (es.map Chg.d)) := rfl
  have lk : (clsh cs es).length ≤ 400 := by
    unfold clsh
    refine Nat.le_trans (ordT_len _) ?_
    rw [List.length_append]
    have f1 := List.length_filter_le (fun t => decide (t ∈ tchs es) || decide (t ∈ leans es)) (tchs cs)
    have f2 := List.length_filter_le (fun t => decide (t ∈ leans cs)) (tchs es)
    rw [tchs_len] at f1 f2
    omega
  have ps : need (decide (((clsh cs es).map thD).length < sizeLine)) = .ok () := need_p (by rw [PySem.sizeLine_eq, List.length_map]; omega)
  have il : D.isB "list" (.lst ((clsh cs es).map thD)) = .ok (.bl true) := rfl
  have lw : D.len (.lst ((clsh cs es).map thD)) = .ok (.int ((clsh cs es).length : Nat)) := by simp
  have z1 : D.eq (.int ((clsh cs es).length : Nat)) (.int 0) = .ok (decide ((clsh cs es).length = 0)) := by
    rw [eq_ii]
    congr 1
    exact decide_eq_decide.mpr (by omega)
  have ap : m_are_apart [.lst (cs.map Chg.d), .lst (es.map Chg.d)] = .ok (.bl (decide ((clsh cs es).length = 0))) := by
    rw [e_are_apart]
    have mk0 : D.mkLst [] = .ok (.lst []) := rfl
    have q : D.eq (.lst ((clsh cs es).map thD)) (.lst []) = .ok (decide ((clsh cs es).length = 0)) := by
      have e := ((en_lst en_th).le (m := 16) (by omega)).beq (clsh cs es) []
      rw [eq_of (ths_shp _) rfl]
      have e : D.beq (.lst ((clsh cs es).map thD)) (.lst []) = decide (clsh cs es = []) := e
      rw [e]
      congr 1
      exact decide_eq_decide.mpr List.length_eq_zero_iff.symm
    unfold g_are_apart
    simp -implicitDefEqProofs only [B1, B2, C2, A0, A1, L1, okb, k1, mk0, q, bD_ok]
  have ib : ∀ b : Bool, D.isB "bool" (.bl b) = .ok (.bl true) := fun _ => rfl
  have qb : ∀ b : Bool, D.eq (.bl b) (.bl b) = .ok true := fun b => DL.eq_self shp_bl
  rw [e_law]
  unfold g_law
  generalize decide ((clsh cs es).length = 0) = bb at *
  generalize ((clsh cs es).length : Nat) = kk at *
  generalize (clsh cs es).map thD = Z1 at *
  generalize (ordT (tchs cs)).map thD = Z2 at *
  generalize (ordT (leans cs)).map thD = Z3 at *
  generalize (tchs cs).map thD = Z4 at *
  generalize (leans cs).map thD = Z5 at *
  generalize cs.map Chg.d = C1 at *
  generalize ds.map Chg.d = C2' at *
  generalize es.map Chg.d = C3' at *
  generalize D.lst (nums ns) = N at *
  simp -implicitDefEqProofs only [B1, B2, A0, A1, L1, S3, oN, mIf, okb, en, ep, i195, i196, i197, f1_1, toInt_i, m5, m5', m3, r1, r2] at ec ed ee ⊢
  have e105 : ((105 : Nat) : Int) = 105 := rfl
  have e150 : ((150 : Nat) : Int) = 150 := rfl
  rw [e105] at ec
  rw [e150] at ed
  rw [ec]
  simp -implicitDefEqProofs only [okb]
  rw [ed]
  simp -implicitDefEqProofs only [okb]
  rw [ee]
  simp -implicitDefEqProofs only [B1, B2, C2, A0, A1, L1, mIf, mOr, mNot, mPush, vAnd, okb, f1_1, tl1, tl2, t1, t2, o1, n1, t3, t4, o2, n2, Bool.false_eq_true, if_false, k1, k2, k3, il, tru_b, Bool.not_true, n3, ps, ap, ib, lw, z1, bD_ok, qb, q3, if_true]
end LawMath

set_option Elab.async false
set_option linter.all false
set_option maxRecDepth 100000
set_option maxHeartbeats 0
namespace LawHead
open PySem PySem.Spec PyProof.Rows L2
theorem facts {P : Program} {w : World} {K : PySem.W.Frag} {h : Heap} {mg : Str → Option Value} {f : Addr} (X : K.In h) (G : h.Ns mainGlobals mg) (hfa : mg ("law" : Str) = some (.ref f)) (c : DL.SaysG LawWalk.fa LawWalk.fn LawWalk.gt LawWalk.exW K ∧ DL.seenTb LawWalk.ts K = DL.dueTb LawWalk.ts w) :
    ∃ fd : FuncData, (∀ (s : Shared) (v : Value), BindsTo s fd ⟨[v], []⟩ [("_law_script", v)]) ∧ ∀ base : Heap, K.In base → base.Ns mainGlobals mg → FnOk P w K mg base (DL.CXA P) 5 f fd ["_law_script"] (DL.spD K [true] LawWalk.m_law) := by
  have L : LawWalk.Lw w K mg := ⟨⟨h, X, G⟩, c.1, c.2⟩
  obtain ⟨fd, F⟩ := L.c.def_ 17 (d := LawWalk.d_law) rfl
  have e := hfa.symm.trans (L.glo LawWalk.fa_29)
  cases e
  have b := FunD.bindsA (ps := ["_law_script"]) F fun _ _ _ _ _ _ us hl => match us, hl with | [_], _ => rfl
  exact ⟨fd, fun s v => b s [v] rfl, fun base _ _ => DL.fn_any (LawWalk.ok_law L F)⟩
end LawHead
open PySem PySem.W PySem.Calls PyProof.Rows
theorem PySem.Challenge.cw_waypapers_k46_what_sets_clash_about_holds : PySem.Challenge.rw_waypapers_k46_what_sets_clash_about.Holds := by
  w_on; o_law
  refine HandSHeadRun.head_any (r := OpenLaw.row PySem.Challenge.rw_waypapers_k46_what_sets_clash_about) (q := view (OpenLaw.row PySem.Challenge.rw_waypapers_k46_what_sets_clash_about).prog [23]) (H := LawHead.hk) (ob := LawHead.ob) (M := 20000) (loose := LawHead.loose) (d := HandSHeadRun.topDef (OpenLaw.row PySem.Challenge.rw_waypapers_k46_what_sets_clash_about).prog 23) (kwd := []) LawHead.ob_eq
    (by kernel_rfl) (fun s => by kernel_rfl) LawHead.run (by kernel_rfl) (by kernel_rfl) (by kernel_rfl) (by rfl) (by first | assumption | decide +kernel) (by decide +kernel) ⟨rfl, rfl, rfl, rfl, rfl, by decide +kernel⟩ ?hw ?hc
  case hw => w_witness2
  case hc =>
    refine L2.walk_ofE (l := PySem.Challenge.rw_waypapers_k46_what_sets_clash_about) (n := 63) (k := 5) (x := "_law_script") (CX := DL.CXA (PySem.Challenge.rw_waypapers_k46_what_sets_clash_about).prog) rfl (by decide) (by kernel_rfl) ⟨rfl, by decide, by decide⟩ ?F (fun _ _ _ _ z => z.no)
    intro w mg fa h Y G hmg0
    obtain ⟨K, KX, c⟩ := Y
    have hmg : mg ("law" : PySem.Str) = some (.ref fa) := by
      have e : (HandSHeadRun.topDef (OpenLaw.row PySem.Challenge.rw_waypapers_k46_what_sets_clash_about).prog 23).name = ("law" : PySem.Str) := by kernel_rfl
      rw [← e]
      exact hmg0
    obtain ⟨fd, hb, hF⟩ := LawHead.facts (P := (PySem.Challenge.rw_waypapers_k46_what_sets_clash_about).prog) (w := w) KX G hmg c
    exact ⟨K, fd, DL.spD K [true] LawWalk.m_law, KX, hb, fun H a ns hl _ hS => ⟨H, [.scr ns], L2.Same.refl H, .bor (.of (.scr hS)) .nil, by
      rw [LawMath.law_true ns hl]
      exact fun F' H' v _ r => by cases r; rfl⟩, hF⟩

