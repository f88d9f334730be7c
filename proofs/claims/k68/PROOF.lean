import PyProof.Rows.All
import Wide.All
import OpenK.AllK
import Wide.FinOn
import HandS.Base
import HandS.Call
import HandS.List
import HandS.Comp
import HandS.Ends
import HandS.Dict
import HandS.Iter
import HandS.Text
import HandS.More
import HandS.Flow
import HandS.Exc
import HandS.Words
import HandS.WordsExc
import HandS.Defaults
import HandS.HeadHook1
import HandS.HeadHook2
import HandS.TupAny
import HandS.Deep
import HandS.FStr
import HandS.IsInst
import HandS.WordsDict
import HandS.Wide
import KE.KUnpack
import HandS.ExcOwn
import HandS.Property
import KE.GoesEnum
import HandS.Codes
import KE.SortData
import HandS.MakeKwOnly
import KE.SortKeyHeap
import HandS.SortKw
import KE.DataMinMax
import HandS.Style
import KE.DataFind
import KE.KExcSuper
import HandS.ExcInit
import HandS.ExcField
import HandS.ExcIs
import HandS.TryOnly
import HandS.TryMany
import KE.KExcIs
import HandS.Zip
import HandS.Rev
import HandS.Conv
import HandS.HeadEnd
import PyProof.ReprRoads
import HandS.SortOrd
import PyProof.Rows.SortKeyStr
import HandS.DictComp
import PyProof.SliceList
import HandS.Star
import HandS.ReplaceLit
import KE.KStateDown
import Lean
import HandS.Head0
import HandS.Head1
import HandS.Head2
import PySem.Challenge.RW_waypapers_k68_texts_that_are_no_papers
set_option Elab.async false
set_option linter.all false
set_option maxRecDepth 100000
set_option maxHeartbeats 4000000
namespace DL
open PySem PySem.Spec L2

inductive D where
  | non | bl (b : Bool) | int (i : Int) | str (x : Str)
  | tup (l : List D) | lst (l : List D)
  /-- a dict with int and text keys; one with tuples of these -/
  | dct (l : List (D × D)) | dcu (l : List (D × D))
  | ins (c : String) (l : List (String × D))
  /-- the script -/
  | scr (l : List Int)
  /-- a dict that an object owns (a field's value), an object with such fields -/
  | ow (l : List (D × D))
  | obt (c : String) (l : List (String × D))
  deriving Inhabited

structure Ex where
  cls : String
  args : List (String × D)
inductive Er where
  | stuck
  | exc (x : Ex)
abbrev M := Except Er
abbrev stuck {α : Type} : M α := .error .stuck
def need (b : Bool) : M Unit := if b then .ok () else stuck

def kD : Key → D
  | .inl i => .int i
  | .inr x => .str x

section
variable (K : PySem.W.Frag)
mutual
inductive Rp (F : Hp) : V → D → Prop
  | non : Rp F .non .non
  | bl (b : Bool) : Rp F (.bl b) (.bl b)
  | int (i : Int) : Rp F (.int i) (.int i)
  | str (x : Str) : PyData.strOk x = true → Rp F (.str x) (.str x)
  | tup {a : Addr} {xs : List V} {ds : List D} : SqT K F a xs → RpL F xs ds → Rp F (.ref a) (.tup ds)
  | lst {a : Addr} {xs : List V} {ds : List D} : F a = some (.lst xs) → RpL F xs ds → Rp F (.ref a) (.lst ds)
  | scr {a : Addr} {l : List Int} : SqL K F a (l.map V.int) → Rp F (.ref a) (.scr l)
  | dctK {a : Addr} {kvs : List (Key × V)} {l : List (D × D)} : Rd F a (.dK kvs) → kvs.map (fun q => kD q.1) = l.map (·.1) → RpL F (kvs.map (·.2)) (l.map (·.2)) → Rp F (.ref a) (.dct l)
  | dctT {a : Addr} {kvs : List (List Key × V)} {l : List (D × D)} : F a = some (.dT kvs) → kvs.map (fun q => D.tup (q.1.map kD)) = l.map (·.1) → RpL F (kvs.map (·.2)) (l.map (·.2)) → Rp F (.ref a) (.dcu l)
  | ins {a dx : Addr} {c : String} {fs : List (Str × V)} {l : List (String × D)} : F a = some (.ins (He.ga K (Str.ofString c)) dx fs) → fs.map (·.1) = l.map (fun q => Str.ofString q.1) → RpL F (fs.map (·.2)) (l.map (·.2)) → Rp F (.ref a) (.ins c l)
inductive RpL (F : Hp) : List V → List D → Prop
  | nil : RpL F [] []
  | cons {v : V} {vs : List V} {d : D} {ds : List D} : Rp F v d → RpL F vs ds → RpL F (v :: vs) (d :: ds)
end
end

section
variable {K : PySem.W.Frag} {F F' H H' : Hp}
theorem Same.seqT {H H' : Hp} {a : Addr} {xs : List V} (e : Same H H') (h : SqT K H a xs) : SqT K H' a xs := by
  rcases h with (h | ⟨o, h⟩) | h
  · exact .inl (.inl (e _ _ h))
  · exact .inl (.inr ⟨o, e _ _ h⟩)
  · exact .inr h
theorem rd_same {a : Addr} {u : HO} (e : Same F F') (h : Rd F a u) : Rd F' a u := by
  rcases h with h | ⟨o, h⟩
  · exact .inl (e _ _ h)
  · exact .inr ⟨o, e _ _ h⟩
mutual
theorem Rp.mono (e : Same F F') : ∀ {v : V} {d : D}, Rp K F v d → Rp K F' v d
  | _, _, .non => .non
  | _, _, .bl b => .bl b
  | _, _, .int i => .int i
  | _, _, .str x h => .str x h
  | _, _, .tup h hs => .tup (Same.seqT e h) (RpL.mono e hs)
  | _, _, .lst h hs => .lst (e _ _ h) (RpL.mono e hs)
  | _, _, .scr h => .scr (e.seq h)
  | _, _, .dctK h h2 hs => .dctK (rd_same e h) h2 (RpL.mono e hs)
  | _, _, .dctT h h2 hs => .dctT (e _ _ h) h2 (RpL.mono e hs)
  | _, _, .ins h h2 hs => .ins (e _ _ h) h2 (RpL.mono e hs)
theorem RpL.mono (e : Same F F') : ∀ {v : List V} {d : List D}, RpL K F v d → RpL K F' v d
  | _, _, .nil => .nil
  | _, _, .cons h hs => .cons (Rp.mono e h) (RpL.mono e hs)
end
theorem RpL.length : ∀ {xs : List V} {ds : List D}, RpL K F xs ds → xs.length = ds.length
  | _, _, .nil => rfl
  | _, _, .cons _ h => congrArg Nat.succ h.length
theorem RpL.append : ∀ {xs ys : List V} {ds es : List D}, RpL K F xs ds → RpL K F ys es → RpL K F (xs ++ ys) (ds ++ es)
  | _, _, _, _, .nil, h => h
  | _, _, _, _, .cons h hs, h2 => .cons h (hs.append h2)
theorem RpL.one {v : V} {d : D} (h : Rp K F v d) : RpL K F [v] [d] := .cons h .nil
theorem RpL.get : ∀ {xs : List V} {ds : List D} {i : Nat} {d : D}, RpL K F xs ds → ds[i]? = some d → ∃ x, xs[i]? = some x ∧ Rp K F x d
  | _, _, _, _, .nil, e => by simp at e
  | _, _, 0, _, .cons h _, e => by
    simp at e
    subst e
    exact ⟨_, rfl, h⟩
  | _, _, i + 1, d, .cons _ hs, e => by
    obtain ⟨x, h1, h2⟩ := RpL.get (i := i) (d := d) hs (by simpa using e)
    exact ⟨x, by simpa using h1, h2⟩
theorem RpL.getV : ∀ {xs : List V} {ds : List D} {i : Nat} {x : V}, RpL K F xs ds → xs[i]? = some x → ∃ d, ds[i]? = some d ∧ Rp K F x d
  | _, _, _, _, .nil, e => by simp at e
  | _, _, 0, _, .cons h _, e => by
    simp at e
    subst e
    exact ⟨_, rfl, h⟩
  | _, _, i + 1, d, .cons _ hs, e => by
    obtain ⟨x, h1, h2⟩ := RpL.getV (i := i) (x := d) hs (by simpa using e)
    exact ⟨x, by simpa using h1, h2⟩
theorem RpL.take : ∀ {xs : List V} {ds : List D} (n : Nat), RpL K F xs ds → RpL K F (xs.take n) (ds.take n)
  | _, _, 0, _ => .nil
  | _, _, _ + 1, .nil => .nil
  | _, _, n + 1, .cons h hs => .cons h (hs.take n)
theorem RpL.drop : ∀ {xs : List V} {ds : List D} (n : Nat), RpL K F xs ds → RpL K F (xs.drop n) (ds.drop n)
  | _, _, 0, h => h
  | _, _, _ + 1, .nil => .nil
  | _, _, n + 1, .cons _ hs => RpL.drop n hs
theorem RpL.set {x : V} {d : D} (h : Rp K F x d) : ∀ {xs : List V} {ds : List D} (i : Nat), RpL K F xs ds → RpL K F (xs.set i x) (ds.set i d)
  | _, _, _, .nil => .nil
  | _, _, 0, .cons _ hs => .cons h hs
  | _, _, i + 1, .cons q hs => .cons q (RpL.set h i hs)
theorem RpL.reverse : ∀ {xs : List V} {ds : List D}, RpL K F xs ds → RpL K F xs.reverse ds.reverse
  | _, _, .nil => .nil
  | _, _, .cons h hs => by
    rw [List.reverse_cons, List.reverse_cons]
    exact (RpL.reverse hs).append (.one h)

structure Ext (F H F' H' : Hp) : Prop where
  sF : Same F F'
  sH : Same H H'
  sFH : Same F' H'
  old : ∀ a o, H a = some o → F' a = F a
theorem Ext.refl (h : Same F H) : Ext F H F H := ⟨Same.refl _, Same.refl _, h, fun _ _ _ => rfl⟩
theorem Ext.trans {F1 H1 F2 H2 : Hp} (a : Ext F H F1 H1) (b : Ext F1 H1 F2 H2) : Ext F H F2 H2 :=
  ⟨a.sF.trans b.sF, a.sH.trans b.sH, b.sFH, fun c o h => by rw [b.old c o (a.sH c o h), a.old c o h]⟩
theorem same_new {H : Hp} {p : Addr} {o : HO} (h : H p = none) : Same H (upd H p o) := fun b x e => by
  rw [upd_ne (ne_of_none e h)]
  exact e
theorem Ext.new {p : Addr} {o : HO} (s : Same F H) (h : H p = none) : Ext F H (upd F p o) (upd H p o) where
  sF := same_new (s.free h)
  sH := same_new h
  sFH := fun b x e => by
    by_cases hb : b = p
    · subst hb
      rw [upd_same] at e ⊢
      exact e
    · rw [upd_ne hb] at e ⊢
      exact s _ _ e
  old := fun a x e => upd_ne (ne_of_none e h)
theorem Ext.newH {p : Addr} {o : HO} (s : Same F H) (h : H p = none) : Ext F H F (upd H p o) where
  sF := Same.refl _
  sH := same_new h
  sFH := s.trans (same_new h)
  old := fun a x e => rfl

inductive Sl where
  | un
  | any
  | val (d : D)
  | own (l : List D)
  | ownd (l : List (D × D))
  | ownu (l : List (D × D))
  /-- an instance that is being made -/
  | obj (a : Addr) (c : String) (l : List (String × D))
  /-- lent: to be read, not to be kept -/
  | bor (d : D)
  /-- an object that has dicts of its own, lent -/
  | tre (a : Addr) (c : String) (l : List (String × D))
  /-- a caught exception: its object, its dict, its fields -/
  | exn (a : Addr) (d : Option Addr) (l : List (String × D))
def XAt (K : PySem.W.Frag) (F : Hp) (d : Option Addr) : List (String × D) → Prop
  | [] => d = none
  | [(f, e)] => ∃ a v, d = some a ∧ F a = some (.xd [(Str.ofString f, v)]) ∧ Rp K F v e
  | _ => False
theorem XAt.mono {d : Option Addr} (s : Same F F') : ∀ {l : List (String × D)}, XAt K F d l → XAt K F' d l
  | [], h => h
  | [(f, e)], h => by
    obtain ⟨a, v, h1, h2, h3⟩ := h
    exact ⟨a, v, h1, s _ _ h2, h3.mono s⟩
  | _ :: _ :: _, h => h.elim
def DctAt (K : PySem.W.Frag) (F : Hp) (o : Option HO) (l : List (D × D)) : Prop :=
  ∃ kvs : List (Key × V), o = some (.dK kvs) ∧ kvs.map (fun q => kD q.1) = l.map (·.1) ∧ RpL K F (kvs.map (·.2)) (l.map (·.2))
def DctR (K : PySem.W.Frag) (F H : Hp) (a : Addr) (l : List (D × D)) : Prop :=
  ∃ kvs : List (Key × V), Rd H a (.dK kvs) ∧ kvs.map (fun q => kD q.1) = l.map (·.1) ∧ RpL K F (kvs.map (·.2)) (l.map (·.2))
theorem DctAt.r {K : PySem.W.Frag} {F H : Hp} {a : Addr} {l : List (D × D)} (h : DctAt K F (H a) l) : DctR K F H a l := let ⟨kvs, h1, h2, h3⟩ := h; ⟨kvs, .inl h1, h2, h3⟩
inductive RpOL (K : PySem.W.Frag) (F B : Hp) : List V → List D → Prop
  | nil : RpOL K F B [] []
  | frz {v : V} {vs : List V} {d : D} {fv : List D} : Rp K F v d → RpOL K F B vs fv → RpOL K F B (v :: vs) (d :: fv)
  | dk {p : Addr} {vs : List V} {l : List (D × D)} {fv : List D} : DctR K F B p l → RpOL K F B vs fv → RpOL K F B (.ref p :: vs) (.ow l :: fv)
def DcuAt (K : PySem.W.Frag) (F : Hp) (o : Option HO) (l : List (D × D)) : Prop :=
  ∃ kvs : List (List Key × V), o = some (.dT kvs) ∧ kvs.map (fun q => D.tup (q.1.map kD)) = l.map (·.1) ∧ RpL K F (kvs.map (·.2)) (l.map (·.2))
inductive RpT (K : PySem.W.Frag) (F H : Hp) : V → D → Prop
  | of {v : V} {d : D} : Rp K F v d → RpT K F H v d
  | own {a : Addr} {xs : List V} {l : List D} : H a = some (.lst xs) → RpL K F xs l → RpT K F H (.ref a) (.lst l)
  | ownd {a : Addr} {l : List (D × D)} : DctR K F H a l → RpT K F H (.ref a) (.dct l)
  | ownu {a : Addr} {l : List (D × D)} : DcuAt K F (H a) l → RpT K F H (.ref a) (.dcu l)
  | obj {a dx : Addr} {c : String} {fs : List (Str × V)} {l : List (String × D)} : H a = some (.ins (He.ga K (Str.ofString c)) dx fs) → fs.map (·.1) = l.map (fun q => Str.ofString q.1) → RpL K F (fs.map (·.2)) (l.map (·.2)) → RpT K F H (.ref a) (.ins c l)
  | obt {a dx : Addr} {c : String} {fs : List (Str × V)} {l : List (String × D)} : H a = some (.ins (He.ga K (Str.ofString c)) dx fs) → fs.map (·.1) = l.map (fun q => Str.ofString q.1) → RpOL K F H (fs.map (·.2)) (l.map (·.2)) → RpT K F H (.ref a) (.obt c l)
inductive FvL (K : PySem.W.Frag) (F B : Hp) : List V → List D → List Addr → Prop
  | nil : FvL K F B [] [] []
  | frz {v : V} {vs : List V} {d : D} {fv : List D} {as : List Addr} : Rp K F v d → FvL K F B vs fv as → FvL K F B (v :: vs) (d :: fv) as
  | dk {p : Addr} {vs : List V} {l : List (D × D)} {fv : List D} {as : List Addr} : F p = none → DctAt K F (B p) l → FvL K F B vs fv as → FvL K F B (.ref p :: vs) (.ow l :: fv) (p :: as)
structure TreOk (K : PySem.W.Frag) (F B : Hp) (a : Addr) (c : String) (l : List (String × D)) (as : List Addr) : Prop where
  at_ : ∃ dx fs, B a = some (.ins (He.ga K (Str.ofString c)) dx fs) ∧ fs.map (·.1) = l.map (fun q => Str.ofString q.1) ∧ FvL K F B (fs.map (·.2)) (l.map (·.2)) as
  na : F a = none
  nd : as.Nodup
def SlOk (K : PySem.W.Frag) (B F H : Hp) (o : Option V) : Sl → Prop
  | .un => o = none
  | .any => True
  | .val d => ∃ v, o = some v ∧ Rp K F v d
  | .own l => ∃ a xs, o = some (.ref a) ∧ H a = some (.lst xs) ∧ F a = none ∧ B a = none ∧ RpL K F xs l
  | .ownd l => ∃ a, o = some (.ref a) ∧ DctAt K F (H a) l ∧ F a = none ∧ B a = none
  | .ownu l => ∃ a, o = some (.ref a) ∧ DcuAt K F (H a) l ∧ F a = none ∧ B a = none
  | .obj a c l => ∃ dx fs, o = some (.ref a) ∧ H a = some (.ins (He.ga K (Str.ofString c)) dx fs) ∧ F a = none ∧ B a = none ∧ fs.map (·.1) = l.map (fun q => Str.ofString q.1) ∧ RpL K F (fs.map (·.2)) (l.map (·.2))
  | .bor d => ∃ v, o = some v ∧ RpT K F B v d
  | .tre a c l => o = some (.ref a) ∧ Same B H ∧ ∃ as, TreOk K F B a c l as
  | .exn a d l => o = some (.ref a) ∧ XAt K F d l
def Sl.owns : Sl → Bool
  | .own _ => true
  | .ownd _ => true
  | .ownu _ => true
  | .obj _ _ _ => true
  | _ => false
theorem DctAt.mono {o : Option HO} {l : List (D × D)} (e : Same F F') (h : DctAt K F o l) : DctAt K F' o l :=
  let ⟨kvs, h1, h2, h3⟩ := h; ⟨kvs, h1, h2, h3.mono e⟩
theorem DctAt.some {o : Option HO} {l : List (D × D)} (h : DctAt K F o l) : ∃ u, o = some u := let ⟨_, h1, _, _⟩ := h; ⟨_, h1⟩
theorem DctR.monoF {a : Addr} {l : List (D × D)} (e : Same F F') (h : DctR K F H a l) : DctR K F' H a l := let ⟨kvs, h1, h2, h3⟩ := h; ⟨kvs, h1, h2, h3.mono e⟩
theorem DctR.monoH {a : Addr} {l : List (D × D)} (e : Same H H') (h : DctR K F H a l) : DctR K F H' a l := let ⟨kvs, h1, h2, h3⟩ := h; ⟨kvs, rd_same e h1, h2, h3⟩
theorem RpOL.monoF (e : Same F F') : ∀ {vs : List V} {ds : List D}, RpOL K F H vs ds → RpOL K F' H vs ds
  | _, _, .nil => .nil
  | _, _, .frz r q => .frz (r.mono e) (q.monoF e)
  | _, _, .dk r q => .dk (r.monoF e) (q.monoF e)
theorem RpOL.monoH (e : Same H H') : ∀ {vs : List V} {ds : List D}, RpOL K F H vs ds → RpOL K F H' vs ds
  | _, _, .nil => .nil
  | _, _, .frz r q => .frz r (q.monoH e)
  | _, _, .dk r q => .dk (r.monoH e) (q.monoH e)
theorem DcuAt.mono {o : Option HO} {l : List (D × D)} (e : Same F F') (h : DcuAt K F o l) : DcuAt K F' o l :=
  let ⟨kvs, h1, h2, h3⟩ := h; ⟨kvs, h1, h2, h3.mono e⟩
theorem DcuAt.some {o : Option HO} {l : List (D × D)} (h : DcuAt K F o l) : ∃ u, o = some u := let ⟨_, h1, _, _⟩ := h; ⟨_, h1⟩
theorem RpT.monoF {v : V} {d : D} (e : Same F F') (h : RpT K F H v d) : RpT K F' H v d := by
  cases h with
  | of h => exact .of (h.mono e)
  | own h r => exact .own h (r.mono e)
  | ownd r => exact .ownd (r.monoF e)
  | ownu r => exact .ownu (r.mono e)
  | obj h h2 r => exact .obj h h2 (r.mono e)
  | obt h h2 r => exact .obt h h2 (r.monoF e)
theorem RpT.monoH {v : V} {d : D} (e : Same H H') (h : RpT K F H v d) : RpT K F H' v d := by
  cases h with
  | of h => exact .of h
  | own h r => exact .own (e _ _ h) r
  | ownd r => exact .ownd (r.monoH e)
  | ownu r =>
    obtain ⟨u, hu⟩ := r.some
    refine .ownu ?_
    rw [e _ _ hu, ← hu]
    exact r
  | obj h h2 r => exact .obj (e _ _ h) h2 r
  | obt h h2 r => exact .obt (e _ _ h) h2 (r.monoH e)
theorem FvL.off : ∀ {vs : List V} {fv : List D} {as : List Addr}, FvL K F B vs fv as → ∀ p ∈ as, F p = none ∧ ∃ kvs, B p = some (.dK kvs)
  | _, _, _, .nil, p, h => nomatch h
  | _, _, _, .frz _ h, p, hp => h.off p hp
  | _, _, _, .dk h1 h2 h, p, hp => by
    rcases List.mem_cons.mp hp with rfl | hp
    · obtain ⟨kvs, e, _⟩ := h2
      exact ⟨h1, kvs, e⟩
    · exact h.off p hp
theorem FvL.mono (sF : Same F F') : ∀ {vs : List V} {fv : List D} {as : List Addr}, (∀ p ∈ as, F' p = none) → FvL K F B vs fv as → FvL K F' B vs fv as
  | _, _, _, _, .nil => .nil
  | _, _, _, h, .frz r q => .frz (r.mono sF) (FvL.mono sF h q)
  | _, _, _, h, .dk _ h2 q => .dk (h _ (List.mem_cons_self ..)) (h2.mono sF) (FvL.mono sF (fun p hp => h p (List.mem_cons_of_mem _ hp)) q)
theorem FvL.same {B' : Hp} : ∀ {vs : List V} {fv : List D} {as : List Addr}, (∀ p ∈ as, B' p = B p) → FvL K F B vs fv as → FvL K F B' vs fv as
  | _, _, _, _, .nil => .nil
  | _, _, _, h, .frz r q => .frz r (FvL.same h q)
  | _, _, _, h, .dk h1 h2 q => .dk h1 (by rw [h _ (List.mem_cons_self ..)]; exact h2) (FvL.same (fun p hp => h p (List.mem_cons_of_mem _ hp)) q)
theorem FvL.ol : ∀ {vs : List V} {fv : List D} {as : List Addr}, FvL K F B vs fv as → RpOL K F B vs fv
  | _, _, _, .nil => .nil
  | _, _, _, .frz r q => .frz r q.ol
  | _, _, _, .dk _ h q => .dk h.r q.ol
theorem TreOk.rd {a : Addr} {c : String} {l : List (String × D)} {as : List Addr} (t : TreOk K F B a c l as) : RpT K F B (.ref a) (.obt c l) := by
  obtain ⟨dx, fs, h1, h2, h3⟩ := t.at_
  exact .obt h1 h2 h3.ol
theorem TreOk.mono {a : Addr} {c : String} {l : List (String × D)} {as : List Addr} (sF : Same F F') (old : ∀ b o, B b = some o → F' b = F b) (t : TreOk K F B a c l as) : TreOk K F' B a c l as := by
  obtain ⟨dx, fs, h1, h2, h3⟩ := t.at_
  refine ⟨⟨dx, fs, h1, h2, FvL.mono sF (fun p hp => ?_) h3⟩, ?_, t.nd⟩
  · obtain ⟨n, kvs, e⟩ := h3.off p hp
    rw [old _ _ e]
    exact n
  · rw [old _ _ h1]
    exact t.na
theorem SlOk.ext {B : Hp} {o : Option V} {s : Sl} (x : Ext F H F' H') (h : SlOk K B F H o s) : SlOk K B F' H' o s := by
  cases s with
  | un => exact h
  | any => trivial
  | val d => obtain ⟨v, e, r⟩ := h; exact ⟨v, e, r.mono x.sF⟩
  | own l =>
    obtain ⟨a, xs, e, e2, n, b, r⟩ := h
    exact ⟨a, xs, e, x.sH _ _ e2, by rw [x.old _ _ e2]; exact n, b, r.mono x.sF⟩
  | ownd l =>
    obtain ⟨a, e, d, n, b⟩ := h
    obtain ⟨u, hu⟩ := d.some
    refine ⟨a, e, ?_, by rw [x.old _ _ hu]; exact n, b⟩
    rw [x.sH _ _ hu, ← hu]
    exact d.mono x.sF
  | ownu l =>
    obtain ⟨a, e, d, n, b⟩ := h
    obtain ⟨u, hu⟩ := d.some
    refine ⟨a, e, ?_, by rw [x.old _ _ hu]; exact n, b⟩
    rw [x.sH _ _ hu, ← hu]
    exact d.mono x.sF
  | obj a c l =>
    obtain ⟨dx, fs, e, h1, n, b, h2, r⟩ := h
    exact ⟨dx, fs, e, x.sH _ _ h1, by rw [x.old _ _ h1]; exact n, b, h2, r.mono x.sF⟩
  | bor d =>
    obtain ⟨v, e, r⟩ := h
    exact ⟨v, e, r.monoF x.sF⟩
  | tre a c l =>
    obtain ⟨h1, h2, as, t⟩ := h
    exact ⟨h1, h2.trans x.sH, as, t.mono x.sF fun b o e => x.old _ _ (h2 _ _ e)⟩
  | exn a d l => exact ⟨h.1, h.2.mono x.sF⟩
structure GOk (K : PySem.W.Frag) (B : Hp) (G : List Sl) (σ : St) (F H : Hp) : Prop where
  sB : Same B H
  len : σ.length = G.length
  ok : ∀ (i : Nat) (s : Sl), G[i]? = some s → ∃ o, σ[i]? = some o ∧ SlOk K B F H o s
  dis : ∀ (i j : Nat) (s t : Sl) (a : Addr), G[i]? = some s → G[j]? = some t → s.owns = true → t.owns = true → σ[i]? = some (some (.ref a)) → σ[j]? = some (some (.ref a)) → i = j
theorem GOk.ext {B : Hp} {G : List Sl} {σ : St} (x : Ext F H F' H') (g : GOk K B G σ F H) : GOk K B G σ F' H' :=
  ⟨g.sB.trans x.sH, g.len, fun i s h => let ⟨o, h1, h2⟩ := g.ok i s h; ⟨o, h1, h2.ext x⟩, g.dis⟩

def RpX (K : PySem.W.Frag) (F' H' : Hp) (c : Value) (d : Option Addr) (x : Ex) : Prop :=
  c = .ref (He.ga K (Str.ofString x.cls)) ∧ XAt K F' d x.args

def WpG {α β : Type} (K : PySem.W.Frag) (E : XK) (rel : Hp → Hp → β → α → Prop) (m : M α) (F H : Hp) (Q : β → Hp → Prop) : Prop :=
  match m with
  | .ok d => ∀ F' H' v, Ext F H F' H' → rel F' H' v d → Q v H'
  | .error .stuck => False
  | .error (.exc x) => ∀ F' H' c d, Ext F H F' H' → RpX K F' H' c d x → E c d H'
theorem WpG.ext {α β : Type} {E : XK} {rel : Hp → Hp → β → α → Prop} {m : M α} {Q : β → Hp → Prop} (x : Ext F H F' H') (h : WpG K E rel m F H Q) : WpG K E rel m F' H' Q := by
  cases m with
  | ok d => exact fun F2 H2 v y r => h F2 H2 v (x.trans y) r
  | error e =>
    cases e with
    | stuck => exact h
    | exc e => exact fun F2 H2 c d y r => h F2 H2 c d (x.trans y) r
theorem WpG.bind {α β γ δ : Type} {E : XK} {rel : Hp → Hp → β → α → Prop} {rel2 : Hp → Hp → δ → γ → Prop} {m : M α} {k : α → M γ} {Q : δ → Hp → Prop} {Q1 : β → Hp → Prop}
    (h : WpG K E rel2 (m >>= k) F H Q) (hk : ∀ x F' H' v, Ext F H F' H' → rel F' H' v x → WpG K E rel2 (k x) F' H' Q → Q1 v H') : WpG K E rel m F H Q1 := by
  cases m with
  | ok d => exact fun F2 H2 v y r => hk d F2 H2 v y r (WpG.ext y h)
  | error e =>
    cases e with
    | stuck => exact h
    | exc e => exact fun F2 H2 c d y r => h F2 H2 c d y r
theorem WpG.ok {α β : Type} {E : XK} {rel : Hp → Hp → β → α → Prop} {d : α} {Q : β → Hp → Prop} (h : WpG K E rel (.ok d) F H Q) {F' H' : Hp} {v : β} (x : Ext F H F' H') (r : rel F' H' v d) : Q v H' := h F' H' v x r
theorem WpG.need {α β : Type} {E : XK} {rel : Hp → Hp → β → α → Prop} {b : Bool} {k : Unit → M α} {Q : β → Hp → Prop} (h : WpG K E rel (need b >>= k) F H Q) : b = true ∧ WpG K E rel (k ()) F H Q := by
  cases b with
  | true => exact ⟨rfl, h⟩
  | false => exact h.elim

theorem RpT.ext {v : V} {d : D} (x : Ext F H F' H') (h : RpT K F H v d) : RpT K F' H' v d := (h.monoF x.sF).monoH x.sH
theorem RpT.lst {v : V} {l : List D} (s : Same F H) (h : RpT K F H v (.lst l)) : ∃ a xs, v = .ref a ∧ H a = some (.lst xs) ∧ RpL K F xs l := by
  cases h with
  | of h => cases h with
    | lst h hs => exact ⟨_, _, rfl, s _ _ h, hs⟩
  | own h r => exact ⟨_, _, rfl, h, r⟩
theorem RpT.scr {v : V} {l : List Int} (s : Same F H) (h : RpT K F H v (.scr l)) : ∃ a, v = .ref a ∧ SqL K H a (l.map V.int) := by
  cases h with
  | of h => cases h with
    | scr h => exact ⟨_, rfl, s.seq h⟩
theorem RpT.tup {v : V} {l : List D} (s : Same F H) (h : RpT K F H v (.tup l)) : ∃ a xs, v = .ref a ∧ SqT K H a xs ∧ RpL K F xs l := by
  cases h with
  | of h => cases h with
    | tup h hs => exact ⟨_, _, rfl, Same.seqT s h, hs⟩
theorem RpT.int {v : V} {i : Int} (h : RpT K F H v (.int i)) : v = .int i := by
  cases h with
  | of h => cases h; rfl
theorem RpT.str {v : V} {i : Str} (h : RpT K F H v (.str i)) : v = .str i ∧ PyData.strOk i = true := by
  cases h with
  | of h => cases h with
    | str _ h => exact ⟨rfl, h⟩
theorem RpT.bl {v : V} {i : Bool} (h : RpT K F H v (.bl i)) : v = .bl i := by
  cases h with
  | of h => cases h; rfl
theorem RpT.non {v : V} (h : RpT K F H v .non) : v = .non := by
  cases h with
  | of h => cases h; rfl
theorem DGet.kr {H : Hp} {a : Addr} {kvs : List (Key × V)} {k : Key} (e : Rd H a (.dK kvs)) : DGet H a (kV k) (valV kvs k) := .inl ⟨kvs, k, e, rfl, rfl⟩
theorem RpT.dct {v : V} {l : List (D × D)} (s : Same F H) (h : RpT K F H v (.dct l)) : ∃ a, v = .ref a ∧ DctR K F H a l := by
  cases h with
  | of h => cases h with
    | dctK h h2 hs => exact ⟨_, rfl, _, rd_same s h, h2, hs⟩
  | ownd r => exact ⟨_, rfl, r⟩
theorem RpT.dcu {v : V} {l : List (D × D)} (s : Same F H) (h : RpT K F H v (.dcu l)) : ∃ a, v = .ref a ∧ DcuAt K F (H a) l := by
  cases h with
  | of h => cases h with
    | dctT h h2 hs => exact ⟨_, rfl, _, s _ _ h, h2, hs⟩
  | ownu r => exact ⟨_, rfl, r⟩
theorem RpT.ins {v : V} {c : String} {l : List (String × D)} (s : Same F H) (h : RpT K F H v (.ins c l)) : ∃ a dx fs, v = .ref a ∧ H a = some (.ins (He.ga K (Str.ofString c)) dx fs) ∧ fs.map (·.1) = l.map (fun q => Str.ofString q.1) ∧ RpL K F (fs.map (·.2)) (l.map (·.2)) := by
  cases h with
  | of h => cases h with
    | ins h h2 hs => exact ⟨_, _, _, rfl, s _ _ h, h2, hs⟩
  | obj h h2 r => exact ⟨_, _, _, rfl, h, h2, r⟩
end

def DE (X : Cx) (E : St → XK) (G : List Sl) (e : Expr) (m : M D) : Prop :=
  ∃ t, PE X e t ∧ ∀ B σ F H Q, Same F H → GOk X.K B G σ F H → WpG X.K (E σ) (fun F' _ v d => Rp X.K F' v d) m F H Q → t σ H Q
def DR (X : Cx) (E : St → XK) (G : List Sl) (e : Expr) (m : M D) : Prop :=
  ∃ t, PE X e t ∧ ∀ B σ F H Q, Same F H → GOk X.K B G σ F H → WpG X.K (E σ) (fun F' H' v d => RpT X.K F' H' v d) m F H Q → t σ H Q
def DT (X : Cx) (E : St → XK) (G : List Sl) (e : Expr) (m : M Bool) : Prop :=
  ∃ t, PT X e t ∧ ∀ B σ F H Q, Same F H → GOk X.K B G σ F H → WpG X.K (E σ) (fun _ _ (v : Bool) d => v = d) m F H Q → t σ H Q
def DW (X : Cx) (E : St → XK) (G : List Sl) (e : Expr) (m : M Bool) : Prop :=
  ∃ t, PW X e t ∧ ∀ B σ F H Q, Same F H → GOk X.K B G σ F H → WpG X.K (E σ) (fun _ _ (v : Bool) d => v = d) m F H Q → t σ H Q
def DA (X : Cx) (E : St → XK) (G : List Sl) (es : List Expr) (m : M (List D)) : Prop :=
  ∃ t, PA X es t ∧ ∀ B σ F H Q, Same F H → GOk X.K B G σ F H → WpG X.K (E σ) (fun F' _ v d => RpL X.K F' v d) m F H Q → t σ H Q
inductive RpTL (K : PySem.W.Frag) (F H : Hp) : List V → List D → Prop
  | nil : RpTL K F H [] []
  | cons {v : V} {vs : List V} {d : D} {ds : List D} : RpT K F H v d → RpTL K F H vs ds → RpTL K F H (v :: vs) (d :: ds)
def DRA (X : Cx) (E : St → XK) (G : List Sl) (es : List Expr) (m : M (List D)) : Prop :=
  ∃ t, PA X es t ∧ ∀ B σ F H Q, Same F H → GOk X.K B G σ F H → WpG X.K (E σ) (fun F' H' v d => RpTL X.K F' H' v d) m F H Q → t σ H Q
inductive Oc where
  | nx (G : List Sl)
  | ct (G : List Sl)
  | bk (G : List Sl)
  | rt (d : D)
  /-- given back, with something more told of what lies then (of the entry's heap, what is frozen, the heap, the value) -/
  | rg (R : Hp → Hp → Hp → V → Prop)
def WpB {α : Type} (K : PySem.W.Frag) (E : XK) (B0 B : Hp) (post : α → Oc) (m : M α) (F : Hp) (D : Ends) : Prop :=
  match m with
  | .ok x => (match post x with
    | .nx G => ∀ σ F' H', Same F F' → Ext B0 B F' H' → GOk K B G σ F' H' → D.nx σ H'
    | .ct G => ∀ σ F' H', Same F F' → Ext B0 B F' H' → GOk K B G σ F' H' → D.ct σ H'
    | .bk G => ∀ σ F' H', Same F F' → Ext B0 B F' H' → GOk K B G σ F' H' → D.bk σ H'
    | .rt d => ∀ v F' H', Same F F' → Ext B0 B F' H' → Rp K F' v d → D.rt v H'
    | .rg R => ∀ v F' H', Same F F' → Ext B0 B F' H' → R B F' H' v → D.rt v H')
  | .error .stuck => False
  | .error (.exc x) => ∀ F' H' c d, Same F F' → Ext B0 B F' H' → RpX K F' H' c d x → E c d H'
def DB (X : Cx) (E : XK) (G : List Sl) (body : List Stmt) {α : Type} (m : M α) (post : α → Oc) : Prop :=
  ∃ t, PSs X body t ∧ ∀ B0 B σ F H D, Ext B0 B F H → GOk X.K B G σ F H → WpB X.K E B0 B post m F D → t D σ H
end DL

set_option Elab.async false
set_option linter.all false
set_option maxRecDepth 100000
set_option maxHeartbeats 4000000
namespace DL
open PySem PySem.Spec L2

def D.leaf : D → Bool
  | .non => true
  | .bl _ => true
  | .int _ => true
  | .str _ => true
  | _ => false
def D.shp : Nat → D → Bool
  | 0, d => d.leaf
  | n + 1, .tup l => l.all (D.shp n)
  | n + 1, .lst l => l.all (D.shp n)
  | _ + 1, d => d.leaf
mutual
def D.py : D → PyData
  | .non => .none
  | .bl b => .bool b
  | .int i => .int i
  | .str x => .str x
  | .tup l => .tuple (D.pyL l)
  | .lst l => .list (D.pyL l)
  | .dct _ => .none
  | .dcu _ => .none
  | .ins _ _ => .none
  | .scr _ => .none
  | .ow _ => .none
  | .obt _ _ => .none
def D.pyL : List D → List PyData
  | [] => []
  | d :: l => D.py d :: D.pyL l
end
mutual
def D.beq : D → D → Bool
  | .non, .non => true
  | .bl a, .bl b => a == b
  | .bl a, .int j => decide ((if a then 1 else 0) = j)
  | .int i, .bl b => decide (i = (if b then 1 else 0))
  | .int i, .int j => decide (i = j)
  | .str x, .str y => decide (x = y)
  | .tup l, .tup m => D.beqL l m
  | .lst l, .lst m => D.beqL l m
  | _, _ => false
def D.beqL : List D → List D → Bool
  | [], [] => true
  | x :: l, y :: m => D.beq x y && D.beqL l m
  | _, _ => false
end
theorem D.pyL_eq : ∀ l : List D, D.pyL l = l.map D.py
  | [] => by simp only [D.pyL, List.map_nil]
  | d :: l => by simp only [D.pyL, List.map_cons, D.pyL_eq l]
theorem D.leaf_cases {d : D} (h : d.leaf = true) : d = .non ∨ (∃ b, d = .bl b) ∨ (∃ i, d = .int i) ∨ ∃ x, d = .str x := by
  cases d with
  | non => exact .inl rfl
  | bl b => exact .inr (.inl ⟨b, rfl⟩)
  | int i => exact .inr (.inr (.inl ⟨i, rfl⟩))
  | str x => exact .inr (.inr (.inr ⟨x, rfl⟩))
  | _ => cases h
theorem D.shp_cases {n : Nat} {d : D} (h : d.shp n = true) : d.leaf = true ∨ ∃ m l, n = m + 1 ∧ (d = .tup l ∨ d = .lst l) ∧ l.all (D.shp m) = true := by
  cases n with
  | zero => exact .inl h
  | succ n =>
    cases d with
    | tup l => exact .inr ⟨n, l, rfl, .inl rfl, h⟩
    | lst l => exact .inr ⟨n, l, rfl, .inr rfl, h⟩
    | non => exact .inl h
    | bl b => exact .inl h
    | int i => exact .inl h
    | str x => exact .inl h
    | dct _ => exact .inl h
    | dcu _ => exact .inl h
    | ins _ _ => exact .inl h
    | scr _ => exact .inl h
    | ow _ => exact .inl h
    | obt _ _ => exact .inl h
theorem D.leaf_py {d : D} (h : d.leaf = true) : d.py.depth = 0 := by
  rcases D.leaf_cases h with rfl | ⟨b, rfl⟩ | ⟨i, rfl⟩ | ⟨x, rfl⟩ <;> simp [D.py, PyData.depth]
theorem D.shp_depth : ∀ {n : Nat} {d : D}, d.shp n = true → d.py.depth ≤ n
  | n, d, h => by
    induction n generalizing d with
    | zero => exact Nat.le_of_eq (D.leaf_py h)
    | succ n ih =>
      rcases D.shp_cases h with h | ⟨m, l, e, hd, hl⟩
      · rw [D.leaf_py h]
        exact Nat.zero_le _
      · injection e with e
        subst e
        have q : ∀ l : List D, l.all (D.shp n) = true → PyData.depthAll (l.map D.py) ≤ n := by
          intro l
          induction l with
          | nil => intro _; simp [PyData.depthAll]
          | cons a l ihl =>
            intro h
            rw [List.all_cons, Bool.and_eq_true] at h
            have h1 := ih _ h.1
            have h2 := ihl h.2
            simp only [List.map_cons, PyData.depthAll]
            omega
        have hq := q l hl
        rcases hd with rfl | rfl
        · simp only [D.py, D.pyL_eq, PyData.depth]
          omega
        · simp only [D.py, D.pyL_eq, PyData.depth]
          omega
theorem D.beq_eq : ∀ {n : Nat} {d e : D}, d.shp n = true → e.shp n = true → PyData.eqv d.py e.py = D.beq d e
  | n, d, e, hd, he => by
    induction n generalizing d e with
    | zero =>
      rcases D.leaf_cases hd with rfl | ⟨b, rfl⟩ | ⟨i, rfl⟩ | ⟨x, rfl⟩ <;> rcases D.leaf_cases he with rfl | ⟨c, rfl⟩ | ⟨j, rfl⟩ | ⟨y, rfl⟩ <;> simp [D.py, D.beq, PyData.eqv, Bool.beq_eq_decide_eq] <;> rfl
    | succ n ih =>
      have q : ∀ l m : List D, l.all (D.shp n) = true → m.all (D.shp n) = true → PyData.eqvAll (D.pyL l) (D.pyL m) = D.beqL l m := by
        intro l
        induction l with
        | nil => intro m _ _; cases m <;> simp [D.pyL, D.beqL, PyData.eqvAll]
        | cons a l ihl =>
          intro m h1 h2
          cases m with
          | nil => simp [D.pyL, D.beqL, PyData.eqvAll]
          | cons b m =>
            rw [List.all_cons, Bool.and_eq_true] at h1 h2
            simp only [D.pyL, D.beqL, PyData.eqvAll]
            rw [ih _ _ h1.1 h2.1, ihl m h1.2 h2.2]
      rcases D.shp_cases hd with h1 | ⟨m1, l1, e1, d1, s1⟩
      · rcases D.shp_cases he with h2 | ⟨m2, l2, e2, d2, s2⟩
        · rcases D.leaf_cases h1 with rfl | ⟨b, rfl⟩ | ⟨i, rfl⟩ | ⟨x, rfl⟩ <;> rcases D.leaf_cases h2 with rfl | ⟨c, rfl⟩ | ⟨j, rfl⟩ | ⟨y, rfl⟩ <;> simp [D.py, D.beq, PyData.eqv, Bool.beq_eq_decide_eq] <;> rfl
        · rcases D.leaf_cases h1 with rfl | ⟨b, rfl⟩ | ⟨i, rfl⟩ | ⟨x, rfl⟩ <;> rcases d2 with rfl | rfl <;> simp [D.py, D.beq, PyData.eqv]
      · injection e1 with e1
        subst e1
        rcases D.shp_cases he with h2 | ⟨m2, l2, e2, d2, s2⟩
        · rcases D.leaf_cases h2 with rfl | ⟨b, rfl⟩ | ⟨i, rfl⟩ | ⟨x, rfl⟩ <;> rcases d1 with rfl | rfl <;> simp [D.py, D.beq, PyData.eqv]
        · injection e2 with e2
          subst e2
          rcases d1 with rfl | rfl <;> rcases d2 with rfl | rfl
          · simp only [D.py, D.beq, PyData.eqv]
            exact q _ _ s1 s2
          · simp [D.py, D.beq, PyData.eqv]
          · simp [D.py, D.beq, PyData.eqv]
          · simp only [D.py, D.beq, PyData.eqv]
            exact q _ _ s1 s2

section
variable {K : PySem.W.Frag} {F H : Hp}
theorem Rp.dp_leaf {v : V} {d : D} (h : d.leaf = true) (r : Rp K F v d) : Dp K H v d.py ∧ d.py.canLay0 = true := by
  cases r with
  | non => exact ⟨by simp only [D.py]; exact .non, by simp [D.py, PyData.canLay0]⟩
  | bl b => exact ⟨by simp only [D.py]; exact .bl b, by simp [D.py, PyData.canLay0]⟩
  | int i => exact ⟨by simp only [D.py]; exact .int i, by simp [D.py, PyData.canLay0]⟩
  | str x hx => exact ⟨by simp only [D.py]; exact .str x, by simp [D.py, PyData.canLay0, hx]⟩
  | tup _ _ => cases h
  | lst _ _ => cases h
  | scr _ => cases h
  | dctK _ _ _ => cases h
  | dctT _ _ _ => cases h
  | ins _ _ _ => cases h
theorem Rp.dp (s : Same F H) : ∀ {n : Nat} {v : V} {d : D}, d.shp n = true → Rp K F v d → Dp K H v d.py ∧ d.py.canLay0 = true
  | n, v, d, h, r => by
    induction n generalizing v d with
    | zero => exact Rp.dp_leaf h r
    | succ n ih =>
      have q : ∀ (l : List D) (xs : List V), l.all (D.shp n) = true → RpL K F xs l → DpAll K H xs (D.pyL l) ∧ PyData.canLayAll0 (D.pyL l) = true := by
        intro l
        induction l with
        | nil =>
          intro xs _ r
          cases r
          exact ⟨by simp only [D.pyL]; exact .nil, by simp [D.pyL, PyData.canLayAll0]⟩
        | cons a l ihl =>
          intro xs h r
          rw [List.all_cons, Bool.and_eq_true] at h
          cases r with
          | cons r1 r2 =>
            obtain ⟨a1, a2⟩ := ih _ _ h.1 r1
            obtain ⟨b1, b2⟩ := ihl _ h.2 r2
            exact ⟨by simp only [D.pyL]; exact .cons a1 b1, by simp [D.pyL, PyData.canLayAll0, a2, b2]⟩
      rcases D.shp_cases h with h1 | ⟨m, l, e, hd, hl⟩
      · exact Rp.dp_leaf h1 r
      · injection e with e
        subst e
        rcases hd with rfl | rfl
        · cases r with
          | tup r1 r2 =>
            obtain ⟨a1, a2⟩ := q l _ hl r2
            exact ⟨by simp only [D.py]; exact .tup (Same.seqT s r1) a1, by simp [D.py, PyData.canLay0, a2]⟩
        · cases r with
          | lst r1 r2 =>
            obtain ⟨a1, a2⟩ := q l _ hl r2
            exact ⟨by simp only [D.py]; exact .lst (SqL.of (s _ _ r1)) a1, by simp [D.py, PyData.canLay0, a2]⟩
theorem RpL.dpAll (s : Same F H) {n : Nat} : ∀ {l : List D} {xs : List V}, l.all (D.shp n) = true → RpL K F xs l → DpAll K H xs (D.pyL l) ∧ PyData.canLayAll0 (D.pyL l) = true
  | [], _, _, .nil => ⟨by simp only [D.pyL]; exact .nil, by simp [D.pyL, PyData.canLayAll0]⟩
  | a :: l, _, h, .cons r1 r2 => by
    rw [List.all_cons, Bool.and_eq_true] at h
    obtain ⟨a1, a2⟩ := Rp.dp s h.1 r1
    obtain ⟨b1, b2⟩ := RpL.dpAll s h.2 r2
    exact ⟨by simp only [D.pyL]; exact .cons a1 b1, by simp [D.pyL, PyData.canLayAll0, a2, b2]⟩
theorem RpT.dp (s : Same F H) {n : Nat} {v : V} {d : D} (h : d.shp n = true) (r : RpT K F H v d) : Dp K H v d.py ∧ d.py.canLay0 = true := by
  cases r with
  | of r => exact Rp.dp s h r
  | own e r =>
    cases n with
    | zero => cases h
    | succ n =>
      obtain ⟨a1, a2⟩ := RpL.dpAll s (n := n) h r
      exact ⟨by simp only [D.py]; exact .lst (SqL.of e) a1, by simp [D.py, PyData.canLay0, a2]⟩
  | ownd _ => cases n <;> cases h
  | ownu _ => cases n <;> cases h
  | obj _ _ _ => cases n <;> cases h
  | obt _ _ _ => cases n <;> cases h
theorem shaped_of {n : Nat} {d : D} (hn : n ≤ 64) (h : d.shp n = true) (c : d.py.canLay0 = true) : SeqAt.shaped d.py = true := by
  show (d.py.canLay0 && decide (d.py.depth ≤ 64)) = true
  rw [c, Bool.true_and]
  exact decide_eq_true (Nat.le_trans (D.shp_depth h) hn)
end

def D.eq (x y : D) : M Bool := do
  need (x.shp 20 && y.shp 20)
  .ok (D.beq x y)
def D.add : D → D → M D
  | .int i, .int j => .ok (.int (i + j))
  | .str x, .str y => do need (decide (x.length + y.length ≤ sizeLine)); .ok (.str (x ++ y))
  | .lst l, .lst m => do need (decide (l.length + m.length ≤ sizeLine)); .ok (.lst (l ++ m))
  | .tup l, .tup m => do need (decide (l.length + m.length ≤ sizeLine)); .ok (.tup (l ++ m))
  | _, _ => stuck
def D.sub : D → D → M D
  | .int i, .int j => .ok (.int (i - j))
  | _, _ => stuck
def D.mul : D → D → M D
  | .int i, .int j => do need (decide ((-(2 ^ 64) < i ∧ i < 2 ^ 64) ∨ (-(2 ^ 64) < j ∧ j < 2 ^ 64))); .ok (.int (i * j))
  | _, _ => stuck
def D.fdiv : D → D → M D
  | .int i, .int j => do need (decide (0 < j ∧ j < 1073741824)); .ok (.int (i / j))
  | _, _ => stuck
def D.mod : D → D → M D
  | .int i, .int j => do need (decide (0 < j)); .ok (.int (i % j))
  | _, _ => stuck
def D.pow : D → D → M D
  | .int i, .int j => do need (decide (0 ≤ j ∧ j ≤ 1000000 ∧ i.natAbs < 2 ^ 64)); .ok (.int (i ^ j.toNat))
  | _, _ => stuck
def D.neg : D → M D
  | .int i => .ok (.int (-i))
  | _ => stuck
def D.lt : D → D → M Bool
  | .int i, .int j => .ok (decide (i < j))
  | .str i, .str j => .ok (decide (i.cps.toList < j.cps.toList))
  | _, _ => stuck
def D.le : D → D → M Bool
  | .int i, .int j => .ok (decide (i ≤ j))
  | _, _ => stuck
def D.gt : D → D → M Bool
  | .int i, .int j => .ok (decide (j < i))
  | _, _ => stuck
def D.ge : D → D → M Bool
  | .int i, .int j => .ok (decide (j ≤ i))
  | _, _ => stuck
def D.ne (x y : D) : M Bool := do let b ← D.eq x y; .ok (!b)
def D.isKey : D → Bool
  | .int _ => true
  | .str _ => true
  | _ => false
def D.look (l : List (D × D)) (k : D) : Option D := (l.find? fun q => D.beq q.1 k).map (·.2)
def D.mem (x : D) : D → M Bool
  | .str z => (match x with
    | .str y => (match y.cps.toList with
      | [c] => .ok (decide (c ∈ z.cps.toList))
      | _ => .ok (!(Builtin.Str.occurrences z y 0 z.length 1).isEmpty))
    | _ => stuck)
  | .lst l => do need (x.shp 19 && l.all (D.shp 19)); .ok (l.any fun z => D.beq z x)
  | .tup l => do need (x.shp 19 && l.all (D.shp 19)); .ok (l.any fun z => D.beq z x)
  | .dct l => do need x.isKey; .ok (D.look l x).isSome
  | _ => stuck
def D.nmem (x y : D) : M Bool := do let b ← D.mem x y; .ok (!b)
def D.isNon : D → Bool
  | .non => true
  | _ => false
def D.tru : D → M Bool
  | .non => .ok false
  | .bl b => .ok b
  | .int i => .ok (i != 0)
  | .str y => do need (decide (y.length ≤ sizeLine)); .ok ((y.length : Int) != 0)
  | .lst l => .ok (!l.isEmpty)
  | .tup l => .ok (!l.isEmpty)
  | .dct l => .ok (!l.isEmpty)
  | _ => stuck
def D.ix : D → D → M D
  | .lst l, .int i => (match atI l i with | some d => .ok d | none => stuck)
  | .tup l, .int i => (match atI l i with | some d => .ok d | none => stuck)
  | .str z, .int i => do need (decide (z.length ≤ sizeLine)); (match atI z.cps.toList i with | some c => .ok (.str ⟨#[c]⟩) | none => stuck)
  | .dct l, k => do need k.isKey; (match D.look l k with | some d => .ok d | none => stuck)
  | _, _ => stuck
def cutL {α : Type} (xs : List α) (lo hi : Option Int) : List α := (xs.drop (HT.sIx xs.length 0 lo)).take (HT.sIx xs.length xs.length hi - HT.sIx xs.length 0 lo)
def D.sl : D → Option Int → Option Int → M D
  | .lst l, lo, hi => .ok (.lst (cutL l lo hi))
  | .tup l, lo, hi => .ok (.tup (cutL l lo hi))
  | .scr l, lo, hi => .ok (.lst ((cutL l lo hi).map D.int))
  | .str z, lo, hi => do need (decide (z.length ≤ sizeLine)); .ok (.str (cutS z lo hi))
  | _, _, _ => stuck
def D.len : D → M D
  | .str y => do need (decide (y.length ≤ sizeLine)); .ok (.int y.length)
  | .lst l => .ok (.int l.length)
  | .tup l => .ok (.int l.length)
  | .scr l => .ok (.int l.length)
  | .dct l => .ok (.int l.length)
  | _ => stuck
def D.abs : D → M D
  | .int i => .ok (.int (if i < 0 then -i else i))
  | _ => stuck
def D.toInt : D → M D
  | .int i => .ok (.int i)
  | .bl k => .ok (.int (if k then 1 else 0))
  | .str a => (match PySem.intText? a with | some n => do need (decide (a.length ≤ 640)); .ok (.int n) | none => stuck)
  | _ => stuck
def D.toStr : D → M D
  | .int i => do need (decide (i.natAbs.log2 < 1920)); .ok (.str (toString i))
  | _ => stuck
def D.max2 : D → D → M D
  | .int i, .int j => .ok (.int (if j > i then j else i))
  | _, _ => stuck
def D.min2 : D → D → M D
  | .int i, .int j => .ok (.int (if j < i then j else i))
  | _, _ => stuck
def D.bools : List D → Option (List Bool)
  | [] => some []
  | .bl b :: l => (D.bools l).map (b :: ·)
  | _ :: _ => none
def D.all : D → M D
  | .lst l => (match D.bools l with | some bs => .ok (.bl (bs.all id)) | none => stuck)
  | _ => stuck
def D.any : D → M D
  | .lst l => (match D.bools l with | some bs => .ok (.bl (bs.any id)) | none => stuck)
  | _ => stuck
def D.toList : D → M D
  | .lst l => .ok (.lst l)
  | .tup l => .ok (.lst l)
  | _ => stuck
def D.toTup : D → M D
  | .lst l => .ok (.tup l)
  | .tup l => .ok (.tup l)
  | _ => stuck
def D.strs : List D → Option (List Str)
  | [] => some []
  | .str b :: l => (D.strs l).map (b :: ·)
  | _ :: _ => none
def D.join (x y : D) : M D :=
  match x, y with
  | .str a, .lst l => (match D.strs l with
    | some ys => do need (decide ((ys.map (·.length)).sum + ys.length * a.length ≤ 16777216)); .ok (.str (Txt.join a ys))
    | none => stuck)
  | .str a, .tup l => (match D.strs l with
    | some ys => do need (decide ((ys.map (·.length)).sum + ys.length * a.length ≤ 16777216)); .ok (.str (Txt.join a ys))
    | none => stuck)
  | _, _ => stuck
def D.split (x y : D) : M D :=
  match x, y with
  | .str a, .str b => do need (!(b.length == 0) && decide (a.length + 2 ≤ sizeLine)); .ok (.lst ((Txt.split a b).map D.str))
  | _, _ => stuck
def Sl.rd : Sl → M D
  | .val d => .ok d
  | .own l => .ok (.lst l)
  | .ownd l => .ok (.dct l)
  | .ownu l => .ok (.dcu l)
  | .obj _ c l => .ok (.ins c l)
  | .bor d => .ok d
  | .tre _ c l => .ok (.obt c l)
  | _ => stuck
def Sl.vl : Sl → M D
  | .val d => .ok d
  | _ => stuck
def bD (m : M Bool) : M D := m >>= fun b => .ok (.bl b)
end DL

set_option Elab.async false
set_option linter.all false
set_option maxRecDepth 100000
set_option maxHeartbeats 4000000
namespace DL
open PySem PySem.Spec L2

abbrev rE (K : PySem.W.Frag) : Hp → Hp → V → D → Prop := fun F' _ v d => Rp K F' v d
abbrev rT (K : PySem.W.Frag) : Hp → Hp → V → D → Prop := fun F' H' v d => RpT K F' H' v d
abbrev rB : Hp → Hp → Bool → Bool → Prop := fun _ _ v d => v = d
abbrev rL (K : PySem.W.Frag) : Hp → Hp → List V → List D → Prop := fun F' _ v d => RpL K F' v d
abbrev rTL (K : PySem.W.Frag) : Hp → Hp → List V → List D → Prop := fun F' H' v d => RpTL K F' H' v d

theorem strOk_app {x y : Str} (hx : PyData.strOk x = true) (hy : PyData.strOk y = true) : PyData.strOk (x ++ y) = true := by
  unfold PyData.strOk at *
  show (x.cps ++ y.cps).all _ = true
  rw [Array.all_append, hx, hy] <;> rfl
theorem strOk_mem {x : Str} : PyData.strOk x = true ↔ ∀ c ∈ x.cps.toList, c < 0x110000 := by
  unfold PyData.strOk
  rw [← Array.all_toList, List.all_eq_true]
  exact ⟨fun h c hc => of_decide_eq_true (h c hc), fun h c hc => decide_eq_true (h c hc)⟩
theorem strOk_cut {z : Str} (h : PyData.strOk z = true) (lo hi : Option Int) : PyData.strOk (cutS z lo hi) = true := by
  rw [strOk_mem] at h ⊢
  intro c hc
  refine h c ?_
  unfold cutS at hc
  simp only at hc
  exact List.mem_of_mem_drop (List.mem_of_mem_take hc)
theorem strOk_one {z : Str} {c : Nat} (h : PyData.strOk z = true) (hc : c ∈ z.cps.toList) : PyData.strOk ⟨#[c]⟩ = true := by
  rw [strOk_mem] at h ⊢
  intro d hd
  have e : d = c := by simpa using hd
  subst e
  exact h d hc

section
variable {X : Cx} {E : St → XK} {G : List Sl} {a b c e : Expr} {ma mb mc : M D} {pos : Pos} {F H : Hp}

theorem DR.of {m : M D} (h : DE X E G e m) : DR X E G e m := by
  obtain ⟨t, p, w⟩ := h
  exact ⟨t, p, fun B σ F H Q s g q => w B σ F H Q s g (match m, q with
    | .ok d, q => fun F' H' v x r => q F' H' v x (.of r)
    | .error .stuck, q => q.elim
    | .error (.exc x), q => q)⟩
theorem GOk.at {B : Hp} {σ : St} {i : Nat} {s : Sl} (g : GOk X.K B G σ F H) (h : G[i]? = some s) : ∃ o, σ[i]? = some o ∧ SlOk X.K B F H o s := g.ok i s h
theorem dr_var {i : Nat} {s : Sl} {x : Str} (h : G[i]? = some s) (p : PE X (.Name x pos) (tVar i)) : DR X E G (.Name x pos) s.rd := by
  refine ⟨_, p, fun B σ F H Q sm g q => ?_⟩
  obtain ⟨o, h1, h2⟩ := g.ok i s h
  cases s with
  | un => exact q.elim
  | any => exact q.elim
  | val d =>
    obtain ⟨v, rfl, r⟩ := h2
    exact ⟨v, h1, q F H v (Ext.refl sm) (.of r)⟩
  | own l =>
    obtain ⟨a, xs, rfl, e2, _, _, r⟩ := h2
    exact ⟨_, h1, q F H _ (Ext.refl sm) (.own e2 r)⟩
  | ownd l =>
    obtain ⟨a, rfl, r, _, _⟩ := h2
    exact ⟨_, h1, q F H _ (Ext.refl sm) (.ownd r.r)⟩
  | ownu l =>
    obtain ⟨a, rfl, r, _, _⟩ := h2
    exact ⟨_, h1, q F H _ (Ext.refl sm) (.ownu r)⟩
  | obj a c l =>
    obtain ⟨dx, fs, rfl, e1, _, _, e2, r⟩ := h2
    exact ⟨_, h1, q F H _ (Ext.refl sm) (.obj e1 e2 r)⟩
  | bor d =>
    obtain ⟨v, rfl, r⟩ := h2
    exact ⟨v, h1, q F H _ (Ext.refl sm) (r.monoH g.sB)⟩
  | tre a c l =>
    obtain ⟨rfl, _, as, t⟩ := h2
    exact ⟨_, h1, q F H _ (Ext.refl sm) (t.rd.monoH g.sB)⟩
  | exn a d l => exact q.elim
theorem de_var {i : Nat} {s : Sl} {x : Str} (h : G[i]? = some s) (p : PE X (.Name x pos) (tVar i)) : DE X E G (.Name x pos) s.vl := by
  refine ⟨_, p, fun B σ F H Q sm g q => ?_⟩
  obtain ⟨o, h1, h2⟩ := g.ok i s h
  cases s with
  | val d =>
    obtain ⟨v, rfl, r⟩ := h2
    exact ⟨v, h1, q F H v (Ext.refl sm) r⟩
  | _ => exact q.elim
theorem de_val {i : Nat} {d : D} {x : Str} (h : G[i]? = some (.val d)) (p : PE X (.Name x pos) (tVar i)) : DE X E G (.Name x pos) (.ok d) := de_var h p
theorem de_c {v : V} {d : D} (p : PE X e (tC v)) (h : ∀ F, Rp X.K F v d) : DE X E G e (.ok d) :=
  ⟨_, p, fun B σ F H Q s g q => q F H v (Ext.refl s) (h F)⟩
theorem de_int {i j pos} : DE X E G (.Constant (.int i) j pos) (.ok (.int i)) := de_c pe_int fun _ => .int i
theorem de_bl {i j pos} : DE X E G (.Constant (.bool i) j pos) (.ok (.bl i)) := de_c pe_bl fun _ => .bl i
theorem de_non {j pos} : DE X E G (.Constant .none j pos) (.ok .non) := de_c pe_non fun _ => .non
theorem de_str {x : Str} {j pos} (h : PyData.strOk x = true) : DE X E G (.Constant (.str x) j pos) (.ok (.str x)) := de_c pe_str fun _ => .str x h
theorem de_gint {x : Str} {i : Int} {t : Tok} (hg : Gl X x) (hm : X.mg x = some (.int i t)) (hd : (x == ("__debug__" : Str)) = false := by decide) : DE X E G (.Name x pos) (.ok (.int i)) := de_c (v := .int i) (pe_glob hg hm ⟨t, rfl⟩ hd) fun _ => .int i
theorem de_gstr {x z : Str} {t : Tok} (hg : Gl X x) (hm : X.mg x = some (.str z t)) (hz : PyData.strOk z = true) (hd : (x == ("__debug__" : Str)) = false := by decide) : DE X E G (.Name x pos) (.ok (.str z)) := de_c (v := .str z) (pe_glob hg hm ⟨t, rfl⟩ hd) fun _ => .str z hz

def Op2 (K : PySem.W.Frag) (f : D → D → M D) (r : R2) : Prop := ∀ (E : XK) (F H : Hp) (v u : V) (x y : D) (Q : VK), Same F H → RpT K F H v x → RpT K F H u y → WpG K E (rE K) (f x y) F H Q → r v u H Q
theorem two {ta tb : TE} {r : R2} {f : D → D → M D} (wa : ∀ B σ F H Q, Same F H → GOk X.K B G σ F H → WpG X.K (E σ) (rT X.K) ma F H Q → ta σ H Q) (wb : ∀ B σ F H Q, Same F H → GOk X.K B G σ F H → WpG X.K (E σ) (rT X.K) mb F H Q → tb σ H Q)
    (hf : Op2 X.K f r) : ∀ B σ F H Q, Same F H → GOk X.K B G σ F H → WpG X.K (E σ) (rE X.K) (ma >>= fun x => mb >>= fun y => f x y) F H Q → tOp r ta tb σ H Q := fun B σ F H Q s g q =>
  wa B σ F H _ s g (q.bind fun x F1 H1 v x1 r1 q1 => wb B σ F1 H1 _ x1.sFH (g.ext x1) (q1.bind fun y F2 H2 u x2 r2 q2 => hf (E σ) F2 H2 v u x y Q x2.sFH (r1.ext x2) r2 q2))
theorem de_op {op : Operator} {r : R2} {f : D → D → M D} (ho : OpR X (binaryOp op) r) (hf : Op2 X.K f r) (ha : DR X E G a ma) (hb : DR X E G b mb) : DE X E G (.BinOp a op b pos) (ma >>= fun x => mb >>= fun y => f x y) := by
  obtain ⟨ta, pa, wa⟩ := ha
  obtain ⟨tb, pb, wb⟩ := hb
  exact ⟨_, pe_op ho pa pb, two wa wb hf⟩

theorem new_lst {E₁ : XK} {xs : List V} {ds : List D} {Q : VK} (s : Same F H) (r : RpL X.K F xs ds) (q : WpG X.K E₁ (rE X.K) (.ok (.lst ds)) F H Q) : ∀ p, H p = none → Q (.ref p) (upd H p (.lst xs)) := fun p hp =>
  q _ _ _ (Ext.new s hp) (.lst upd_same (r.mono (Ext.new s hp).sF))
theorem new_tup {E₁ : XK} {xs : List V} {ds : List D} {Q : VK} (s : Same F H) (r : RpL X.K F xs ds) (q : WpG X.K E₁ (rE X.K) (.ok (.tup ds)) F H Q) : ∀ p, H p = none → Q (.ref p) (upd H p (.tup xs)) := fun p hp =>
  q _ _ _ (Ext.new s hp) (.tup (SqT.of upd_same) (r.mono (Ext.new s hp).sF))
theorem RpT.rp_tup {v : V} {l : List D} {K : PySem.W.Frag} (h : RpT K F H v (.tup l)) : Rp K F v (.tup l) := by
  cases h with
  | of h => exact h

def rAddAll (K : PySem.W.Frag) : R2 := fun x y H Q => rI0 (fun i j => .int (i + j)) x y H Q ∨ (∃ i j, x = .str i ∧ y = .str j ∧ i.length + j.length ≤ sizeLine ∧ Q (.str (i ++ j)) H) ∨ rCat x y H Q ∨ rCatA K x y H Q
theorem op_addAll : OpR X (binaryOp .Add) (rAddAll X.K) := op_add.or (op_add_str.or (op_cat.or op_catA))
theorem op2_add : Op2 X.K D.add (rAddAll X.K) := fun E F H v u x y Q s rx ry q => by
  cases x with
  | int i => cases y with
    | int j => exact .inl ⟨i, j, rx.int, ry.int, q F H _ (Ext.refl s) (.int _)⟩
    | _ => exact q.elim
  | str i => cases y with
    | str j =>
      obtain ⟨c, q⟩ := q.need
      exact .inr (.inl ⟨i, j, rx.str.1, ry.str.1, of_decide_eq_true c, q F H _ (Ext.refl s) (.str _ (strOk_app rx.str.2 ry.str.2))⟩)
    | _ => exact q.elim
  | lst l => cases y with
    | lst m =>
      obtain ⟨c, q⟩ := q.need
      obtain ⟨p, xs, rfl, e1, r1⟩ := rx.lst s
      obtain ⟨p2, ys, rfl, e2, r2⟩ := ry.lst s
      exact .inr (.inr (.inl ⟨p, p2, xs, ys, rfl, rfl, e1, e2, by rw [r1.length, r2.length]; exact of_decide_eq_true c, new_lst s (r1.append r2) q⟩))
    | _ => exact q.elim
  | tup l => cases y with
    | tup m =>
      obtain ⟨c, q⟩ := q.need
      obtain ⟨p, xs, rfl, e1, r1⟩ := rx.tup s
      obtain ⟨p2, ys, rfl, e2, r2⟩ := ry.tup s
      refine .inr (.inr (.inr ⟨p, p2, xs, ys, rfl, rfl, e1, e2, by rw [r1.length, r2.length]; exact of_decide_eq_true c, fun h0 => ?_, fun _ h0 => ?_, fun _ _ => new_tup s (r1.append r2) q⟩))
      · subst h0
        cases r1
        exact q F H _ (Ext.refl s) ry.rp_tup
      · subst h0
        cases r2
        rw [List.append_nil] at q
        exact q F H _ (Ext.refl s) rx.rp_tup
    | _ => exact q.elim
  | _ => cases y <;> exact q.elim
theorem de_add (ha : DR X E G a ma) (hb : DR X E G b mb) : DE X E G (.BinOp a .Add b pos) (ma >>= fun x => mb >>= fun y => D.add x y) := de_op op_addAll op2_add ha hb
theorem de_sub (ha : DR X E G a ma) (hb : DR X E G b mb) : DE X E G (.BinOp a .Sub b pos) (ma >>= fun x => mb >>= fun y => D.sub x y) := de_op op_sub (fun E F H v u x y Q s rx ry q => by
  cases x with
  | int i => cases y with
    | int j => exact ⟨i, j, rx.int, ry.int, q F H _ (Ext.refl s) (.int _)⟩
    | _ => exact q.elim
  | _ => cases y <;> exact q.elim) ha hb
theorem de_mul (ha : DR X E G a ma) (hb : DR X E G b mb) : DE X E G (.BinOp a .Mult b pos) (ma >>= fun x => mb >>= fun y => D.mul x y) := de_op op_mul (fun E F H v u x y Q s rx ry q => by
  cases x with
  | int i => cases y with
    | int j =>
      obtain ⟨c, q⟩ := q.need
      have c := of_decide_eq_true c
      exact ⟨i, j, rx.int, ry.int, c, q F H _ (Ext.refl s) (.int _)⟩
    | _ => exact q.elim
  | _ => cases y <;> exact q.elim) ha hb
theorem de_fdiv (ha : DR X E G a ma) (hb : DR X E G b mb) : DE X E G (.BinOp a .FloorDiv b pos) (ma >>= fun x => mb >>= fun y => D.fdiv x y) := de_op op_fdiv (fun E F H v u x y Q s rx ry q => by
  cases x with
  | int i => cases y with
    | int j =>
      obtain ⟨c, q⟩ := q.need
      have c := of_decide_eq_true c
      exact ⟨i, j, rx.int, ry.int, c, q F H _ (Ext.refl s) (.int _)⟩
    | _ => exact q.elim
  | _ => cases y <;> exact q.elim) ha hb
theorem de_mod (ha : DR X E G a ma) (hb : DR X E G b mb) : DE X E G (.BinOp a .Mod b pos) (ma >>= fun x => mb >>= fun y => D.mod x y) := de_op op_mod (fun E F H v u x y Q s rx ry q => by
  cases x with
  | int i => cases y with
    | int j =>
      obtain ⟨c, q⟩ := q.need
      have c := of_decide_eq_true c
      exact ⟨i, j, rx.int, ry.int, c, q F H _ (Ext.refl s) (.int _)⟩
    | _ => exact q.elim
  | _ => cases y <;> exact q.elim) ha hb
theorem de_pow (ha : DR X E G a ma) (hb : DR X E G b mb) : DE X E G (.BinOp a .Pow b pos) (ma >>= fun x => mb >>= fun y => D.pow x y) := de_op op_pow (fun E F H v u x y Q s rx ry q => by
  cases x with
  | int i => cases y with
    | int j =>
      obtain ⟨c, q⟩ := q.need
      have c := of_decide_eq_true c
      exact ⟨i, j, rx.int, ry.int, c, q F H _ (Ext.refl s) (.int _)⟩
    | _ => exact q.elim
  | _ => cases y <;> exact q.elim) ha hb
theorem de_neg (ha : DR X E G a ma) : DE X E G (.UnaryOp .USub a pos) (ma >>= fun x => D.neg x) := by
  obtain ⟨ta, pa, wa⟩ := ha
  refine ⟨_, pe_un un_neg pa, fun B σ F H Q s g q => wa B σ F H _ s g (q.bind fun x F1 H1 v x1 r1 q1 => ?_)⟩
  cases x with
  | int i => exact ⟨i, r1.int, q1 F1 H1 _ (Ext.refl x1.sFH) (.int _)⟩
  | _ => exact q1.elim

def rCmp (K : PySem.W.Frag) (f : D → D → M Bool) (r : R2) : Prop := Op2 K (fun x y => bD (f x y)) r
theorem WpG.bd {E₁ : XK} {m : M Bool} {Q : VK} {K : PySem.W.Frag} (s : Same F H) (q : WpG K E₁ (rE K) (bD m) F H Q) : ∃ c, m = .ok c ∧ Q (.bl c) H ∨ (∃ x, m = .error (.exc x)) := by
  cases m with
  | ok c => exact ⟨c, .inl ⟨rfl, q F H _ (Ext.refl s) (.bl c)⟩⟩
  | error e => cases e with
    | stuck => exact q.elim
    | exc x => exact ⟨true, .inr ⟨x, rfl⟩⟩
theorem cmp_lt : rCmp X.K D.lt (fun x y H Q => rI0 (fun i j => .bl (decide (i < j))) x y H Q ∨ (∃ i j, x = .str i ∧ y = .str j ∧ Q (.bl (decide (i.cps.toList < j.cps.toList))) H)) := fun E F H v u x y Q s rx ry q => by
  cases x with
  | int i => cases y with
    | int j => exact .inl ⟨i, j, rx.int, ry.int, q F H _ (Ext.refl s) (.bl _)⟩
    | _ => exact q.elim
  | str i => cases y with
    | str j => exact .inr ⟨i, j, rx.str.1, ry.str.1, q F H _ (Ext.refl s) (.bl _)⟩
    | _ => exact q.elim
  | _ => cases y <;> exact q.elim
theorem cmp_le : rCmp X.K D.le (rI0 fun i j => .bl (decide (i ≤ j))) := fun E F H v u x y Q s rx ry q => by
  cases x with
  | int i => cases y with
    | int j => exact ⟨i, j, rx.int, ry.int, q F H _ (Ext.refl s) (.bl _)⟩
    | _ => exact q.elim
  | _ => cases y <;> exact q.elim
theorem cmp_gt : rCmp X.K D.gt (rI0 fun i j => .bl (decide (j < i))) := fun E F H v u x y Q s rx ry q => by
  cases x with
  | int i => cases y with
    | int j => exact ⟨i, j, rx.int, ry.int, q F H _ (Ext.refl s) (.bl _)⟩
    | _ => exact q.elim
  | _ => cases y <;> exact q.elim
theorem cmp_ge : rCmp X.K D.ge (rI0 fun i j => .bl (decide (j ≤ i))) := fun E F H v u x y Q s rx ry q => by
  cases x with
  | int i => cases y with
    | int j => exact ⟨i, j, rx.int, ry.int, q F H _ (Ext.refl s) (.bl _)⟩
    | _ => exact q.elim
  | _ => cases y <;> exact q.elim
theorem and2 {p q : Bool} (h : (p && q) = true) : p = true ∧ q = true := Bool.and_eq_true_iff.mp h
theorem cmp_eq : rCmp X.K D.eq (rEqD X.K) := fun E F H v u x y Q s rx ry q => by
  have q' : WpG X.K E (rE X.K) (need (x.shp 20 && y.shp 20) >>= fun _ => .ok (.bl (D.beq x y))) F H Q := by
    have e : (bD (D.eq x y)) = (need (x.shp 20 && y.shp 20) >>= fun _ => .ok (.bl (D.beq x y))) := by
      unfold bD D.eq need
      cases (x.shp 20 && y.shp 20) <;> rfl
    rw [← e]
    exact q
  obtain ⟨c, q2⟩ := q'.need
  obtain ⟨c1, c2⟩ := and2 c
  obtain ⟨d1, l1⟩ := rx.dp s c1
  obtain ⟨d2, l2⟩ := ry.dp s c2
  refine ⟨_, _, d1, d2, shaped_of (by decide) c1 l1, shaped_of (by decide) c2 l2, ?_⟩
  rw [D.beq_eq c1 c2]
  exact q2 F H _ (Ext.refl s) (.bl _)
theorem cmp_ne : rCmp X.K D.ne (rNeD X.K) := fun E F H v u x y Q s rx ry q => by
  have q' : WpG X.K E (rE X.K) (need (x.shp 20 && y.shp 20) >>= fun _ => .ok (.bl (!D.beq x y))) F H Q := by
    have e : (bD (D.ne x y)) = (need (x.shp 20 && y.shp 20) >>= fun _ => .ok (.bl (!D.beq x y))) := by
      unfold bD D.ne D.eq need
      cases (x.shp 20 && y.shp 20) <;> rfl
    rw [← e]
    exact q
  obtain ⟨c, q2⟩ := q'.need
  obtain ⟨c1, c2⟩ := and2 c
  obtain ⟨d1, l1⟩ := rx.dp s c1
  obtain ⟨d2, l2⟩ := ry.dp s c2
  refine ⟨_, _, d1, d2, shaped_of (by decide) c1 l1, shaped_of (by decide) c2 l2, ?_⟩
  rw [D.beq_eq c1 c2]
  exact q2 F H _ (Ext.refl s) (.bl _)
theorem de_cmp {op : CmpOp} {r : R2} {f : D → D → M Bool} (ho : OpR X (compareOp op) r) (hf : rCmp X.K f r) (ha : DR X E G a ma) (hb : DR X E G b mb) (hm : behindInMarks op b = false) : DE X E G (.Compare a [op] [b] pos) (ma >>= fun x => mb >>= fun y => bD (f x y)) := by
  obtain ⟨ta, pa, wa⟩ := ha
  obtain ⟨tb, pb, wb⟩ := hb
  exact ⟨_, pe_cmpR ho pa pb hm, two wa wb hf⟩
theorem WpG.bool {E₁ : XK} {m : M Bool} {Q : Bool → Hp → Prop} {K : PySem.W.Frag} (q : WpG K E₁ rB m F H Q) : WpG K E₁ (rE K) (bD m) F H (fun x H' => ∃ k, x = .bl k ∧ Q k H') := by
  cases m with
  | ok c =>
    intro F' H' v x r
    cases r
    exact ⟨c, rfl, q F' H' c x rfl⟩
  | error e => cases e with
    | stuck => exact q
    | exc y => exact q
theorem DT.ofE {m : M Bool} {t : TE} {tt : TT} (pt : PT X e tt) (w : ∀ B σ F H Q, Same F H → GOk X.K B G σ F H → WpG X.K (E σ) (rE X.K) (bD m) F H Q → t σ H Q) (h : ∀ σ H Q, t σ H (fun x H' => ∃ k, x = .bl k ∧ Q k H') → tt σ H Q) : DT X E G e m :=
  ⟨tt, pt, fun B σ F H Q s g q => h σ H Q (w B σ F H _ s g q.bool)⟩
theorem two_b {f : D → D → M Bool} : (ma >>= fun x => mb >>= fun y => bD (f x y)) = bD (ma >>= fun x => mb >>= fun y => f x y) := by
  cases ma with
  | error e => rfl
  | ok x => cases mb <;> rfl
theorem dt_cmp {op : CmpOp} {r : R2} {f : D → D → M Bool} (ho : OpR X (compareOp op) r) (hf : rCmp X.K f r) (ha : DR X E G a ma) (hb : DR X E G b mb) (hm : behindInMarks op b = false) : DT X E G (.Compare a [op] [b] pos) (ma >>= fun x => mb >>= fun y => f x y) := by
  obtain ⟨ta, pa, wa⟩ := ha
  obtain ⟨tb, pb, wb⟩ := hb
  refine DT.ofE (t := tOp r ta tb) (pt_cmpR ho pa pb hm) ?_ (fun _ _ _ h => h)
  rw [← two_b]
  exact two wa wb hf
def rInDct : R2 := fun x y H Q => ∃ a o, y = .ref a ∧ DGet H a x o ∧ Q (.bl o.isSome) H
theorem op_inDct (hu : X.A.units + 1 < cLine) : OpR X (compareOp .In) rInDct := by
  intro pins s σ H x y v u Q I rx ry h
  obtain ⟨a, o, rfl, g, q⟩ := h
  obtain rfl : u = Value.ref a := ry
  exact d_in hu I g rx fun s3 I3 => ⟨.bl o.isSome, H, I3, rfl, q⟩
def rNinDct : R2 := fun x y H Q => ∃ a o, y = .ref a ∧ DGet H a x o ∧ Q (.bl (!o.isSome)) H
theorem op_ninDct (hu : X.A.units + 1 < cLine) : OpR X (compareOp .NotIn) rNinDct := by
  intro pins s σ H x y v u Q I rx ry h
  obtain ⟨a, o, rfl, g, q⟩ := h
  obtain rfl : u = Value.ref a := ry
  exact d_notIn hu I g rx fun s3 I3 => ⟨.bl (!o.isSome), H, I3, rfl, q⟩
def rInT (K : PySem.W.Frag) : R2 := fun x y H Q => ∃ d ds, Dp K H x d ∧ Dp K H y (.tuple ds) ∧ SeqAt.shaped d = true ∧ SeqAt.shaped (.tuple ds) = true ∧ Q (.bl (ds.any fun z => PyData.eqv z d)) H
def rNinT (K : PySem.W.Frag) : R2 := fun x y H Q => ∃ d ds, Dp K H x d ∧ Dp K H y (.tuple ds) ∧ SeqAt.shaped d = true ∧ SeqAt.shaped (.tuple ds) = true ∧ Q (.bl (!ds.any fun z => PyData.eqv z d)) H
theorem room_inT {A : Around} {ds : List PyData} {d : PyData} (sd : SeqAt.shaped d = true) (hu : A.units + 65 < cLine) : A.units + 1 + min (PyData.depthAll ds) d.depth < cLine := by
  have h1 := SeqAt.depth_of_shaped sd
  have h2 : min (PyData.depthAll ds) d.depth ≤ d.depth := Nat.min_le_right _ _
  omega
theorem op_inT (hu : X.A.units + 65 < cLine) : OpR X (compareOp .In) (rInT X.K) := by
  intro pins s σ H x y v u Q I rx ry h
  obtain ⟨d, ds, hd, he, sd, se, q⟩ := h
  obtain ⟨as, r1⟩ := Dp.reads I d x v hd rx
  obtain ⟨bs, r2⟩ := Dp.reads I (.tuple ds) y u he ry
  exact SeqAt.in_tuple_reads r2 r1 (SeqAt.canLay_of_shaped se) (SeqAt.canLay_of_shaped sd) (room_inT sd hu) ⟨.bl _, H, I, rfl, q⟩
theorem op_ninT (hu : X.A.units + 65 < cLine) : OpR X (compareOp .NotIn) (rNinT X.K) := by
  intro pins s σ H x y v u Q I rx ry h
  obtain ⟨d, ds, hd, he, sd, se, q⟩ := h
  obtain ⟨as, r1⟩ := Dp.reads I d x v hd rx
  obtain ⟨bs, r2⟩ := Dp.reads I (.tuple ds) y u he ry
  exact SeqAt.notIn_tuple_reads r2 r1 (SeqAt.canLay_of_shaped se) (SeqAt.canLay_of_shaped sd) (room_inT sd hu) ⟨.bl _, H, I, rfl, q⟩
theorem any_py {x : D} {n : Nat} (hx : x.shp n = true) : ∀ {l : List D}, l.all (D.shp n) = true → ((D.pyL l).any fun z => PyData.eqv z x.py) = l.any fun z => D.beq z x
  | [], _ => by simp [D.pyL]
  | d :: l, h => by
    rw [List.all_cons, Bool.and_eq_true] at h
    simp only [D.pyL, List.any_cons]
    rw [D.beq_eq h.1 hx, any_py hx h.2]
theorem keyV {v : V} {k : D} {K : PySem.W.Frag} (h : k.isKey = true) (r : RpT K F H v k) : ∃ q : Key, v = kV q ∧ k = kD q := by
  cases k with
  | int i => exact ⟨.inl i, r.int, rfl⟩
  | str x => exact ⟨.inr x, r.str.1, rfl⟩
  | _ => cases h
theorem beq_key (p q : Key) : D.beq (kD p) (kD q) = decide (p = q) := by
  cases p with
  | inl i => cases q with
    | inl j =>
      show D.beq (.int i) (.int j) = _
      simp [D.beq]
    | inr y =>
      show D.beq (.int i) (.str y) = _
      simp [D.beq]
  | inr x => cases q with
    | inl j =>
      show D.beq (.str x) (.int j) = _
      simp [D.beq]
    | inr y =>
      show D.beq (.str x) (.str y) = _
      simp [D.beq]
theorem look_val {K : PySem.W.Frag} (q : Key) : ∀ {kvs : List (Key × V)} {l : List (D × D)}, kvs.map (fun q => kD q.1) = l.map (·.1) → RpL K F (kvs.map (·.2)) (l.map (·.2)) →
    (valV kvs q = none ∧ D.look l (kD q) = none) ∨ ∃ v d, valV kvs q = some v ∧ D.look l (kD q) = some d ∧ Rp K F v d
  | [], [], _, _ => .inl ⟨rfl, rfl⟩
  | [], _ :: _, h, _ => by simp at h
  | _ :: _, [], h, _ => by simp at h
  | (k, v) :: kvs, (k2, d) :: l, h, r => by
    have h1 : kD k = k2 ∧ kvs.map (fun q => kD q.1) = l.map (·.1) := by simpa using h
    obtain ⟨rfl, h2⟩ := h1
    have r' : RpL K F (v :: kvs.map (·.2)) (d :: l.map (·.2)) := r
    cases r' with
    | cons r1 r2 =>
      by_cases e : k = q
      · subst e
        refine .inr ⟨v, d, ?_, ?_, r1⟩
        · simp [valV]
        · simp [D.look, List.find?_cons, beq_key]
      · have ih := look_val q h2 r2
        have e1 : valV ((k, v) :: kvs) q = valV kvs q := by simp [valV, List.find?_cons, e]
        have e2 : D.look ((kD k, d) :: l) (kD q) = D.look l (kD q) := by simp [D.look, List.find?_cons, beq_key, e]
        rw [e1, e2]
        exact ih
def rInAll (K : PySem.W.Frag) : R2 := fun x y H Q => (∃ (c : Nat) (z : Str), x = .str ⟨#[c]⟩ ∧ y = .str z ∧ Q (.bl (decide (c ∈ z.cps.toList))) H) ∨ (∃ i j, x = .str i ∧ y = .str j ∧ Q (.bl (!(Builtin.Str.occurrences j i 0 j.length 1).isEmpty)) H) ∨ rInD K x y H Q ∨ rInT K x y H Q ∨ rInDct x y H Q
theorem op_inAll (hu : X.A.units + 70 < cLine) : OpR X (compareOp .In) (rInAll X.K) := op_in_sign.or (op_in_str.or ((op_inD (by omega)).or ((op_inT (by omega)).or (op_inDct (by omega)))))
theorem cmp_in : rCmp X.K D.mem (rInAll X.K) := fun E F H v u x y Q s rx ry q => by
  cases y with
  | str z =>
    cases x with
    | str y =>
      obtain ⟨⟨cps⟩⟩ := y
      rcases cps with _ | ⟨c, _ | ⟨c2, r⟩⟩
      · exact .inr (.inl ⟨_, z, rx.str.1, ry.str.1, q F H _ (Ext.refl s) (.bl _)⟩)
      · exact .inl ⟨c, z, rx.str.1, ry.str.1, q F H _ (Ext.refl s) (.bl _)⟩
      · exact .inr (.inl ⟨_, z, rx.str.1, ry.str.1, q F H _ (Ext.refl s) (.bl _)⟩)
    | _ => exact q.elim
  | lst l =>
    have q' : WpG X.K E (rE X.K) (need (x.shp 19 && l.all (D.shp 19)) >>= fun _ => .ok (.bl (l.any fun z => D.beq z x))) F H Q := by
      have e : bD (D.mem x (.lst l)) = (need (x.shp 19 && l.all (D.shp 19)) >>= fun _ => .ok (.bl (l.any fun z => D.beq z x))) := by
        unfold bD D.mem need
        simp only
        cases (x.shp 19 && l.all (D.shp 19)) <;> rfl
      rw [← e]
      exact q
    obtain ⟨c, q2⟩ := q'.need
    obtain ⟨c1, c2⟩ := and2 c
    obtain ⟨d1, l1⟩ := rx.dp s c1
    have c3 : (D.lst l).shp 20 = true := c2
    obtain ⟨d2, l2⟩ := ry.dp s c3
    have sh := shaped_of (by decide) c3 l2
    simp only [D.py] at d2 sh
    refine .inr (.inr (.inl ⟨_, _, d1, d2, shaped_of (by decide) c1 l1, sh, ?_⟩))
    rw [any_py c1 c2]
    exact q2 F H _ (Ext.refl s) (.bl _)
  | tup l =>
    have q' : WpG X.K E (rE X.K) (need (x.shp 19 && l.all (D.shp 19)) >>= fun _ => .ok (.bl (l.any fun z => D.beq z x))) F H Q := by
      have e : bD (D.mem x (.tup l)) = (need (x.shp 19 && l.all (D.shp 19)) >>= fun _ => .ok (.bl (l.any fun z => D.beq z x))) := by
        unfold bD D.mem need
        simp only
        cases (x.shp 19 && l.all (D.shp 19)) <;> rfl
      rw [← e]
      exact q
    obtain ⟨c, q2⟩ := q'.need
    obtain ⟨c1, c2⟩ := and2 c
    obtain ⟨d1, l1⟩ := rx.dp s c1
    have c3 : (D.tup l).shp 20 = true := c2
    obtain ⟨d2, l2⟩ := ry.dp s c3
    have sh := shaped_of (by decide) c3 l2
    simp only [D.py] at d2 sh
    refine .inr (.inr (.inr (.inl ⟨_, _, d1, d2, shaped_of (by decide) c1 l1, sh, ?_⟩)))
    rw [any_py c1 c2]
    exact q2 F H _ (Ext.refl s) (.bl _)
  | dct l =>
    have q' : WpG X.K E (rE X.K) (need x.isKey >>= fun _ => .ok (.bl (D.look l x).isSome)) F H Q := by
      have e : bD (D.mem x (.dct l)) = (need x.isKey >>= fun _ => .ok (.bl (D.look l x).isSome)) := by
        unfold bD D.mem need
        simp only
        cases x.isKey <;> rfl
      rw [← e]
      exact q
    obtain ⟨c, q2⟩ := q'.need
    obtain ⟨k, rfl, rfl⟩ := keyV c rx
    obtain ⟨a, rfl, kvs, e1, e2, r2⟩ := ry.dct s
    refine .inr (.inr (.inr (.inr ⟨a, valV kvs k, rfl, DGet.kr e1, ?_⟩)))
    rcases look_val k e2 r2 with ⟨h1, h2⟩ | ⟨v, d, h1, h2, _⟩
    · rw [h2] at q2
      rw [h1]
      exact q2 F H _ (Ext.refl s) (.bl _)
    · rw [h2] at q2
      rw [h1]
      exact q2 F H _ (Ext.refl s) (.bl _)
  | _ => exact q.elim
end
end DL

set_option Elab.async false
set_option linter.all false
set_option maxRecDepth 100000
set_option maxHeartbeats 4000000
namespace DL
open PySem PySem.Spec L2
section
variable {X : Cx} {E : St → XK} {G : List Sl} {a b c e : Expr} {ma mb mc : M D} {ta tb : M Bool} {pos : Pos} {F H : Hp}
theorem rNinAll_op (hu : X.A.units + 70 < cLine) : OpR X (compareOp .NotIn) (fun x y H Q => (∃ (c : Nat) (z : Str), x = .str ⟨#[c]⟩ ∧ y = .str z ∧ Q (.bl (!decide (c ∈ z.cps.toList))) H) ∨ (∃ i j, x = .str i ∧ y = .str j ∧ Q (.bl (!(!(Builtin.Str.occurrences j i 0 j.length 1).isEmpty))) H) ∨ rNotInD X.K x y H Q ∨ rNinT X.K x y H Q ∨ rNinDct x y H Q) :=
  op_notIn_sign.or (op_notin_str.or ((op_notInD (by omega)).or ((op_ninT (by omega)).or (op_ninDct (by omega)))))
theorem cmp_nin : rCmp X.K D.nmem (fun x y H Q => (∃ (c : Nat) (z : Str), x = .str ⟨#[c]⟩ ∧ y = .str z ∧ Q (.bl (!decide (c ∈ z.cps.toList))) H) ∨ (∃ i j, x = .str i ∧ y = .str j ∧ Q (.bl (!(!(Builtin.Str.occurrences j i 0 j.length 1).isEmpty))) H) ∨ rNotInD X.K x y H Q ∨ rNinT X.K x y H Q ∨ rNinDct x y H Q) := fun E F H v u x y Q s rx ry q => by
  cases y with
  | str z =>
    cases x with
    | str y =>
      obtain ⟨⟨cps⟩⟩ := y
      rcases cps with _ | ⟨c, _ | ⟨c2, r⟩⟩
      · exact .inr (.inl ⟨_, z, rx.str.1, ry.str.1, q F H _ (Ext.refl s) (.bl _)⟩)
      · exact .inl ⟨c, z, rx.str.1, ry.str.1, q F H _ (Ext.refl s) (.bl _)⟩
      · exact .inr (.inl ⟨_, z, rx.str.1, ry.str.1, q F H _ (Ext.refl s) (.bl _)⟩)
    | _ => exact q.elim
  | lst l =>
    have q' : WpG X.K E (rE X.K) (need (x.shp 19 && l.all (D.shp 19)) >>= fun _ => .ok (.bl (!l.any fun z => D.beq z x))) F H Q := by
      have e : bD (D.nmem x (.lst l)) = (need (x.shp 19 && l.all (D.shp 19)) >>= fun _ => .ok (.bl (!l.any fun z => D.beq z x))) := by
        unfold bD D.nmem D.mem need
        simp only
        cases (x.shp 19 && l.all (D.shp 19)) <;> rfl
      rw [← e]
      exact q
    obtain ⟨c, q2⟩ := q'.need
    obtain ⟨c1, c2⟩ := and2 c
    obtain ⟨d1, l1⟩ := rx.dp s c1
    have c3 : (D.lst l).shp 20 = true := c2
    obtain ⟨d2, l2⟩ := ry.dp s c3
    have sh := shaped_of (by decide) c3 l2
    simp only [D.py] at d2 sh
    refine .inr (.inr (.inl ⟨_, _, d1, d2, shaped_of (by decide) c1 l1, sh, ?_⟩))
    rw [any_py c1 c2]
    exact q2 F H _ (Ext.refl s) (.bl _)
  | tup l =>
    have q' : WpG X.K E (rE X.K) (need (x.shp 19 && l.all (D.shp 19)) >>= fun _ => .ok (.bl (!l.any fun z => D.beq z x))) F H Q := by
      have e : bD (D.nmem x (.tup l)) = (need (x.shp 19 && l.all (D.shp 19)) >>= fun _ => .ok (.bl (!l.any fun z => D.beq z x))) := by
        unfold bD D.nmem D.mem need
        simp only
        cases (x.shp 19 && l.all (D.shp 19)) <;> rfl
      rw [← e]
      exact q
    obtain ⟨c, q2⟩ := q'.need
    obtain ⟨c1, c2⟩ := and2 c
    obtain ⟨d1, l1⟩ := rx.dp s c1
    have c3 : (D.tup l).shp 20 = true := c2
    obtain ⟨d2, l2⟩ := ry.dp s c3
    have sh := shaped_of (by decide) c3 l2
    simp only [D.py] at d2 sh
    refine .inr (.inr (.inr (.inl ⟨_, _, d1, d2, shaped_of (by decide) c1 l1, sh, ?_⟩)))
    rw [any_py c1 c2]
    exact q2 F H _ (Ext.refl s) (.bl _)
  | dct l =>
    have q' : WpG X.K E (rE X.K) (need x.isKey >>= fun _ => .ok (.bl (!(D.look l x).isSome))) F H Q := by
      have e : bD (D.nmem x (.dct l)) = (need x.isKey >>= fun _ => .ok (.bl (!(D.look l x).isSome))) := by
        unfold bD D.nmem D.mem need
        simp only
        cases x.isKey <;> rfl
      rw [← e]
      exact q
    obtain ⟨c, q2⟩ := q'.need
    obtain ⟨k, rfl, rfl⟩ := keyV c rx
    obtain ⟨a, rfl, kvs, e1, e2, r2⟩ := ry.dct s
    refine .inr (.inr (.inr (.inr ⟨a, valV kvs k, rfl, DGet.kr e1, ?_⟩)))
    rcases look_val k e2 r2 with ⟨h1, h2⟩ | ⟨v, d, h1, h2, _⟩
    · rw [h2] at q2
      rw [h1]
      exact q2 F H _ (Ext.refl s) (.bl _)
    · rw [h2] at q2
      rw [h1]
      exact q2 F H _ (Ext.refl s) (.bl _)
  | _ => exact q.elim
def D.isN (x y : D) : M Bool := match y with
  | .non => .ok x.isNon
  | _ => stuck
def D.notN (x y : D) : M Bool := match y with
  | .non => .ok (!x.isNon)
  | _ => stuck
theorem isNon_of {v : V} {d : D} {K : PySem.W.Frag} (r : RpT K F H v d) : decide (v = .non) = d.isNon := by
  cases r with
  | of r => cases r <;> rfl
  | own _ _ => rfl
  | ownd _ => rfl
  | ownu _ => rfl
  | obj _ _ _ => rfl
  | obt _ _ _ => rfl
theorem cmp_isN : rCmp X.K D.isN (fun x y H Q => y = .non ∧ Q (.bl (decide (x = .non))) H) := fun E F H v u x y Q s rx ry q => by
  cases y with
  | non => exact ⟨ry.non, by rw [isNon_of rx]; exact q F H _ (Ext.refl s) (.bl _)⟩
  | _ => exact q.elim
theorem cmp_notN : rCmp X.K D.notN (fun x y H Q => y = .non ∧ Q (.bl (!decide (x = .non))) H) := fun E F H v u x y Q s rx ry q => by
  cases y with
  | non => exact ⟨ry.non, by rw [isNon_of rx]; exact q F H _ (Ext.refl s) (.bl _)⟩
  | _ => exact q.elim

theorem de_chain {op op' : CmpOp} {r r' : R2} {f f' : D → D → M Bool} (ho : OpR X (compareOp op) r) (ho' : OpR X (compareOp op') r') (hf : rCmp X.K f r) (hf' : rCmp X.K f' r') (ha : DR X E G a ma) (hb : DR X E G b mb) (hc : DR X E G c mc)
    (hm : lastMarks [op, op'] [b, c] = false := by with_unfolding_all rfl) :
    DE X E G (.Compare a [op, op'] [b, c] pos) (ma >>= fun x => mb >>= fun y => f x y >>= fun k => if k = true then mc >>= fun z => bD (f' y z) else .ok (.bl false)) := by
  obtain ⟨t1, p1, w1⟩ := ha
  obtain ⟨t2, p2, w2⟩ := hb
  obtain ⟨t3, p3, w3⟩ := hc
  refine ⟨_, pe_chain ho ho' p1 p2 p3 hm, fun B σ F H Q s g q => w1 B σ F H _ s g (q.bind fun x F1 H1 v x1 r1 q1 => w2 B σ F1 H1 _ x1.sFH (g.ext x1) (q1.bind fun y F2 H2 u x2 r2 q2 => ?_))⟩
  refine hf (E σ) F2 H2 v u x y _ x2.sFH (r1.ext x2) r2 (WpG.bool (q2.bind fun k F3 H3 k' x3 e q3 => ?_))
  subst e
  cases k' with
  | true =>
    rw [if_pos rfl] at q3 ⊢
    exact w3 B σ F3 H3 _ x3.sFH ((g.ext x1).ext x2 |>.ext x3) (q3.bind fun z F4 H4 w x4 r4 q4 => hf' (E σ) F4 H4 u w y z Q x4.sFH ((r2.ext x3).ext x4) r4 q4)
  | false =>
    rw [if_neg Bool.false_ne_true] at q3 ⊢
    exact q3 F3 H3 _ (Ext.refl x3.sFH) (.bl _)
theorem dt_chain {op op' : CmpOp} {r r' : R2} {f f' : D → D → M Bool} (ho : OpR X (compareOp op) r) (ho' : OpR X (compareOp op') r') (hf : rCmp X.K f r) (hf' : rCmp X.K f' r') (ha : DR X E G a ma) (hb : DR X E G b mb) (hc : DR X E G c mc)
    (hm : lastMarks [op, op'] [b, c] = false := by with_unfolding_all rfl) :
    DT X E G (.Compare a [op, op'] [b, c] pos) (ma >>= fun x => mb >>= fun y => f x y >>= fun k => if k = true then mc >>= fun z => f' y z else .ok false) := by
  obtain ⟨t1, p1, w1⟩ := ha
  obtain ⟨t2, p2, w2⟩ := hb
  obtain ⟨t3, p3, w3⟩ := hc
  refine ⟨_, pt_chain ho ho' p1 p2 p3 hm, fun B σ F H Q s g q => w1 B σ F H _ s g (q.bind fun x F1 H1 v x1 r1 q1 => w2 B σ F1 H1 _ x1.sFH (g.ext x1) (q1.bind fun y F2 H2 u x2 r2 q2 => ?_))⟩
  refine hf (E σ) F2 H2 v u x y _ x2.sFH (r1.ext x2) r2 (WpG.bool (q2.bind fun k F3 H3 k' x3 e q3 => ?_))
  subst e
  cases k' with
  | true =>
    rw [if_pos rfl] at q3 ⊢
    exact w3 B σ F3 H3 _ x3.sFH ((g.ext x1).ext x2 |>.ext x3) (q3.bind fun z F4 H4 w x4 r4 q4 => hf' (E σ) F4 H4 u w y z _ x4.sFH ((r2.ext x3).ext x4) r4 (WpG.bool q4))
  | false =>
    rw [if_neg Bool.false_ne_true] at q3 ⊢
    exact ⟨false, rfl, q3 F3 H3 _ (Ext.refl x3.sFH) rfl⟩

def TruW (K : PySem.W.Frag) (v : V) (H : Hp) (k : Bool) : Prop := TruV K v H k ∨ ∃ p kvs, v = .ref p ∧ Rd H p (.dK kvs) ∧ k = !kvs.isEmpty
theorem tru_okW {X : Cx} : TruR X (fun x H Q => ∃ k, TruW X.K x H k ∧ Q k H) := by
  intro pins s σ H x v Q I rx h
  obtain ⟨k, e, q⟩ := h
  rcases e with e | ⟨p, kvs, rfl, e, rfl⟩
  · exact tru_ok pins s σ H x v Q I rx ⟨k, e, q⟩
  · cases rx
    exact d_truth I e fun s' I' => ⟨H, I', q⟩
theorem pt_truthW {X : Cx} {a : Expr} {ta : TE} (ha : PE X a ta) (he : ∀ whole, isTrue a X.env whole = (do let v ← whole; standAt a.pos; holding [v] (truthy v))) :
    PT X a (fun σ H Q => ta σ H fun x H' => ∃ k, TruW X.K x H' k ∧ Q k H') := by
  refine ⟨fun pins s σ H Q I h => ?_⟩
  exact PyProof.Rows.isTrue_plain (thn (ha.run pins s σ H _ I h) fun v s1 ⟨x, H1, I1, r1, q1⟩ => tru_okW pins s1 σ H1 x v Q I1 r1 q1) (he _)
theorem call_lenR : CallR X (.builtin "len") (fun xs H Q => ∃ a kvs, xs = [V.ref a] ∧ Rd H a (.dK kvs) ∧ Q (.int kvs.length) H) := by
  intro pins s σ H xs us Q I r h
  obtain ⟨a, kvs, rfl, ha, q⟩ := h
  obtain ⟨u, rfl, ru⟩ := vals1 r
  cases ru
  exact d_len I ha fun t s' I' => ⟨.int kvs.length, H, I', ⟨t, rfl⟩, q⟩
section
variable {X : Cx} {a b : Expr} {ta tb : TE} {rest : List Expr} {pos : Pos}
theorem pe_orW (ha : PE X a ta) (hb : PE X (.BoolOp .Or (b :: rest) pos) tb) : PE X (.BoolOp .Or (a :: b :: rest) pos) (fun σ H Q => ta σ H fun x H1 => ∃ k, TruW X.K x H1 k ∧ if k = true then Q x H1 else tb σ H1 Q) := by
  refine ⟨fun pins s σ H Q I h => ?_⟩
  refine PyProof.Rows.BoolOp_or (thn (ha.run pins s σ H _ I h) fun v s1 ⟨x, H1, I1, r1, q1⟩ => ?_)
  obtain ⟨k, e, q1⟩ := q1
  refine thn (tru_okW pins s1 σ H1 x v (fun c H2 => c = k ∧ H2 = H1) I1 r1 ⟨k, e, rfl, rfl⟩) fun c s2 hc => ?_
  obtain ⟨H2, I2, e1, e2⟩ := hc
  rw [e2] at I2
  rw [← e1] at q1
  cases c with
  | true => exact ⟨x, H1, I2, r1, q1⟩
  | false => exact hb.run pins s2 σ H1 Q I2 q1
theorem pe_andW (ha : PE X a ta) (hb : PE X (.BoolOp .And (b :: rest) pos) tb) : PE X (.BoolOp .And (a :: b :: rest) pos) (fun σ H Q => ta σ H fun x H1 => ∃ k, TruW X.K x H1 k ∧ if k = true then tb σ H1 Q else Q x H1) := by
  refine ⟨fun pins s σ H Q I h => ?_⟩
  refine PyProof.Rows.BoolOp_and (thn (ha.run pins s σ H _ I h) fun v s1 ⟨x, H1, I1, r1, q1⟩ => ?_)
  obtain ⟨k, e, q1⟩ := q1
  refine thn (tru_okW pins s1 σ H1 x v (fun c H2 => c = k ∧ H2 = H1) I1 r1 ⟨k, e, rfl, rfl⟩) fun c s2 hc => ?_
  obtain ⟨H2, I2, e1, e2⟩ := hc
  rw [e2] at I2
  rw [← e1] at q1
  cases c with
  | true => exact hb.run pins s2 σ H1 Q I2 q1
  | false => exact ⟨x, H1, I2, r1, q1⟩
theorem pe_notW (ha : PE X a ta) : PE X (.UnaryOp .Not a pos) (fun σ H Q => ta σ H fun x H1 => ∃ k, TruW X.K x H1 k ∧ Q (.bl (!k)) H1) := by
  refine ⟨fun pins s σ H Q I h => ?_⟩
  refine PyProof.Rows.UnaryOp_ (thn (ha.run pins s σ H _ I h) fun v s1 ⟨x, H1, I1, r1, q1⟩ => ?_)
  obtain ⟨k, e, q1⟩ := q1
  exact PyProof.Rows.not_of (thn (tru_okW pins s1 σ H1 x v (fun c H2 => Q (.bl (!c)) H2) I1 r1 ⟨k, e, q1⟩) fun c s2 ⟨H2, I2, q2⟩ => ⟨.bl (!c), H2, I2, rfl, q2⟩)
end
theorem tru_of {v : V} {d : D} {k : Bool} {K : PySem.W.Frag} (s : Same F H) (r : RpT K F H v d) (e : D.tru d = .ok k) : TruW K v H k := by
  cases d with
  | non => rw [r.non]; cases e; exact .inl rfl
  | bl b => rw [r.bl]; cases e; exact .inl rfl
  | int i => rw [r.int]; cases e; exact .inl rfl
  | str y =>
    rw [r.str.1]
    by_cases h : y.length ≤ sizeLine
    · have e2 : D.tru (.str y) = .ok ((y.length : Int) != 0) := by
        show (need (decide (y.length ≤ sizeLine)) >>= fun _ => .ok ((y.length : Int) != 0)) = _
        rw [decide_eq_true h]
        rfl
      rw [e2] at e
      cases e
      exact .inl ⟨h, rfl⟩
    · have e2 : D.tru (.str y) = stuck := by
        show (need (decide (y.length ≤ sizeLine)) >>= fun _ => .ok ((y.length : Int) != 0)) = _
        rw [decide_eq_false h]
        rfl
      rw [e2] at e
      cases e
  | lst l =>
    obtain ⟨p, xs, rfl, h, r⟩ := r.lst s
    cases e
    refine .inl (.inl ⟨xs, SqL.of h, ?_⟩)
    cases r <;> rfl
  | tup l =>
    obtain ⟨p, xs, rfl, h, r⟩ := r.tup s
    cases e
    refine .inl (.inr (.inl ⟨xs, h, ?_⟩))
    cases r <;> rfl
  | dct l =>
    obtain ⟨p, rfl, kvs, h, h2, r⟩ := r.dct s
    cases e
    refine .inr ⟨p, kvs, rfl, h, ?_⟩
    cases kvs with
    | nil => cases l with
      | nil => rfl
      | cons _ _ => simp at h2
    | cons _ _ => cases l with
      | nil => simp at h2
      | cons _ _ => rfl
  | _ => cases e
theorem tru_err {d : D} {x : Er} (h : D.tru d = .error x) : x = .stuck := by
  cases d with
  | str y =>
    have h : (need (decide (y.length ≤ sizeLine)) >>= fun _ => (.ok ((y.length : Int) != 0) : M Bool)) = .error x := h
    cases hd : decide (y.length ≤ sizeLine) with
    | true => rw [hd] at h; cases h
    | false => rw [hd] at h; cases h; rfl
  | non => cases h
  | bl _ => cases h
  | int _ => cases h
  | lst _ => cases h
  | tup _ => cases h
  | dct _ => cases h
  | _ => cases h; rfl
theorem WpG.tru {E₁ : XK} {α β : Type} {rel : Hp → Hp → β → α → Prop} {d : D} {v : V} {k : Bool → M α} {Q : β → Hp → Prop} {K : PySem.W.Frag} (q : WpG K E₁ rel (D.tru d >>= k) F H Q) (s : Same F H) (r : RpT K F H v d) : ∃ b, D.tru d = .ok b ∧ TruW K v H b ∧ WpG K E₁ rel (k b) F H Q := by
  cases e : D.tru d with
  | ok b =>
    rw [e] at q
    exact ⟨b, rfl, tru_of s r e, q⟩
  | error x =>
    rw [e] at q
    have := tru_err e
    subst this
    exact q.elim
theorem dt_val (ha : DR X E G a ma) (he : ∀ whole, isTrue a X.env whole = (do let v ← whole; standAt a.pos; holding [v] (truthy v)) := by intro _; rfl) : DT X E G a (ma >>= fun x => D.tru x) := by
  obtain ⟨t, p, w⟩ := ha
  refine ⟨_, pt_truthW p he, fun B σ F H Q s g q => w B σ F H _ s g (q.bind fun x F1 H1 v x1 r1 q1 => ?_)⟩
  have q2 : WpG X.K (E σ) rB (D.tru x >>= fun b => .ok b) F1 H1 Q := by
    cases e : D.tru x with
    | ok b => rw [e] at q1; exact q1
    | error z => rw [e] at q1; exact q1
  obtain ⟨k, e, tk, q3⟩ := q2.tru x1.sFH r1
  exact ⟨k, tk, q3 F1 H1 _ (Ext.refl x1.sFH) rfl⟩
theorem dt_not (ha : DT X E G a ta) : DT X E G (.UnaryOp .Not a pos) (ta >>= fun x => .ok (!x)) := by
  obtain ⟨t, p, w⟩ := ha
  exact ⟨_, pt_not p, fun B σ F H Q s g q => w B σ F H _ s g (q.bind fun x F1 H1 v x1 r1 q1 => by
    subst r1
    exact q1 F1 H1 _ (Ext.refl x1.sFH) rfl)⟩
theorem DW.dt (h : DW X E G e ta) : DT X E G e ta := let ⟨t, p, w⟩ := h; ⟨t, p.pt, w⟩
theorem dw_and1 (ha : DT X E G a ta) : DW X E G (.BoolOp .And [a] pos) ta := let ⟨t, p, w⟩ := ha; ⟨t, pw_and1 p, w⟩
theorem dw_or1 (ha : DT X E G a ta) : DW X E G (.BoolOp .Or [a] pos) ta := let ⟨t, p, w⟩ := ha; ⟨t, pw_or1 p, w⟩
theorem dw_and {rest : List Expr} (ha : DT X E G a ta) (hb : DW X E G (.BoolOp .And (b :: rest) pos) tb) : DW X E G (.BoolOp .And (a :: b :: rest) pos) (ta >>= fun x => if x = true then tb else .ok false) := by
  obtain ⟨t1, p1, w1⟩ := ha
  obtain ⟨t2, p2, w2⟩ := hb
  refine ⟨_, pw_and p1 p2, fun B σ F H Q s g q => w1 B σ F H _ s g (q.bind fun x F1 H1 v x1 r1 q1 => ?_)⟩
  subst r1
  cases v with
  | true => exact w2 B σ F1 H1 _ x1.sFH (g.ext x1) q1
  | false => exact q1 F1 H1 _ (Ext.refl x1.sFH) rfl
theorem dw_or {rest : List Expr} (ha : DT X E G a ta) (hb : DW X E G (.BoolOp .Or (b :: rest) pos) tb) : DW X E G (.BoolOp .Or (a :: b :: rest) pos) (ta >>= fun x => if x = true then .ok true else tb) := by
  obtain ⟨t1, p1, w1⟩ := ha
  obtain ⟨t2, p2, w2⟩ := hb
  refine ⟨_, pw_or p1 p2, fun B σ F H Q s g q => w1 B σ F H _ s g (q.bind fun x F1 H1 v x1 r1 q1 => ?_)⟩
  subst r1
  cases v with
  | true => exact q1 F1 H1 _ (Ext.refl x1.sFH) rfl
  | false => exact w2 B σ F1 H1 _ x1.sFH (g.ext x1) q1
theorem de_one {op : BoolOp} (ha : DE X E G a ma) : DE X E G (.BoolOp op [a] pos) ma := let ⟨t, p, w⟩ := ha; ⟨t, pe_one p, w⟩
theorem de_and {rest : List Expr} (ha : DE X E G a ma) (hb : DE X E G (.BoolOp .And (b :: rest) pos) mb) : DE X E G (.BoolOp .And (a :: b :: rest) pos) (ma >>= fun x => D.tru x >>= fun k => if k = true then mb else .ok x) := by
  obtain ⟨t1, p1, w1⟩ := ha
  obtain ⟨t2, p2, w2⟩ := hb
  refine ⟨_, pe_andW p1 p2, fun B σ F H Q s g q => w1 B σ F H _ s g (q.bind fun x F1 H1 v x1 r1 q1 => ?_)⟩
  obtain ⟨k, e, tk, q3⟩ := q1.tru x1.sFH (.of r1)
  refine ⟨k, tk, ?_⟩
  cases k with
  | true => exact w2 B σ F1 H1 _ x1.sFH (g.ext x1) q3
  | false => exact q3 F1 H1 _ (Ext.refl x1.sFH) r1
theorem de_or {rest : List Expr} (ha : DE X E G a ma) (hb : DE X E G (.BoolOp .Or (b :: rest) pos) mb) : DE X E G (.BoolOp .Or (a :: b :: rest) pos) (ma >>= fun x => D.tru x >>= fun k => if k = true then .ok x else mb) := by
  obtain ⟨t1, p1, w1⟩ := ha
  obtain ⟨t2, p2, w2⟩ := hb
  refine ⟨_, pe_orW p1 p2, fun B σ F H Q s g q => w1 B σ F H _ s g (q.bind fun x F1 H1 v x1 r1 q1 => ?_)⟩
  obtain ⟨k, e, tk, q3⟩ := q1.tru x1.sFH (.of r1)
  refine ⟨k, tk, ?_⟩
  cases k with
  | true => exact q3 F1 H1 _ (Ext.refl x1.sFH) r1
  | false => exact w2 B σ F1 H1 _ x1.sFH (g.ext x1) q3
theorem de_not (ha : DR X E G a ma) : DE X E G (.UnaryOp .Not a pos) (ma >>= fun x => D.tru x >>= fun k => .ok (.bl (!k))) := by
  obtain ⟨t1, p1, w1⟩ := ha
  refine ⟨_, pe_notW p1, fun B σ F H Q s g q => w1 B σ F H _ s g (q.bind fun x F1 H1 v x1 r1 q1 => ?_)⟩
  obtain ⟨k, e, tk, q3⟩ := q1.tru x1.sFH r1
  exact ⟨k, tk, q3 F1 H1 _ (Ext.refl x1.sFH) (.bl _)⟩
theorem de_if (hc : DT X E G c ta) (ha : DE X E G a ma) (hb : DE X E G b mb) : DE X E G (.IfExp c a b pos) (ta >>= fun x => if x = true then ma else mb) := by
  obtain ⟨t0, p0, w0⟩ := hc
  obtain ⟨t1, p1, w1⟩ := ha
  obtain ⟨t2, p2, w2⟩ := hb
  refine ⟨_, pe_ifExp p0 p1 p2, fun B σ F H Q s g q => w0 B σ F H _ s g (q.bind fun x F1 H1 v x1 r1 q1 => ?_)⟩
  subst r1
  cases v with
  | true => exact w1 B σ F1 H1 _ x1.sFH (g.ext x1) q1
  | false => exact w2 B σ F1 H1 _ x1.sFH (g.ext x1) q1

def rIxDct : R2 := fun x y H Q => ∃ a v, x = .ref a ∧ DGet H a y (some v) ∧ Q v H
theorem ix_dct (hu : X.A.units + 1 < cLine) : IxR X rIxDct := by
  intro value slice pins s σ H x y v u Q I rx ry h hs
  obtain ⟨a, z, rfl, g, q⟩ := h
  obtain rfl : v = Value.ref a := rx
  exact PyProof.Rows.tail_any (dict_typeIs I g) PySem.F.slot_dict_getitem.lookup (d_getItem hu I g ry fun w' s3 I3 rw' => ⟨z, H, I3, rw', q⟩) hs
theorem ix_all (hu : X.A.units + 70 < cLine) : IxR X (fun x y H Q => rIx X.K x y H Q ∨ rIxDct x y H Q) := ix_seq.or (ix_dct (by omega))
theorem ixN_atI {α : Type} {xs : List α} {i : Int} {x : α} (h : atI xs i = some x) : ∃ j, ixN xs.length i = some j ∧ xs[j]? = some x := by
  unfold atI at h
  cases e : ixN xs.length i with
  | none => rw [e] at h; cases h
  | some j => rw [e] at h; exact ⟨j, rfl, h⟩
theorem atI_rp {K : PySem.W.Frag} {xs : List V} {l : List D} {i : Int} {d : D} (r : RpL K F xs l) (h : atI l i = some d) : ∃ x, atI xs i = some x ∧ Rp K F x d := by
  obtain ⟨j, h1, h2⟩ := ixN_atI h
  obtain ⟨x, h3, h4⟩ := r.get h2
  refine ⟨x, ?_, h4⟩
  unfold atI
  rw [r.length, h1]
  exact h3
theorem op2_ix : Op2 X.K D.ix (fun x y H Q => rIx X.K x y H Q ∨ rIxDct x y H Q) := fun E F H v u x y Q s rx ry q => by
  cases x with
  | lst l => cases y with
    | int i =>
      obtain ⟨p, xs, rfl, h, r⟩ := rx.lst s
      have q : WpG X.K E (rE X.K) (match atI l i with | some d => .ok d | none => stuck) F H Q := q
      cases e : atI l i with
      | none => rw [e] at q; exact q.elim
      | some d =>
        rw [e] at q
        obtain ⟨z, h1, h2⟩ := atI_rp r e
        exact .inl (.inl ⟨p, xs, i, z, rfl, ry.int, SqL.of h, h1, q F H _ (Ext.refl s) h2⟩)
    | _ => exact q.elim
  | tup l => cases y with
    | int i =>
      obtain ⟨p, xs, rfl, h, r⟩ := rx.tup s
      have q : WpG X.K E (rE X.K) (match atI l i with | some d => .ok d | none => stuck) F H Q := q
      cases e : atI l i with
      | none => rw [e] at q; exact q.elim
      | some d =>
        rw [e] at q
        obtain ⟨z, h1, h2⟩ := atI_rp r e
        exact .inl (.inr (.inl ⟨p, xs, i, z, rfl, ry.int, h, h1, q F H _ (Ext.refl s) h2⟩))
    | _ => exact q.elim
  | str z => cases y with
    | int i =>
      have q : WpG X.K E (rE X.K) (need (decide (z.length ≤ sizeLine)) >>= fun _ => (match atI z.cps.toList i with | some c => .ok (.str ⟨#[c]⟩) | none => stuck)) F H Q := q
      obtain ⟨c, q⟩ := q.need
      have c := of_decide_eq_true c
      cases e : atI z.cps.toList i with
      | none => rw [e] at q; exact q.elim
      | some d =>
        rw [e] at q
        obtain ⟨j, _, h2⟩ := ixN_atI e
        exact .inl (.inr (.inr ⟨z, i, d, rx.str.1, ry.int, c, e, q F H _ (Ext.refl s) (.str _ (strOk_one rx.str.2 (List.mem_of_getElem? h2)))⟩))
    | _ => exact q.elim
  | dct l =>
    have q : WpG X.K E (rE X.K) (need y.isKey >>= fun _ => (match D.look l y with | some d => .ok d | none => stuck)) F H Q := q
    obtain ⟨c, q⟩ := q.need
    obtain ⟨k, rfl, rfl⟩ := keyV c ry
    obtain ⟨a, rfl, kvs, e1, e2, r2⟩ := rx.dct s
    rcases look_val k e2 r2 with ⟨h1, h2⟩ | ⟨v, d, h1, h2, h3⟩
    · rw [h2] at q
      exact q.elim
    · rw [h2] at q
      refine .inr ⟨a, v, rfl, ?_, q F H _ (Ext.refl s) h3⟩
      rw [← h1]
      exact DGet.kr e1
  | _ => cases y <;> exact q.elim
theorem de_ix (hu : X.A.units + 70 < cLine) (ha : DR X E G a ma) (hb : DR X E G b mb) (hs : PlainIx b := by intro _ _; rfl) : DE X E G (.Subscript a b pos) (ma >>= fun x => mb >>= fun y => D.ix x y) := by
  obtain ⟨t1, p1, w1⟩ := ha
  obtain ⟨t2, p2, w2⟩ := hb
  exact ⟨_, pe_ix (ix_all hu) p1 p2 hs, two w1 w2 op2_ix⟩

def DO (X : Cx) (E : St → XK) (G : List Sl) (e : Option Expr) (m : M (Option Int)) : Prop :=
  ∃ t, PO X e t ∧ ∀ B σ F H Q, Same F H → GOk X.K B G σ F H → WpG X.K (E σ) (fun _ _ (v : Option Int) d => v = d) m F H Q → t σ H Q
theorem do_none : DO X E G none (.ok none) := ⟨_, po_none, fun B σ F H Q s g q => q F H _ (Ext.refl s) rfl⟩
def D.bnd : D → M (Option Int)
  | .int i => .ok (some i)
  | _ => stuck
theorem do_some (ha : DR X E G a ma) : DO X E G (some a) (ma >>= fun x => D.bnd x) := by
  obtain ⟨t1, p1, w1⟩ := ha
  refine ⟨_, po_some p1, fun B σ F H Q s g q => w1 B σ F H _ s g (q.bind fun x F1 H1 v x1 r1 q1 => ?_)⟩
  cases x with
  | int i => exact ⟨i, r1.int, q1 F1 H1 _ (Ext.refl x1.sFH) rfl⟩
  | _ => exact q1.elim
theorem cutL_rp {K : PySem.W.Frag} {xs : List V} {l : List D} (r : RpL K F xs l) (lo hi : Option Int) : RpL K F (cutV xs lo hi) (cutL l lo hi) := by
  unfold cutV cutL
  rw [r.length]
  exact (r.drop _).take _
theorem ints_rp {K : PySem.W.Frag} : ∀ l : List Int, RpL K F (l.map V.int) (l.map D.int)
  | [] => .nil
  | i :: l => .cons (.int i) (ints_rp l)
theorem cutV_map (l : List Int) (lo hi : Option Int) : cutV (l.map V.int) lo hi = (cutL l lo hi).map V.int := by
  unfold cutV cutL
  rw [List.length_map, List.map_take, List.map_drop]
theorem de_sl {lo hi : Option Expr} {ml mh : M (Option Int)} {p2 : Pos} (ha : DR X E G a ma) (hl : DO X E G lo ml) (hh : DO X E G hi mh) : DE X E G (.Subscript a (.Slice lo hi none p2) pos) (ma >>= fun x => ml >>= fun l => mh >>= fun h => D.sl x l h) := by
  obtain ⟨t1, p1, w1⟩ := ha
  obtain ⟨t2, q2, w2⟩ := hl
  obtain ⟨t3, q3, w3⟩ := hh
  refine ⟨_, pe_slice (sl_list.or (sl_tupA.or sl_str)) p1 q2 q3, fun B σ F H Q s g q => w1 B σ F H _ s g (q.bind fun x F1 H1 v x1 r1 k1 => w2 B σ F1 H1 _ x1.sFH (g.ext x1) (k1.bind fun l F2 H2 l' x2 e2 k2 => w3 B σ F2 H2 _ x2.sFH ((g.ext x1).ext x2) (k2.bind fun h F3 H3 h' x3 e3 k3 => ?_)))⟩
  subst e2 e3
  have r3 := (r1.ext x2).ext x3
  have s3 := x3.sFH
  cases x with
  | lst m =>
    obtain ⟨p, xs, rfl, e, r⟩ := r3.lst s3
    exact .inl ⟨p, xs, rfl, SqL.of e, new_lst s3 (cutL_rp r _ _) k3⟩
  | scr m =>
    obtain ⟨p, rfl, e⟩ := r3.scr s3
    refine .inl ⟨p, _, rfl, e, ?_⟩
    rw [cutV_map]
    exact new_lst s3 (ints_rp _) k3
  | tup m =>
    obtain ⟨p, xs, rfl, e, r⟩ := r3.tup s3
    refine .inr (.inl ⟨p, xs, rfl, e, fun hw => ?_, fun _ => new_tup s3 (cutL_rp r _ _) k3⟩)
    rw [r.length] at hw
    have ec : cutL m l' h' = m := by
      unfold cutL
      rw [hw.1, hw.2, List.drop_zero, Nat.sub_zero, List.take_length]
    have k3 : WpG X.K (E σ) (rE X.K) (.ok (.tup (cutL m l' h'))) F3 H3 Q := k3
    rw [ec] at k3
    exact k3 F3 H3 _ (Ext.refl s3) r3.rp_tup
  | str z =>
    have k3 : WpG X.K (E σ) (rE X.K) (need (decide (z.length ≤ sizeLine)) >>= fun _ => .ok (.str (cutS z l' h'))) F3 H3 Q := k3
    obtain ⟨c, k3⟩ := k3.need
    have c := of_decide_eq_true c
    exact .inr (.inr ⟨z, r3.str.1, c, k3 F3 H3 _ (Ext.refl s3) (.str _ (strOk_cut r3.str.2 _ _))⟩)
  | _ => exact k3.elim

theorem da_nil : DA X E G [] (.ok []) := ⟨_, pa_nil, fun B σ F H Q s g q => q F H _ (Ext.refl s) .nil⟩
theorem da_cons {es : List Expr} {ms : M (List D)} (ha : DE X E G a ma) (hr : DA X E G es ms) (hs : starEach (a :: es) X.env = (false, eval a X.env) :: starEach es X.env := by rfl) : DA X E G (a :: es) (ma >>= fun x => ms >>= fun xs => .ok (x :: xs)) := by
  obtain ⟨t1, p1, w1⟩ := ha
  obtain ⟨t2, p2, w2⟩ := hr
  exact ⟨_, pa_cons p1 p2 hs, fun B σ F H Q s g q => w1 B σ F H _ s g (q.bind fun x F1 H1 v x1 r1 k1 => w2 B σ F1 H1 _ x1.sFH (g.ext x1) (k1.bind fun xs F2 H2 vs x2 r2 k2 => k2 F2 H2 _ (Ext.refl x2.sFH) (.cons (r1.mono x2.sF) r2)))⟩
theorem dra_nil : DRA X E G [] (.ok []) := ⟨_, pa_nil, fun B σ F H Q s g q => q F H _ (Ext.refl s) .nil⟩
theorem RpTL.ext {K : PySem.W.Frag} {F' H' : Hp} (x : Ext F H F' H') : ∀ {vs : List V} {ds : List D}, RpTL K F H vs ds → RpTL K F' H' vs ds
  | _, _, .nil => .nil
  | _, _, .cons r h => .cons (r.ext x) (RpTL.ext x h)
theorem dra_cons {es : List Expr} {ms : M (List D)} (ha : DR X E G a ma) (hr : DRA X E G es ms) (hs : starEach (a :: es) X.env = (false, eval a X.env) :: starEach es X.env := by rfl) : DRA X E G (a :: es) (ma >>= fun x => ms >>= fun xs => .ok (x :: xs)) := by
  obtain ⟨t1, p1, w1⟩ := ha
  obtain ⟨t2, p2, w2⟩ := hr
  exact ⟨_, pa_cons p1 p2 hs, fun B σ F H Q s g q => w1 B σ F H _ s g (q.bind fun x F1 H1 v x1 r1 k1 => w2 B σ F1 H1 _ x1.sFH (g.ext x1) (k1.bind fun xs F2 H2 vs x2 r2 k2 => k2 F2 H2 _ (Ext.refl x2.sFH) (.cons (r1.ext x2) r2)))⟩
def D.mkTup (l : List D) : M D := do need (decide (l.length ≤ sizeLine)); .ok (.tup l)
def D.mkLst (l : List D) : M D := do need (decide (l.length ≤ sizeLine)); .ok (.lst l)
theorem de_tup {es : List Expr} {ms : M (List D)} {x1} (h : DA X E G es ms) : DE X E G (.Tuple es x1 pos) (ms >>= fun l => D.mkTup l) := by
  obtain ⟨t, p, w⟩ := h
  refine ⟨_, pe_tup p, fun B σ F H Q s g q => w B σ F H _ s g (q.bind fun l F1 H1 vs x1 r1 k1 => ?_)⟩
  have k1 : WpG X.K (E σ) (rE X.K) (need (decide (l.length ≤ sizeLine)) >>= fun _ => .ok (.tup l)) F1 H1 Q := k1
  obtain ⟨c, k1⟩ := k1.need
  have c := of_decide_eq_true c
  exact ⟨by rw [r1.length]; exact c, new_tup x1.sFH r1 k1⟩
theorem de_lst {es : List Expr} {ms : M (List D)} (h : DA X E G es ms) : DE X E G (.List es pos) (ms >>= fun l => D.mkLst l) := by
  obtain ⟨t, p, w⟩ := h
  refine ⟨_, pe_lst p, fun B σ F H Q s g q => w B σ F H _ s g (q.bind fun l F1 H1 vs x1 r1 k1 => ?_)⟩
  have k1 : WpG X.K (E σ) (rE X.K) (need (decide (l.length ≤ sizeLine)) >>= fun _ => .ok (.lst l)) F1 H1 Q := k1
  obtain ⟨c, k1⟩ := k1.need
  have c := of_decide_eq_true c
  exact ⟨by rw [r1.length]; exact c, new_lst x1.sFH r1 k1⟩

def OpN (K : PySem.W.Frag) (f : List D → M D) (r : List V → Hp → VK → Prop) : Prop := ∀ (E : XK) (F H : Hp) (vs : List V) (ds : List D) (Q : VK), Same F H → RpTL K F H vs ds → WpG K E (rE K) (f ds) F H Q → r vs H Q
theorem argsN {t : TA} {ms : M (List D)} {f : List D → M D} {r : List V → Hp → VK → Prop} (w : ∀ B σ F H Q, Same F H → GOk X.K B G σ F H → WpG X.K (E σ) (rTL X.K) ms F H Q → t σ H Q) (hf : OpN X.K f r) :
    ∀ B σ F H Q, Same F H → GOk X.K B G σ F H → WpG X.K (E σ) (rE X.K) (ms >>= fun l => f l) F H Q → tCB r t σ H Q := fun B σ F H Q s g q =>
  w B σ F H _ s g (q.bind fun l F1 H1 vs x1 r1 k1 => hf (E σ) F1 H1 vs l Q x1.sFH r1 k1)
theorem de_callB {id : String} {x : Str} {es : List Expr} {p : Pos} {ms : M (List D)} {f : List D → M D} {r : List V → Hp → VK → Prop} (hc : CallR X (.builtin id) r) (hf : OpN X.K f r) (hg : Gl X x) (hm : X.mg x = none) (hv : bootBuiltins x = some (.builtin id)) (ha : DRA X E G (a :: es) ms)
    (hn : x ≠ "__name__" := by decide) (hdb : (x == ("__debug__" : Str)) = false := by decide) (he : starEach (a :: es) X.env = (false, eval a X.env) :: starEach es X.env := by rfl) (hpl : (backTo pos (starEach es X.env)).any (·.1) = false := by rfl) : DE X E G (.Call (.Name x p) (a :: es) [] pos) (ms >>= fun l => f l) := by
  obtain ⟨t, pp, w⟩ := ha
  exact ⟨_, pe_callB hc hg hm hv pp hn hdb he hpl, argsN w hf⟩
theorem de_callTy {T : String} {x : Str} {es : List Expr} {p : Pos} {ms : M (List D)} {f : List D → M D} {r : List V → Hp → VK → Prop} (hc : CallR X (.type T) r) (hf : OpN X.K f r) (hg : Gl X x) (hm : X.mg x = none) (hv : bootBuiltins x = some (.type T)) (ha : DRA X E G (a :: es) ms)
    (hn : x ≠ "__name__" := by decide) (hdb : (x == ("__debug__" : Str)) = false := by decide) (he : starEach (a :: es) X.env = (false, eval a X.env) :: starEach es X.env := by rfl) (hpl : (backTo pos (starEach es X.env)).any (·.1) = false := by rfl) : DE X E G (.Call (.Name x p) (a :: es) [] pos) (ms >>= fun l => f l) := by
  obtain ⟨t, pp, w⟩ := ha
  exact ⟨_, pe_callTy hc hg hm hv pp hn hdb he hpl, argsN w hf⟩
def f1 (f : D → M D) : List D → M D
  | [x] => f x
  | _ => stuck
def f2 (f : D → D → M D) : List D → M D
  | [x, y] => f x y
  | _ => stuck
theorem opN1 {f : D → M D} {r : List V → Hp → VK → Prop} (h : ∀ (E : XK) F H v d Q, Same F H → RpT X.K F H v d → WpG X.K E (rE X.K) (f d) F H Q → r [v] H Q) : OpN X.K (f1 f) r := fun E F H vs ds Q s r q => by
  cases r with
  | nil => exact q.elim
  | cons r1 r2 => cases r2 with
    | nil => exact h E F H _ _ Q s r1 q
    | cons _ _ => exact q.elim
theorem opN2 {f : D → D → M D} {r : List V → Hp → VK → Prop} (h : ∀ (E : XK) F H v u d e Q, Same F H → RpT X.K F H v d → RpT X.K F H u e → WpG X.K E (rE X.K) (f d e) F H Q → r [v, u] H Q) : OpN X.K (f2 f) r := fun E F H vs ds Q s r q => by
  cases r with
  | nil => exact q.elim
  | cons r1 r2 => cases r2 with
    | nil => exact q.elim
    | cons r3 r4 => cases r4 with
      | nil => exact h E F H _ _ _ _ Q s r1 r3 q
      | cons _ _ => exact q.elim
theorem lenR : CallR X (.builtin "len") (fun xs H Q => (∃ x n, xs = [x] ∧ LenV X.K x H n ∧ Q (.int n) H) ∨ (∃ a kvs, xs = [V.ref a] ∧ Rd H a (.dK kvs) ∧ Q (.int kvs.length) H)) := call_len.or call_lenR
theorem len_op : OpN X.K (f1 D.len) (fun xs H Q => (∃ x n, xs = [x] ∧ LenV X.K x H n ∧ Q (.int n) H) ∨ (∃ a kvs, xs = [V.ref a] ∧ Rd H a (.dK kvs) ∧ Q (.int kvs.length) H)) := opN1 fun E F H v d Q s r q => by
  cases d with
  | str y =>
    have q : WpG X.K E (rE X.K) (need (decide (y.length ≤ sizeLine)) >>= fun _ => .ok (.int y.length)) F H Q := q
    obtain ⟨c, q⟩ := q.need
    have c := of_decide_eq_true c
    exact .inl ⟨v, y.length, rfl, by rw [r.str.1]; exact ⟨c, rfl⟩, q F H _ (Ext.refl s) (.int _)⟩
  | lst l =>
    obtain ⟨p, xs, rfl, e, r⟩ := r.lst s
    exact .inl ⟨_, xs.length, rfl, .inl ⟨xs, SqL.of e, rfl⟩, by rw [r.length]; exact q F H _ (Ext.refl s) (.int _)⟩
  | scr l =>
    obtain ⟨p, rfl, e⟩ := r.scr s
    exact .inl ⟨_, l.length, rfl, .inl ⟨_, e, by rw [List.length_map]⟩, q F H _ (Ext.refl s) (.int _)⟩
  | tup l =>
    obtain ⟨p, xs, rfl, e, r⟩ := r.tup s
    exact .inl ⟨_, xs.length, rfl, .inr ⟨xs, e, rfl⟩, by rw [r.length]; exact q F H _ (Ext.refl s) (.int _)⟩
  | dct l =>
    obtain ⟨p, rfl, kvs, e, e2, r⟩ := r.dct s
    refine .inr ⟨_, kvs, rfl, e, ?_⟩
    have el : kvs.length = l.length := by
      have := congrArg List.length e2
      simpa using this
    rw [el]
    exact q F H _ (Ext.refl s) (.int _)
  | _ => exact q.elim
theorem abs_op : OpN X.K (f1 D.abs) (fun xs H Q => ∃ i, xs = [.int i] ∧ Q (.int (if i < 0 then -i else i)) H) := opN1 fun E F H v d Q s r q => by
  cases d with
  | int i => exact ⟨i, by rw [r.int], q F H _ (Ext.refl s) (.int _)⟩
  | _ => exact q.elim
theorem max_op : OpN X.K (f2 D.max2) (fun xs H Q => ∃ i j, xs = [.int i, .int j] ∧ Q (.int (if j > i then j else i)) H) := opN2 fun E F H v u d e Q s r1 r2 q => by
  cases d with
  | int i => cases e with
    | int j => exact ⟨i, j, by rw [r1.int, r2.int], q F H _ (Ext.refl s) (.int _)⟩
    | _ => exact q.elim
  | _ => cases e <;> exact q.elim
theorem min_op : OpN X.K (f2 D.min2) (fun xs H Q => ∃ i j, xs = [.int i, .int j] ∧ Q (.int (if j < i then j else i)) H) := opN2 fun E F H v u d e Q s r1 r2 q => by
  cases d with
  | int i => cases e with
    | int j => exact ⟨i, j, by rw [r1.int, r2.int], q F H _ (Ext.refl s) (.int _)⟩
    | _ => exact q.elim
  | _ => cases e <;> exact q.elim
theorem int_R : CallR X (.type "int") (fun xs H Q => ((∃ i, xs = [.int i] ∧ Q (.int i) H) ∨ ∃ k, xs = [.bl k] ∧ Q (.int (if k then 1 else 0)) H) ∨ (∃ a n, xs = [.str a] ∧ PySem.intText? a = some n ∧ a.length ≤ 640 ∧ Q (.int n) H)) := call_int1.or call_int_str
theorem int_op : OpN X.K (f1 D.toInt) (fun xs H Q => ((∃ i, xs = [.int i] ∧ Q (.int i) H) ∨ ∃ k, xs = [.bl k] ∧ Q (.int (if k then 1 else 0)) H) ∨ (∃ a n, xs = [.str a] ∧ PySem.intText? a = some n ∧ a.length ≤ 640 ∧ Q (.int n) H)) := opN1 fun E F H v d Q s r q => by
  cases d with
  | int i => exact .inl (.inl ⟨i, by rw [r.int], q F H _ (Ext.refl s) (.int _)⟩)
  | bl i => exact .inl (.inr ⟨i, by rw [r.bl], q F H _ (Ext.refl s) (.int _)⟩)
  | str a =>
    have q : WpG X.K E (rE X.K) (match PySem.intText? a with | some n => (need (decide (a.length ≤ 640)) >>= fun _ => .ok (.int n)) | none => stuck) F H Q := q
    cases e : PySem.intText? a with
    | none => rw [e] at q; exact q.elim
    | some n =>
      rw [e] at q
      obtain ⟨c, q⟩ := WpG.need q
      have c := of_decide_eq_true c
      exact .inr ⟨a, n, by rw [r.str.1], e, c, q F H _ (Ext.refl s) (.int _)⟩
  | _ => exact q.elim
theorem toString_ok (i : Int) : PyData.strOk ((toString i : String) : Str) = true := by
  rw [strOk_mem]
  intro c hc
  rw [Str.ofString_eq_toList] at hc
  simp only [List.mem_map] at hc
  obtain ⟨ch, _, rfl⟩ := hc
  have h := ch.valid
  simp only [UInt32.isValidChar, Nat.isValidChar] at h
  have : ch.toNat = ch.val.toNat := rfl
  omega
theorem str_op : OpN X.K (f1 D.toStr) (fun xs H Q => ∃ i, xs = [.int i] ∧ i.natAbs.log2 < 1920 ∧ Q (.str (toString i)) H) := opN1 fun E F H v d Q s r q => by
  cases d with
  | int i =>
    have q : WpG X.K E (rE X.K) (need (decide (i.natAbs.log2 < 1920)) >>= fun _ => .ok (.str (toString i))) F H Q := q
    obtain ⟨c, q⟩ := q.need
    have c := of_decide_eq_true c
    exact ⟨i, by rw [r.int], c, q F H _ (Ext.refl s) (.str _ (toString_ok i))⟩
  | _ => exact q.elim
theorem bools_rp {K : PySem.W.Frag} : ∀ {l : List D} {xs : List V} {bs : List Bool}, D.bools l = some bs → RpL K F xs l → xs = bs.map V.bl
  | [], _, _, h, .nil => by
    cases h
    rfl
  | d :: l, _, bs, h, .cons r1 r2 => by
    cases d with
    | bl b =>
      have h : (D.bools l).map (b :: ·) = some bs := h
      cases e : D.bools l with
      | none => rw [e] at h; cases h
      | some cs =>
        rw [e] at h
        cases h
        cases r1
        rw [bools_rp e r2]
        rfl
    | _ => cases h
theorem all_op : OpN X.K (f1 D.all) (rAll X.K) := opN1 fun E F H v d Q s r q => by
  cases d with
  | lst l =>
    have q : WpG X.K E (rE X.K) (match D.bools l with | some bs => .ok (.bl (bs.all id)) | none => stuck) F H Q := q
    cases e : D.bools l with
    | none => rw [e] at q; exact q.elim
    | some bs =>
      rw [e] at q
      obtain ⟨p, xs, rfl, h, r⟩ := r.lst s
      have ex := bools_rp e r
      subst ex
      exact ⟨p, bs, rfl, SqL.of h, q F H _ (Ext.refl s) (.bl _)⟩
  | _ => exact q.elim
theorem list_op : OpN X.K (f1 D.toList) (fun xs H Q => ∃ p ys, xs = [.ref p] ∧ (SqL X.K H p ys ∨ SqT X.K H p ys) ∧ ∀ l, H l = none → Q (.ref l) (upd H l (.lst ys))) := opN1 fun E F H v d Q s r q => by
  cases d with
  | lst l =>
    obtain ⟨p, xs, rfl, h, r⟩ := r.lst s
    exact ⟨p, xs, rfl, .inl (SqL.of h), new_lst s r q⟩
  | tup l =>
    obtain ⟨p, xs, rfl, h, r⟩ := r.tup s
    exact ⟨p, xs, rfl, .inr h, new_lst s r q⟩
  | _ => exact q.elim
theorem tup_op : OpN X.K (f1 D.toTup) (fun xs H Q => ∃ p ys, xs = [.ref p] ∧ ((SqL X.K H p ys ∧ ∀ l, H l = none → Q (.ref l) (upd H l (.tup ys))) ∨ (SqT X.K H p ys ∧ Q (.ref p) H))) := opN1 fun E F H v d Q s r q => by
  cases d with
  | lst l =>
    obtain ⟨p, xs, rfl, h, r⟩ := r.lst s
    exact ⟨p, xs, rfl, .inl ⟨SqL.of h, new_tup s r q⟩⟩
  | tup l =>
    obtain ⟨p, xs, ep, h, r'⟩ := r.tup s
    subst ep
    exact ⟨p, xs, rfl, .inr ⟨h, q F H _ (Ext.refl s) r.rp_tup⟩⟩
  | _ => exact q.elim
theorem strs_rp {K : PySem.W.Frag} : ∀ {l : List D} {xs : List V} {bs : List Str}, D.strs l = some bs → RpL K F xs l → xs = bs.map V.str ∧ ∀ y ∈ bs, PyData.strOk y = true
  | [], _, _, h, .nil => by
    cases h
    exact ⟨rfl, fun y hy => by cases hy⟩
  | d :: l, _, bs, h, .cons r1 r2 => by
    cases d with
    | str b =>
      have h : (D.strs l).map (b :: ·) = some bs := h
      cases e : D.strs l with
      | none => rw [e] at h; cases h
      | some cs =>
        rw [e] at h
        cases h
        cases r1 with
        | str _ hb =>
          obtain ⟨e1, e2⟩ := strs_rp e r2
          rw [e1]
          refine ⟨rfl, fun y hy => ?_⟩
          rcases List.mem_cons.mp hy with rfl | hy
          · exact hb
          · exact e2 y hy
    | _ => cases h
theorem de_m0 {T : String} {id : String} {name : Str} {r : V → List V → Hp → VK → Prop} {f : D → M D} {apos : Pos} (pa : PlainAttrs T) (slot : Slot T name id) (hty : typeOf (.builtin id) = pure (.type "method_descriptor")) (hm : MtR X id r)
    (hf : ∀ (E : XK) F H v d Q, Same F H → RpT X.K F H v d → WpG X.K E (rE X.K) (f d) F H Q → tyV X.K T v H ∧ r v [] H Q) (ha : DR X E G a ma)
    (hbase : attributeBase a name X.env (eval a X.env) = eval a X.env := by rfl) (hline : (apos.endLine == pos.line) = true := by rfl) : DE X E G (.Call (.Attribute a name apos) [] [] pos) (ma >>= fun x => f x) := by
  obtain ⟨t, p, w⟩ := ha
  exact ⟨_, pe_bm0 pa slot hty hm p hbase hline, fun B σ F H Q s g q => w B σ F H _ s g (q.bind fun x F1 H1 v x1 r1 k1 => hf (E σ) F1 H1 v x Q x1.sFH r1 k1)⟩
end
end DL

set_option Elab.async false
set_option linter.all false
set_option maxRecDepth 100000
set_option maxHeartbeats 4000000
namespace DL
open PySem PySem.Spec L2

theorem joinL_mem {S : List Nat} {c : Nat} : ∀ {l : List (List Nat)}, c ∈ TL.joinL S l → c ∈ S ∨ ∃ p ∈ l, c ∈ p
  | [], h => by cases h
  | [p], h => .inr ⟨p, List.mem_singleton.mpr rfl, h⟩
  | p :: q :: r, h => by
    have h : c ∈ p ++ (S ++ TL.joinL S (q :: r)) := h
    rcases List.mem_append.mp h with h | h
    · exact .inr ⟨p, List.mem_cons_self .., h⟩
    · rcases List.mem_append.mp h with h | h
      · exact .inl h
      · rcases joinL_mem h with h | ⟨z, hz, h⟩
        · exact .inl h
        · exact .inr ⟨z, List.mem_cons_of_mem _ hz, h⟩
theorem mem_joinL {S p : List Nat} {c : Nat} : ∀ {l : List (List Nat)}, p ∈ l → c ∈ p → c ∈ TL.joinL S l
  | [], h, _ => by cases h
  | [q], h, hc => by
    rw [List.mem_singleton.mp h] at hc
    exact hc
  | q :: r :: l, h, hc => by
    show c ∈ q ++ (S ++ TL.joinL S (r :: l))
    rcases List.mem_cons.mp h with rfl | h
    · exact List.mem_append_left _ hc
    · exact List.mem_append_right _ (List.mem_append_right _ (mem_joinL h hc))
theorem strOk_tl {x : Str} : PyData.strOk x = true ↔ ∀ c ∈ TL.tl x, c < 0x110000 := strOk_mem
theorem strOk_join {a : Str} {l : List Str} (ha : PyData.strOk a = true) (hl : ∀ y ∈ l, PyData.strOk y = true) : PyData.strOk (Txt.join a l) = true := by
  rw [strOk_tl]
  intro c hc
  rw [TL.join_eq, TL.tl_join] at hc
  rcases joinL_mem hc with h | ⟨p, hp, h⟩
  · exact strOk_tl.mp ha c h
  · obtain ⟨y, hy, rfl⟩ := List.mem_map.mp hp
    exact strOk_tl.mp (hl y hy) c h
theorem strOk_split {a b : Str} (ha : PyData.strOk a = true) : ∀ y ∈ Txt.split a b, PyData.strOk y = true := by
  intro y hy
  rw [strOk_tl]
  intro c hc
  have e := StrLaws.join_split a b
  refine strOk_tl.mp ha c ?_
  rw [← e, TL.tl_join]
  exact mem_joinL (List.mem_map_of_mem hy) hc
section
variable {X : Cx} {E : St → XK} {G : List Sl} {a b c e : Expr} {ma mb mc : M D} {ta tb : M Bool} {pos : Pos} {F H : Hp}
theorem strs_new {K : PySem.W.Frag} : ∀ {l : List Str}, (∀ y ∈ l, PyData.strOk y = true) → RpL K F (l.map V.str) (l.map D.str)
  | [], _ => .nil
  | x :: l, h => .cons (.str x (h x (List.mem_cons_self ..))) (strs_new fun y hy => h y (List.mem_cons_of_mem _ hy))

def meth (c : D → Bool) (mo : M D) (ms : M (List D)) (f : D → List D → M D) : M D := do
  let x ← mo
  need (c x)
  let l ← ms
  f x l
theorem de_m {T : String} {id : String} {name : Str} {r : V → List V → Hp → VK → Prop} {f : D → List D → M D} {c : D → Bool} {apos : Pos} {es : List Expr} {ms : M (List D)} (pa : PlainAttrs T) (slot : Slot T name id) (hty : typeOf (.builtin id) = pure (.type "method_descriptor")) (hm : MtR X id r)
    (hc : ∀ (F H : Hp) (v : V) (d : D), c d = true → Same F H → RpT X.K F H v d → tyV X.K T v H)
    (hf : ∀ (E : XK) (F H : Hp) (v : V) (d : D) (vs : List V) (ds : List D) (Q : VK), Same F H → RpT X.K F H v d → RpTL X.K F H vs ds → WpG X.K E (rE X.K) (f d ds) F H Q → r v vs H Q) (ho : DR X E G b mb) (ha : DRA X E G (a :: es) ms)
    (hbase : attributeBase b name X.env (eval b X.env) = eval b X.env := by rfl)
    (hfew : ((backTo pos (starEach (a :: es) X.env)).all (fun x => !x.1) && (backToKw pos (keywordEach [] X.env)).all (fun x => x.1.isSome)
      && decide ((a :: es).length + ([] : List Keyword).length + (if ([] : List Keyword).isEmpty then 0 else 1) < 30)) = true := by rfl)
    (hline : (apos.endLine == pos.line) = true := by rfl) (hs : starEach (a :: es) X.env = (false, eval a X.env) :: starEach es X.env := by rfl) (hplain : (backTo pos (starEach es X.env)).any (·.1) = false := by rfl) :
    DE X E G (.Call (.Attribute b name apos) (a :: es) [] pos) (meth c mb ms f) := by
  obtain ⟨t1, p1, w1⟩ := ho
  obtain ⟨t2, p2, w2⟩ := ha
  refine ⟨_, pe_bm pa slot hty hm p1 p2 hbase hfew hline hs hplain, fun B σ F H Q s g q => w1 B σ F H _ s g (WpG.bind q fun x F1 H1 v x1 r1 k1 => ?_)⟩
  obtain ⟨cx, k1⟩ := WpG.need k1
  exact ⟨hc F1 H1 v x cx x1.sFH r1, w2 B σ F1 H1 _ x1.sFH (g.ext x1) (WpG.bind k1 fun l F2 H2 vs x2 r2 k2 => hf (E σ) F2 H2 v x vs l Q x2.sFH (r1.ext x2) r2 k2)⟩
def D.isStr : D → Bool
  | .str _ => true
  | _ => false
def m1 (f : D → D → M D) : D → List D → M D
  | x, [y] => f x y
  | _, _ => stuck
theorem ty_str {K : PySem.W.Frag} {v : V} {d : D} (h : d.isStr = true) (r : RpT K F H v d) : tyV K "str" v H := by
  cases d with
  | str z => rw [r.str.1]; rfl
  | _ => cases h
theorem m1_of {f : D → D → M D} {r : V → List V → Hp → VK → Prop} (h : ∀ (E : XK) F H v u d e Q, Same F H → RpT X.K F H v d → RpT X.K F H u e → WpG X.K E (rE X.K) (f d e) F H Q → r v [u] H Q) :
    ∀ (E : XK) (F H : Hp) (v : V) (d : D) (vs : List V) (ds : List D) (Q : VK), Same F H → RpT X.K F H v d → RpTL X.K F H vs ds → WpG X.K E (rE X.K) (m1 f d ds) F H Q → r v vs H Q := fun E F H v d vs ds Q s r1 r q => by
  cases r with
  | nil => exact q.elim
  | cons r2 r3 => cases r3 with
    | nil => exact h E F H v _ d _ Q s r1 r2 q
    | cons _ _ => exact q.elim
theorem de_join {apos : Pos} {ms : M (List D)} (ho : DR X E G b mb) (ha : DRA X E G [a] ms)
    (hbase : attributeBase b "join" X.env (eval b X.env) = eval b X.env := by rfl)
    (hfew : ((backTo pos (starEach [a] X.env)).all (fun x => !x.1) && (backToKw pos (keywordEach [] X.env)).all (fun x => x.1.isSome)
      && decide (([a] : List Expr).length + ([] : List Keyword).length + (if ([] : List Keyword).isEmpty then 0 else 1) < 30)) = true := by rfl)
    (hline : (apos.endLine == pos.line) = true := by rfl) (hs : starEach [a] X.env = (false, eval a X.env) :: starEach [] X.env := by rfl) (hplain : (backTo pos (starEach [] X.env)).any (·.1) = false := by rfl) :
    DE X E G (.Call (.Attribute b "join" apos) [a] [] pos) (meth D.isStr mb ms (m1 D.join)) :=
  de_m PySem.F.plainAttrs_str PySem.F.slot_str_join PySem.F.type_str_join mt_join (fun F H v d h _ r => ty_str h r) (m1_of fun E F H v u d e Q s r1 r2 q => by
    cases d with
    | str z =>
      cases e with
      | lst l =>
        have q : WpG X.K E (rE X.K) (match D.strs l with
          | some ys => (need (decide ((ys.map (·.length)).sum + ys.length * z.length ≤ 16777216)) >>= fun _ => .ok (.str (Txt.join z ys)))
          | none => stuck) F H Q := q
        cases e : D.strs l with
        | none => rw [e] at q; exact q.elim
        | some ys =>
          rw [e] at q
          obtain ⟨c, q⟩ := WpG.need q
          have c := of_decide_eq_true c
          obtain ⟨p, xs, rfl, h, r⟩ := r2.lst s
          obtain ⟨rfl, ok⟩ := strs_rp e r
          exact ⟨z, p, ys, r1.str.1, rfl, .inl (SqL.of h), c, q F H _ (Ext.refl s) (.str _ (strOk_join r1.str.2 ok))⟩
      | tup l =>
        have q : WpG X.K E (rE X.K) (match D.strs l with
          | some ys => (need (decide ((ys.map (·.length)).sum + ys.length * z.length ≤ 16777216)) >>= fun _ => .ok (.str (Txt.join z ys)))
          | none => stuck) F H Q := q
        cases e : D.strs l with
        | none => rw [e] at q; exact q.elim
        | some ys =>
          rw [e] at q
          obtain ⟨c, q⟩ := WpG.need q
          have c := of_decide_eq_true c
          obtain ⟨p, xs, rfl, h, r⟩ := r2.tup s
          obtain ⟨rfl, ok⟩ := strs_rp e r
          exact ⟨z, p, ys, r1.str.1, rfl, .inr h, c, q F H _ (Ext.refl s) (.str _ (strOk_join r1.str.2 ok))⟩
      | _ => exact q.elim
    | _ => cases e <;> exact q.elim) ho ha hbase hfew hline hs hplain
theorem de_split {apos : Pos} {ms : M (List D)} (ho : DR X E G b mb) (ha : DRA X E G [a] ms)
    (hbase : attributeBase b "split" X.env (eval b X.env) = eval b X.env := by rfl)
    (hfew : ((backTo pos (starEach [a] X.env)).all (fun x => !x.1) && (backToKw pos (keywordEach [] X.env)).all (fun x => x.1.isSome)
      && decide (([a] : List Expr).length + ([] : List Keyword).length + (if ([] : List Keyword).isEmpty then 0 else 1) < 30)) = true := by rfl)
    (hline : (apos.endLine == pos.line) = true := by rfl) (hs : starEach [a] X.env = (false, eval a X.env) :: starEach [] X.env := by rfl) (hplain : (backTo pos (starEach [] X.env)).any (·.1) = false := by rfl) :
    DE X E G (.Call (.Attribute b "split" apos) [a] [] pos) (meth D.isStr mb ms (m1 D.split)) :=
  de_m PySem.F.plainAttrs_str PySem.F.slot_str_split PySem.F.type_str_split mt_split (fun F H v d h _ r => ty_str h r) (m1_of fun E F H v u d e Q s r1 r2 q => by
    cases d with
    | str z =>
      cases e with
      | str y =>
        have q : WpG X.K E (rE X.K) (need (!(y.length == 0) && decide (z.length + 2 ≤ sizeLine)) >>= fun _ => .ok (.lst ((Txt.split z y).map D.str))) F H Q := q
        obtain ⟨c, q⟩ := WpG.need q
        obtain ⟨c1, c2⟩ := and2 c
        have c2 := of_decide_eq_true c2
        refine ⟨z, y, r1.str.1, by rw [r2.str.1], by simpa using c1, c2, ?_⟩
        exact new_lst s (strs_new (strOk_split r1.str.2)) q
      | _ => exact q.elim
    | _ => cases e <;> exact q.elim) ho ha hbase hfew hline hs hplain

inductive DJ (X : Cx) (E : St → XK) (G : List Sl) : List Expr → List (M D) → Prop
  | nil : DJ X E G [] []
  | cons {e : Expr} {m : M D} {es : List Expr} {ms : List (M D)} : DE X E G e m → DJ X E G es ms → DJ X E G (e :: es) (m :: ms)
def Yld (K : PySem.W.Frag) (J : It) (P : Hp → Hp → Prop) (ds : List D) : Prop := ∀ F H, P F H → Same F H → (∀ (i : Nat) (d : D), ds[i]? = some d → J.go i H ∧ ∀ x H', J.yld i H x H' → ∃ F', Ext F H F' H' ∧ Rp K F' x d) ∧ J.stop ds.length H
def DI (X : Cx) (E : St → XK) (G : List Sl) (tg iter : Expr) (m : M (List D)) : Prop :=
  ∃ wi, PI X tg iter wi ∧ ∀ B σ F H R, Same F H → GOk X.K B G σ F H → WpG X.K (E σ) (fun F' _ J ds => Yld X.K J (fun F1 _ => Same F' F1) ds) m F H R → wi σ H R
def DIR (X : Cx) (E : St → XK) (G : List Sl) (tg iter : Expr) (m : M (List D)) : Prop :=
  ∃ wi, PI X tg iter wi ∧ ∀ B σ F H R, Same F H → GOk X.K B G σ F H → WpG X.K (E σ) (fun F' H' J ds => Yld X.K J (fun F1 H1 => Ext F' H' F1 H1) ds) m F H R → wi σ H R
theorem DIR.of {tg iter : Expr} {m : M (List D)} (h : DI X E G tg iter m) : DIR X E G tg iter m := by
  obtain ⟨t, p, w⟩ := h
  exact ⟨t, p, fun B σ F H Q s g q => w B σ F H Q s g (match m, q with
    | .ok d, q => fun F' H' J x r => q F' H' J x fun F1 H1 y s1 => r F1 H1 y.sF s1
    | .error .stuck, q => q.elim
    | .error (.exc x), q => q)⟩
def iSeq (K : PySem.W.Frag) (tl : TE) : TI := fun σ H R => tl σ H fun x H1 => (∃ a, x = .ref a ∧ (∃ xs, SqL K H1 a xs) ∧ R (Itl K a) H1) ∨ (∃ a, x = .ref a ∧ (∃ xs, SqT K H1 a xs) ∧ R (Itt K a) H1) ∨ ∃ y, x = .str y ∧ R (Its y) H1
theorem pi_seq {tg l : Expr} {tl : TE} (hl : PE X l tl) : PI X tg l (iSeq X.K tl) := by
  refine ⟨fun pins s σ H R I h => ?_⟩
  refine thn (hl.run pins s σ H _ I h) fun v s1 ⟨x, H1, I1, r1, q1⟩ => ?_
  have tv : ∀ (Q : VK), Q x H1 → tC x σ H1 Q := fun Q h => h
  rcases q1 with ⟨a, e, ⟨xs, hq⟩, q⟩ | ⟨a, e, ⟨xs, hq⟩, q⟩ | ⟨y, e, q⟩
  · subst e
    cases r1
    obtain ⟨its, rv, p, hz⟩ := I1.list hq
    refine wpAny_pyIter_list p.isList ?_
    refine ⟨s1.heap.objs.size, [s1.heap.objs.size], _, _, H1, rfl, I1.kept (t' := s1.toks) fun b o e => Heap.get?_push_of_some _ e, turn_list a _, ⟨_, Heap.get?_push_size _ rfl, rfl, rfl⟩, fun b hb => ?_, q⟩
    have e : b = s1.heap.objs.size := by simpa using hb
    subst e
    exact I1.fpOk (Nat.le_refl _) (I1.hok.fresh (Nat.le_refl _))
  · subst e
    cases r1
    obtain ⟨its, rv, p, hz⟩ := I1.tuple hq
    refine wpAny_pyIter_tuple (show s1.heap.IsTuple a its.toArray from p) ?_
    refine ⟨s1.heap.objs.size, [s1.heap.objs.size], _, _, H1, rfl, I1.kept (t' := s1.toks) fun b o e => Heap.get?_push_of_some _ e, turn_tuple a _, ⟨_, Heap.get?_push_size _ rfl, rfl, rfl⟩, fun b hb => ?_, q⟩
    have e : b = s1.heap.objs.size := by simpa using hb
    subst e
    exact I1.fpOk (Nat.le_refl _) (I1.hok.fresh (Nat.le_refl _))
  · subst e
    obtain ⟨t, rfl⟩ := r1
    cases ha : y.cps.all (· < 128)
    · exact wpAny_pyIter_wide ha (pi_one (tk := s1.toks) I1 _ (turn_str _ y t "str_iterator" (.inr rfl)) ⟨_, Heap.get?_push_size _ rfl, rfl, rfl⟩ q)
    · exact wpAny_pyIter_ascii ha (pi_one (tk := s1.toks) I1 _ (turn_str _ y t "str_ascii_iterator" (.inl rfl)) ⟨_, Heap.get?_push_size _ rfl, rfl, rfl⟩ q)
def D.items : D → M (List D)
  | .lst l => .ok l
  | .tup l => .ok l
  | .str y => .ok (y.cps.toList.map fun c => D.str ⟨#[c]⟩)
  | _ => stuck
theorem yld_list {K : PySem.W.Frag} {a : Addr} {xs : List V} {ds : List D} {F0 : Hp} {P : Hp → Hp → Prop} (r : RpL K F0 xs ds) (h : ∀ F H, P F H → Same F H → Same F0 F ∧ H a = some (.lst xs)) : Yld K (Itl K a) P ds := fun F H p s => by
  obtain ⟨h1, h2⟩ := h F H p s
  refine ⟨fun i d hd => ?_, ?_⟩
  · obtain ⟨x, hx, rx⟩ := r.get hd
    refine ⟨⟨xs, x, SqL.of h2, hx⟩, fun y H' hy => ?_⟩
    obtain ⟨rfl, hy⟩ := hy
    have e : x = y := Option.some.inj (hx.symm.trans (hy xs (SqL.of h2)))
    subst e
    exact ⟨F, Ext.refl s, rx.mono h1⟩
  · exact ⟨xs, SqL.of h2, by rw [r.length]; exact Nat.le_refl _⟩
theorem yld_tup {K : PySem.W.Frag} {a : Addr} {xs : List V} {ds : List D} {F0 : Hp} {P : Hp → Hp → Prop} (r : RpL K F0 xs ds) (h : ∀ F H, P F H → Same F H → Same F0 F ∧ SqT K H a xs) : Yld K (Itt K a) P ds := fun F H p s => by
  obtain ⟨h1, h2⟩ := h F H p s
  refine ⟨fun i d hd => ?_, ?_⟩
  · obtain ⟨x, hx, rx⟩ := r.get hd
    refine ⟨⟨xs, x, h2, hx⟩, fun y H' hy => ?_⟩
    obtain ⟨rfl, hy⟩ := hy
    have e : x = y := Option.some.inj (hx.symm.trans (hy xs h2))
    subst e
    exact ⟨F, Ext.refl s, rx.mono h1⟩
  · exact ⟨xs, h2, by rw [r.length]; exact Nat.le_refl _⟩
theorem yld_str {K : PySem.W.Frag} {y : Str} {P : Hp → Hp → Prop} (ok : PyData.strOk y = true) : Yld K (Its y) P (y.cps.toList.map fun c => D.str ⟨#[c]⟩) := fun F H p s => by
  refine ⟨fun i d hd => ?_, ?_⟩
  · rw [List.getElem?_map] at hd
    cases e : y.cps.toList[i]? with
    | none => rw [e] at hd; cases hd
    | some c =>
      rw [e] at hd
      cases hd
      have hi : i < y.cps.toList.length := (List.getElem?_eq_some_iff.mp e).1
      refine ⟨by show i < y.cps.size; simpa using hi, fun x H' hx => ?_⟩
      obtain ⟨rfl, c', hc, rfl⟩ := hx
      have e2 : y.cps.toList[i]? = some c' := by simpa using hc
      rw [e] at e2
      cases e2
      exact ⟨F, Ext.refl s, .str _ (strOk_one ok (List.mem_of_getElem? e))⟩
  · show y.cps.size ≤ _
    simp
theorem di_seq {tg : Expr} (ha : DE X E G a ma) : DI X E G tg a (ma >>= fun x => D.items x) := by
  obtain ⟨t, p, w⟩ := ha
  refine ⟨_, pi_seq p, fun B σ F H R s g q => w B σ F H _ s g (q.bind fun x F1 H1 v x1 r1 k1 => ?_)⟩
  cases x with
  | lst l => cases r1 with
    | lst h r => exact .inl ⟨_, rfl, ⟨_, SqL.of (x1.sFH _ _ h)⟩, k1 F1 H1 _ (Ext.refl x1.sFH) (yld_list r fun F2 H2 p s2 => ⟨p, s2 _ _ (p _ _ h)⟩)⟩
  | tup l => cases r1 with
    | tup h r => exact .inr (.inl ⟨_, rfl, ⟨_, Same.seqT x1.sFH h⟩, k1 F1 H1 _ (Ext.refl x1.sFH) (yld_tup r fun F2 H2 p s2 => ⟨p, Same.seqT s2 (Same.seqT p h)⟩)⟩)
  | str y => cases r1 with
    | str _ ok => exact .inr (.inr ⟨y, rfl, k1 F1 H1 _ (Ext.refl x1.sFH) (yld_str ok)⟩)
  | _ => exact k1.elim
end
end DL

set_option Elab.async false
set_option linter.all false
set_option maxRecDepth 100000
set_option maxHeartbeats 4000000
namespace DL
open PySem PySem.Spec L2
section
variable {X : Cx} {E : St → XK} {G : List Sl} {a b c e : Expr} {ma mb mc : M D} {ta tb : M Bool} {pos : Pos} {F H : Hp}

theorem dir_seq {tg : Expr} (ha : DR X E G a ma) : DIR X E G tg a (ma >>= fun x => D.items x) := by
  obtain ⟨t, p, w⟩ := ha
  refine ⟨_, pi_seq p, fun B σ F H R s g q => w B σ F H _ s g (q.bind fun x F1 H1 v x1 r1 k1 => ?_)⟩
  cases x with
  | lst l =>
    obtain ⟨a, xs, rfl, h, r⟩ := r1.lst x1.sFH
    exact .inl ⟨_, rfl, ⟨_, SqL.of h⟩, k1 F1 H1 _ (Ext.refl x1.sFH) (yld_list r fun F2 H2 p s2 => ⟨p.sF, p.sH _ _ h⟩)⟩
  | tup l =>
    obtain ⟨a, xs, rfl, h, r⟩ := r1.tup x1.sFH
    exact .inr (.inl ⟨_, rfl, ⟨_, h⟩, k1 F1 H1 _ (Ext.refl x1.sFH) (yld_tup r fun F2 H2 p s2 => ⟨p.sF, Same.seqT p.sH h⟩)⟩)
  | str y =>
    obtain ⟨rfl, ok⟩ := r1.str
    exact .inr (.inr ⟨y, rfl, k1 F1 H1 _ (Ext.refl x1.sFH) (yld_str ok)⟩)
  | _ => exact k1.elim

def rangeL (lo : Int) (n : Nat) : List D := (List.range n).map fun (k : Nat) => D.int (lo + (k : Int))
def smallI (i : Int) : Bool := decide (-(2 ^ 62) ≤ i ∧ i < 2 ^ 62)
def D.range1 : List D → M (List D)
  | [.int j] => do need (smallI j); .ok (rangeL 0 j.toNat)
  | _ => stuck
def D.range2 : List D → M (List D)
  | [.int i, .int j] => do need (smallI i && smallI j); .ok (rangeL i (j - i).toNat)
  | _ => stuck
theorem yld_range {K : PySem.W.Frag} {lo : Int} {n : Nat} {P : Hp → Hp → Prop} : Yld K (Itr lo n) P (rangeL lo n) := fun F H p s => by
  refine ⟨fun i d hd => ?_, ?_⟩
  · unfold rangeL at hd
    rw [List.getElem?_map] at hd
    cases e : (List.range n)[i]? with
    | none => rw [e] at hd; cases hd
    | some k =>
      rw [e] at hd
      cases hd
      obtain ⟨hi, hk⟩ := List.getElem?_eq_some_iff.mp e
      rw [List.length_range] at hi
      rw [List.getElem_range] at hk
      subst hk
      refine ⟨hi, fun x H' hx => ?_⟩
      obtain ⟨rfl, rfl⟩ := hx
      exact ⟨F, Ext.refl s, .int _⟩
  · show n ≤ _
    unfold rangeL
    rw [List.length_map, List.length_range]
    exact Nat.le_refl _
theorem di_range1 {tg : Expr} {p : Pos} {ms : M (List D)} (hg : Gl X "range") (hm : X.mg "range" = none) (ha : DRA X E G [a] ms) (hs : starEach [a] X.env = [(false, eval a X.env)] := by rfl) : DI X E G tg (.Call (.Name "range" p) [a] [] pos) (ms >>= fun l => D.range1 l) := by
  obtain ⟨t, pp, w⟩ := ha
  refine ⟨_, pi_range1 hg hm pp hs, fun B σ F H R s g q => w B σ F H _ s g (q.bind fun l F1 H1 vs x1 r1 k1 => ?_)⟩
  cases r1 with
  | nil => exact k1.elim
  | @cons v vs d ds r1 r2 => cases r2 with
    | cons _ _ => cases d <;> exact k1.elim
    | nil => cases d with
      | int j =>
        have k1 : WpG X.K (E σ) _ (need (smallI j) >>= fun _ => .ok (rangeL 0 j.toNat)) F1 H1 R := k1
        obtain ⟨c, k1⟩ := k1.need
        have c := of_decide_eq_true c
        exact ⟨j, by rw [r1.int], c.1, c.2, k1 F1 H1 _ (Ext.refl x1.sFH) yld_range⟩
      | _ => exact k1.elim
theorem GOk.set {K : PySem.W.Frag} {B : Hp} {σ : St} {i : Nat} {v : V} {d : D} (g : GOk K B G σ F H) (r : Rp K F v d) : GOk K B (G.set i (.val d)) (σ.set i (some v)) F H where
  sB := g.sB
  len := by rw [List.length_set, List.length_set]; exact g.len
  ok := fun j s h => by
    by_cases e : i = j
    · subst e
      have hi : i < G.length := by
        have := (List.getElem?_eq_some_iff.mp h).1
        rwa [List.length_set] at this
      rw [List.getElem?_set_self hi] at h
      cases h
      exact ⟨some v, by rw [List.getElem?_set_self (by rw [g.len]; exact hi)], v, rfl, r⟩
    · rw [List.getElem?_set_ne e] at h
      rw [List.getElem?_set_ne e]
      exact g.ok j s h
  dis := fun j k s t a h1 h2 o1 o2 e1 e2 => by
    have nj : i ≠ j := fun z => by
      subst z
      have hi : i < G.length := by
        have := (List.getElem?_eq_some_iff.mp h1).1
        rwa [List.length_set] at this
      rw [List.getElem?_set_self hi] at h1
      cases h1
      cases o1
    have nk : i ≠ k := fun z => by
      subst z
      have hi : i < G.length := by
        have := (List.getElem?_eq_some_iff.mp h2).1
        rwa [List.length_set] at this
      rw [List.getElem?_set_self hi] at h2
      cases h2
      cases o2
    rw [List.getElem?_set_ne nj] at h1 e1
    rw [List.getElem?_set_ne nk] at h2 e2
    exact g.dis j k s t a h1 h2 o1 o2 e1 e2
theorem GOk.any {K : PySem.W.Frag} {B : Hp} {σ : St} {i : Nat} (g : GOk K B G σ F H) : GOk K B (G.set i .any) σ F H where
  sB := g.sB
  len := by rw [List.length_set]; exact g.len
  ok := fun j s h => by
    by_cases e : i = j
    · subst e
      have hi : i < G.length := by
        have := (List.getElem?_eq_some_iff.mp h).1
        rwa [List.length_set] at this
      rw [List.getElem?_set_self hi] at h
      cases h
      exact ⟨σ[i]'(by rw [g.len]; exact hi), List.getElem?_eq_getElem _, trivial⟩
    · rw [List.getElem?_set_ne e] at h
      exact g.ok j s h
  dis := fun j k s t a h1 h2 o1 o2 e1 e2 => by
    have nj : i ≠ j := fun z => by
      subst z
      have hi : i < G.length := by
        have := (List.getElem?_eq_some_iff.mp h1).1
        rwa [List.length_set] at this
      rw [List.getElem?_set_self hi] at h1
      cases h1
      cases o1
    have nk : i ≠ k := fun z => by
      subst z
      have hi : i < G.length := by
        have := (List.getElem?_eq_some_iff.mp h2).1
        rwa [List.length_set] at this
      rw [List.getElem?_set_self hi] at h2
      cases h2
      cases o2
    rw [List.getElem?_set_ne nj] at h1
    rw [List.getElem?_set_ne nk] at h2
    exact g.dis j k s t a h1 h2 o1 o2 e1 e2
def gNames : List Nat → TGs
  | [] => gNil
  | i :: is => gCons (gName i) (gNames is)
def setAll (G : List Sl) : List Nat → List D → M (List Sl)
  | [], [] => .ok G
  | i :: is, d :: ds => setAll (G.set i (.val d)) is ds
  | _, _ => stuck
theorem setAll_len : ∀ {is : List Nat} {ds : List D} {G G' : List Sl}, setAll G is ds = .ok G' → ds.length = is.length
  | [], [], _, _, _ => rfl
  | [], _ :: _, _, _, h => by cases h
  | _ :: _, [], _, _, h => by cases h
  | i :: is, d :: ds, G, G', h => congrArg Nat.succ (setAll_len (is := is) (ds := ds) h)
theorem gNames_run {K : PySem.W.Frag} : ∀ {is : List Nat} {ds : List D} {xs : List V} {G G' : List Sl} {B : Hp} {σ : St} {Q : St → Hp → Prop}, Same F H → GOk K B G σ F H → RpL K F xs ds → setAll G is ds = .ok G' →
    (∀ σ', GOk K B G' σ' F H → (∀ k, k ∉ is → σ'[k]? = σ[k]?) → σ'.length = σ.length → Q σ' H) → gNames is xs σ H Q
  | [], [], _, _, _, _, _, _, s, g, .nil, e, k => by
    cases e
    exact ⟨rfl, k _ g (fun _ _ => rfl) rfl⟩
  | [], _ :: _, _, _, _, _, _, _, s, g, _, e, k => by cases e
  | _ :: _, [], _, _, _, _, _, _, s, g, _, e, k => by cases e
  | i :: is, d :: ds, _, G, G', B, σ, Q, s, g, .cons r1 r2, e, k => by
    refine ⟨_, _, rfl, gNames_run (is := is) s (g.set r1) r2 e fun σ' g' hk hl => k σ' g' (fun k hk' => ?_) (by rw [hl, List.length_set])⟩
    rw [hk k fun z => hk' (List.mem_cons_of_mem _ z)]
    exact List.getElem?_set_ne fun z => hk' (by simp [z])
def bindTup (G : List Sl) (is : List Nat) : D → M (List Sl)
  | .tup ds => setAll G is ds
  | _ => stuck
def wipeG (G : List Sl) : List Nat → List Sl
  | [] => G
  | v :: vs => (wipeG G vs).set v .any
theorem GOk.setAny {K : PySem.W.Frag} {B : Hp} {σ : St} {i : Nat} {o : Option V} (g : GOk K B G σ F H) : GOk K B (G.set i .any) (σ.set i o) F H where
  sB := g.sB
  len := by rw [List.length_set, List.length_set]; exact g.len
  ok := fun j s h => by
    by_cases e : i = j
    · subst e
      have hi : i < G.length := by
        have := (List.getElem?_eq_some_iff.mp h).1
        rwa [List.length_set] at this
      rw [List.getElem?_set_self hi] at h
      cases h
      exact ⟨o, by rw [List.getElem?_set_self (by rw [g.len]; exact hi)], trivial⟩
    · rw [List.getElem?_set_ne e] at h
      rw [List.getElem?_set_ne e]
      exact g.ok j s h
  dis := fun j k s t a h1 h2 o1 o2 e1 e2 => by
    have nj : i ≠ j := fun z => by
      subst z
      have hi : i < G.length := by
        have := (List.getElem?_eq_some_iff.mp h1).1
        rwa [List.length_set] at this
      rw [List.getElem?_set_self hi] at h1
      cases h1
      cases o1
    have nk : i ≠ k := fun z => by
      subst z
      have hi : i < G.length := by
        have := (List.getElem?_eq_some_iff.mp h2).1
        rwa [List.length_set] at this
      rw [List.getElem?_set_self hi] at h2
      cases h2
      cases o2
    rw [List.getElem?_set_ne nj] at h1 e1
    rw [List.getElem?_set_ne nk] at h2 e2
    exact g.dis j k s t a h1 h2 o1 o2 e1 e2
theorem GOk.wipe {K : PySem.W.Frag} {B : Hp} {σ : St} (g : GOk K B G σ F H) : ∀ vs : List Nat, GOk K B (wipeG G vs) (wipe σ vs) F H
  | [] => g
  | v :: vs => (GOk.wipe g vs).setAny
theorem wipe_same {σ σ' : St} : ∀ {vs : List Nat}, (∀ k, k ∉ vs → σ'[k]? = σ[k]?) → σ'.length = σ.length → wipe σ' vs = wipe σ vs := by
  intro vs h hl
  apply List.ext_getElem?
  intro k
  by_cases hk : k ∈ vs
  · have q : ∀ (ws : List Nat) (ρ : St), k ∈ ws → k < ρ.length → (wipe ρ ws)[k]? = some none := by
      intro ws
      induction ws with
      | nil => intro ρ h; cases h
      | cons w ws ih =>
        intro ρ h hlt
        show ((wipe ρ ws).set w none)[k]? = some none
        by_cases e : w = k
        · subst e
          rw [List.getElem?_set_self (by rw [wipe_length]; exact hlt)]
        · rw [List.getElem?_set_ne e]
          rcases List.mem_cons.mp h with z | z
          · exact absurd z.symm e
          · exact ih ρ z hlt
    by_cases hlt : k < σ.length
    · rw [q vs σ' hk (by rw [hl]; exact hlt), q vs σ hk hlt]
    · rw [List.getElem?_eq_none (by rw [wipe_length, hl]; omega), List.getElem?_eq_none (by rw [wipe_length]; omega)]
  · have q : ∀ (ws : List Nat) (ρ : St), k ∉ ws → (wipe ρ ws)[k]? = ρ[k]? := by
      intro ws
      induction ws with
      | nil => intro ρ _; rfl
      | cons w ws ih =>
        intro ρ h
        show ((wipe ρ ws).set w none)[k]? = _
        rw [List.getElem?_set_ne (fun z => h (by simp [z]))]
        exact ih ρ fun z => h (List.mem_cons_of_mem _ z)
    rw [q vs σ' hk, q vs σ hk]
    exact h k hk
def DN (X : Cx) (E : St → XK) (G : List Sl) (e : Expr) (m : M (List D)) : Prop :=
  ∃ t, PE X e t ∧ ∀ B σ F H Q, Same F H → GOk X.K B G σ F H → WpG X.K (E σ) (fun F' H' (v : V) (l : List D) => ∃ p xs, v = .ref p ∧ H p = none ∧ H' p = some (.lst xs) ∧ F' p = none ∧ RpL X.K F' xs l) m F H Q → t σ H Q
theorem Ext.freeze {F' H' : Hp} {p : Addr} {xs : List V} (x : Ext F H F' H') (n : H p = none) (h : H' p = some (.lst xs)) (nf : F' p = none) : Ext F H (upd F' p (.lst xs)) H' where
  sF := fun b o q => by
    rw [upd_ne (fun z => by
      subst z
      have := x.sF _ _ q
      rw [nf] at this
      cases this)]
    exact x.sF _ _ q
  sH := x.sH
  sFH := fun b o q => by
    by_cases e : b = p
    · subst e
      rw [upd_same] at q
      cases q
      exact h
    · rw [upd_ne e] at q
      exact x.sFH _ _ q
  old := fun a o q => by
    rw [upd_ne (ne_of_none q n)]
    exact x.old a o q
theorem DN.de {m : M (List D)} (h : DN X E G e m) : DE X E G e (m >>= fun l => .ok (.lst l)) := by
  obtain ⟨t, p, w⟩ := h
  refine ⟨t, p, fun B σ F H Q s g q => w B σ F H Q s g ?_⟩
  cases m with
  | ok l =>
    intro F' H' v x ⟨p, xs, ev, n, h, nf, r⟩
    subst ev
    exact q _ H' _ (x.freeze n h nf) (.lst upd_same (r.mono (same_new nf)))
  | error er => cases er with
    | stuck => exact q.elim
    | exc y => exact q
def comp (f : D → M (Option D)) : List D → M (List D)
  | [] => .ok []
  | d :: ds => match f d with
    | .ok (some y) => comp f ds >>= fun ys => .ok (y :: ys)
    | .ok none => comp f ds
    | .error _ => stuck
def compL (f : D → M (Option D)) (ds : List D) : M (List D) := do need (decide (ds.length ≤ sizeLine)); comp f ds
theorem comp_snoc {f : D → M (Option D)} : ∀ {ds : List D} {ys : List D}, comp f ds = .ok ys → ∀ {i : Nat} {d : D}, ds[i]? = some d → ∃ y zs ws, f d = .ok y ∧ comp f (ds.take i) = .ok zs ∧ comp f (ds.take (i + 1)) = .ok (zs ++ y.toList) ∧ ys = ws
  | [], _, _, _, _, h => by simp at h
  | d0 :: ds, ys, h, i, d, hd => by
    have h : (match f d0 with
      | .ok (some y) => comp f ds >>= fun ys => .ok (y :: ys)
      | .ok none => comp f ds
      | .error _ => stuck) = .ok ys := h
    cases e : f d0 with
    | error x => rw [e] at h; cases h
    | ok o =>
      rw [e] at h
      cases i with
      | zero =>
        have : d0 = d := by simpa using hd
        subst this
        refine ⟨o, [], ys, e, rfl, ?_, rfl⟩
        show comp f [d0] = _
        cases o with
        | none => simp [comp, e]
        | some y =>
          simp only [comp, e]
          rfl
      | succ i =>
        have hd' : ds[i]? = some d := by simpa using hd
        have key : ∃ ys', comp f ds = .ok ys' := by
          cases o with
          | none => exact ⟨ys, h⟩
          | some y =>
            cases e2 : comp f ds with
            | ok l => exact ⟨l, rfl⟩
            | error x =>
              have h : (comp f ds >>= fun ys => (.ok (y :: ys) : M (List D))) = .ok ys := h
              rw [e2] at h
              cases h
        obtain ⟨ys', e2⟩ := key
        obtain ⟨y, zs, ws, f1, f2, f3, _⟩ := comp_snoc e2 hd'
        refine ⟨y, o.toList ++ zs, ys, f1, ?_, ?_, rfl⟩
        · show comp f (d0 :: ds.take i) = _
          cases o with
          | none => simp [comp, e, f2]
          | some z =>
            simp only [comp, e, f2]
            rfl
        · show comp f (d0 :: ds.take (i + 1)) = _
          cases o with
          | none => simp [comp, e, f3]
          | some z =>
            simp only [comp, e, f3]
            show (.ok (z :: (zs ++ y.toList)) : M (List D)) = _
            simp
theorem comp_len {f : D → M (Option D)} : ∀ {ds ys : List D}, comp f ds = .ok ys → ys.length ≤ ds.length
  | [], ys, h => by
    cases h
    exact Nat.le_refl _
  | d :: ds, ys, h => by
    have h : (match f d with
      | .ok (some y) => comp f ds >>= fun ys => .ok (y :: ys)
      | .ok none => comp f ds
      | .error _ => stuck) = .ok ys := h
    cases e : f d with
    | error x => rw [e] at h; cases h
    | ok o =>
      rw [e] at h
      cases o with
      | none =>
        have := comp_len h
        simp only [List.length_cons]
        omega
      | some y =>
        cases e2 : comp f ds with
        | error x =>
          have h : (comp f ds >>= fun ys => (.ok (y :: ys) : M (List D))) = .ok ys := h
          rw [e2] at h
          cases h
        | ok l =>
          have h : (comp f ds >>= fun ys => (.ok (y :: ys) : M (List D))) = .ok ys := h
          rw [e2] at h
          cases h
          have := comp_len e2
          simp only [List.length_cons]
          omega
abbrev cE (E : XK) : St → XK := fun _ => E
abbrev EN0 : XK := fun _ _ _ => False
abbrev EN : St → XK := fun _ => EN0
theorem DE.canon {m : M D} (h : DE X E G e m) : PE X e (fun σ H Q => ∃ B F, Same F H ∧ GOk X.K B G σ F H ∧ WpG X.K (E σ) (rE X.K) m F H Q) := by
  obtain ⟨t, p, w⟩ := h
  exact ⟨fun pins s σ H Q I ⟨B, F, s1, g, q⟩ => p.run pins s σ H Q I (w B σ F H Q s1 g q)⟩
theorem DT.canon {m : M Bool} (h : DT X E G e m) : PT X e (fun σ H Q => ∃ B F, Same F H ∧ GOk X.K B G σ F H ∧ WpG X.K (E σ) rB m F H Q) := by
  obtain ⟨t, p, w⟩ := h
  exact ⟨fun pins s σ H Q I ⟨B, F, s1, g, q⟩ => p.run pins s σ H Q I (w B σ F H Q s1 g q)⟩
def tElt (K : PySem.W.Frag) (b : D → M (List Sl)) (me : D → M D) : TE := fun σ H Q => ∃ d G' B F, b d = .ok G' ∧ Same F H ∧ GOk K B G' σ F H ∧ WpG K EN0 (rE K) (me d) F H Q
def tTst (K : PySem.W.Frag) (b : D → M (List Sl)) (mt : D → M Bool) : TT := fun σ H Q => ∃ d G' B F, b d = .ok G' ∧ Same F H ∧ GOk K B G' σ F H ∧ WpG K EN0 rB (mt d) F H Q
def fElt (mt : D → M Bool) (me : D → M D) : D → M (Option D) := fun d => mt d >>= fun k => if k = true then me d >>= fun y => .ok (some y) else .ok none
theorem lc_run {E₁ : XK} {K : PySem.W.Frag} {J : It} {ds ys : List D} {vs : List Nat} {g : TG} {b : D → M (List Sl)} {mt : D → M Bool} {me : D → M D} {tt : TT} {te : TE} {B : Hp} {σ : St} {F0 H0 : Hp} {G : List Sl} {Q : VK}
    (hg : ∀ x v B σ F H (Q : St → Hp → Prop), Same F H → GOk K B (wipeG G vs) σ F H → Rp K F v x → (∃ G', b x = .ok G' ∧ ∀ σ', GOk K B G' σ' F H → (∀ k, k ∉ vs → σ'[k]? = σ[k]?) → σ'.length = σ.length → Q σ' H) → g v σ H Q)
    (hb : ∀ d y, fElt mt me d = .ok y → ∃ G', b d = .ok G')
    (ht : ∀ σ H Q, tTst K b mt σ H Q → tt σ H Q) (he : ∀ σ H Q, tElt K b me σ H Q → te σ H Q)
    (s0 : Same F0 H0) (g0 : GOk K B G σ F0 H0) (y0 : Yld K J (fun F1 H1 => Ext F0 H0 F1 H1) ds) (hl : ds.length ≤ sizeLine) (hc : comp (fElt mt me) ds = .ok ys)
    (q : WpG K E₁ (fun F' H' (v : V) (l : List D) => ∃ p xs, v = .ref p ∧ H0 p = none ∧ H' p = some (.lst xs) ∧ F' p = none ∧ RpL K F' xs l) (.ok ys) F0 H0 Q) :
    ∀ D, H0 D = none → ∃ W : Nat → Nat → Hp → Prop, (∃ m, W 0 m (upd H0 D (.lst []))) ∧ ∀ i m H, W i m H →
      (J.stop i H ∧ Q (.ref D) H) ∨ (J.go i H ∧ ∃ Nx : Hp → Prop, (∀ H', Nx H' → ∃ m', m' < m ∧ W (i + 1) m' H') ∧ ∀ x H', J.yld i H x H' → g x (wipe σ vs) H' fun σ2 H2 => wipe σ2 vs = wipe σ vs ∧ tt σ2 H2 fun b H3 =>
        if b = true then te σ2 H3 fun y H4 => ∃ acc, H4 D = some (.lst acc) ∧ acc.length < sizeLine ∧ Nx (upd H4 D (.lst (acc ++ [y]))) else Nx H3) := by
  intro D nD
  -- behind i turns
  let Pv : Nat → Hp → Prop := fun i H => ∃ F xs zs, Ext F0 H0 F H ∧ comp (fElt mt me) (ds.take i) = .ok zs ∧ H D = some (.lst xs) ∧ F D = none ∧ RpL K F xs zs
  have wr : ∀ {F H : Hp} {xs xs' : List V}, Ext F0 H0 F H → H D = some (.lst xs) → F D = none → Ext F0 H0 F (upd H D (.lst xs')) := fun {F H xs xs'} x hD fD =>
    ⟨x.sF, fun c o h => by
      rw [upd_ne (ne_of_none h nD)]
      exact x.sH c o h, fun c o h => by
      rw [upd_ne (fun z => by
        subst z
        rw [fD] at h
        cases h)]
      exact x.sFH c o h, x.old⟩
  refine ⟨fun i m H => m = ds.length - i ∧ i ≤ ds.length ∧ Pv i H, ⟨ds.length, by simp, Nat.zero_le _, F0, [], [], Ext.newH s0 nD, rfl, upd_same, s0.free nD, .nil⟩, ?_⟩
  rintro i m H ⟨rfl, hi, F, xs, zs, x, ez, hD, fD, r⟩
  obtain ⟨yi, ye⟩ := y0 F H x x.sFH
  by_cases hlt : i < ds.length
  · have hd : ds[i]? = some ds[i] := List.getElem?_eq_getElem hlt
    obtain ⟨go, yl⟩ := yi i _ hd
    obtain ⟨o, zs', _, f1, f2, f3, _⟩ := comp_snoc hc hd
    rw [ez] at f2
    cases f2
    have zl := comp_len ez
    rw [List.length_take] at zl
    refine .inr ⟨go, fun H' => Pv (i + 1) H', fun H' p => ⟨ds.length - (i + 1), by omega, rfl, hlt, p⟩, fun v H' hv => ?_⟩
    obtain ⟨F', x', rv⟩ := yl v H' hv
    have x1 := x.trans x'
    have g1 : GOk K B (wipeG G vs) (wipe σ vs) F' H' := (g0.ext x1).wipe vs
    obtain ⟨G', eG⟩ := hb _ _ f1
    refine hg _ v B (wipe σ vs) F' H' _ x1.sFH g1 rv ⟨G', eG, fun σ' g' hk hn => ⟨?_, ?_⟩⟩
    · have e1 := wipe_same (σ := wipe σ vs) (σ' := σ') (vs := vs) hk hn
      rw [e1]
      exact wipe_same (σ := σ) (σ' := wipe σ vs) (vs := vs) (fun k hk => by
        have q : ∀ ws : List Nat, k ∉ ws → (wipe σ ws)[k]? = σ[k]? := by
          intro ws
          induction ws with
          | nil => intro _; rfl
          | cons w ws ih =>
            intro h
            show ((wipe σ ws).set w none)[k]? = _
            rw [List.getElem?_set_ne (fun z => h (by simp [z]))]
            exact ih fun z => h (List.mem_cons_of_mem _ z)
        exact q vs hk) (wipe_length _ _)
    · refine ht σ' H' _ ⟨_, G', B, F', eG, x1.sFH, g', ?_⟩
      -- the test
      have f1' : (mt ds[i] >>= fun k => if k = true then me ds[i] >>= fun y => .ok (some y) else .ok none) = .ok o := f1
      cases em : mt ds[i] with
      | error z => rw [em] at f1'; cases f1'
      | ok k =>
        rw [em] at f1'
        have f1' : (if k = true then me ds[i] >>= fun y => .ok (some y) else .ok none) = Except.ok o := f1'
        intro F2 H2 k' x2 ek
        subst ek
        have x12 := x1.trans x2
        cases k' with
        | false =>
          rw [if_neg Bool.false_ne_true] at f1' ⊢
          cases f1'
          refine ⟨F2, xs, zs, x12, by rw [f3]; simp, x2.sH _ _ (x'.sH _ _ hD), ?_, (r.mono x'.sF).mono x2.sF⟩
          rw [x2.old _ _ (x'.sH _ _ hD), x'.old _ _ hD]
          exact fD
        | true =>
          rw [if_pos rfl] at f1' ⊢
          cases ey : me ds[i] with
          | error z => rw [ey] at f1'; cases f1'
          | ok y =>
            rw [ey] at f1'
            cases f1'
            refine he σ' H2 _ ⟨_, G', B, F2, eG, x2.sFH, g'.ext x2, ?_⟩
            rw [ey]
            intro F3 H3 v3 x3 r3
            have hD3 := x3.sH _ _ (x2.sH _ _ (x'.sH _ _ hD))
            have fD3 : F3 D = none := by
              rw [x3.old _ _ (x2.sH _ _ (x'.sH _ _ hD)), x2.old _ _ (x'.sH _ _ hD), x'.old _ _ hD]
              exact fD
            refine ⟨xs, hD3, by rw [r.length]; omega, F3, xs ++ [v3], zs ++ [y], wr (x12.trans x3) hD3 fD3, by rw [f3]; rfl, upd_same, fD3, (((r.mono x'.sF).mono x2.sF).mono x3.sF).append (.one r3)⟩
  · have e : i = ds.length := by omega
    subst e
    rw [List.take_length, hc] at ez
    cases ez
    exact .inl ⟨ye, q F H _ x ⟨D, xs, rfl, nD, hD, fD, r⟩⟩
def DNL (X : Cx) (E : St → XK) (G : List Sl) (e : Expr) (m : M (List D)) : Prop :=
  ∃ t, PE X e t ∧ (∀ {i : Nat} {y : Str} {py spos : Pos}, X.N[i]? = some y → X.env.scope.names.lookup y = some .local → swapsWith e (some (.Name y py)) spos.line X.env = pure true → PS X (.Assign [.Name y py] e spos) (tAsg t (gName i))) ∧
    ∀ B σ F H Q, Same F H → GOk X.K B G σ F H → WpG X.K (E σ) (fun F' H' (v : V) (l : List D) => ∃ p xs, v = .ref p ∧ H p = none ∧ H' p = some (.lst xs) ∧ F' p = none ∧ RpL X.K F' xs l) m F H Q → t σ H Q
theorem DNL.dn {m : M (List D)} (h : DNL X E G e m) : DN X E G e m := let ⟨t, p, _, w⟩ := h; ⟨t, p, w⟩
theorem dn_lc {tg iter : Expr} {ifs : List Expr} {scope : Scope} {own : List (Str × Nat)} {mi : M (List D)} {b : D → M (List Sl)} {mt : D → M Bool} {me : D → M D} (hc : X.calm = true) (hN : X.N.Nodup) (hi : DIR X E G tg iter mi) (ok : BlkOk X.N X.env.scope scope own)
    {g : TG} (hg : ∀ (s : Shared) (H : Hp) (C : Addr) (cl : List (Str × Addr)) (fp : List Addr), PG (X.blk s H scope (compEnvC scope cl C X.env) fp) tg g)
    (hg2 : ∀ x v B σ F H (Q : St → Hp → Prop), Same F H → GOk X.K B (wipeG G (own.map (·.2))) σ F H → Rp X.K F v x → (∃ G', b x = .ok G' ∧ ∀ σ', GOk X.K B G' σ' F H → (∀ k, k ∉ own.map (·.2) → σ'[k]? = σ[k]?) → σ'.length = σ.length → Q σ' H) → g v σ H Q)
    (ht : ∀ (s : Shared) (H : Hp) (C : Addr) (cl : List (Str × Addr)) (fp : List Addr), PTs (X.blk s H scope (compEnvC scope cl C X.env) fp) ifs (tTst X.K b mt))
    (he : ∀ (s : Shared) (H : Hp) (C : Addr) (cl : List (Str × Addr)) (fp : List Addr), PE (X.blk s H scope (compEnvC scope cl C X.env) fp) e (tElt X.K b me))
    (hb : ∀ d y, fElt mt me d = .ok y → ∃ G', b d = .ok G')
    (hs : ∀ x, foldedSetIterable iter X.env x = pure x := by intro _; rfl) : DNL X E G (.ListComp e [⟨tg, iter, ifs, 0⟩] scope pos) (mi >>= fun ds => compL (fElt mt me) ds) := by
  obtain ⟨wi, pi, wI⟩ := hi
  refine ⟨_, pe_lc hc hN pi ok hg ht he hs, fun h1 h2 h3 => ps_setLc hc hN h1 h2 h3 pi ok hg ht he hs, fun B σ F H Q s gk q => wI B σ F H _ s gk (WpG.bind q fun ds F1 H1 J x1 y1 k1 => ?_)⟩
  have k1 : WpG X.K (E σ) _ (need (decide (ds.length ≤ sizeLine)) >>= fun _ => comp (fElt mt me) ds) F1 H1 Q := k1
  obtain ⟨c, k1⟩ := WpG.need k1
  have c := of_decide_eq_true c
  cases ec : comp (fElt mt me) ds with
  | error z =>
    rw [ec] at k1
    cases z with
    | stuck => exact k1.elim
    | exc z =>
      exfalso
      have q : ∀ l : List D, ∀ z, comp (fElt mt me) l ≠ .error (.exc z) := by
        intro l
        induction l with
        | nil => intro z h; cases h
        | cons d l ih =>
          intro z h
          have h : (match fElt mt me d with
            | .ok (some y) => comp (fElt mt me) l >>= fun ys => .ok (y :: ys)
            | .ok none => comp (fElt mt me) l
            | .error _ => stuck) = .error (.exc z) := h
          cases e1 : fElt mt me d with
          | error w => rw [e1] at h; cases h
          | ok o =>
            rw [e1] at h
            cases o with
            | none => exact ih z h
            | some y =>
              cases e2 : comp (fElt mt me) l with
              | ok w =>
                have h : (comp (fElt mt me) l >>= fun ys => (.ok (y :: ys) : M (List D))) = .error (.exc z) := h
                rw [e2] at h
                cases h
              | error w =>
                have h : (comp (fElt mt me) l >>= fun ys => (.ok (y :: ys) : M (List D))) = .error (.exc z) := h
                rw [e2] at h
                have h : (.error w : M (List D)) = .error (.exc z) := h
                cases h
                exact ih z e2
      exact q _ _ ec
  | ok ys =>
    rw [ec] at k1
    refine lc_run (E₁ := E σ) hg2 hb (fun σ H Q h => h) (fun σ H Q h => h) x1.sFH (gk.ext x1) y1 c ec ?_
    intro F' H' v x ⟨p, xs, e1, n1, h1, f1, r1⟩
    refine k1 F' H' v x ⟨p, xs, e1, ?_, h1, f1, r1⟩
    exact Same.free x1.sH n1
end
end DL

set_option Elab.async false
set_option linter.all false
set_option maxRecDepth 100000
set_option maxHeartbeats 4000000
namespace DL
open PySem PySem.Spec L2

section
variable {K : PySem.W.Frag} {E : XK} {B0 B F H F' H' : Hp}
def OcP (K : PySem.W.Frag) (B0 B : Hp) (F : Hp) (D : Ends) : Oc → Prop
  | .nx G => ∀ σ F' H', Same F F' → Ext B0 B F' H' → GOk K B G σ F' H' → D.nx σ H'
  | .ct G => ∀ σ F' H', Same F F' → Ext B0 B F' H' → GOk K B G σ F' H' → D.ct σ H'
  | .bk G => ∀ σ F' H', Same F F' → Ext B0 B F' H' → GOk K B G σ F' H' → D.bk σ H'
  | .rt d => ∀ v F' H', Same F F' → Ext B0 B F' H' → Rp K F' v d → D.rt v H'
  | .rg R => ∀ v F' H', Same F F' → Ext B0 B F' H' → R B F' H' v → D.rt v H'
theorem OcP.mono {D : Ends} {o : Oc} (s : Same F F') (h : OcP K B0 B F D o) : OcP K B0 B F' D o := by
  cases o with
  | nx G => exact fun σ F2 H2 s2 => h σ F2 H2 (s.trans s2)
  | ct G => exact fun σ F2 H2 s2 => h σ F2 H2 (s.trans s2)
  | bk G => exact fun σ F2 H2 s2 => h σ F2 H2 (s.trans s2)
  | rt d => exact fun v F2 H2 s2 => h v F2 H2 (s.trans s2)
  | rg R => exact fun v F2 H2 s2 => h v F2 H2 (s.trans s2)
theorem WpB.ok {α : Type} {post : α → Oc} {x : α} {D : Ends} (h : WpB K E B0 B post (.ok x) F D) : OcP K B0 B F D (post x) := by
  have h : (match post x with
    | .nx G => ∀ σ F' H', Same F F' → Ext B0 B F' H' → GOk K B G σ F' H' → D.nx σ H'
    | .ct G => ∀ σ F' H', Same F F' → Ext B0 B F' H' → GOk K B G σ F' H' → D.ct σ H'
    | .bk G => ∀ σ F' H', Same F F' → Ext B0 B F' H' → GOk K B G σ F' H' → D.bk σ H'
    | .rt d => ∀ v F' H', Same F F' → Ext B0 B F' H' → Rp K F' v d → D.rt v H'
    | .rg R => ∀ v F' H', Same F F' → Ext B0 B F' H' → R B F' H' v → D.rt v H') := h
  cases e : post x with
  | nx G => rw [e] at h; exact h
  | ct G => rw [e] at h; exact h
  | bk G => rw [e] at h; exact h
  | rt d => rw [e] at h; exact h
  | rg R => rw [e] at h; exact h
theorem WpB.of_ok {α : Type} {post : α → Oc} {x : α} {D : Ends} (h : OcP K B0 B F D (post x)) : WpB K E B0 B post (.ok x) F D := by
  show (match post x with
    | .nx G => ∀ σ F' H', Same F F' → Ext B0 B F' H' → GOk K B G σ F' H' → D.nx σ H'
    | .ct G => ∀ σ F' H', Same F F' → Ext B0 B F' H' → GOk K B G σ F' H' → D.ct σ H'
    | .bk G => ∀ σ F' H', Same F F' → Ext B0 B F' H' → GOk K B G σ F' H' → D.bk σ H'
    | .rt d => ∀ v F' H', Same F F' → Ext B0 B F' H' → Rp K F' v d → D.rt v H'
    | .rg R => ∀ v F' H', Same F F' → Ext B0 B F' H' → R B F' H' v → D.rt v H')
  cases e : post x with
  | nx G => rw [e] at h; exact h
  | ct G => rw [e] at h; exact h
  | bk G => rw [e] at h; exact h
  | rt d => rw [e] at h; exact h
  | rg R => rw [e] at h; exact h
theorem WpB.err {α β : Type} {post : α → Oc} {p2 : β → Oc} {e : Er} {D : Ends} (h : WpB K E B0 B post (.error e) F D) : WpB K E B0 B p2 (.error e) F D := by
  cases e with
  | stuck => exact h
  | exc x => exact h
theorem WpB.mono {α : Type} {post : α → Oc} {m : M α} {D : Ends} (s : Same F F') (h : WpB K E B0 B post m F D) : WpB K E B0 B post m F' D := by
  cases m with
  | ok x => exact WpB.of_ok (h.ok.mono s)
  | error e => cases e with
    | stuck => exact h
    | exc x => exact fun F2 H2 c d s2 => h F2 H2 c d (s.trans s2)
theorem WpB.bind {α β : Type} {post : α → Oc} {p1 : β → Oc} {m : M β} {k : β → M α} {D D1 : Ends} (h : WpB K E B0 B post (m >>= k) F D) (hk : ∀ j, m = .ok j → WpB K E B0 B post (k j) F D → OcP K B0 B F D1 (p1 j)) : WpB K E B0 B p1 m F D1 := by
  cases m with
  | ok j => exact WpB.of_ok (hk j rfl h)
  | error e => cases e with
    | stuck => exact h
    | exc x => exact h
theorem WpB.expr {α β γ : Type} {post : α → Oc} {rel : Hp → Hp → γ → β → Prop} {m : M β} {k : β → M α} {D : Ends} {Q : γ → Hp → Prop} (x0 : Ext B0 B F H) (h : WpB K E B0 B post (m >>= k) F D)
    (hk : ∀ j F' H' v, Ext F H F' H' → Ext B0 B F' H' → rel F' H' v j → WpB K E B0 B post (k j) F' D → Q v H') : WpG K E rel m F H Q := by
  cases m with
  | ok j => exact fun F' H' v x r => hk j F' H' v x (x0.trans x) r (WpB.mono x.sF h)
  | error e => cases e with
    | stuck => exact h
    | exc y => exact fun F' H' c d x r => h F' H' c d x.sF (x0.trans x) r
end

section
variable {X : Cx} {E : XK} {G : List Sl} {a b c e : Expr} {ma mb mc : M D} {ta tb : M Bool} {pos : Pos} {st : Stmt} {rest body : List Stmt}
def DS (X : Cx) (E : XK) (G : List Sl) (st : Stmt) {α : Type} (m : M α) (post : α → Oc) : Prop :=
  ∃ t, PS X st t ∧ ∀ B0 B σ F H D, Ext B0 B F H → GOk X.K B G σ F H → WpB X.K E B0 B post m F D → t D σ H
theorem db_nil {α : Type} {x : α} {post : α → Oc} (h : post x = .nx G) : DB X E G [] (.ok x) post :=
  ⟨_, pss_nil, fun B0 B σ F H D x0 g q => by
    have q := q.ok
    rw [h] at q
    exact q σ F H (Same.refl _) x0 g⟩
theorem db_stuck {α : Type} {post : α → Oc} : DB X E G body (stuck : M α) post := ⟨_, pss_never, fun B0 B σ F H D x0 g q => q.elim⟩
theorem db_cast {α : Type} {m m' : M α} {post : α → Oc} (h : DB X E G body m post) (e : m = m') : DB X E G body m' post := e ▸ h
theorem db_cons {α β : Type} {m1 : M β} {p1 : β → Oc} {k : β → M α} {post : α → Oc} (h1 : DS X E G st m1 p1) (h2 : ∀ j G', p1 j = .nx G' → DB X E G' rest (k j) post)
    (h3 : ∀ j, (∀ G', p1 j ≠ .nx G') → ∃ a, k j = .ok a ∧ post a = p1 j) : DB X E G (st :: rest) (m1 >>= k) post := by
  obtain ⟨t1, ps, w1⟩ := h1
  have r2 : PSs X rest (fun D σ H => ∃ j G' B0 B F, p1 j = .nx G' ∧ Ext B0 B F H ∧ GOk X.K B G' σ F H ∧ WpB X.K E B0 B post (k j) F D) :=
    ⟨fun pins s σ H D I ⟨j, G', B0, B, F, e, x, g, q⟩ => by
      obtain ⟨t2, p2, w2⟩ := h2 j G' e
      exact p2.run pins s σ H D I (w2 B0 B σ F H D x g q)⟩
  refine ⟨_, pss_cons ps r2, fun B0 B σ F H D x0 g q => w1 B0 B σ F H _ x0 g (q.bind fun j _ qj => ?_)⟩
  cases e : p1 j with
  | nx G' => exact fun σ' F' H' s' x' g' => ⟨j, G', B0, B, F', e, x', g', qj.mono s'⟩
  | ct G' =>
    obtain ⟨a, e1, e2⟩ := h3 j fun G' z => by rw [e] at z; cases z
    rw [e1] at qj
    have qj := qj.ok
    rw [e2, e] at qj
    exact qj
  | bk G' =>
    obtain ⟨a, e1, e2⟩ := h3 j fun G' z => by rw [e] at z; cases z
    rw [e1] at qj
    have qj := qj.ok
    rw [e2, e] at qj
    exact qj
  | rt d =>
    obtain ⟨a, e1, e2⟩ := h3 j fun G' z => by rw [e] at z; cases z
    rw [e1] at qj
    have qj := qj.ok
    rw [e2, e] at qj
    exact qj
  | rg R =>
    obtain ⟨a, e1, e2⟩ := h3 j fun G' z => by rw [e] at z; cases z
    rw [e1] at qj
    have qj := qj.ok
    rw [e2, e] at qj
    exact qj
theorem db_then {α β : Type} {m1 : M β} {G1 : β → List Sl} {k : β → M α} {post : α → Oc} (h1 : DS X E G st m1 (fun j => .nx (G1 j))) (h2 : ∀ j, DB X E (G1 j) rest (k j) post) : DB X E G (st :: rest) (m1 >>= k) post :=
  db_cons h1 (fun j G' e => by
    injection e with e
    rw [← e]
    exact h2 j) (fun j h => absurd rfl (h _))
theorem db_last {α : Type} {m : M α} {post : α → Oc} (h : DS X E G st m post) : DB X E G [st] m post := by
  obtain ⟨t, p, w⟩ := h
  exact ⟨_, pss_one p, w⟩

theorem ds_set {x : Str} {i : Nat} {pos' : Pos} {m : M D} (h : DE X (cE E) G e m) (p : ∀ {te : TE}, PE X e te → PS X (.Assign [.Name x pos'] e pos) (tAsg te (gName i))) : DS X E G (.Assign [.Name x pos'] e pos) m (fun d => .nx (G.set i (.val d))) := by
  obtain ⟨t, pe, w⟩ := h
  refine ⟨_, p pe, fun B0 B σ F H D x0 g q => w B σ F H _ x0.sFH g ?_⟩
  cases m with
  | ok d => exact fun F' H' v x r => q.ok _ F' H' x.sF (x0.trans x) ((g.ext x).set r)
  | error er => cases er with
    | stuck => exact q.elim
    | exc y => exact fun F' H' c d x r => q F' H' c d x.sF (x0.trans x) r
theorem GOk.setOwn {K : PySem.W.Frag} {B F H : Hp} {σ : St} {i : Nat} {p : Addr} {xs : List V} {l : List D} (g : GOk K B G σ F H) (hp : H p = some (.lst xs)) (fp : F p = none) (bp : B p = none) (r : RpL K F xs l)
    (new : ∀ (j : Nat) (s : Sl), G[j]? = some s → s.owns = true → σ[j]? ≠ some (some (.ref p))) : GOk K B (G.set i (.own l)) (σ.set i (some (.ref p))) F H where
  sB := g.sB
  len := by rw [List.length_set, List.length_set]; exact g.len
  ok := fun j s h => by
    by_cases e : i = j
    · subst e
      have hi : i < G.length := by
        have := (List.getElem?_eq_some_iff.mp h).1
        rwa [List.length_set] at this
      rw [List.getElem?_set_self hi] at h
      cases h
      exact ⟨some (.ref p), by rw [List.getElem?_set_self (by rw [g.len]; exact hi)], p, xs, rfl, hp, fp, bp, r⟩
    · rw [List.getElem?_set_ne e] at h
      rw [List.getElem?_set_ne e]
      exact g.ok j s h
  dis := fun j k s t a h1 h2 o1 o2 e1 e2 => by
    by_cases nj : i = j
    · by_cases nk : i = k
      · rw [← nj, ← nk]
      · subst nj
        have hi : i < G.length := by
          have := (List.getElem?_eq_some_iff.mp h1).1
          rwa [List.length_set] at this
        rw [List.getElem?_set_self (by rw [g.len]; exact hi)] at e1
        cases e1
        rw [List.getElem?_set_ne nk] at h2 e2
        exact absurd e2 (new k t h2 o2)
    · by_cases nk : i = k
      · subst nk
        have hi : i < G.length := by
          have := (List.getElem?_eq_some_iff.mp h2).1
          rwa [List.length_set] at this
        rw [List.getElem?_set_self (by rw [g.len]; exact hi)] at e2
        cases e2
        rw [List.getElem?_set_ne nj] at h1 e1
        exact absurd e1 (new j s h1 o1)
      · rw [List.getElem?_set_ne nj] at h1 e1
        rw [List.getElem?_set_ne nk] at h2 e2
        exact g.dis j k s t a h1 h2 o1 o2 e1 e2
theorem GOk.owned {K : PySem.W.Frag} {B F H : Hp} {σ : St} {j : Nat} {s : Sl} {p : Addr} (g : GOk K B G σ F H) (h : G[j]? = some s) (o : s.owns = true) (e : σ[j]? = some (some (.ref p))) : ∃ u, H p = some u := by
  obtain ⟨v, h1, h2⟩ := g.ok j s h
  rw [e] at h1
  cases h1
  cases s with
  | own l =>
    obtain ⟨a, xs, e1, e2, _⟩ := h2
    cases e1
    exact ⟨_, e2⟩
  | ownd l =>
    obtain ⟨a, e1, e2, _⟩ := h2
    cases e1
    exact e2.some
  | ownu l =>
    obtain ⟨a, e1, e2, _⟩ := h2
    cases e1
    exact e2.some
  | obj a c l =>
    obtain ⟨dx, fs, e1, e2, _⟩ := h2
    cases e1
    exact ⟨_, e2⟩
  | _ => cases o
theorem ds_setN {x : Str} {i : Nat} {pos' : Pos} {m : M (List D)} (h : DN X (cE E) G e m) (p : ∀ {te : TE}, PE X e te → PS X (.Assign [.Name x pos'] e pos) (tAsg te (gName i))) : DS X E G (.Assign [.Name x pos'] e pos) m (fun l => .nx (G.set i (.own l))) := by
  obtain ⟨t, pe, w⟩ := h
  refine ⟨_, p pe, fun B0 B σ F H D x0 g q => w B σ F H _ x0.sFH g ?_⟩
  cases m with
  | ok l =>
    intro F' H' v x ⟨a, xs, ev, n, h1, f1, r1⟩
    subst ev
    have hB : B a = none := x0.sH.free n
    exact q.ok _ F' H' x.sF (x0.trans x) ((g.ext x).setOwn h1 f1 hB r1 fun j s hj oj ej => by
      obtain ⟨u, hu⟩ := g.owned hj oj ej
      rw [n] at hu
      cases hu)
  | error er => cases er with
    | stuck => exact q.elim
    | exc y => exact fun F' H' c d x r => q F' H' c d x.sF (x0.trans x) r
theorem dn_lst {es : List Expr} {ms : M (List D)} (h : DA X (cE E) G es ms) : DN X (cE E) G (.List es pos) (ms >>= fun l => need (decide (l.length ≤ sizeLine)) >>= fun _ => .ok l) := by
  obtain ⟨t, p, w⟩ := h
  refine ⟨_, pe_lst p, fun B σ F H Q s g q => w B σ F H _ s g (WpG.bind q fun l F1 H1 vs x1 r1 k1 => ?_)⟩
  obtain ⟨c, k1⟩ := WpG.need k1
  have c := of_decide_eq_true c
  refine ⟨by rw [r1.length]; exact c, fun p hp => k1 F1 _ _ (Ext.newH x1.sFH hp) ⟨p, vs, rfl, x1.sH.free hp, upd_same, x1.sFH.free hp, r1⟩⟩
def gSeq (K : PySem.W.Frag) (n : Nat) (t : TGs) : TG := fun v σ H Q => ∃ a xs, v = .ref a ∧ (SqT K H a xs ∨ SqL K H a xs) ∧ xs.length = n ∧ t xs σ H Q
theorem assign_Tuple_listI {env : Env} {prog : Program} {w : World} {A : Around} {E : Value → Shared → Prop} {s : Shared} {elts : List Expr} {x1} {pos : Pos} {t : Addr} {items : Array Value} {Q : Unit → Shared → Prop} (hh : A.handled = none) (ht : s.heap.IsList t items)
    (hn : (assignEach elts env).length = items.size) (hstar : (assignEach elts env).findIdx? (·.1) = none)
    (h : ∀ h', Heap.ExtBut s.heap.objs.size s.heap h' → wpAny (model prog w) A (assignInOrder ((assignEach elts env).map (·.2)) items.toList) Q E { s with heap := h' }) :
    wpAny (model prog w) A (assign (.Tuple elts x1 pos) env (.ref t)) Q E s := by
  rw [PyProof.Rows.assign_Tuple]
  refine wpAny_bind (wpAny_standAt ?_)
  unfold unpack
  rw [hn, hstar]
  exact wpAny_bind (wpAny_holding (PySem.W.kun_itemsOf hh ht h))
theorem pg_seq {X : Cx} {pos : Pos} {es : List Expr} {k : Nat} {t : TGs} {n : Nat} (hc : X.calm = true) (h : PGs X es t)
    (hn : (assignEach es X.env).length = n := by rfl) (hst : (assignEach es X.env).findIdx? (·.1) = none := by rfl) : PG X (.Tuple es k pos) (gSeq X.K n t) := by
  refine ⟨fun pins s σ H v u Q I r hw => ?_⟩
  obtain ⟨a, xs, e1, hq, hl, hw⟩ := hw
  subst e1
  cases r
  rcases hq with hq | hq
  · obtain ⟨its, rv, ht, hz⟩ := I.tuple hq
    refine PyProof.Rows.assign_Tuple_tuple (I.ok.hd hc) ht (by simp [hn, ← hl, rv.length]) hst fun h' hx => ?_
    have I1 : Inv X pins σ H { s with heap := h' } := I.kept (t' := s.toks) fun b o e => hx b o (Nat.ne_of_lt (Heap.lt_size e)) e
    exact h.run pins _ σ H xs _ Q I1 (by simpa using rv) hw
  · obtain ⟨its, rv, ht, hz⟩ := I.list hq
    refine assign_Tuple_listI (I.ok.hd hc) ht.isList (by simp [hn, ← hl, rv.length]) hst fun h' hx => ?_
    have I1 : Inv X pins σ H { s with heap := h' } := I.kept (t' := s.toks) fun b o e => hx b o (Nat.ne_of_lt (Heap.lt_size e)) e
    exact h.run pins _ σ H xs _ Q I1 (by simpa using rv) hw
def D.un (n : Nat) : D → M (List D)
  | .tup l => do need (decide (l.length = n)); .ok l
  | .lst l => do need (decide (l.length = n)); .ok l
  | _ => stuck
def setT (G : List Sl) : List Nat → List D → List Sl
  | i :: is, d :: ds => setT (G.set i (.val d)) is ds
  | _, _ => G
theorem setAll_setT : ∀ {is : List Nat} {ds : List D} {G : List Sl}, ds.length = is.length → setAll G is ds = .ok (setT G is ds)
  | [], [], _, _ => rfl
  | [], _ :: _, _, h => by cases h
  | _ :: _, [], _, h => by cases h
  | i :: is, d :: ds, G, h => setAll_setT (is := is) (ds := ds) (Nat.succ.inj h)
theorem ds_tup {tg : Expr} {is : List Nat} {n : Nat} {m : M D} (h : DE X (cE E) G e m) (hn : is.length = n) (p : ∀ {te : TE}, PE X e te → PS X (.Assign [tg] e pos) (tAsg te (gSeq X.K n (gNames is)))) : DS X E G (.Assign [tg] e pos) (m >>= fun d => D.un n d) (fun ds => .nx (setT G is ds)) := by
  obtain ⟨t, pe, w⟩ := h
  refine ⟨_, p pe, fun B0 B σ F H Dn x0 g q => w B σ F H _ x0.sFH g (WpB.expr (H := H) x0 q fun d F' H' v x x' r qd => ?_)⟩
  cases d with
  | tup l => cases r with
    | tup h hs =>
      cases hd : decide (l.length = n) with
      | false =>
        exfalso
        have e : D.un n (.tup l) = stuck := by
          show (need (decide (l.length = n)) >>= fun _ => .ok l) = _
          rw [hd]
          rfl
        rw [e] at qd
        exact qd
      | true =>
        have e : D.un n (.tup l) = .ok l := by
          show (need (decide (l.length = n)) >>= fun _ => .ok l) = _
          rw [hd]
          rfl
        rw [e] at qd
        have hl := of_decide_eq_true hd
        exact ⟨_, _, rfl, Or.inl (Same.seqT x'.sFH h), by rw [hs.length, hl], gNames_run x'.sFH (g.ext x) hs (setAll_setT (by rw [hl, hn])) fun σ' g' _ _ => qd.ok σ' F' H' (Same.refl _) x' g'⟩
  | lst l => cases r with
    | lst h hs =>
      cases hd : decide (l.length = n) with
      | false =>
        exfalso
        have e : D.un n (.lst l) = stuck := by
          show (need (decide (l.length = n)) >>= fun _ => .ok l) = _
          rw [hd]
          rfl
        rw [e] at qd
        exact qd
      | true =>
        have e : D.un n (.lst l) = .ok l := by
          show (need (decide (l.length = n)) >>= fun _ => .ok l) = _
          rw [hd]
          rfl
        rw [e] at qd
        have hl := of_decide_eq_true hd
        exact ⟨_, _, rfl, Or.inr (SqL.of (x'.sFH _ _ h)), by rw [hs.length, hl], gNames_run x'.sFH (g.ext x) hs (setAll_setT (by rw [hl, hn])) fun σ' g' _ _ => qd.ok σ' F' H' (Same.refl _) x' g'⟩
  | _ => exact qd.elim
theorem GOk.write {K : PySem.W.Frag} {B F H : Hp} {σ : St} {i : Nat} {a : Addr} {l l' : List D} {xs' : List V} (g : GOk K B G σ F H) (h : G[i]? = some (.own l)) (e : σ[i]? = some (some (.ref a))) (r : RpL K F xs' l') : GOk K B (G.set i (.own l')) σ F (upd H a (.lst xs')) where
  sB := fun c u hc => by
    obtain ⟨o, h1, a', xs, rfl, h2, h3, h4, _⟩ := g.ok i _ h
    rw [e] at h1
    cases h1
    rw [upd_ne (ne_of_none hc h4)]
    exact g.sB c u hc
  len := by rw [List.length_set]; exact g.len
  ok := fun j s hj => by
    obtain ⟨o, h1, a', xs, rfl, h2, h3, h4, _⟩ := g.ok i _ h
    rw [e] at h1
    cases h1
    by_cases ej : i = j
    · subst ej
      have hi := (List.getElem?_eq_some_iff.mp h).1
      rw [List.getElem?_set_self hi] at hj
      cases hj
      exact ⟨_, e, a, xs', rfl, upd_same, h3, h4, r⟩
    · rw [List.getElem?_set_ne ej] at hj
      obtain ⟨o, k1, k2⟩ := g.ok j s hj
      refine ⟨o, k1, ?_⟩
      cases s with
      | un => exact k2
      | any => trivial
      | val d => exact k2
      | own m =>
        obtain ⟨b, ys, rfl, q⟩ := k2
        have nb : b ≠ a := fun z => by
          subst z
          exact ej (g.dis i j _ _ b h hj rfl rfl e k1)
        exact ⟨b, ys, rfl, by rw [upd_ne nb]; exact q.1, q.2⟩
      | ownd m =>
        obtain ⟨b, rfl, q⟩ := k2
        have nb : b ≠ a := fun z => by
          subst z
          exact ej (g.dis i j _ _ b h hj rfl rfl e k1)
        exact ⟨b, rfl, by rw [upd_ne nb]; exact q.1, q.2⟩
      | ownu m =>
        obtain ⟨b, rfl, q⟩ := k2
        have nb : b ≠ a := fun z => by
          subst z
          exact ej (g.dis i j _ _ b h hj rfl rfl e k1)
        exact ⟨b, rfl, by rw [upd_ne nb]; exact q.1, q.2⟩
      | obj b c m =>
        obtain ⟨dx, fs, rfl, q⟩ := k2
        have nb : b ≠ a := fun z => by
          subst z
          exact ej (g.dis i j _ _ b h hj rfl rfl e k1)
        exact ⟨dx, fs, rfl, by rw [upd_ne nb]; exact q.1, q.2⟩
      | bor d => exact k2
      | tre b c l =>
        refine ⟨k2.1, ?_, k2.2.2⟩
        obtain ⟨o, z1, a', xs, rfl, z2, z3, z4, _⟩ := g.ok i _ h
        rw [e] at z1
        cases z1
        exact fun x u hx => by
          rw [upd_ne (ne_of_none hx z4)]
          exact g.sB _ _ hx
      | exn b c l => exact k2
  dis := fun j k s t b h1 h2 o1 o2 e1 e2 => by
    have own_at : ∀ (j : Nat) (s : Sl), (G.set i (.own l'))[j]? = some s → s.owns = true → ∃ s', G[j]? = some s' ∧ s'.owns = true := fun j s hj o => by
      by_cases ej : i = j
      · subst ej
        exact ⟨_, h, rfl⟩
      · rw [List.getElem?_set_ne ej] at hj
        exact ⟨s, hj, o⟩
    obtain ⟨s1, q1, p1⟩ := own_at j s h1 o1
    obtain ⟨s2, q2, p2⟩ := own_at k t h2 o2
    exact g.dis j k s1 s2 b q1 q2 p1 p2 e1 e2
theorem Ext.write {B0 B F H : Hp} {a : Addr} {o : HO} (x : Ext B0 B F H) (fa : F a = none) (ba : B a = none) : Ext B0 B F (upd H a o) :=
  ⟨x.sF, fun c u h => by
    rw [upd_ne (ne_of_none h ba)]
    exact x.sH c u h, fun c u h => by
    rw [upd_ne (ne_of_none h fa)]
    exact x.sFH c u h, x.old⟩
def Sl.push (s : Sl) (m : M D) : M Sl := match s with
  | .own l => m >>= fun d => need (decide (l.length < sizeLine)) >>= fun _ => .ok (.own (l ++ [d]))
  | _ => stuck
theorem ds_push {x : Str} {i : Nat} {s : Sl} {p1 p2 p3 : Pos} {m : M D} (hs : G[i]? = some s) (pv : PE X (.Name x p1) (tVar i)) (h : DE X (cE E) G e m)
    (hfew : ((backTo p3 (starEach [e] X.env)).all (fun x => !x.1) && (backToKw p3 (keywordEach [] X.env)).all (fun x => x.1.isSome)
      && decide (([e] : List Expr).length + ([] : List Keyword).length + (if ([] : List Keyword).isEmpty then 0 else 1) < 30)) = true := by rfl)
    (hbase : attributeBase (.Name x p1) "append" X.env (eval (.Name x p1) X.env) = eval (.Name x p1) X.env := by rfl)
    (hline : (p2.endLine == p3.line) = true := by rfl) (hst : starEach [e] X.env = (false, eval e X.env) :: starEach [] X.env := by rfl) (hplain : (backTo p3 (starEach [] X.env)).any (·.1) = false := by rfl) :
    DS X E G (.Expr (.Call (.Attribute (.Name x p1) "append" p2) [e] [] p3) pos) (s.push m) (fun s' => .nx (G.set i s')) := by
  obtain ⟨t, pe, w⟩ := h
  refine ⟨_, ps_expr (pe_bm PySem.F.plainAttrs_list PySem.F.slot_list_append PySem.F.type_list_append mt_append pv (pa_cons pe pa_nil hst) hbase hfew hline hst hplain), fun B0 B σ F H D x0 g q => ?_⟩
  cases s with
  | own l =>
    have q : WpB X.K E B0 B (fun s' => .nx (G.set i s')) (m >>= fun d => need (decide (l.length < sizeLine)) >>= fun _ => .ok (.own (l ++ [d]))) F D := q
    obtain ⟨o, h1, a, xs, rfl, h2, h3, h4, h5⟩ := g.ok i _ hs
    refine ⟨_, h1, .inl ⟨rfl, xs, SqL.of h2⟩, w B σ F H _ x0.sFH g (WpB.expr (H := H) x0 q fun d F' H' v x x' r qd => ?_)⟩
    cases hd : decide (l.length < sizeLine) with
    | false =>
      exfalso
      rw [hd] at qd
      exact qd
    | true =>
      rw [hd] at qd
      have hl := of_decide_eq_true hd
      have h2' := x.sH _ _ h2
      have h3' : F' a = none := by
        rw [x.old _ _ h2]
        exact h3
      have h5' := h5.mono x.sF
      refine ⟨a, xs, v, rfl, rfl, h2', by rw [h5'.length]; exact hl, ?_⟩
      have qd : WpB X.K E B0 B (fun s' => .nx (G.set i s')) (.ok (.own (l ++ [d]))) F' D := qd
      exact qd.ok σ F' _ (Same.refl _) (x'.write h3' h4) ((g.ext x).write hs h1 (h5'.append (.one r)))
  | _ => exact q.elim
def Sl.fz : Sl → Sl
  | .own l => .val (.lst l)
  | s => s
theorem db_fz {α : Type} {i : Nat} {s : Sl} {m : M α} {post : α → Oc} (hs : G[i]? = some s) (h : DB X E (G.set i s.fz) body m post) : DB X E G body m post := by
  obtain ⟨t, p, w⟩ := h
  refine ⟨t, p, fun B0 B σ F H D x0 g q => ?_⟩
  have same : ∀ s', s' = s → DB X E (G.set i s') body m post → G.set i s' = G := fun s' e _ => by
    subst e
    apply List.ext_getElem?
    intro k
    by_cases e : i = k
    · subst e
      rw [List.getElem?_set_self (List.getElem?_eq_some_iff.mp hs).1, hs]
    · rw [List.getElem?_set_ne e]
  cases s with
  | own l =>
    obtain ⟨o, h1, a, xs, rfl, h2, h3, h4, h5⟩ := g.ok i _ hs
    have hi := (List.getElem?_eq_some_iff.mp hs).1
    have xF : Same F (upd F a (.lst xs)) := same_new h3
    refine w B0 B σ (upd F a (.lst xs)) H D ⟨x0.sF.trans xF, x0.sH, fun c u hc => ?_, fun c u hc => ?_⟩ ⟨g.sB, by rw [List.length_set]; exact g.len, fun j s' hj => ?_, fun j k s1 s2 b g1 g2 o1 o2 e1 e2 => ?_⟩ (q.mono xF)
    · by_cases e : c = a
      · subst e
        rw [upd_same] at hc
        cases hc
        exact h2
      · rw [upd_ne e] at hc
        exact x0.sFH c u hc
    · rw [upd_ne (ne_of_none hc h4)]
      exact x0.old c u hc
    · by_cases e : i = j
      · subst e
        rw [List.getElem?_set_self hi] at hj
        cases hj
        exact ⟨_, h1, _, rfl, .lst upd_same (h5.mono xF)⟩
      · rw [List.getElem?_set_ne e] at hj
        obtain ⟨o, k1, k2⟩ := g.ok j s' hj
        refine ⟨o, k1, ?_⟩
        cases s' with
        | un => exact k2
        | any => trivial
        | val d =>
          obtain ⟨v, e1, r⟩ := k2
          exact ⟨v, e1, r.mono xF⟩
        | own m =>
          obtain ⟨b, ys, rfl, q1, q2, q3, q4⟩ := k2
          have nb : b ≠ a := fun z => by
            subst z
            exact e (g.dis i j _ _ b hs hj rfl rfl h1 k1)
          exact ⟨b, ys, rfl, q1, by rw [upd_ne nb]; exact q2, q3, q4.mono xF⟩
        | ownd m =>
          obtain ⟨b, rfl, q1, q2, q3⟩ := k2
          have nb : b ≠ a := fun z => by
            subst z
            exact e (g.dis i j _ _ b hs hj rfl rfl h1 k1)
          exact ⟨b, rfl, q1.mono xF, by rw [upd_ne nb]; exact q2, q3⟩
        | ownu m =>
          obtain ⟨b, rfl, q1, q2, q3⟩ := k2
          have nb : b ≠ a := fun z => by
            subst z
            exact e (g.dis i j _ _ b hs hj rfl rfl h1 k1)
          exact ⟨b, rfl, q1.mono xF, by rw [upd_ne nb]; exact q2, q3⟩
        | obj b c m =>
          obtain ⟨dx, fs, rfl, q1, q2, q3, q4, q5⟩ := k2
          have nb : b ≠ a := fun z => by
            subst z
            exact e (g.dis i j _ _ b hs hj rfl rfl h1 k1)
          exact ⟨dx, fs, rfl, q1, by rw [upd_ne nb]; exact q2, q3, q4, q5.mono xF⟩
        | bor d =>
          obtain ⟨v, e1, r⟩ := k2
          exact ⟨v, e1, r.monoF xF⟩
        | tre b c l =>
          obtain ⟨k3, k4, as, t⟩ := k2
          exact ⟨k3, k4, as, t.mono xF fun b o e => upd_ne (ne_of_none e h4)⟩
        | exn b c l => exact ⟨k2.1, k2.2.mono xF⟩
    · have nj : i ≠ j := fun z => by
        subst z
        rw [List.getElem?_set_self hi] at g1
        cases g1
        cases o1
      have nk : i ≠ k := fun z => by
        subst z
        rw [List.getElem?_set_self hi] at g2
        cases g2
        cases o2
      rw [List.getElem?_set_ne nj] at g1
      rw [List.getElem?_set_ne nk] at g2
      exact g.dis j k s1 s2 b g1 g2 o1 o2 e1 e2
  | un => exact w B0 B σ F H D x0 ((show GOk X.K B (G.set i .un) σ F H from (same .un rfl ⟨t, p, w⟩).symm ▸ g)) q
  | any => exact w B0 B σ F H D x0 ((show GOk X.K B (G.set i .any) σ F H from (same .any rfl ⟨t, p, w⟩).symm ▸ g)) q
  | val d => exact w B0 B σ F H D x0 ((show GOk X.K B (G.set i (.val d)) σ F H from (same (.val d) rfl ⟨t, p, w⟩).symm ▸ g)) q
  | ownd l => exact w B0 B σ F H D x0 ((show GOk X.K B (G.set i (.ownd l)) σ F H from (same (.ownd l) rfl ⟨t, p, w⟩).symm ▸ g)) q
  | obj a c l => exact w B0 B σ F H D x0 ((show GOk X.K B (G.set i (.obj a c l)) σ F H from (same (.obj a c l) rfl ⟨t, p, w⟩).symm ▸ g)) q
  | bor d => exact w B0 B σ F H D x0 ((show GOk X.K B (G.set i (.bor d)) σ F H from (same (.bor d) rfl ⟨t, p, w⟩).symm ▸ g)) q
  | tre b c l => exact w B0 B σ F H D x0 ((show GOk X.K B (G.set i (.tre b c l)) σ F H from (same (.tre b c l) rfl ⟨t, p, w⟩).symm ▸ g)) q
  | ownu l => exact w B0 B σ F H D x0 ((show GOk X.K B (G.set i (.ownu l)) σ F H from (same (.ownu l) rfl ⟨t, p, w⟩).symm ▸ g)) q
  | exn b c l => exact w B0 B σ F H D x0 ((show GOk X.K B (G.set i (.exn b c l)) σ F H from (same (.exn b c l) rfl ⟨t, p, w⟩).symm ▸ g)) q
theorem db_any {α : Type} (i : Nat) {m : M α} {post : α → Oc} (h : DB X E (G.set i .any) body m post) : DB X E G body m post := by
  obtain ⟨t, p, w⟩ := h
  exact ⟨t, p, fun B0 B σ F H D x0 g q => w B0 B σ F H D x0 g.any q⟩

theorem ds_expr {m : M D} (h : DE X (cE E) G e m) (p : ∀ {te : TE}, PE X e te → PS X (.Expr e pos) (tDrop te)) : DS X E G (.Expr e pos) m (fun _ => .nx G) := by
  obtain ⟨t, pe, w⟩ := h
  refine ⟨_, p pe, fun B0 B σ F H D x0 g q => w B σ F H _ x0.sFH g ?_⟩
  cases m with
  | ok d => exact fun F' H' v x r => q.ok _ F' H' x.sF (x0.trans x) (g.ext x)
  | error er => cases er with
    | stuck => exact q.elim
    | exc y => exact fun F' H' c d x r => q F' H' c d x.sF (x0.trans x) r
theorem ds_ret {m : M D} (h : DE X (cE E) G e m) : DS X E G (.Return (some e) pos) m .rt := by
  obtain ⟨t, pe, w⟩ := h
  refine ⟨_, ps_ret pe, fun B0 B σ F H D x0 g q => w B σ F H _ x0.sFH g ?_⟩
  cases m with
  | ok d => exact fun F' H' v x r => q.ok v F' H' x.sF (x0.trans x) r
  | error er => cases er with
    | stuck => exact q.elim
    | exc y => exact fun F' H' c d x r => q F' H' c d x.sF (x0.trans x) r
theorem ds_if {α : Type} {A B : List Stmt} {mc : M Bool} {mA mB : M α} {post : α → Oc} (hc : DT X (cE E) G c mc) (hA : DB X E G A mA post) (hB : DB X E G B mB post) : DS X E G (.If c A B pos) (mc >>= fun b => if b = true then mA else mB) post := by
  obtain ⟨tc, pc, wc⟩ := hc
  obtain ⟨t1, p1, w1⟩ := hA
  obtain ⟨t2, p2, w2⟩ := hB
  refine ⟨_, ps_if pc p1 p2, fun B0 B σ F H D x0 g q => wc B σ F H _ x0.sFH g (WpB.expr (H := H) x0 q fun b F' H' v x x' r qd => ?_)⟩
  subst r
  cases v with
  | true => exact w1 B0 B σ F' H' D x' (g.ext x) qd
  | false => exact w2 B0 B σ F' H' D x' (g.ext x) qd
theorem db_ift {α β : Type} {A : List Stmt} {mc : M Bool} {mA : M β} {pA : β → Oc} {mR : M α} {post : α → Oc} (inj : β → α) (hc : DT X (cE E) G c mc) (hA : DB X E G A mA pA) (hT : ∀ a G', pA a ≠ .nx G') (hp : ∀ a, post (inj a) = pA a) (hR : DB X E G rest mR post) :
    DB X E G (.If c A [] pos :: rest) (mc >>= fun b => if b = true then mA >>= fun a => .ok (inj a) else mR) post := by
  have h1 : DS X E G (.If c A [] pos) (mc >>= fun b => if b = true then mA >>= fun a => .ok (some a) else .ok none) (fun (o : Option β) => match o with | some a => pA a | none => .nx G) := by
    refine ds_if hc ?_ (db_nil rfl)
    obtain ⟨t, p, w⟩ := hA
    refine ⟨t, p, fun B0 B σ F H D x0 g q => w B0 B σ F H D x0 g (q.bind fun j _ qj => ?_)⟩
    exact qj.ok
  have h2 := db_cons (rest := rest) (k := fun (o : Option β) => match o with | some a => .ok (inj a) | none => mR) (post := post) h1 (fun j G' e => by
    cases j with
    | some a => exact absurd e (hT a G')
    | none =>
      cases e
      exact hR) (fun j h => by
    cases j with
    | some a => exact ⟨inj a, rfl, hp a⟩
    | none => exact absurd rfl (h G))
  refine db_cast h2 ?_
  cases mc with
  | error e => rfl
  | ok b => cases b with
    | true => cases mA <;> rfl
    | false => rfl
theorem db_ifr {A : List Stmt} {mc : M Bool} {mA mR : M D} (hc : DT X (cE E) G c mc) (hA : DB X E G A mA .rt) (hR : DB X E G rest mR .rt) : DB X E G (.If c A [] pos :: rest) (mc >>= fun b => if b = true then mA else mR) .rt :=
  db_cast (db_ift id hc hA (fun a G' h => nomatch h) (fun _ => rfl) hR) (by
    cases mc with
    | error e => rfl
    | ok b => cases b with
      | true => cases mA <;> rfl
      | false => rfl)
theorem db_map {α β : Type} {m : M β} {p : β → Oc} {post : α → Oc} (f : β → α) (h : DB X E G body m p) (hp : ∀ a, post (f a) = p a) : DB X E G body (m >>= fun a => .ok (f a)) post := by
  obtain ⟨t, ps, w⟩ := h
  refine ⟨t, ps, fun B0 B σ F H D x0 g q => w B0 B σ F H D x0 g (q.bind fun j _ qj => ?_)⟩
  have qj := qj.ok
  rw [hp j] at qj
  exact qj

inductive Rx (S T : Type) where
  | go (s : S)
  | ct (s : T)
  | bk (s : T)
  | rt (d : D)
def Rx.oc {S T : Type} (Γ : S → List Sl) (Δ : T → List Sl) : Rx S T → Oc
  | .go s => .nx (Γ s)
  | .ct s => .ct (Δ s)
  | .bk s => .bk (Δ s)
  | .rt d => .rt d
abbrev Rs (S : Type) := Rx S S
abbrev Rs.oc {S : Type} (Γ : S → List Sl) : Rs S → Oc := Rx.oc Γ Γ
def loopR {S : Type} (f : S → D → M (Rs S)) : List D → S → M (S ⊕ D)
  | [], s => .ok (.inl s)
  | x :: xs, s => f s x >>= fun r => match r with
    | .go s => loopR f xs s
    | .ct s => loopR f xs s
    | .bk s => .ok (.inl s)
    | .rt d => .ok (.inr d)
def loopF {S : Type} (f : S → D → M S) : List D → S → M S
  | [], s => .ok s
  | x :: xs, s => f s x >>= fun s => loopF f xs s
def sumOc {S : Type} (Γ : S → List Sl) : S ⊕ D → Oc
  | .inl s => .nx (Γ s)
  | .inr d => .rt d
theorem ds_forR {S : Type} {tg iter : Expr} {mi : M (List D)} {vs : List Nat} {Γ : S → List Sl} {bnd : S → D → M (List Sl)} {f : S → D → M (Rs S)} (s0 : S) (hG : G = Γ s0) (hp : PassesOwn (model X.prog X.w) X.A X.env X.xe) (hc : X.calm = true)
    (hi : DI X (cE E) G tg iter mi) {g : TG} (pg : PG X tg g)
    (hg : ∀ s x v B σ F H (Q : St → Hp → Prop), Same F H → GOk X.K B (Γ s) σ F H → Rp X.K F v x → (∃ G', bnd s x = .ok G' ∧ ∀ σ', GOk X.K B G' σ' F H → (∀ k, k ∉ vs → σ'[k]? = σ[k]?) → σ'.length = σ.length → Q σ' H) → g v σ H Q)
    (hbnd : ∀ s x r, f s x = .ok r → ∃ G', bnd s x = .ok G') (hbndx : ∀ s x r, f s x = .error (.exc r) → ∃ G', bnd s x = .ok G')
    (hb : ∀ s x G', bnd s x = .ok G' → DB X E G' body (f s x) (Rs.oc Γ))
    (hs : ∀ x, foldedSetIterable iter X.env x = pure x := by intro _; rfl) : DS X E G (.For tg iter body [] pos) (mi >>= fun ds => loopR f ds s0) (sumOc Γ) := by
  subst hG
  obtain ⟨wi, pi, wI⟩ := hi
  have pb : PSs X body (fun D σ H => ∃ s x G' B0 B F, bnd s x = .ok G' ∧ Ext B0 B F H ∧ GOk X.K B G' σ F H ∧ WpB X.K E B0 B (Rs.oc Γ) (f s x) F D) :=
    ⟨fun pins s σ H D I ⟨s', x, G', B0, B, F, e, x0, gk, q⟩ => by
      obtain ⟨t, p, w⟩ := hb s' x G' e
      exact p.run pins s σ H D I (w B0 B σ F H D x0 gk q)⟩
  refine ⟨_, ps_for hp hc pi pg pb hs, fun B0 B σ F H D x0 gk q => wI B σ F H _ x0.sFH gk (WpB.expr (H := H) x0 q fun ds F1 H1 J x1 x1' y1 q1 => ?_)⟩
  refine ⟨fun i m σ H => m = ds.length - i ∧ i ≤ ds.length ∧ ∃ F s, Same F1 F ∧ Ext B0 B F H ∧ GOk X.K B (Γ s) σ F H ∧ WpB X.K E B0 B (sumOc Γ) (loopR f (ds.drop i) s) F D, ⟨ds.length, by simp, Nat.zero_le _, F1, s0, Same.refl _, x1', gk.ext x1, q1⟩, ?_⟩
  rintro i m σ H ⟨rfl, hi, F, s, sF, x, g', q'⟩
  obtain ⟨yi, ye⟩ := y1 F H sF x.sFH
  by_cases hlt : i < ds.length
  · have hd : ds[i]? = some ds[i] := List.getElem?_eq_getElem hlt
    obtain ⟨go, yl⟩ := yi i _ hd
    rw [List.drop_eq_getElem_cons hlt] at q'
    refine .inr ⟨go, fun σ' H' => ∃ F' s', Same F1 F' ∧ Ext B0 B F' H' ∧ GOk X.K B (Γ s') σ' F' H' ∧ WpB X.K E B0 B (sumOc Γ) (loopR f (ds.drop (i + 1)) s') F' D, fun σ' H' ⟨F', s', a1, a2, a3, a4⟩ => ⟨ds.length - (i + 1), by omega, rfl, hlt, F', s', a1, a2, a3, a4⟩, fun v H' hv => ?_⟩
    obtain ⟨F', x', rv⟩ := yl v H' hv
    have q2 : WpB X.K E B0 B (sumOc Γ) (f s ds[i] >>= fun r => match r with
      | .go s => loopR f (ds.drop (i + 1)) s
      | .ct s => loopR f (ds.drop (i + 1)) s
      | .bk s => .ok (.inl s)
      | .rt d => .ok (.inr d)) F D := q'
    have q3 := q2.mono x'.sF
    have eb : ∃ G', bnd s ds[i] = .ok G' := by
      cases ef : f s ds[i] with
      | ok r => exact hbnd _ _ _ ef
      | error er => cases er with
        | stuck =>
          rw [ef] at q3
          exact q3.elim
        | exc y => exact hbndx _ _ _ ef
    obtain ⟨G', eG⟩ := eb
    refine hg s ds[i] v B σ F' H' _ (x.trans x').sFH (g'.ext x') rv ⟨G', eG, fun σ' gG _ _ => ⟨s, ds[i], G', B0, B, F', eG, x.trans x', gG, q3.bind fun r _ qr => ?_⟩⟩
    have sF' := sF.trans x'.sF
    cases r with
    | go s' => exact fun σ2 F2 H2 s2 x2 g2 => ⟨F2, s', sF'.trans s2, x2, g2, qr.mono s2⟩
    | ct s' => exact fun σ2 F2 H2 s2 x2 g2 => ⟨F2, s', sF'.trans s2, x2, g2, qr.mono s2⟩
    | bk s' => exact qr.ok
    | rt d => exact qr.ok
  · have e : i = ds.length := by omega
    subst e
    rw [List.drop_length] at q'
    exact .inl ⟨ye, q'.ok σ F H (Same.refl _) x g'⟩
theorem loopF_R {S : Type} (f : S → D → M S) : ∀ (ds : List D) (s : S), loopR (fun s x => f s x >>= fun s => .ok (.go s)) ds s = (loopF f ds s >>= fun s => .ok (.inl s))
  | [], s => rfl
  | x :: xs, s => by
    show ((f s x >>= fun s => .ok (Rx.go s)) >>= _) = ((f s x >>= fun s => loopF f xs s) >>= _)
    cases e : f s x with
    | error z => rfl
    | ok s' => exact loopF_R f xs s'
theorem ds_forF {S : Type} {tg iter : Expr} {mi : M (List D)} {vs : List Nat} {Γ : S → List Sl} {bnd : S → D → M (List Sl)} {f : S → D → M S} (s0 : S) (hG : G = Γ s0) (hp : PassesOwn (model X.prog X.w) X.A X.env X.xe) (hc : X.calm = true)
    (hi : DI X (cE E) G tg iter mi) {g : TG} (pg : PG X tg g)
    (hg : ∀ s x v B σ F H (Q : St → Hp → Prop), Same F H → GOk X.K B (Γ s) σ F H → Rp X.K F v x → (∃ G', bnd s x = .ok G' ∧ ∀ σ', GOk X.K B G' σ' F H → (∀ k, k ∉ vs → σ'[k]? = σ[k]?) → σ'.length = σ.length → Q σ' H) → g v σ H Q)
    (hbnd : ∀ s x r, f s x = .ok r → ∃ G', bnd s x = .ok G') (hbndx : ∀ s x r, f s x = .error (.exc r) → ∃ G', bnd s x = .ok G')
    (hb : ∀ s x G', bnd s x = .ok G' → DB X E G' body (f s x) (fun s => .nx (Γ s)))
    (hs : ∀ x, foldedSetIterable iter X.env x = pure x := by intro _; rfl) : DS X E G (.For tg iter body [] pos) (mi >>= fun ds => loopF f ds s0) (fun s => .nx (Γ s)) := by
  have h := ds_forR (f := fun s x => f s x >>= fun s => .ok (.go s)) (pos := pos) s0 hG hp hc hi pg hg (fun s x r e => by
    cases ef : f s x with
    | ok s' => exact hbnd _ _ _ ef
    | error z => rw [ef] at e; cases e) (fun s x r e => by
    cases ef : f s x with
    | ok s' => rw [ef] at e; cases e
    | error z =>
      rw [ef] at e
      cases e
      exact hbndx _ _ _ ef) (fun s x G' e => db_map Rx.go (hb s x G' e) fun _ => rfl) hs
  obtain ⟨t, p, w⟩ := h
  refine ⟨t, p, fun B0 B σ F H D x0 gk q => w B0 B σ F H D x0 gk ?_⟩
  cases mi with
  | error z => exact WpB.err (post := fun s => Oc.nx (Γ s)) q
  | ok ds =>
    show WpB X.K E B0 B (sumOc Γ) (loopR _ ds s0) F D
    rw [loopF_R]
    have q : WpB X.K E B0 B (fun s => .nx (Γ s)) (loopF f ds s0) F D := q
    cases e : loopF f ds s0 with
    | error z => rw [e] at q; exact WpB.err (post := fun s => Oc.nx (Γ s)) q
    | ok s' => rw [e] at q; exact q
def whileR {S : Type} (c : S → M Bool) (f : S → M (Rs S)) : Nat → S → M (S ⊕ D)
  | 0, _ => stuck
  | n + 1, s => c s >>= fun b => if b = true then f s >>= fun r => match r with
      | .go s => whileR c f n s
      | .ct s => whileR c f n s
      | .bk s => .ok (.inl s)
      | .rt d => .ok (.inr d)
    else .ok (.inl s)
theorem ds_whileR {S : Type} {Γ : S → List Sl} {mc : S → M Bool} {f : S → M (Rs S)} (n : Nat) (s0 : S) (hG : G = Γ s0) (hp : PassesOwn (model X.prog X.w) X.A X.env X.xe) (hc : ∀ s, DT X (cE E) (Γ s) c (mc s)) (hb : ∀ s, DB X E (Γ s) body (f s) (Rs.oc Γ)) :
    DS X E G (.While c body [] pos) (whileR mc f n s0) (sumOc Γ) := by
  subst hG
  have pc : PT X c (fun σ H Q => ∃ s B F, Same F H ∧ GOk X.K B (Γ s) σ F H ∧ WpG X.K E rB (mc s) F H Q) :=
    ⟨fun pins s σ H Q I ⟨s', B, F, s1, g, q⟩ => by
      obtain ⟨t, p, w⟩ := hc s'
      exact p.run pins s σ H Q I (w B σ F H Q s1 g q)⟩
  have pb : PSs X body (fun D σ H => ∃ s B0 B F, Ext B0 B F H ∧ GOk X.K B (Γ s) σ F H ∧ WpB X.K E B0 B (Rs.oc Γ) (f s) F D) :=
    ⟨fun pins s σ H D I ⟨s', B0, B, F, x0, gk, q⟩ => by
      obtain ⟨t, p, w⟩ := hb s'
      exact p.run pins s σ H D I (w B0 B σ F H D x0 gk q)⟩
  refine ⟨_, ps_while hp pc pb, fun B0 B σ F H D x0 gk q => ?_⟩
  refine ⟨fun m σ H => ∃ F s, Ext B0 B F H ∧ GOk X.K B (Γ s) σ F H ∧ WpB X.K E B0 B (sumOc Γ) (whileR mc f m s) F D, ⟨n, F, s0, x0, gk, q⟩, ?_⟩
  rintro m σ H ⟨F, s, x, g, q⟩
  cases m with
  | zero => exact q.elim
  | succ m =>
    have q : WpB X.K E B0 B (sumOc Γ) (mc s >>= fun b => if b = true then f s >>= fun r => match r with
      | .go s => whileR mc f m s
      | .ct s => whileR mc f m s
      | .bk s => .ok (.inl s)
      | .rt d => .ok (.inr d)
      else .ok (.inl s)) F D := q
    refine ⟨s, B, F, x.sFH, g, WpB.expr (H := H) x q fun b F' H' v x1 x1' r q1 => ?_⟩
    subst r
    cases v with
    | true =>
      rw [if_pos rfl] at q1 ⊢
      refine ⟨fun σ' H' => ∃ F' s', Ext B0 B F' H' ∧ GOk X.K B (Γ s') σ' F' H' ∧ WpB X.K E B0 B (sumOc Γ) (whileR mc f m s') F' D, fun σ' H' h => ⟨m, Nat.lt_succ_self _, h⟩, s, B0, B, F', x1', g.ext x1, q1.bind fun r _ qr => ?_⟩
      cases r with
      | go s' => exact fun σ2 F2 H2 s2 x2 g2 => ⟨F2, s', x2, g2, qr.mono s2⟩
      | ct s' => exact fun σ2 F2 H2 s2 x2 g2 => ⟨F2, s', x2, g2, qr.mono s2⟩
      | bk s' => exact qr.ok
      | rt d => exact qr.ok
    | false =>
      rw [if_neg Bool.false_ne_true] at q1 ⊢
      exact q1.ok σ F' H' (Same.refl _) x1' (g.ext x1)
def whileF {S : Type} (c : S → M Bool) (f : S → M S) : Nat → S → M S
  | 0, _ => stuck
  | n + 1, s => c s >>= fun b => if b = true then f s >>= fun s => whileF c f n s else .ok s
theorem whileF_R {S : Type} (c : S → M Bool) (f : S → M S) : ∀ (n : Nat) (s : S), whileR c (fun s => f s >>= fun s => .ok (.go s)) n s = (whileF c f n s >>= fun s => .ok (.inl s))
  | 0, s => rfl
  | n + 1, s => by
    simp only [whileR, whileF]
    cases e : c s with
    | error z => rfl
    | ok b => cases b with
      | false => rfl
      | true =>
        cases e2 : f s with
        | error z => rfl
        | ok s' => exact whileF_R c f n s'
theorem ds_whileF {S : Type} {Γ : S → List Sl} {mc : S → M Bool} {f : S → M S} (n : Nat) (s0 : S) (hG : G = Γ s0) (hp : PassesOwn (model X.prog X.w) X.A X.env X.xe) (hc : ∀ s, DT X (cE E) (Γ s) c (mc s)) (hb : ∀ s, DB X E (Γ s) body (f s) (fun s => .nx (Γ s))) :
    DS X E G (.While c body [] pos) (whileF mc f n s0) (fun s => .nx (Γ s)) := by
  have h := ds_whileR (f := fun s => f s >>= fun s => .ok (.go s)) (pos := pos) n s0 hG hp hc (fun s => db_map Rx.go (hb s) fun _ => rfl)
  obtain ⟨t, p, w⟩ := h
  refine ⟨t, p, fun B0 B σ F H D x0 gk q => w B0 B σ F H D x0 gk ?_⟩
  rw [whileF_R]
  cases e : whileF mc f n s0 with
  | error z => rw [e] at q; exact WpB.err (post := fun s => Oc.nx (Γ s)) q
  | ok s' => rw [e] at q; exact q
end
end DL

set_option Elab.async false
set_option linter.all false
set_option maxRecDepth 100000
set_option maxHeartbeats 4000000
namespace DL
open PySem PySem.Spec L2

structure CtxOk (X : Cx) (E : St → XK) : Prop where
  calm : X.calm = true
  pass : ∀ σ, PassesAt (L2.CX X.prog X.w) X σ (E σ)
  own : PassesOwn (model X.prog X.w) X.A X.env X.xe
theorem CtxOk.blk {X : Cx} {E : St → XK} (cx : CtxOk X E) {s : Shared} {H : Hp} {scope : Scope} {cenv : Env} {fp : List Addr} : CtxOk (X.blk s H scope cenv fp) EN :=
  ⟨cx.calm, fun σ pins H s e s' => passL pins σ H s e s', PassesOwn.never⟩
section
variable {P : Program} {w : World} {K : PySem.W.Frag} {mg : Str → Option Value} {base : Heap} {N : List Str} {qual : Str} {scope : Scope} {f : Addr} {cd : Value} {A : Around} {outer : List Env} {s : Shared} {H : Hp} {E : XK}
theorem ctx_def : CtxOk (cxOf (L2.CX P w) P w K mg base N qual scope f cd A outer s H E) (cE E) :=
  ⟨rfl, fun σ pins H1 s1 e s' => passes_call (takes_of rfl rfl rfl rfl) (fun _ _ _ _ h => h) pins σ H1 s1 e s', passes_of rfl⟩
end
section
variable {X : Cx} {CX : CXT} {k : Nat} {f C : Addr} {fd : FuncData} {ps : List Str} {sp : Sp} {dvs : List V} {ds : List Value} {E : St → XK} {x m : Str} {p pos apos : Pos} {e o : Expr} {es : List Expr} {ta : TE} {t : TA} {pins : List (Addr × Obj)} {σ : St} {H : Hp} {s : Shared} {Q : VK} {us : List Value} {vs : List V}
theorem run_at {E1 : XK} (F : FnOk X.prog X.w X.K X.mg X.base CX k f fd ps sp) (hr : Room k X.A) (hb : Binds X.K fd ps ds) (hd : Vals dvs ds) (pass : PassesAt CX X σ E1) (I : Inv X pins σ H s) (r : Vals vs us) (want : sp (vs ++ dvs) H Q E1) :
    wpAny (model X.prog X.w) X.A (call (.ref f) us) (EP X pins σ Q) X.xe s := by
  have both := r.append hd
  have long : (us ++ ds).length = ps.length := both.length.symm.trans (F.len _ _ _ _ want)
  refine wpAny_call (codeAny_mono (F.run _ _ _ _ _ _ _ _ E1 hr I.env0 (hb s us I.kIn long) both want) ?_)
  intro res s2 got
  match res, got with
  | .error e, got => exact pass pins H s e s2 I got
  | .ok (.ret u), got => exact I.after got
theorem make_at {E1 : XK} (M : Mk X.K C f) (F : FnOk X.prog X.w X.K X.mg X.base CX k f fd ps sp) (hr : Room (k + 1) X.A) (hb : Binds X.K fd ps ds) (hd : Vals dvs ds) (pass : PassesAt CX X σ E1) (I : Inv X pins σ H s) (r : Vals vs us)
    (want : ∀ x dx, H x = none → H dx = none → dx ≠ x → sp (.ref x :: (vs ++ dvs)) (upd (upd H dx (.own x)) x (.ins C dx [])) (fun v H2 => v = .non ∧ Q (.ref x) H2) E1) :
    wpAny (model X.prog X.w) X.A (call (.ref C) us) (EP X pins σ Q) X.xe s := by
  have w := want (s.heap.objs.size + 1) s.heap.objs.size (I.hok.fresh (Nat.le_succ _)) (I.hok.fresh (Nat.le_refl _)) (Nat.ne_of_lt (Nat.lt_succ_self _))
  have J := Inv.made (C := C) I
  have self : RelV (V.ref (s.heap.objs.size + 1)) (Value.ref (s.heap.objs.size + 1)) := rfl
  have all : Vals (V.ref (s.heap.objs.size + 1) :: (vs ++ dvs)) ((Value.ref (s.heap.objs.size + 1) :: us) ++ ds) := .cons self (r.append hd)
  have long : ((Value.ref (s.heap.objs.size + 1) :: us) ++ ds).length = ps.length := all.length.symm.trans (F.len _ _ _ _ w)
  refine wpAny_call (make_map (f := f) I.kIn M.makes M.init (beq_iff_eq.mp M.fn) (codeAny_mono (F.run _ X.stack _ _ _ _ _ _ E1 (hr.make C us []) (J.env0.make C us []) (hb _ _ J.kIn long) all w) ?_))
  intro res s2 got
  match res, got with
  | .error e, got => exact pass pins _ _ e s2 J got
  | .ok (.ret u), got =>
    obtain ⟨v, H2, I2, rv, ev, q⟩ := J.after got
    cases ev
    exact ⟨rv, V.ref (s.heap.objs.size + 1), H2, I2, rfl, q⟩
def tMethS (C : Addr) (m : Str) (sp : Sp) (dvs : List V) (E : St → XK) (ta : TE) (t : TA) : TE := fun σ H Q => ta σ H fun x H1 => ∃ a dx fs, x = .ref a ∧ H1 a = some (.ins C dx fs) ∧ fs.lookup m = none ∧ t σ H1 fun vs H2 => sp (x :: (vs ++ dvs)) H2 Q (E σ)
def tMakeS (C : Addr) (sp : Sp) (dvs : List V) (E : St → XK) (t : TA) : TE := fun σ H Q => t σ H fun vs H1 => ∀ x dx, H1 x = none → H1 dx = none → dx ≠ x → sp (.ref x :: (vs ++ dvs)) (upd (upd H1 dx (.own x)) x (.ins C dx [])) (fun v H2 => v = .non ∧ Q (.ref x) H2) (E σ)
def tCallD (sp : Sp) (dvs : List V) (E : St → XK) (t : TA) : TE := fun σ H Q => t σ H fun vs H1 => sp (vs ++ dvs) H1 Q (E σ)
theorem pe_callD (F : FnOk X.prog X.w X.K X.mg X.base CX k f fd ps sp) (hr : Room k X.A) (hg : Gl X x) (hm : X.mg x = some (.ref f)) (hk : PySem.W.keepIn X.K (.ref f) = true) (hb : Binds X.K fd ps ds) (hd : Vals dvs ds) (pass : ∀ σ, PassesAt CX X σ (E σ))
    (ha : PA X (e :: es) t) (hdb : (x == ("__debug__" : Str)) = false := by decide) (he : starEach (e :: es) X.env = (false, eval e X.env) :: starEach es X.env := by rfl) (hpl : (backTo pos (starEach es X.env)).any (·.1) = false := by rfl) :
    PE X (.Call (.Name x p) (e :: es) [] pos) (tCallD sp dvs E t) := by
  constructor
  intro pins s σ H Q I h
  refine wpAny_Call_Name_kw (ld_glob I hg hm (PySem.W.callWith_K (h₀ := X.base) I.ok.mod.kin hk (thn (ha.run pos pins s σ H _ I h) ?_) he hpl) hdb)
  rintro us s1 ⟨vs, H1, I1, r, q⟩
  exact ⟨I1.kIn, run_at F hr hb hd (pass σ) I1 r q⟩
theorem pe_makeS (M : Mk X.K C f) (F : FnOk X.prog X.w X.K X.mg X.base CX k f fd ps sp) (hr : Room (k + 1) X.A) (hg : Gl X x) (hm : X.mg x = some (.ref C)) (hb : Binds X.K fd ps ds) (hd : Vals dvs ds) (pass : ∀ σ, PassesAt CX X σ (E σ))
    (ha : PA X (e :: es) t) (hdb : (x == ("__debug__" : Str)) = false := by decide) (he : starEach (e :: es) X.env = (false, eval e X.env) :: starEach es X.env := by rfl) (hpl : (backTo pos (starEach es X.env)).any (·.1) = false := by rfl) :
    PE X (.Call (.Name x p) (e :: es) [] pos) (tMakeS C sp dvs E t) := by
  constructor
  intro pins s σ H Q I h
  refine wpAny_Call_Name_kw (ld_glob I hg hm (PySem.W.callWith_K (h₀ := X.base) I.ok.mod.kin M.kp (thn (ha.run pos pins s σ H _ I h) ?_) he hpl) hdb)
  rintro us s1 ⟨vs, H1, I1, r, q⟩
  exact ⟨I1.kIn, make_at M F hr hb hd (pass σ) I1 r q⟩
theorem pe_methS {pl : Sem Bool} (he : PE X o ta) (c : Cls X.K C) (hm : Meth X.K C m f) (F : FnOk X.prog X.w X.K X.mg X.base CX k f fd ps sp) (hr : Room k X.A) (hb : Binds X.K fd ps ds) (hd : Vals dvs ds) (pass : ∀ σ, PassesAt CX X σ (E σ)) (ha : PA X (e :: es) t)
    (hst : starEach (e :: es) X.env = (false, eval e X.env) :: starEach es X.env) (hpl : (backTo pos (starEach es X.env)).any (·.1) = false)
    (ht : eval (.Call (.Attribute o m apos) (e :: es) [] pos) X.env = (do
      let ov ← eval o X.env
      standAt apos.atName
      let (f, first) ← holding [ov] (getMethod ov m pl)
      callWith pos f first (backTo pos (starEach (e :: es) X.env)) (backToKw pos (keywordEach [] X.env)))) :
    PE X (.Call (.Attribute o m apos) (e :: es) [] pos) (tMethS C m sp dvs E ta t) := by
  constructor
  intro pins s σ H Q I h
  refine PySem.W.methodCall_KW (pl := pl) (thn (he.run pins s σ H _ I h) ?_) ht
  rintro u s1 ⟨x, H1, I1, rx, a, dx, fs, rfl, ea, l, q⟩
  cases rx
  refine getmeth_ok I1 ea c hm l (PySem.W.callWith_K (first := [.ref a]) (h₀ := X.base) I.ok.mod.kin hm.kp (thn (ha.run pos pins s1 σ H1 _ I1 q) ?_) hst hpl)
  rintro us s2 ⟨vs, H2, I2, r, q2⟩
  exact ⟨I2.kIn, run_at (us := .ref a :: us) (vs := .ref a :: vs) F hr hb hd (pass σ) I2 (.cons rfl r) q2⟩
end

inductive RpA (K : PySem.W.Frag) (F H : Hp) : List Bool → List V → List D → Prop
  | nil : RpA K F H [] [] []
  | frz {bs : List Bool} {v : V} {vs : List V} {d : D} {ds : List D} : Rp K F v d → RpA K F H bs vs ds → RpA K F H (false :: bs) (v :: vs) (d :: ds)
  | bor {bs : List Bool} {v : V} {vs : List V} {d : D} {ds : List D} : RpT K F H v d → RpA K F H bs vs ds → RpA K F H (true :: bs) (v :: vs) (d :: ds)
theorem RpA.len {K : PySem.W.Frag} {F H : Hp} : ∀ {bs : List Bool} {vs : List V} {ds : List D}, RpA K F H bs vs ds → vs.length = bs.length ∧ ds.length = bs.length
  | _, _, _, .nil => ⟨rfl, rfl⟩
  | _, _, _, .frz _ h => ⟨congrArg Nat.succ h.len.1, congrArg Nat.succ h.len.2⟩
  | _, _, _, .bor _ h => ⟨congrArg Nat.succ h.len.1, congrArg Nat.succ h.len.2⟩
theorem RpA.ext {K : PySem.W.Frag} {F H F' H' : Hp} (x : Ext F H F' H') : ∀ {bs : List Bool} {vs : List V} {ds : List D}, RpA K F H bs vs ds → RpA K F' H' bs vs ds
  | _, _, _, .nil => .nil
  | _, _, _, .frz r h => .frz (r.mono x.sF) (h.ext x)
  | _, _, _, .bor r h => .bor (r.ext x) (h.ext x)
def argSl : List Bool → List D → List Sl
  | false :: bs, d :: ds => .val d :: argSl bs ds
  | true :: bs, d :: ds => .bor d :: argSl bs ds
  | _, _ => []
def spD (K : PySem.W.Frag) (bs : List Bool) (m : List D → M D) : Sp := fun vs H Q E => ∃ F ds, Same F H ∧ RpA K F H bs vs ds ∧ WpG K E (rE K) (m ds) F H Q
theorem args_ok {K : PySem.W.Frag} {F H : Hp} : ∀ {bs : List Bool} {vs : List V} {ds : List D}, RpA K F H bs vs ds → (argSl bs ds).length = vs.length ∧ (∀ (i : Nat) (s : Sl), (argSl bs ds)[i]? = some s → ∃ o, (vs.map some)[i]? = some o ∧ SlOk K H F H o s) ∧ ∀ (i : Nat) (s : Sl), (argSl bs ds)[i]? = some s → s.owns = false
  | _, _, _, .nil => ⟨rfl, fun i s h => (by cases h), fun i s h => (by cases h)⟩
  | _, _, _, .frz (v := v) (d := d) r h => by
    obtain ⟨h1, h2, h3⟩ := args_ok h
    refine ⟨congrArg Nat.succ h1, fun i s hs => ?_, fun i s hs => ?_⟩
    · cases i with
      | zero =>
        cases hs
        exact ⟨some v, rfl, v, rfl, r⟩
      | succ i => exact h2 i s hs
    · cases i with
      | zero =>
        cases hs
        rfl
      | succ i => exact h3 i s hs
  | _, _, _, .bor (v := v) (d := d) r h => by
    obtain ⟨h1, h2, h3⟩ := args_ok h
    refine ⟨congrArg Nat.succ h1, fun i s hs => ?_, fun i s hs => ?_⟩
    · cases i with
      | zero =>
        cases hs
        exact ⟨some v, rfl, v, rfl, r⟩
      | succ i => exact h2 i s hs
    · cases i with
      | zero =>
        cases hs
        rfl
      | succ i => exact h3 i s hs
theorem gok_start {K : PySem.W.Frag} {F H : Hp} {N : List Str} {bs : List Bool} {vs : List V} {ds : List D} (r : RpA K F H bs vs ds) : GOk K H (argSl bs ds ++ List.replicate (N.length - bs.length) .un) (L2.start N vs) F H := by
  obtain ⟨h1, h2, h3⟩ := args_ok r
  have hl := r.len.1
  unfold L2.start
  refine ⟨Same.refl _, ?_, fun i s hs => ?_, fun i j s t a hs ht o1 _ _ _ => ?_⟩
  · rw [List.length_append, List.length_append, List.length_map, List.length_replicate, List.length_replicate, h1, hl]
  · by_cases hi : i < (argSl bs ds).length
    · rw [List.getElem?_append_left hi] at hs
      obtain ⟨o, k1, k2⟩ := h2 i s hs
      exact ⟨o, by rw [List.getElem?_append_left (by rw [List.length_map, ← h1]; exact hi)]; exact k1, k2⟩
    · have hi : (argSl bs ds).length ≤ i := by omega
      rw [List.getElem?_append_right hi] at hs
      rw [List.getElem?_append_right (by rw [List.length_map, ← h1]; exact hi), List.length_map, ← h1]
      have e9 : (argSl bs ds).length = bs.length := by rw [h1, hl]
      rw [e9] at hs ⊢
      obtain ⟨hlt, e⟩ := List.getElem?_eq_some_iff.mp hs
      rw [List.getElem_replicate] at e
      subst e
      rw [List.length_replicate] at hlt
      exact ⟨none, by rw [List.getElem?_replicate, if_pos hlt], rfl⟩
  · exfalso
    by_cases hi : i < (argSl bs ds).length
    · rw [List.getElem?_append_left hi] at hs
      rw [h3 i s hs] at o1
      cases o1
    · rw [List.getElem?_append_right (by omega)] at hs
      obtain ⟨hlt, e⟩ := List.getElem?_eq_some_iff.mp hs
      rw [List.getElem_replicate] at e
      subst e
      cases o1
section
variable {P : Program} {w : World} {K : PySem.W.Frag} {mg : Str → Option Value} {base : Heap} {x qual : Str} {params : Arguments} {body : List Stmt} {scope : Scope} {dvs : List V} {kws : List (Str × V)} {f : Addr} {fd : FuncData}
theorem fn_def {N ps : List Str} {k : Nat} {bs : List Bool} {m : List D → M D} (F : FunD K x qual params body scope dvs kws f fd) (S : FnScope N ps scope) (hbs : bs.length = ps.length)
    (hb : ∀ (cdv : Value) (A : Around) (outer : List Env) (s : Shared) (H : Hp) (E : XK), Room k (A.deeper (PyProof.Rows.envOfC qual scope s.heap.objs.size f cdv)) → ∀ ds : List D, ds.length = bs.length →
      DB (cxOf (L2.CX P w) P w K mg base N qual scope f cdv A outer s H E) E (argSl bs ds ++ List.replicate (N.length - bs.length) .un) body (m ds) Oc.rt) : FnOk P w K mg base (L2.CX P w) (k + 1) f fd ps (spD K bs m) := by
  refine F.ok S (fun vs H Q E h => ?_) (fun cdv A outer s H vs Q E hr h => ?_)
  · obtain ⟨F, ds, _, r, _⟩ := h
    rw [r.len.1, hbs]
  · obtain ⟨F, ds, sF, r, q⟩ := h
    obtain ⟨t, p, wt⟩ := hb cdv A outer s H E hr ds r.len.2
    refine ⟨t, p, wt F H (L2.start N vs) F H _ (Ext.refl sF) (gok_start r) ?_⟩
    cases e : m ds with
    | ok d =>
      rw [e] at q
      exact WpB.of_ok (fun v F' H' _ x' r' => q F' H' v x' r')
    | error er =>
      rw [e] at q
      cases er with
      | stuck => exact q.elim
      | exc y => exact fun F' H' c d _ x' r' => q F' H' c d x' r'
def ocN (n : Nat) : Option D → Oc
  | some d => .rt d
  | none => .nx (List.replicate n .any)
def orNon (m : M (Option D)) : M D := m >>= fun o => .ok (o.getD .non)
theorem fn_defN {N ps : List Str} {k : Nat} {bs : List Bool} {m : List D → M (Option D)} (F : FunD K x qual params body scope dvs kws f fd) (S : FnScope N ps scope) (hbs : bs.length = ps.length)
    (hb : ∀ (cdv : Value) (A : Around) (outer : List Env) (s : Shared) (H : Hp) (E : XK), Room k (A.deeper (PyProof.Rows.envOfC qual scope s.heap.objs.size f cdv)) → ∀ ds : List D, ds.length = bs.length →
      DB (cxOf (L2.CX P w) P w K mg base N qual scope f cdv A outer s H E) E (argSl bs ds ++ List.replicate (N.length - bs.length) .un) body (m ds) (ocN N.length)) : FnOk P w K mg base (L2.CX P w) (k + 1) f fd ps (spD K bs fun ds => orNon (m ds)) := by
  refine F.ok S (fun vs H Q E h => ?_) (fun cdv A outer s H vs Q E hr h => ?_)
  · obtain ⟨F, ds, _, r, _⟩ := h
    rw [r.len.1, hbs]
  · obtain ⟨F, ds, sF, r, q⟩ := h
    obtain ⟨t, p, wt⟩ := hb cdv A outer s H E hr ds r.len.2
    refine ⟨t, p, wt F H (L2.start N vs) F H _ (Ext.refl sF) (gok_start r) ?_⟩
    have q : WpG K E (rE K) (m ds >>= fun o => .ok (o.getD .non)) F H Q := q
    cases e : m ds with
    | ok d =>
      rw [e] at q
      cases d with
      | some d => exact WpB.of_ok (show OcP K F H F _ (.rt d) from fun v F' H' _ x' r' => q F' H' v x' r')
      | none => exact WpB.of_ok (show OcP K F H F _ (.nx _) from fun σ' F' H' _ x' _ => q F' H' .non x' .non)
    | error er =>
      rw [e] at q
      cases er with
      | stuck => exact q.elim
      | exc y => exact fun F' H' c d _ x' r' => q F' H' c d x' r'
end
theorem gok_all {K : PySem.W.Frag} {B F H : Hp} {G : List Sl} {σ : St} (g : GOk K B G σ F H) : GOk K B (List.replicate G.length .any) σ F H := by
  refine ⟨g.sB, by rw [List.length_replicate]; exact g.len, fun i s hs => ?_, fun i j s t a hs _ o1 _ _ _ => ?_⟩
  · obtain ⟨hlt, e⟩ := List.getElem?_eq_some_iff.mp hs
    rw [List.getElem_replicate] at e
    subst e
    rw [List.length_replicate] at hlt
    exact ⟨_, List.getElem?_eq_getElem (by rw [g.len]; exact hlt), trivial⟩
  · obtain ⟨hlt, e⟩ := List.getElem?_eq_some_iff.mp hs
    rw [List.getElem_replicate] at e
    subst e
    cases o1
theorem db_end {X : Cx} {E : XK} {G : List Sl} {n : Nat} (h : G.length = n) : DB X E G [] (.ok none) (ocN n) :=
  ⟨_, pss_nil, fun B0 B σ F H D x0 g q => by
    subst h
    exact q.ok σ F H (Same.refl _) x0 (gok_all g)⟩

section
variable {X : Cx} {E : St → XK} {G : List Sl} {a b c e : Expr} {ma mb mc : M D} {ta tb : M Bool} {pos : Pos} {F H : Hp}
def DAM (X : Cx) (E : St → XK) (G : List Sl) (bs : List Bool) (es : List Expr) (m : M (List D)) : Prop :=
  ∃ t, PA X es t ∧ ∀ B σ F H Q, Same F H → GOk X.K B G σ F H → WpG X.K (E σ) (fun F' H' v d => RpA X.K F' H' bs v d) m F H Q → t σ H Q
theorem dam_nil : DAM X E G [] [] (.ok []) := ⟨_, pa_nil, fun B σ F H Q s g q => q F H _ (Ext.refl s) .nil⟩
theorem dam_frz {es : List Expr} {bs : List Bool} {ms : M (List D)} (ha : DE X E G a ma) (hr : DAM X E G bs es ms) (hs : starEach (a :: es) X.env = (false, eval a X.env) :: starEach es X.env := by rfl) : DAM X E G (false :: bs) (a :: es) (ma >>= fun x => ms >>= fun xs => .ok (x :: xs)) := by
  obtain ⟨t1, p1, w1⟩ := ha
  obtain ⟨t2, p2, w2⟩ := hr
  exact ⟨_, pa_cons p1 p2 hs, fun B σ F H Q s g q => w1 B σ F H _ s g (WpG.bind q fun x F1 H1 v x1 r1 k1 => w2 B σ F1 H1 _ x1.sFH (g.ext x1) (WpG.bind k1 fun xs F2 H2 vs x2 r2 k2 => k2 F2 H2 _ (Ext.refl x2.sFH) (.frz (r1.mono x2.sF) r2)))⟩
theorem dam_bor {es : List Expr} {bs : List Bool} {ms : M (List D)} (ha : DR X E G a ma) (hr : DAM X E G bs es ms) (hs : starEach (a :: es) X.env = (false, eval a X.env) :: starEach es X.env := by rfl) : DAM X E G (true :: bs) (a :: es) (ma >>= fun x => ms >>= fun xs => .ok (x :: xs)) := by
  obtain ⟨t1, p1, w1⟩ := ha
  obtain ⟨t2, p2, w2⟩ := hr
  exact ⟨_, pa_cons p1 p2 hs, fun B σ F H Q s g q => w1 B σ F H _ s g (WpG.bind q fun x F1 H1 v x1 r1 k1 => w2 B σ F1 H1 _ x1.sFH (g.ext x1) (WpG.bind k1 fun xs F2 H2 vs x2 r2 k2 => k2 F2 H2 _ (Ext.refl x2.sFH) (.bor (r1.ext x2) r2)))⟩
theorem de_call {k : Nat} {f : Addr} {fd : FuncData} {ps : List Str} {bs : List Bool} {m : List D → M D} {x : Str} {p : Pos} {es : List Expr} {ms : M (List D)} (cx : CtxOk X E) (F : FnOk X.prog X.w X.K X.mg X.base (L2.CX X.prog X.w) k f fd ps (spD X.K bs m)) (hr : Room k X.A) (hg : Gl X x) (hm : X.mg x = some (.ref f)) (hk : PySem.W.keepIn X.K (.ref f) = true) (hb : Binds X.K fd ps [])
    (ha : DAM X E G bs (a :: es) ms) (hdb : (x == ("__debug__" : Str)) = false := by decide) (he : starEach (a :: es) X.env = (false, eval a X.env) :: starEach es X.env := by rfl) (hpl : (backTo pos (starEach es X.env)).any (·.1) = false := by rfl) :
    DE X E G (.Call (.Name x p) (a :: es) [] pos) (ms >>= fun l => m l) := by
  obtain ⟨t, pa, w⟩ := ha
  refine ⟨_, pe_callD F hr hg hm hk hb .nil cx.pass pa hdb he hpl, fun B σ F H Q s g q => w B σ F H _ s g (WpG.bind q fun l F1 H1 vs x1 r1 k1 => ?_)⟩
  show spD X.K bs m (vs ++ []) H1 Q (E σ)
  rw [List.append_nil]
  exact ⟨F1, l, x1.sFH, r1, k1⟩

theorem ofString_inj {s t : String} (h : Str.ofString s = Str.ofString t) : s = t := by
  rw [Str.ofString_eq_toList, Str.ofString_eq_toList] at h
  have h1 : s.toList.map Char.toNat = t.toList.map Char.toNat := by
    have := congrArg (fun z : Str => z.cps.toList) h
    simpa using this
  have inj : ∀ l m : List Char, l.map Char.toNat = m.map Char.toNat → l = m := by
    intro l
    induction l with
    | nil => intro m h; cases m with
      | nil => rfl
      | cons _ _ => simp at h
    | cons c l ih => intro m h; cases m with
      | nil => simp at h
      | cons d m =>
        simp only [List.map_cons, List.cons.injEq] at h
        rw [ih m h.2]
        have : c = d := Char.ext (UInt32.toNat_inj.mp h.1)
        rw [this]
  have := inj _ _ h1
  have e := congrArg String.ofList this
  simpa using e
theorem field_look {K : PySem.W.Frag} {f : String} : ∀ {fs : List (Str × V)} {l : List (String × D)}, fs.map (·.1) = l.map (fun q => Str.ofString q.1) → RpL K F (fs.map (·.2)) (l.map (·.2)) →
    (l.lookup f = none ∧ fs.lookup (Str.ofString f) = none) ∨ ∃ d v, l.lookup f = some d ∧ fs.lookup (Str.ofString f) = some v ∧ Rp K F v d
  | [], [], _, _ => .inl ⟨rfl, rfl⟩
  | [], _ :: _, h, _ => by simp at h
  | _ :: _, [], h, _ => by simp at h
  | (g, v) :: fs, (g2, d) :: l, h, r => by
    have h1 : g = Str.ofString g2 ∧ fs.map (·.1) = l.map (fun q => Str.ofString q.1) := by simpa using h
    obtain ⟨rfl, h2⟩ := h1
    have r' : RpL K F (v :: fs.map (·.2)) (d :: l.map (·.2)) := r
    cases r' with
    | cons r1 r2 =>
      by_cases e : f = g2
      · subst e
        exact .inr ⟨d, v, by simp [List.lookup], by simp [List.lookup], r1⟩
      · have e1 : (f == g2) = false := beq_eq_false_iff_ne.mpr e
        have e2 : (Str.ofString f == Str.ofString g2) = false := beq_eq_false_iff_ne.mpr fun z => e (ofString_inj z)
        have a1 : List.lookup f ((g2, d) :: l) = l.lookup f := by simp [List.lookup, e1]
        have a2 : List.lookup (Str.ofString f) ((Str.ofString g2, v) :: fs) = fs.lookup (Str.ofString f) := by simp [List.lookup, e2]
        rw [a1, a2]
        exact field_look h2 r2
def D.attrC (cs : List String) (f : String) : D → M D
  | .ins c l => need (cs.contains c) >>= fun _ => match l.lookup f with | some d => .ok d | none => stuck
  | _ => stuck
theorem de_attr {cs : List String} {f : String} (hc : ∀ c ∈ cs, Cls X.K (He.ga X.K (Str.ofString c)) ∧ NoAttr X.K (He.ga X.K (Str.ofString c)) (Str.ofString f)) (ha : DR X E G a ma) (hb : attributeBase a (Str.ofString f) X.env (eval a X.env) = eval a X.env := by rfl) :
    DE X E G (.Attribute a (Str.ofString f) pos) (ma >>= fun x => D.attrC cs f x) := by
  obtain ⟨t, p, w⟩ := ha
  refine ⟨_, pe_fld p hb, fun B σ F H Q s g q => w B σ F H _ s g (WpG.bind q fun x F1 H1 v x1 r1 k1 => ?_)⟩
  cases x with
  | ins c l =>
    have k1 : WpG X.K (E σ) (rE X.K) (need (cs.contains c) >>= fun _ => match l.lookup f with | some d => .ok d | none => stuck) F1 H1 Q := k1
    obtain ⟨cc, k1⟩ := WpG.need k1
    obtain ⟨h1, h2⟩ := hc c (by simpa using cc)
    obtain ⟨p, dx, fs, rfl, e1, e2, r⟩ := r1.ins x1.sFH
    rcases field_look e2 r with ⟨n1, n2⟩ | ⟨d, v, l1, l2, r2⟩
    · rw [n1] at k1
      exact k1.elim
    · rw [l1] at k1
      exact ⟨p, _, dx, fs, v, rfl, e1, h1, h2, l2, k1 F1 H1 _ (Ext.refl x1.sFH) r2⟩
  | _ => exact k1.elim

def spI (K : PySem.W.Frag) (c : String) (bs : List Bool) (m : List D → M (List (String × D))) : Sp := fun vs H Q E => ∃ x dx vs' F B ds, vs = .ref x :: vs' ∧ H = upd (upd B dx (.own x)) x (.ins (He.ga K (Str.ofString c)) dx []) ∧ B x = none ∧ B dx = none ∧ dx ≠ x ∧ Same F B ∧ RpA K F B bs vs' ds ∧
  WpG K E (fun F' H' (v : V) (l : List (String × D)) => v = .non ∧ F' x = none ∧ ∃ dx' fs, H' x = some (.ins (He.ga K (Str.ofString c)) dx' fs) ∧ fs.map (·.1) = l.map (fun q => Str.ofString q.1) ∧ RpL K F' (fs.map (·.2)) (l.map (·.2))) (m ds) F B Q
theorem Ext.freezeO {F' H' : Hp} {p : Addr} {o : HO} (x : Ext F H F' H') (n : H p = none) (h : H' p = some o) (nf : F' p = none) : Ext F H (upd F' p o) H' where
  sF := fun b o q => by
    rw [upd_ne (fun z => by
      subst z
      have := x.sF _ _ q
      rw [nf] at this
      cases this)]
    exact x.sF _ _ q
  sH := x.sH
  sFH := fun b o q => by
    by_cases e : b = p
    · subst e
      rw [upd_same] at q
      cases q
      exact h
    · rw [upd_ne e] at q
      exact x.sFH _ _ q
  old := fun a o q => by
    rw [upd_ne (ne_of_none q n)]
    exact x.old a o q
theorem make_run {E₁ : XK} {c : String} {bs : List Bool} {m : List D → M (List (String × D))} {vs : List V} {ds : List D} {Q : VK} (s : Same F H) (r : RpA X.K F H bs vs ds) (q : WpG X.K E₁ (rE X.K) (m ds >>= fun l => .ok (.ins c l)) F H Q) :
    ∀ x dx, H x = none → H dx = none → dx ≠ x → spI X.K c bs m (.ref x :: (vs ++ [])) (upd (upd H dx (.own x)) x (.ins (He.ga X.K (Str.ofString c)) dx [])) (fun v H2 => v = .non ∧ Q (.ref x) H2) E₁ := fun x dx hx hdx ne => by
  rw [List.append_nil]
  refine ⟨x, dx, vs, F, H, ds, rfl, rfl, hx, hdx, ne, s, r, ?_⟩
  cases em : m ds with
  | ok l =>
    rw [em] at q
    intro F' H' v xx ⟨e1, e2, dx', fs, e3, e4, e5⟩
    exact ⟨e1, q _ H' _ (xx.freezeO hx e3 e2) (.ins upd_same e4 (e5.mono (same_new e2)))⟩
  | error er =>
    rw [em] at q
    cases er with
    | stuck => exact q.elim
    | exc y => exact q
theorem de_make {k : Nat} {f : Addr} {fd : FuncData} {ps : List Str} {bs : List Bool} {m : List D → M (List (String × D))} {x : Str} {c : String} {p : Pos} {es : List Expr} {ms : M (List D)} (cx : CtxOk X E) (M : Mk X.K (He.ga X.K (Str.ofString c)) f) (F : FnOk X.prog X.w X.K X.mg X.base (L2.CX X.prog X.w) k f fd ps (spI X.K c bs m)) (hr : Room (k + 1) X.A) (hg : Gl X x) (hm : X.mg x = some (.ref (He.ga X.K (Str.ofString c)))) (hb : Binds X.K fd ps [])
    (ha : DAM X E G bs (a :: es) ms) (hdb : (x == ("__debug__" : Str)) = false := by decide) (he : starEach (a :: es) X.env = (false, eval a X.env) :: starEach es X.env := by rfl) (hpl : (backTo pos (starEach es X.env)).any (·.1) = false := by rfl) :
    DE X E G (.Call (.Name x p) (a :: es) [] pos) (ms >>= fun l => m l >>= fun l => .ok (.ins c l)) := by
  obtain ⟨t, pa, w⟩ := ha
  exact ⟨_, pe_makeS M F hr hg hm hb .nil cx.pass pa hdb he hpl, fun B σ F H Q s g q => w B σ F H _ s g (WpG.bind q fun l F1 H1 vs x1 r1 k1 => make_run x1.sFH r1 k1)⟩

end
section
variable {X : Cx} {E : XK} {G : List Sl} {a b c e : Expr} {ma mb mc : M D} {ta tb : M Bool} {pos : Pos} {F H : Hp}
theorem GOk.cons {K : PySem.W.Frag} {B F H : Hp} {G : List Sl} {σ : St} {s : Sl} {o : Option V} (g : GOk K B G σ F H) (h : SlOk K B F H o s) (hd : ∀ (j : Nat) (t : Sl) (a : Addr), G[j]? = some t → t.owns = true → s.owns = true → o = some (.ref a) → σ[j]? ≠ some (some (.ref a))) : GOk K B (s :: G) (o :: σ) F H := by
  refine ⟨g.sB, congrArg Nat.succ g.len, fun i t ht => ?_, fun i j s1 s2 a h1 h2 o1 o2 e1 e2 => ?_⟩
  · cases i with
    | zero =>
      cases ht
      exact ⟨o, rfl, h⟩
    | succ i => exact g.ok i t ht
  · cases i with
    | zero =>
      cases h1
      cases j with
      | zero => rfl
      | succ j =>
        have e1 : o = some (.ref a) := by simpa using e1
        have h2' : G[j]? = some s2 := h2
        exact absurd e2 (hd j s2 a h2' o2 o1 e1)
    | succ i => cases j with
      | zero =>
        cases h2
        have e2 : o = some (.ref a) := by simpa using e2
        have h1' : G[i]? = some s1 := h1
        exact absurd e1 (hd i s1 a h1' o1 o2 e2)
      | succ j => exact congrArg Nat.succ (g.dis i j s1 s2 a h1 h2 o1 o2 e1 e2)
theorem GOk.monoH {K : PySem.W.Frag} {B F H H' : Hp} {G : List Sl} {σ : St} (g : GOk K B G σ F H) (h : Same H H') : GOk K B G σ F H' := by
  refine ⟨g.sB.trans h, g.len, fun i s hs => ?_, g.dis⟩
  obtain ⟨o, h1, h2⟩ := g.ok i s hs
  refine ⟨o, h1, ?_⟩
  cases s with
  | un => exact h2
  | any => trivial
  | val d => exact h2
  | bor d => exact h2
  | tre b c l => exact ⟨h2.1, h2.2.1.trans h, h2.2.2⟩
  | exn b c l => exact h2
  | own l =>
    obtain ⟨a, xs, e, e2, r⟩ := h2
    exact ⟨a, xs, e, h _ _ e2, r⟩
  | ownd l =>
    obtain ⟨a, e, e2, r⟩ := h2
    obtain ⟨u, hu⟩ := e2.some
    refine ⟨a, e, ?_, r⟩
    rw [h _ _ hu, ← hu]
    exact e2
  | ownu l =>
    obtain ⟨a, e, e2, r⟩ := h2
    obtain ⟨u, hu⟩ := e2.some
    refine ⟨a, e, ?_, r⟩
    rw [h _ _ hu, ← hu]
    exact e2
  | obj a c l =>
    obtain ⟨dx, fs, e, e2, r⟩ := h2
    exact ⟨dx, fs, e, h _ _ e2, r⟩
def ocI (a : Addr) (c : String) (n : Nat) (l : List (String × D)) : Oc := .nx (.obj a c l :: List.replicate n .any)
theorem fn_init {P : Program} {w : World} {K : PySem.W.Frag} {mg : Str → Option Value} {base : Heap} {x qual : Str} {params : Arguments} {body : List Stmt} {scope : Scope} {dvs : List V} {kws : List (Str × V)} {f : Addr} {fd : FuncData}
    {N ps : List Str} {k : Nat} {c : String} {bs : List Bool} {m : List D → M (List (String × D))} (F : FunD K x qual params body scope dvs kws f fd) (S : FnScope N ps scope) (hbs : bs.length + 1 = ps.length) (hN : bs.length + 1 ≤ N.length)
    (hb : ∀ (cdv : Value) (A : Around) (outer : List Env) (s : Shared) (H : Hp) (E : XK), Room k (A.deeper (PyProof.Rows.envOfC qual scope s.heap.objs.size f cdv)) → ∀ (a : Addr) (ds : List D), ds.length = bs.length →
      DB (cxOf (L2.CX P w) P w K mg base N qual scope f cdv A outer s H E) E (.obj a c [] :: (argSl bs ds ++ List.replicate (N.length - (bs.length + 1)) .un)) body (m ds) (ocI a c (N.length - 1))) : FnOk P w K mg base (L2.CX P w) (k + 1) f fd ps (spI K c bs m) := by
  refine F.ok S (fun vs H Q E h => ?_) (fun cdv A outer s H vs Q E hr h => ?_)
  · obtain ⟨x, dx, vs', F, B, ds, rfl, _, _, _, _, _, r, _⟩ := h
    rw [List.length_cons, r.len.1, hbs]
  · obtain ⟨x, dx, vs', F, B, ds, rfl, rfl, hx, hdx, ne, sF, r, q⟩ := h
    obtain ⟨t, p, wt⟩ := hb cdv A outer s _ E hr x ds r.len.2
    have hx2 : (upd B dx (.own x)) x = none := by rw [upd_ne (Ne.symm ne)]; exact hx
    have sH : Same B (upd (upd B dx (.own x)) x (.ins (He.ga K (Str.ofString c)) dx [])) := (same_new hdx).trans (same_new hx2)
    have g0 : GOk K B (argSl bs ds ++ List.replicate (N.length - (bs.length + 1)) .un) (L2.start (N.tail) vs') F B := by
      have e : N.length - (bs.length + 1) = N.tail.length - bs.length := by rw [List.length_tail]; omega
      rw [e]
      exact gok_start r
    have x0 : Ext F B F (upd (upd B dx (.own x)) x (.ins (He.ga K (Str.ofString c)) dx [])) := ⟨Same.refl _, sH, sF.trans sH, fun _ _ _ => rfl⟩
    have g1 : GOk K B (.obj x c [] :: (argSl bs ds ++ List.replicate (N.length - (bs.length + 1)) .un)) (some (.ref x) :: L2.start (N.tail) vs') F (upd (upd B dx (.own x)) x (.ins (He.ga K (Str.ofString c)) dx [])) := by
      refine (g0.monoH sH).cons ⟨dx, [], rfl, upd_same, sF.free hx, hx, rfl, .nil⟩ fun j t a h1 h2 _ e1 e2 => ?_
      cases e1
      obtain ⟨u, hu⟩ := g0.owned h1 h2 e2
      rw [hx] at hu
      cases hu
    have es : L2.start N (.ref x :: vs') = some (.ref x) :: L2.start (N.tail) vs' := by
      unfold L2.start
      rw [List.length_cons, List.length_tail, List.map_cons]
      show _ :: (_ ++ _) = _ :: (_ ++ _)
      congr 3
      omega
    refine ⟨t, p, ?_⟩
    rw [es]
    refine wt F B _ F _ _ x0 g1 ?_
    cases em : m ds with
    | ok l =>
      rw [em] at q
      refine WpB.of_ok (fun σ' F' H' _ x' g' => ?_)
      obtain ⟨o, h1, dx', fs, rfl, h2, h3, h4, h5, h6⟩ := g'.ok 0 _ rfl
      exact q F' H' .non x' ⟨rfl, h3, dx', fs, h2, h5, h6⟩
    | error er =>
      rw [em] at q
      cases er with
      | stuck => exact q.elim
      | exc y => exact fun F' H' c d _ x' r' => q F' H' c d x' r'
end
end DL

set_option Elab.async false
set_option linter.all false
set_option maxRecDepth 100000
set_option maxHeartbeats 4000000
namespace DL
open PySem PySem.Spec L2

theorem meets_enum1 {v : Value} {o : Obj} {H : Heap → Prop} (B : Begins v o H) :
    Meets (Builtin.«enumerate.__new__» ⟨[.type "enumerate", v], []⟩) (fun _ R s => H s.heap ∧
      R (.ok (.ret (.ref (s.heap.push o).objs.size))) { s with heap := (s.heap.push o).push { cls := .type "enumerate", data := .fields #[.none, .bool false, .ref s.heap.objs.size, rawInt 0, .none, .none] } }) :=
  .of_wp fun prog w A R s h => by
    obtain ⟨hp, g, d, tk, os⟩ := s; obtain ⟨h1, h⟩ := h
    have hsub := sub_enumerate
    have q1 : ∀ {A' : Around} {E : Value → Shared → Prop} {Q : Value → Shared → Prop}, Q (.ref hp.objs.size) ⟨hp.push o, g, d, tk, os⟩ → wpAny (model prog w) A' (pyIter v) Q E ⟨hp, g, d, tk, os⟩ :=
      fun q => B.iter prog w _ _ ⟨hp, g, d, tk, os⟩ _ h1 q
    wp_walk using q1
    refine wpAny_stack_any fun st => wpAny_pure ?_
    split
    · rename_i c _ _ _ _ _
      cases (c == Value.type "enumerate")
      · wp_walk using q1
        exact ⟨_, rfl, h⟩
      · wp_walk using q1
        exact ⟨_, rfl, h⟩
    · wp_walk using q1
      exact ⟨_, rfl, h⟩
theorem enum1_begins {prog : Program} {w : World} {A : Around} {E : Value → Shared → Prop} {s : Shared} {v : Value} {o : Obj} {H : Heap → Prop} {Q : Value → Shared → Prop} (B : Begins v o H) (h1 : H s.heap)
    (h : ∀ h', IsEnum h' (s.heap.objs.size + 1) s.heap.objs.size 0 .none → h'.get? s.heap.objs.size = some o → h'.objs.size = s.heap.objs.size + 2 →
      (∀ b o, s.heap.get? b = some o → h'.get? b = some o) → Q (.ref (s.heap.objs.size + 1)) { s with heap := h' }) :
    wpAny (model prog w) A (call (.type "enumerate") [v]) Q E s := by
  refine callType_new PySem.F.called_enumerate (by decide) (PySem.F.typeCall_enumerate_1 _) (PySem.F.newCall_enumerate_1 _) (fun obj => PySem.F.args_object_init_2 obj _) PySem.F.entry_enumerate_new
    (meets_enum1 B) ⟨h1, ?_⟩
  have hz : (s.heap.push o).objs.size = s.heap.objs.size + 1 := Heap.size_push ..
  show _ ∧ _
  rw [hz]
  have he : IsEnum ((s.heap.push o).push { cls := .type "enumerate", data := .fields #[.none, .bool false, .ref s.heap.objs.size, rawInt 0, .none, .none] }) (s.heap.objs.size + 1) s.heap.objs.size 0 .none := by
    have := Heap.get?_push_size (s.heap.push o) (o := { cls := .type "enumerate", data := .fields #[.none, .bool false, .ref s.heap.objs.size, rawInt 0, .none, .none] }) rfl
    rw [hz] at this; exact this
  refine ⟨⟨_, he, rfl⟩, h _ he (Heap.get?_push_of_some _ (Heap.get?_push_size _ B.free)) (by rw [Heap.size_push, hz]) fun b o x => Heap.get?_push_of_some _ (Heap.get?_push_of_some _ x)⟩
def Sq (K : PySem.W.Frag) (tp : Bool) (H : Hp) (a : Addr) (xs : List V) : Prop := match tp with
  | true => SqT K H a xs
  | false => SqL K H a xs
def IsSq (tp : Bool) (h : Heap) (a : Addr) (its : Array Value) : Prop := match tp with
  | true => h.IsTuple a its
  | false => h.IsList a its
def IsSqIter (tp : Bool) (h : Heap) (it a : Addr) (i : Nat) : Prop := match tp with
  | true => h.IsTupleIter it a i
  | false => h.IsListIter it a i
def iterObj (tp : Bool) (a : Addr) : Obj := match tp with
  | true => { cls := .type "tuple_iterator", data := .fields #[.ref a, .int 0 0] }
  | false => { cls := .type "list_iterator", data := .fields #[.ref a, .int 0 0] }
section
variable {K : PySem.W.Frag} {tp : Bool} {a e it : Addr}
theorem sq_get {X : Cx} {pins : List (Addr × Obj)} {σ : St} {H : Hp} {s : Shared} {xs : List V} (I : Inv X pins σ H s) (h : Sq X.K tp H a xs) : ∃ its : List Value, Vals xs its ∧ IsSq tp s.heap a its.toArray ∧ xs.length ≤ sizeLine := by
  cases tp with
  | true =>
    obtain ⟨its, r, p, z⟩ := I.tuple h
    exact ⟨its, r, p, z⟩
  | false =>
    obtain ⟨its, r, p, z⟩ := I.list h
    exact ⟨its, r, p.isList, z⟩
theorem sq_inj {X : Cx} {pins : List (Addr × Obj)} {σ : St} {H : Hp} {s : Shared} {xs ys : List V} (I : Inv X pins σ H s) (h : Sq X.K tp H a xs) (h' : Sq X.K tp H a ys) : xs = ys := by
  cases tp with
  | true => exact I.tuple_inj h h'
  | false => exact I.list_inj h h'
theorem sq_begins (tp : Bool) (a : Addr) (its : Array Value) : Begins (.ref a) (iterObj tp a) fun h => IsSq tp h a its := by
  cases tp with
  | true => exact begins_tuple a its
  | false => exact begins_list a its
theorem sq_iter0 {h : Heap} (e : h.get? it = some (iterObj tp a)) : IsSqIter tp h it a 0 := by
  cases tp with
  | true => exact ⟨_, e, rfl, rfl⟩
  | false => exact ⟨_, e, rfl, rfl⟩
theorem sq_obj {h : Heap} {i : Nat} (st : IsSqIter tp h it a i) : ∃ o, h.get? it = some o ∧ ∀ v, o.data ≠ .cell v := by
  cases tp with
  | true =>
    obtain ⟨o, e, c, d⟩ := st
    exact ⟨o, e, fun v z => by rw [d] at z; cases z⟩
  | false =>
    obtain ⟨o, e, c, d⟩ := st
    exact ⟨o, e, fun v z => by rw [d] at z; cases z⟩
theorem sq_at {h h' : Heap} {i : Nat} (st : IsSqIter tp h it a i) (k : ∀ o, h.get? it = some o → h'.get? it = some o) : IsSqIter tp h' it a i := by
  cases tp with
  | true => exact Heap.IsTupleIter.at st k
  | false => exact Heap.IsListIter.at st k
theorem sq_ne {h : Heap} {i : Nat} {its : Array Value} (st : IsSqIter tp h it a i) (p : IsSq tp h a its) : a ≠ it := fun z => by
  subst z
  cases tp with
  | true =>
    obtain ⟨o, e, c, d⟩ := st
    obtain ⟨o2, e2, c2, _⟩ := p
    rw [e] at e2
    cases e2
    rw [c] at c2
    exact absurd (Value.type.inj c2) (by decide)
  | false =>
    obtain ⟨o, e, c, d⟩ := st
    obtain ⟨o2, e2, c2, _⟩ := p
    rw [e] at e2
    cases e2
    rw [c] at c2
    exact absurd (Value.type.inj c2) (by decide)
theorem sq_draws {prog : Program} {w : World} {A : Around} (hh : A.handled = none) (tp : Bool) (it l : Addr) (hne : l ≠ it) (items : Array Value) : Draws prog w A it [it, l] items.size (fun i v => items[i]? = some v) (fun i h => IsSqIter tp h it l i ∧ IsSq tp h l items) := by
  cases tp with
  | true => exact Draws.tuple hh it l hne items
  | false => exact Draws.list hh it l hne items
theorem sq_notEnum {h : Heap} {its : Array Value} {it : Addr} {c : Int} {old : Value} (p : IsSq tp h a its) (he : IsEnum h e it c old) : e ≠ a := fun z => by
  subst z
  cases tp with
  | true =>
    obtain ⟨o2, e2, c2, _⟩ := p
    rw [he] at e2
    cases e2
    exact absurd (Value.type.inj c2) (by decide)
  | false =>
    obtain ⟨o2, e2, c2, _⟩ := p
    rw [he] at e2
    cases e2
    exact absurd (Value.type.inj c2) (by decide)
end
def Iek (K : PySem.W.Frag) (tp : Bool) (a : Addr) (k : Int) : It :=
  ⟨fun i H => ∃ (xs : List V) (x : V), Sq K tp H a xs ∧ xs[i]? = some x, fun i H v H' => ∃ T x, v = .ref T ∧ H T = none ∧ H' = upd H T (.tup [.int (k + (i : Nat)), x]) ∧ ∀ xs, Sq K tp H a xs → xs[i]? = some x, fun i H => ∃ xs : List V, Sq K tp H a xs ∧ xs.length = i⟩
theorem turn_ek {P : Program} {w : World} {K : PySem.W.Frag} {elts : List Expr} {kk : Nat} {tpos : Pos} (tp : Bool) (k : Int) (a e it : Addr) :
    Turn P w K (.Tuple elts kk tpos) (Iek K tp a k) [e, it] e (fun i h => (∃ old, IsEnum h e it (k + (i : Nat)) old) ∧ IsSqIter tp h it a i ∧ e ≠ it) where
  mem := by simp
  obj := fun i h st b hb => by
    obtain ⟨⟨old, he⟩, hi, _⟩ := st
    have e' : b = e ∨ b = it := by simpa using hb
    rcases e' with z | z
    · rw [z]; exact ⟨_, he, fun v q => nomatch q⟩
    · rw [z]; exact sq_obj hi
  keep := fun i h h' st k => let ⟨⟨old, he⟩, hi, hne⟩ := st; ⟨⟨old, k e (by simp) _ he⟩, sq_at hi fun o q => k it (by simp) o q, hne⟩
  item := by
    intro X hP hw hK hc i pins s σ H E I hf st hg
    subst hP hw hK
    obtain ⟨⟨old, he⟩, hit, hne⟩ := st
    obtain ⟨xs, x, hq, hx⟩ := hg
    obtain ⟨its, rv, p, hz⟩ := sq_get I hq
    obtain ⟨u, hu, ru⟩ := rv.get hx
    have hel : e < s.heap.objs.size := Heap.lt_size he
    have hil : it < s.heap.objs.size := by obtain ⟨_, q, _⟩ := sq_obj hit; exact Heap.lt_size q
    have hin : X.A.in1.handled = none := I.ok.hd hc
    have hia : i < its.toArray.size := by
      have := (List.getElem?_eq_some_iff.mp hu).1
      simpa using this
    have hea : e ≠ a := sq_notEnum p he
    refine wpAny_pyNext_enum_itemC (sq_draws hin tp it a (sq_ne hit p) its.toArray) he ⟨hit, p⟩ hia hne (by simp [hne, hea]) fun y h' tk hy ho hst' hT hsz hk => ?_
    have eyu : y = u := by
      have hy : its.toArray[i]? = some y := hy
      have hu' : its.toArray[i]? = some u := by simpa using hu
      exact Option.some.inj (hy.symm.trans hu')
    subst eyu
    refine ⟨_, rfl, wpAny_letOwnedTupleGo_enum (s := { s with heap := h', toks := tk + 1 }) ho fun h'' he' sb => ?_⟩
    have hT2 : h''.get? s.heap.objs.size = some { cls := .type "tuple", data := .seq #[.int (k + (i : Nat)) tk, y] } := (sb.2 _ (Nat.ne_of_gt hel)).trans hT
    have new : ObjOk X.prog X.w (upd H s.heap.objs.size (.tup [.int (k + (i : Nat)), x])) h'' s.heap.objs.size (.tup [.int (k + (i : Nat)), x]) :=
      ⟨by show 2 ≤ sizeLine; decide, [.int (k + (i : Nat)) tk, y], .cons ⟨_, rfl⟩ (.cons ru .nil), ⟨_, hT2, rfl, _, rfl⟩⟩
    have I1 : Inv X pins σ (upd H s.heap.objs.size (.tup [.int (k + (i : Nat)), x])) { s with heap := h'', toks := tk + 1 } :=
      I.turnedNew (ch := [e, it]) (fun b ob hb q => (sb.2 b (fun z => hb (by simp [z]))).trans (hk b ob (fun z => hb (by simp [z])) (fun z => hb (by simp [z])) q)) hf (Nat.le_refl _) new
    refine ⟨.ref s.heap.objs.size, _, I1, rfl, ⟨_, x, rfl, I.hok.fresh (Nat.le_refl _), rfl, fun ys hy => by rw [sq_inj I hy hq]; exact hx⟩, ⟨⟨y, ?_⟩, sq_at hst'.1 fun o q => (sb.2 it (Ne.symm hne)).trans q, hne⟩, fun b hb => ?_⟩
    · have e1 : k + ((i + 1 : Nat) : Int) = k + (i : Nat) + 1 := by omega
      rw [e1]; exact he'
    · have hb' : b < s.heap.objs.size := by
        have e' : b = e ∨ b = it := by simpa using hb
        rcases e' with z | z
        · rw [z]; exact hel
        · rw [z]; exact hil
      rw [upd_ne (Nat.ne_of_lt hb')]
      exact (hf b hb).1
  done := by
    intro X hP hw hK hc i pins s σ H E I hf st hg
    subst hP hw hK
    obtain ⟨⟨old, he⟩, hit, hne⟩ := st
    obtain ⟨xs, hq, hx⟩ := hg
    obtain ⟨its, rv, p, hz⟩ := sq_get I hq
    obtain ⟨f0, f1, f2, f3, f4, f5⟩ := hf it (by simp)
    have hl := rv.length
    have hin : X.A.in1.handled = none := I.ok.hd hc
    have D := sq_draws (prog := X.prog) (w := X.w) hin tp it a (sq_ne hit p) its.toArray
    have ei : i = its.toArray.size := by simp; omega
    exact wpAny_pyNext_enum_endD D he (by rw [← ei]; exact ⟨hit, p⟩) fun h' eb => ⟨rfl, I.turned (t' := s.toks) (fun b o hb q => eb b o hb q) f0 f1 f3 f4 f5⟩
  self := fun A i s Q E st h => let ⟨⟨_, he⟩, _⟩ := st; wpAny_pyIter_enum he h
def iEk (K : PySem.W.Frag) (ta : TA) : TI := fun σ H R => ta σ H fun vs H1 => ∃ a xs tp, vs = [.ref a] ∧ Sq K tp H1 a xs ∧ R (Iek K tp a 0) H1
theorem boot_enum : bootBuiltins ("enumerate" : Str) = some (.type "enumerate") := by decide +kernel
theorem enum_fin {X : Cx} {pins : List (Addr × Obj)} {σ : St} {s1 : Shared} {H1 : Hp} {R : It → Hp → Prop} {tp : Bool} {a : Addr} {k : Int} {h' : Heap} {E : Value → Shared → Prop} {elts : List Expr} {kk : Nat} {tpos : Pos} (I1 : Inv X pins σ H1 s1) (he : IsEnum h' (s1.heap.objs.size + 1) s1.heap.objs.size k .none)
    (hit : h'.get? s1.heap.objs.size = some (iterObj tp a)) (hk : ∀ b o, s1.heap.get? b = some o → h'.get? b = some o) (q : R (Iek X.K tp a k) H1) : wpAny (model X.prog X.w) X.A (pyIter (.ref (s1.heap.objs.size + 1))) (PIE X pins σ (.Tuple elts kk tpos) R) E { s1 with heap := h' } := by
  refine wpAny_pyIter_enum he ?_
  have I2 : Inv X pins σ H1 { s1 with heap := h' } := I1.kept (t' := s1.toks) hk
  refine ⟨s1.heap.objs.size + 1, [s1.heap.objs.size + 1, s1.heap.objs.size], _, _, H1, rfl, I2, turn_ek tp k a (s1.heap.objs.size + 1) s1.heap.objs.size, ⟨⟨.none, ?_⟩, sq_iter0 hit, Nat.succ_ne_self _⟩, fun b hb => ?_, q⟩
  · have e1 : k + ((0 : Nat) : Int) = k := by omega
    rw [e1]
    exact he
  · have e' : b = s1.heap.objs.size + 1 ∨ b = s1.heap.objs.size := by simpa using hb
    have hle : s1.heap.objs.size ≤ b := by
      rcases e' with z | z
      · rw [z]; exact Nat.le_add_right _ _
      · rw [z]; exact Nat.le_refl _
    exact I1.fpOk hle (I1.hok.fresh hle)
theorem pi_ek {X : Cx} {e : Expr} {ta : TA} {p pos tpos : Pos} {elts : List Expr} {kk : Nat} (hg : Gl X "enumerate") (hm : X.mg "enumerate" = none) (ha : PA X [e] ta) (hs : starEach [e] X.env = [(false, eval e X.env)] := by rfl) :
    PI X (.Tuple elts kk tpos) (.Call (.Name "enumerate" p) [e] [] pos) (iEk X.K ta) := by
  refine ⟨fun pins s σ H R I h => ?_⟩
  refine PyProof.Rows.Call_ (ld_blt I hg hm boot_enum (PyProof.Rows.callWith_type1 (thn (ha.run pos pins s σ H _ I h) fun us s1 ⟨vs, H1, I1, r1, q1⟩ => ?_) hs rfl))
  obtain ⟨a, xs, tp, ex, hq, q⟩ := q1
  subst ex
  cases r1 with
  | cons r rr =>
    cases rr
    cases r
    obtain ⟨its, rv, p', hz⟩ := sq_get I1 hq
    exact enum1_begins (sq_begins tp a its.toArray) p' fun h' he hit hsz hk => enum_fin I1 he hit hk q
def iEk2 (K : PySem.W.Frag) (ta : TA) : TI := fun σ H R => ta σ H fun vs H1 => ∃ a xs tp k, vs = [.ref a, .int k] ∧ (-(2 ^ 63) ≤ k ∧ k < 2 ^ 63) ∧ Sq K tp H1 a xs ∧ R (Iek K tp a k) H1
theorem pi_ek2 {X : Cx} {e e2 : Expr} {ta : TA} {p pos tpos : Pos} {elts : List Expr} {kk : Nat} (hg : Gl X "enumerate") (hm : X.mg "enumerate" = none) (ha : PA X [e, e2] ta) (hs : starEach [e, e2] X.env = (false, eval e X.env) :: starEach [e2] X.env := by rfl) (hpl : (backTo pos (starEach [e2] X.env)).any (·.1) = false := by rfl) :
    PI X (.Tuple elts kk tpos) (.Call (.Name "enumerate" p) [e, e2] [] pos) (iEk2 X.K ta) := by
  refine ⟨fun pins s σ H R I h => ?_⟩
  refine PyProof.Rows.Call_ (ld_blt I hg hm boot_enum (PyProof.Rows.callWith_type1 (thn (ha.run pos pins s σ H _ I h) fun us s1 ⟨vs, H1, I1, r1, q1⟩ => ?_) hs hpl))
  obtain ⟨a, xs, tp, k, ex, hk2, hq, q⟩ := q1
  subst ex
  cases r1 with
  | cons r rr =>
    cases rr with
    | cons r2 rr2 =>
      cases rr2
      cases r
      obtain ⟨t, rfl⟩ := r2
      obtain ⟨its, rv, p', hz⟩ := sq_get I1 hq
      exact enum_begins (sq_begins tp a its.toArray) p' hk2.1 hk2.2 fun h' he hit hsz hk => enum_fin I1 he hit hk q
def enumL (k : Int) : List D → List D
  | [] => []
  | d :: ds => .tup [.int k, d] :: enumL (k + 1) ds
theorem enumL_len : ∀ (k : Int) (l : List D), (enumL k l).length = l.length
  | _, [] => rfl
  | k, _ :: l => congrArg Nat.succ (enumL_len (k + 1) l)
theorem enumL_get : ∀ (k : Int) (l : List D) (i : Nat), (enumL k l)[i]? = (l[i]?).map fun d => .tup [.int (k + (i : Nat)), d]
  | _, [], i => by simp [enumL]
  | k, d :: l, 0 => by simp [enumL]
  | k, d :: l, i + 1 => by
    simp only [enumL, List.getElem?_cons_succ]
    rw [enumL_get (k + 1) l i]
    have e : k + 1 + (i : Nat) = k + ((i + 1 : Nat) : Int) := by omega
    rw [e]
theorem yld_ek {K : PySem.W.Frag} {a : Addr} {tp : Bool} {k : Int} {xs : List V} {ds : List D} {F0 : Hp} {P : Hp → Hp → Prop} (r : RpL K F0 xs ds) (h : ∀ F H, P F H → Same F H → Same F0 F ∧ Sq K tp H a xs) : Yld K (Iek K tp a k) P (enumL k ds) := fun F H p s => by
  obtain ⟨h1, h2⟩ := h F H p s
  refine ⟨fun i d hd => ?_, ?_⟩
  · rw [enumL_get] at hd
    cases e : ds[i]? with
    | none => rw [e] at hd; cases hd
    | some d0 =>
      rw [e] at hd
      cases hd
      obtain ⟨x, hx, rx⟩ := r.get e
      refine ⟨⟨xs, x, h2, hx⟩, fun y H' hy => ?_⟩
      obtain ⟨T, z, rfl, nT, rfl, hz⟩ := hy
      have ez : x = z := Option.some.inj (hx.symm.trans (hz xs h2))
      subst ez
      have xx := Ext.new (o := .tup [.int (k + (i : Nat)), x]) s nT
      exact ⟨_, xx, .tup (SqT.of upd_same) (.cons (.int _) (.one ((rx.mono h1).mono xx.sF)))⟩
  · exact ⟨xs, h2, by rw [enumL_len]; exact r.length⟩
section
variable {X : Cx} {E : St → XK} {G : List Sl} {a b c e : Expr} {ma mb mc : M D} {ta tb : M Bool} {pos : Pos} {F H : Hp}
def D.enum1 : List D → M (List D)
  | [.lst l] => .ok (enumL 0 l)
  | [.tup l] => .ok (enumL 0 l)
  | _ => stuck
def D.enum2 : List D → M (List D)
  | [.lst l, .int k] => do need (decide (-(2 ^ 63) ≤ k ∧ k < 2 ^ 63)); .ok (enumL k l)
  | [.tup l, .int k] => do need (decide (-(2 ^ 63) ≤ k ∧ k < 2 ^ 63)); .ok (enumL k l)
  | _ => stuck
theorem di_enum1 {p tpos : Pos} {elts : List Expr} {kk : Nat} {ms : M (List D)} (hg : Gl X "enumerate") (hm : X.mg "enumerate" = none) (ha : DA X E G [a] ms) (hs : starEach [a] X.env = [(false, eval a X.env)] := by rfl) : DI X E G (.Tuple elts kk tpos) (.Call (.Name "enumerate" p) [a] [] pos) (ms >>= fun l => D.enum1 l) := by
  obtain ⟨t, pp, w⟩ := ha
  refine ⟨_, pi_ek hg hm pp hs, fun B σ F H R s g q => w B σ F H _ s g (WpG.bind q fun l F1 H1 vs x1 r1 k1 => ?_)⟩
  cases r1 with
  | nil => exact k1.elim
  | @cons v vs d ds r1 r2 => cases r2 with
    | cons _ _ => cases d <;> exact k1.elim
    | nil => cases d with
      | lst l => cases r1 with
        | lst h r => exact ⟨_, _, false, rfl, SqL.of (x1.sFH _ _ h), k1 F1 H1 _ (Ext.refl x1.sFH) (yld_ek (tp := false) r fun F2 H2 p s2 => ⟨p, SqL.of (s2 _ _ (p _ _ h))⟩)⟩
      | tup l => cases r1 with
        | tup h r => exact ⟨_, _, true, rfl, Same.seqT x1.sFH h, k1 F1 H1 _ (Ext.refl x1.sFH) (yld_ek (tp := true) r fun F2 H2 p s2 => ⟨p, Same.seqT s2 (Same.seqT p h)⟩)⟩
      | _ => exact k1.elim
theorem di_enum2 {p tpos : Pos} {elts : List Expr} {kk : Nat} {ms : M (List D)} (hg : Gl X "enumerate") (hm : X.mg "enumerate" = none) (ha : DA X E G [a, b] ms) (hs : starEach [a, b] X.env = (false, eval a X.env) :: starEach [b] X.env := by rfl) (hpl : (backTo pos (starEach [b] X.env)).any (·.1) = false := by rfl) : DI X E G (.Tuple elts kk tpos) (.Call (.Name "enumerate" p) [a, b] [] pos) (ms >>= fun l => D.enum2 l) := by
  obtain ⟨t, pp, w⟩ := ha
  refine ⟨_, pi_ek2 hg hm pp hs hpl, fun B σ F H R s g q => w B σ F H _ s g (WpG.bind q fun l F1 H1 vs x1 r1 k1 => ?_)⟩
  cases r1 with
  | nil => exact k1.elim
  | @cons v vs d ds r1 r2 => cases r2 with
    | nil => cases d <;> exact k1.elim
    | @cons v2 vs2 d2 ds2 r2 r3 => cases r3 with
      | cons _ _ => cases d <;> cases d2 <;> exact k1.elim
      | nil => cases d2 with
        | int k => cases d with
          | lst l => cases r1 with
            | lst h r =>
              have k1 : WpG X.K (E σ) _ (need (decide (-(2 ^ 63) ≤ k ∧ k < 2 ^ 63)) >>= fun _ => .ok (enumL k l)) F1 H1 R := k1
              obtain ⟨c, k1⟩ := WpG.need k1
              have c := of_decide_eq_true c
              cases r2
              exact ⟨_, _, false, k, rfl, c, SqL.of (x1.sFH _ _ h), k1 F1 H1 _ (Ext.refl x1.sFH) (yld_ek (tp := false) r fun F2 H2 p s2 => ⟨p, SqL.of (s2 _ _ (p _ _ h))⟩)⟩
          | tup l => cases r1 with
            | tup h r =>
              have k1 : WpG X.K (E σ) _ (need (decide (-(2 ^ 63) ≤ k ∧ k < 2 ^ 63)) >>= fun _ => .ok (enumL k l)) F1 H1 R := k1
              obtain ⟨c, k1⟩ := WpG.need k1
              have c := of_decide_eq_true c
              cases r2
              exact ⟨_, _, true, k, rfl, c, Same.seqT x1.sFH h, k1 F1 H1 _ (Ext.refl x1.sFH) (yld_ek (tp := true) r fun F2 H2 p s2 => ⟨p, Same.seqT s2 (Same.seqT p h)⟩)⟩
          | _ => exact k1.elim
        | _ => cases d <;> exact k1.elim
end
end DL

set_option Elab.async false
set_option linter.all false
set_option maxRecDepth 100000
set_option maxHeartbeats 4000000
namespace DL
open PySem PySem.Spec L2
section
variable {X : Cx} {E : St → XK} {G : List Sl} {a b c e : Expr} {ma mb mc : M D} {ta tb : M Bool} {pos : Pos} {F H : Hp} {st : Stmt} {rest body : List Stmt}

theorem GOk.writeS {K : PySem.W.Frag} {B F H : Hp} {σ : St} {i : Nat} {a : Addr} {s s' : Sl} {o : HO} (g : GOk K B G σ F H) (h : G[i]? = some s) (hs : s.owns = true) (e : σ[i]? = some (some (.ref a))) (fa : F a = none) (ba : B a = none) (new : SlOk K B F (upd H a o) (some (.ref a)) s') :
    GOk K B (G.set i s') σ F (upd H a o) where
  sB := fun c u hc => by
    rw [upd_ne (ne_of_none hc ba)]
    exact g.sB c u hc
  len := by rw [List.length_set]; exact g.len
  ok := fun j t hj => by
    by_cases ej : i = j
    · subst ej
      have hi := (List.getElem?_eq_some_iff.mp h).1
      rw [List.getElem?_set_self hi] at hj
      cases hj
      exact ⟨_, e, new⟩
    · rw [List.getElem?_set_ne ej] at hj
      obtain ⟨v, k1, k2⟩ := g.ok j t hj
      refine ⟨v, k1, ?_⟩
      cases t with
      | un => exact k2
      | any => trivial
      | val d => exact k2
      | bor d => exact k2
      | tre b c l => exact ⟨k2.1, fun x u hx => by
          rw [upd_ne (ne_of_none hx ba)]
          exact g.sB _ _ hx, k2.2.2⟩
      | exn b c l => exact k2
      | own m =>
        obtain ⟨b, ys, rfl, q⟩ := k2
        have nb : b ≠ a := fun z => by
          subst z
          exact ej (g.dis i j _ _ b h hj hs rfl e k1)
        exact ⟨b, ys, rfl, by rw [upd_ne nb]; exact q.1, q.2⟩
      | ownd m =>
        obtain ⟨b, rfl, q⟩ := k2
        have nb : b ≠ a := fun z => by
          subst z
          exact ej (g.dis i j _ _ b h hj hs rfl e k1)
        exact ⟨b, rfl, by rw [upd_ne nb]; exact q.1, q.2⟩
      | ownu m =>
        obtain ⟨b, rfl, q⟩ := k2
        have nb : b ≠ a := fun z => by
          subst z
          exact ej (g.dis i j _ _ b h hj hs rfl e k1)
        exact ⟨b, rfl, by rw [upd_ne nb]; exact q.1, q.2⟩
      | obj b c m =>
        obtain ⟨dx, fs, rfl, q⟩ := k2
        have nb : b ≠ a := fun z => by
          subst z
          exact ej (g.dis i j _ _ b h hj hs rfl e k1)
        exact ⟨dx, fs, rfl, by rw [upd_ne nb]; exact q.1, q.2⟩
  dis := fun j k t u b h1 h2 o1 o2 e1 e2 => by
    have own_at : ∀ (j : Nat) (t : Sl), (G.set i s')[j]? = some t → t.owns = true → ∃ t', G[j]? = some t' ∧ t'.owns = true := fun j t hj o => by
      by_cases ej : i = j
      · subst ej
        exact ⟨_, h, hs⟩
      · rw [List.getElem?_set_ne ej] at hj
        exact ⟨t, hj, o⟩
    obtain ⟨s1, q1, p1⟩ := own_at j t h1 o1
    obtain ⟨s2, q2, p2⟩ := own_at k u h2 o2
    exact g.dis j k s1 s2 b q1 q2 p1 p2 e1 e2
def putD (f : String) (d : D) : List (String × D) → List (String × D)
  | [] => [(f, d)]
  | (g, x) :: r => if g = f then (g, d) :: r else (g, x) :: putD f d r
theorem putF_rp {K : PySem.W.Frag} {f : String} {v : V} {d : D} (r : Rp K F v d) : ∀ {fs : List (Str × V)} {l : List (String × D)}, fs.map (·.1) = l.map (fun q => Str.ofString q.1) → RpL K F (fs.map (·.2)) (l.map (·.2)) →
    (putF (Str.ofString f) v fs).map (·.1) = (putD f d l).map (fun q => Str.ofString q.1) ∧ RpL K F ((putF (Str.ofString f) v fs).map (·.2)) ((putD f d l).map (·.2))
  | [], [], _, _ => ⟨rfl, .one r⟩
  | [], _ :: _, h, _ => by simp at h
  | _ :: _, [], h, _ => by simp at h
  | (g, x) :: fs, (g2, y) :: l, h, q => by
    have h1 : g = Str.ofString g2 ∧ fs.map (·.1) = l.map (fun q => Str.ofString q.1) := by simpa using h
    obtain ⟨rfl, h2⟩ := h1
    have q' : RpL K F (x :: fs.map (·.2)) (y :: l.map (·.2)) := q
    cases q' with
    | cons q1 q2 =>
      by_cases e : g2 = f
      · subst e
        have e1 : putF (Str.ofString g2) v ((Str.ofString g2, x) :: fs) = (Str.ofString g2, v) :: fs := if_pos rfl
        have e2 : putD g2 d ((g2, y) :: l) = (g2, d) :: l := if_pos rfl
        rw [e1, e2]
        exact ⟨by simp [h2], .cons r q2⟩
      · have e1 : putF (Str.ofString f) v ((Str.ofString g2, x) :: fs) = (Str.ofString g2, x) :: putF (Str.ofString f) v fs := if_neg fun z => e (ofString_inj z)
        have e2 : putD f d ((g2, y) :: l) = (g2, y) :: putD f d l := if_neg e
        rw [e1, e2]
        obtain ⟨i1, i2⟩ := putF_rp r h2 q2
        exact ⟨by simp [i1], .cons q1 i2⟩
def Sl.put (s : Sl) (f : String) (d : D) : M Sl := match s with
  | .obj a c l => need (decide (l.length < 1000)) >>= fun _ => .ok (.obj a c (putD f d l))
  | _ => stuck
theorem ds_field {E₁ : XK} {x : Str} {i : Nat} {a0 : Addr} {c f : String} {l : List (String × D)} {p1 p2 : Pos} {m : M D} (hs : G[i]? = some (.obj a0 c l)) (pv : PE X (.Name x p1) (tVar i)) (hc : Cls X.K (He.ga X.K (Str.ofString c)) ∧ NoAttr X.K (He.ga X.K (Str.ofString c)) (Str.ofString f)) (h : DE X (cE E₁) G e m)
    (hsw : swapsWith e (some (.Attribute (.Name x p1) (Str.ofString f) p2)) pos.line X.env = pure false) : DS X E₁ G (.Assign [.Attribute (.Name x p1) (Str.ofString f) p2] e pos) (m >>= fun d => (Sl.obj a0 c l).put f d) (fun s' => .nx (G.set i s')) := by
  obtain ⟨t, pe, w⟩ := h
  refine ⟨_, ps_fld pv pe hsw, fun B0 B σ F H D x0 g q => w B σ F H _ x0.sFH g (WpB.expr (H := H) x0 q fun d F' H' v x x' r qd => ?_)⟩
  obtain ⟨o, h1, dx, fs, rfl, h2, h3, h4, h5, h6⟩ := (g.ext x).ok i _ hs
  have qd : WpB X.K E₁ B0 B (fun s' => .nx (G.set i s')) (need (decide (l.length < 1000)) >>= fun _ => .ok (.obj a0 c (putD f d l))) F' D := qd
  cases hd : decide (l.length < 1000) with
  | false =>
    exfalso
    rw [hd] at qd
    exact qd
  | true =>
    rw [hd] at qd
    have hl := of_decide_eq_true hd
    have ef : fs.length = l.length := by
      have := congrArg List.length h5
      simpa using this
    refine ⟨_, h1, a0, _, dx, fs, rfl, h2, hc.1, hc.2, by rw [ef]; exact hl, ?_⟩
    have qd : WpB X.K E₁ B0 B (fun s' => .nx (G.set i s')) (.ok (.obj a0 c (putD f d l))) F' D := qd
    obtain ⟨r1, r2⟩ := putF_rp (f := f) r h5 h6
    exact qd.ok σ F' _ (Same.refl _) (x'.write h3 h4) ((g.ext x).writeS hs rfl h1 h3 h4 ⟨dx, _, rfl, upd_same, h3, h4, r1, r2⟩)

theorem need_ok {α β : Type} {b : Bool} {x : α} {k : α → M β} : ((need b >>= fun _ => (.ok x : M α)) >>= k) = (need b >>= fun _ => k x) := by cases b <;> rfl
def D.recv (c m : String) : D → M D
  | .ins c' l => do need (decide (c' = c) && (l.lookup m).isNone); .ok (.ins c' l)
  | _ => stuck
theorem de_meth {k : Nat} {f : Addr} {fd : FuncData} {ps : List Str} {bs : List Bool} {m : List D → M D} {c mn : String} {apos : Pos} {es : List Expr} {ms : M (List D)} {pl : Sem Bool} (cx : CtxOk X E) (hC : Cls X.K (He.ga X.K (Str.ofString c))) (hM : Meth X.K (He.ga X.K (Str.ofString c)) (Str.ofString mn) f)
    (F : FnOk X.prog X.w X.K X.mg X.base (L2.CX X.prog X.w) k f fd ps (spD X.K (true :: bs) m)) (hr : Room k X.A) (hb : Binds X.K fd ps []) (ho : DR X E G b mb) (ha : DAM X E G bs (a :: es) ms)
    (hst : starEach (a :: es) X.env = (false, eval a X.env) :: starEach es X.env := by rfl) (hpl : (backTo pos (starEach es X.env)).any (·.1) = false := by rfl)
    (ht : eval (.Call (.Attribute b (Str.ofString mn) apos) (a :: es) [] pos) X.env = (do
      let ov ← eval b X.env
      standAt apos.atName
      let (f, first) ← holding [ov] (getMethod ov (Str.ofString mn) pl)
      callWith pos f first (backTo pos (starEach (a :: es) X.env)) (backToKw pos (keywordEach [] X.env))) := by rfl) :
    DE X E G (.Call (.Attribute b (Str.ofString mn) apos) (a :: es) [] pos) (mb >>= fun x => D.recv c mn x >>= fun x => ms >>= fun l => m (x :: l)) := by
  obtain ⟨t1, p1, w1⟩ := ho
  obtain ⟨t2, p2, w2⟩ := ha
  refine ⟨_, pe_methS p1 hC hM F hr hb .nil cx.pass p2 hst hpl ht, fun B σ F H Q s g q => w1 B σ F H _ s g (WpG.bind q fun x F1 H1 v x1 r1 k1 => ?_)⟩
  cases x with
  | ins c' l =>
    have k1 : WpG X.K (E σ) (rE X.K) (need (decide (c' = c) && (l.lookup mn).isNone) >>= fun _ => ms >>= fun l' => m (.ins c' l :: l')) F1 H1 Q := by
      have e : (D.recv c mn (.ins c' l) >>= fun x => ms >>= fun l => m (x :: l)) = (need (decide (c' = c) && (l.lookup mn).isNone) >>= fun _ => ms >>= fun l' => m (.ins c' l :: l')) := need_ok
      rw [← e]
      exact k1
    obtain ⟨h, k2⟩ := WpG.need k1
    clear k1
    obtain ⟨h1, h2⟩ := and2 h
    have h1 := of_decide_eq_true h1
    subst h1
    obtain ⟨p, dx, fs, rfl, e1, e2, r⟩ := r1.ins x1.sFH
    refine ⟨p, dx, fs, rfl, e1, ?_, w2 B σ F1 H1 _ x1.sFH (g.ext x1) (WpG.bind k2 fun l' F2 H2 vs x2 r2 k3 => ?_)⟩
    · rcases field_look (f := mn) e2 r with ⟨n1, n2⟩ | ⟨d, v, l1, l2, r2⟩
      · exact n2
      · rw [l1] at h2
        cases h2
    · show spD X.K (true :: bs) m (.ref p :: (vs ++ [])) H2 Q (E σ)
      rw [List.append_nil]
      exact ⟨F2, _, x2.sFH, .bor (r1.ext x2) r2, k3⟩
  | _ => exact k1.elim
def D.isIns (c : String) : D → M D
  | .ins c' l => do need (decide (c' = c)); .ok (.ins c' l)
  | _ => stuck
theorem de_prop {k : Nat} {p g : Addr} {fd : FuncData} {ps : List Str} {m : List D → M D} {c f : String} (hC : Cls X.K (He.ga X.K (Str.ofString c))) (hP : PropOf X.K (He.ga X.K (Str.ofString c)) (Str.ofString f) p g)
    (F : FnOk X.prog X.w X.K X.mg X.base (L2.CX X.prog X.w) k g fd ps (spD X.K [true] m)) (hr : Room (k + 1) X.A) (hb : Binds X.K fd ps []) (ho : DR X E G b mb) (hE : ∀ l, ∀ x, m l ≠ .error (.exc x))
    (hab : attributeBase b (Str.ofString f) X.env (eval b X.env) = eval b X.env := by rfl) : DE X E G (.Attribute b (Str.ofString f) pos) (mb >>= fun x => D.isIns c x >>= fun x => m [x]) := by
  obtain ⟨t1, p1, w1⟩ := ho
  refine ⟨_, pe_prop p1 hC hP F hr hb .nil (passL (X := X.nox)) hab, fun B σ F H Q s g q => w1 B σ F H _ s g (WpG.bind q fun x F1 H1 v x1 r1 k1 => ?_)⟩
  cases x with
  | ins c' l =>
    have k1 : WpG X.K (E σ) (rE X.K) (need (decide (c' = c)) >>= fun _ => m [.ins c' l]) F1 H1 Q := by
      have e : (D.isIns c (.ins c' l) >>= fun x => m [x]) = (need (decide (c' = c)) >>= fun _ => m [.ins c' l]) := need_ok
      rw [← e]
      exact k1
    obtain ⟨h1, k2⟩ := WpG.need k1
    clear k1
    have h1 := of_decide_eq_true h1
    subst h1
    obtain ⟨p, dx, fs, rfl, e1, e2, r⟩ := r1.ins x1.sFH
    have k1 : WpG X.K (E σ) (rE X.K) (m [.ins c' l]) F1 H1 Q := k2
    refine ⟨p, dx, fs, rfl, e1, F1, _, x1.sFH, .bor r1 .nil, ?_⟩
    cases em : m [.ins c' l] with
    | ok d =>
      rw [em] at k1
      exact fun F' H' v x r => k1 F' H' v x r
    | error er => cases er with
      | stuck =>
        rw [em] at k1
        exact k1.elim
      | exc y => exact absurd em (hE _ _)
  | _ => exact k1.elim

theorem pts_no {b : D → M (List Sl)} : PTs X [] (tTst X.K b fun _ => .ok true) := ⟨fun pins s σ H Q I ⟨d, G', B, F, _, sm, _, q⟩ => pts_nil.run pins s σ H Q I (q F H _ (Ext.refl sm) rfl)⟩
theorem pts_if {b : D → M (List Sl)} {mt : D → M Bool} (h : ∀ d G', b d = .ok G' → DT X EN G' c (mt d)) : PTs X [c] (tTst X.K b mt) :=
  ⟨fun pins s σ H Q I ⟨d, G', B, F, e, sm, g, q⟩ => (pts_one (h d G' e).canon).run pins s σ H Q I ⟨B, F, sm, g, q⟩⟩
theorem elt_of {b : D → M (List Sl)} {me : D → M D} (h : ∀ d G', b d = .ok G' → DE X EN G' e (me d)) : PE X e (tElt X.K b me) :=
  ⟨fun pins s σ H Q I ⟨d, G', B, F, e, sm, g, q⟩ => (h d G' e).canon.run pins s σ H Q I ⟨B, F, sm, g, q⟩⟩
theorem dn_lc1 {tg iter : Expr} {scope : Scope} {own : List (Str × Nat)} {i : Nat} {mi : M (List D)} {me : D → M D} (hc : X.calm = true) (hN : X.N.Nodup) (hi : DIR X E G tg iter mi) (ok : BlkOk X.N X.env.scope scope own) (ho : own.map (·.2) = [i])
    (hg : ∀ (s : Shared) (H : Hp) (C : Addr) (cl : List (Str × Addr)) (fp : List Addr), PG (X.blk s H scope (compEnvC scope cl C X.env) fp) tg (gName i))
    (he : ∀ (s : Shared) (H : Hp) (C : Addr) (cl : List (Str × Addr)) (fp : List Addr) (d : D), DE (X.blk s H scope (compEnvC scope cl C X.env) fp) EN ((G.set i .any).set i (.val d)) e (me d))
    (hs : ∀ x, foldedSetIterable iter X.env x = pure x := by intro _; rfl) : DNL X E G (.ListComp e [⟨tg, iter, [], 0⟩] scope pos) (mi >>= fun ds => compL (fElt (fun _ => .ok true) me) ds) := by
  refine dn_lc (b := fun d => .ok ((G.set i .any).set i (.val d))) hc hN hi ok hg (fun x v B σ F H Q s g r k => ?_) (fun s H C cl fp => pts_no) (fun s H C cl fp => elt_of fun d G' e => ?_) (fun d y _ => ⟨_, rfl⟩) hs
  · obtain ⟨G', e, k⟩ := k
    cases e
    rw [ho] at g k
    exact k _ (g.set r) (fun j hj => List.getElem?_set_ne fun z => hj (by simp [z])) (by rw [List.length_set])
  · cases e
    exact he s H C cl fp d
theorem dn_lc2 {tg iter : Expr} {scope : Scope} {own : List (Str × Nat)} {i : Nat} {mi : M (List D)} {mt : D → M Bool} {me : D → M D} (hc : X.calm = true) (hN : X.N.Nodup) (hi : DIR X E G tg iter mi) (ok : BlkOk X.N X.env.scope scope own) (ho : own.map (·.2) = [i])
    (hg : ∀ (s : Shared) (H : Hp) (C : Addr) (cl : List (Str × Addr)) (fp : List Addr), PG (X.blk s H scope (compEnvC scope cl C X.env) fp) tg (gName i))
    (ht : ∀ (s : Shared) (H : Hp) (C : Addr) (cl : List (Str × Addr)) (fp : List Addr) (d : D), DT (X.blk s H scope (compEnvC scope cl C X.env) fp) EN ((G.set i .any).set i (.val d)) c (mt d))
    (he : ∀ (s : Shared) (H : Hp) (C : Addr) (cl : List (Str × Addr)) (fp : List Addr) (d : D), DE (X.blk s H scope (compEnvC scope cl C X.env) fp) EN ((G.set i .any).set i (.val d)) e (me d))
    (hs : ∀ x, foldedSetIterable iter X.env x = pure x := by intro _; rfl) : DNL X E G (.ListComp e [⟨tg, iter, [c], 0⟩] scope pos) (mi >>= fun ds => compL (fElt mt me) ds) := by
  refine dn_lc (b := fun d => .ok ((G.set i .any).set i (.val d))) hc hN hi ok hg (fun x v B σ F H Q s g r k => ?_) (fun s H C cl fp => pts_if fun d G' e => ?_) (fun s H C cl fp => elt_of fun d G' e => ?_) (fun d y _ => ⟨_, rfl⟩) hs
  · obtain ⟨G', e, k⟩ := k
    cases e
    rw [ho] at g k
    exact k _ (g.set r) (fun j hj => List.getElem?_set_ne fun z => hj (by simp [z])) (by rw [List.length_set])
  · cases e
    exact ht s H C cl fp d
  · cases e
    exact he s H C cl fp d
theorem ds_for1 {E₁ : XK} {S : Type} {tg iter : Expr} {mi : M (List D)} {i : Nat} {Γ : S → List Sl} {f : S → D → M S} (s0 : S) (hG : G = Γ s0) (cx : CtxOk X (cE E₁)) (hi : DI X (cE E₁) G tg iter mi) (pg : PG X tg (gName i))
    (hb : ∀ s d, DB X E₁ ((Γ s).set i (.val d)) body (f s d) (fun s => .nx (Γ s))) (hs : ∀ x, foldedSetIterable iter X.env x = pure x := by intro _; rfl) : DS X E₁ G (.For tg iter body [] pos) (mi >>= fun ds => loopF f ds s0) (fun s => .nx (Γ s)) :=
  ds_forF (vs := [i]) (bnd := fun s d => .ok ((Γ s).set i (.val d))) s0 hG cx.own cx.calm hi pg (fun s x v B σ F H Q sm g r ⟨G', e, k⟩ => by
    cases e
    exact k _ (g.set r) (fun j hj => List.getElem?_set_ne fun z => hj (by simp [z])) (by rw [List.length_set])) (fun _ _ _ _ => ⟨_, rfl⟩) (fun _ _ _ _ => ⟨_, rfl⟩) (fun s d G' e => by
    cases e
    exact hb s d) hs
theorem ds_for1R {E₁ : XK} {S : Type} {tg iter : Expr} {mi : M (List D)} {i : Nat} {Γ : S → List Sl} {f : S → D → M (Rs S)} (s0 : S) (hG : G = Γ s0) (cx : CtxOk X (cE E₁)) (hi : DI X (cE E₁) G tg iter mi) (pg : PG X tg (gName i))
    (hb : ∀ s d, DB X E₁ ((Γ s).set i (.val d)) body (f s d) (Rs.oc Γ)) (hs : ∀ x, foldedSetIterable iter X.env x = pure x := by intro _; rfl) : DS X E₁ G (.For tg iter body [] pos) (mi >>= fun ds => loopR f ds s0) (sumOc Γ) :=
  ds_forR (vs := [i]) (bnd := fun s d => .ok ((Γ s).set i (.val d))) s0 hG cx.own cx.calm hi pg (fun s x v B σ F H Q sm g r ⟨G', e, k⟩ => by
    cases e
    exact k _ (g.set r) (fun j hj => List.getElem?_set_ne fun z => hj (by simp [z])) (by rw [List.length_set])) (fun _ _ _ _ => ⟨_, rfl⟩) (fun _ _ _ _ => ⟨_, rfl⟩) (fun s d G' e => by
    cases e
    exact hb s d) hs
def on2 {α : Type} (f : D → D → M α) : D → M α
  | .tup [a, b] => f a b
  | _ => stuck
theorem on2_not {α : Type} {f : D → D → M α} {d : D} (h : on2 f d ≠ stuck) : ∃ a b, d = .tup [a, b] := by
  unfold on2 at h
  split at h
  · exact ⟨_, _, rfl⟩
  · exact absurd rfl h
theorem ds_for2 {E₁ : XK} {S : Type} {tg iter : Expr} {mi : M (List D)} {i j : Nat} {Γ : S → List Sl} {f : S → D → D → M S} (s0 : S) (hG : G = Γ s0) (cx : CtxOk X (cE E₁)) (hi : DI X (cE E₁) G tg iter mi) (pg : PG X tg (gTup X.K 2 (gNames [i, j])))
    (hb : ∀ s d1 d2, DB X E₁ (((Γ s).set i (.val d1)).set j (.val d2)) body (f s d1 d2) (fun s => .nx (Γ s))) (hs : ∀ x, foldedSetIterable iter X.env x = pure x := by intro _; rfl) : DS X E₁ G (.For tg iter body [] pos) (mi >>= fun ds => loopF (fun s => on2 (f s)) ds s0) (fun s => .nx (Γ s)) :=
  ds_forF (vs := [i, j]) (bnd := fun s d => bindTup (Γ s) [i, j] d) s0 hG cx.own cx.calm hi pg (fun s x v B σ F H Q sm g r ⟨G', e, k⟩ => by
    cases x with
    | tup ds => cases r with
      | tup h hs => exact ⟨_, _, rfl, Same.seqT sm h, by rw [hs.length, setAll_len e]; rfl, gNames_run sm g hs e k⟩
    | _ => cases e) (fun s d r e => by
    obtain ⟨a, b, rfl⟩ := on2_not (f := f s) (d := d) (by rw [e]; exact fun z => nomatch z)
    exact ⟨_, rfl⟩) (fun s d r e => by
    obtain ⟨a, b, rfl⟩ := on2_not (f := f s) (d := d) (by rw [e]; exact fun z => nomatch z)
    exact ⟨_, rfl⟩) (fun s d G' e => by
    cases d with
    | tup ds => match ds, e with
      | [], e => cases e
      | [_], e => cases e
      | [a, b], e =>
        cases e
        exact hb s a b
      | _ :: _ :: _ :: _, e => cases e
    | _ => cases e) hs
theorem ds_for2R {E₁ : XK} {S : Type} {tg iter : Expr} {mi : M (List D)} {i j : Nat} {Γ : S → List Sl} {f : S → D → D → M (Rs S)} (s0 : S) (hG : G = Γ s0) (cx : CtxOk X (cE E₁)) (hi : DI X (cE E₁) G tg iter mi) (pg : PG X tg (gTup X.K 2 (gNames [i, j])))
    (hb : ∀ s d1 d2, DB X E₁ (((Γ s).set i (.val d1)).set j (.val d2)) body (f s d1 d2) (Rs.oc Γ)) (hs : ∀ x, foldedSetIterable iter X.env x = pure x := by intro _; rfl) : DS X E₁ G (.For tg iter body [] pos) (mi >>= fun ds => loopR (fun s => on2 (f s)) ds s0) (sumOc Γ) :=
  ds_forR (vs := [i, j]) (bnd := fun s d => bindTup (Γ s) [i, j] d) s0 hG cx.own cx.calm hi pg (fun s x v B σ F H Q sm g r ⟨G', e, k⟩ => by
    cases x with
    | tup ds => cases r with
      | tup h hs => exact ⟨_, _, rfl, Same.seqT sm h, by rw [hs.length, setAll_len e]; rfl, gNames_run sm g hs e k⟩
    | _ => cases e) (fun s d r e => by
    obtain ⟨a, b, rfl⟩ := on2_not (f := f s) (d := d) (by rw [e]; exact fun z => nomatch z)
    exact ⟨_, rfl⟩) (fun s d r e => by
    obtain ⟨a, b, rfl⟩ := on2_not (f := f s) (d := d) (by rw [e]; exact fun z => nomatch z)
    exact ⟨_, rfl⟩) (fun s d G' e => by
    cases d with
    | tup ds => match ds, e with
      | [], e => cases e
      | [_], e => cases e
      | [a, b], e =>
        cases e
        exact hb s a b
      | _ :: _ :: _ :: _, e => cases e
    | _ => cases e) hs
theorem dn_lcT {tg iter : Expr} {scope : Scope} {own : List (Str × Nat)} {i j : Nat} {mi : M (List D)} {me : D → D → M D} (hc : X.calm = true) (hN : X.N.Nodup) (hi : DIR X E G tg iter mi) (ok : BlkOk X.N X.env.scope scope own) (ho : own.map (·.2) = [i, j])
    (hg : ∀ (s : Shared) (H : Hp) (C : Addr) (cl : List (Str × Addr)) (fp : List Addr), PG (X.blk s H scope (compEnvC scope cl C X.env) fp) tg (gTup X.K 2 (gNames [i, j])))
    (he : ∀ (s : Shared) (H : Hp) (C : Addr) (cl : List (Str × Addr)) (fp : List Addr) (d1 d2 : D), DE (X.blk s H scope (compEnvC scope cl C X.env) fp) EN (((wipeG G [i, j]).set i (.val d1)).set j (.val d2)) e (me d1 d2))
    (hs : ∀ x, foldedSetIterable iter X.env x = pure x := by intro _; rfl) : DNL X E G (.ListComp e [⟨tg, iter, [], 0⟩] scope pos) (mi >>= fun ds => compL (fElt (fun _ => .ok true) (on2 me)) ds) := by
  refine dn_lc (b := fun d => bindTup (wipeG G [i, j]) [i, j] d) hc hN hi ok hg (fun x v B σ F H Q s g r k => ?_) (fun s H C cl fp => pts_no) (fun s H C cl fp => elt_of fun d G' e => ?_) (fun d y e => ?_) hs
  · obtain ⟨G', e, k⟩ := k
    rw [ho] at g k
    cases x with
    | tup ds => cases r with
      | tup h hs => exact ⟨_, _, rfl, Same.seqT s h, by rw [hs.length, setAll_len e]; rfl, gNames_run s g hs e k⟩
    | _ => cases e
  · cases d with
    | tup ds => match ds, e with
      | [], e => cases e
      | [_], e => cases e
      | [a, b], e =>
        cases e
        exact he s H C cl fp a b
      | _ :: _ :: _ :: _, e => cases e
    | _ => cases e
  · have q : ∃ a b, d = .tup [a, b] := by
      refine on2_not (f := me) (d := d) fun z => ?_
      have e : (on2 me d >>= fun y => (.ok (some y) : M (Option D))) = .ok y := e
      rw [z] at e
      cases e
    obtain ⟨a, b, rfl⟩ := q
    exact ⟨_, rfl⟩
end
end DL

set_option Elab.async false
set_option linter.all false
set_option maxRecDepth 100000
set_option maxHeartbeats 4000000
namespace DL
open PySem PySem.Spec L2

theorem _root_.L2.Room.u70 {k : Nat} {A : Around} (r : Room k A) : A.units + 70 < cLine := by have := r.un; omega
theorem _root_.L2.Room.u64 {k : Nat} {A : Around} (r : Room k A) : A.units + 64 < cLine := by have := r.un; omega
@[simp] abbrev B2 {α β γ : Type} (f : α → β → M γ) (a : M α) (b : M β) : M γ := a >>= fun x => b >>= fun y => f x y
@[simp] abbrev B1 {α γ : Type} (f : α → M γ) (a : M α) : M γ := a >>= fun x => f x
@[simp] abbrev A0 : M (List D) := .ok []
@[simp] abbrev A1 (a : M D) (r : M (List D)) : M (List D) := a >>= fun x => r >>= fun xs => .ok (x :: xs)
@[simp] abbrev mIf {α : Type} (c : M Bool) (a b : M α) : M α := c >>= fun x => if x = true then a else b
@[simp] abbrev mAnd (a b : M Bool) : M Bool := a >>= fun x => if x = true then b else .ok false
@[simp] abbrev mOr (a b : M Bool) : M Bool := a >>= fun x => if x = true then .ok true else b
@[simp] abbrev mNot (a : M Bool) : M Bool := a >>= fun x => .ok (!x)
@[simp] abbrev vAnd (a b : M D) : M D := a >>= fun x => D.tru x >>= fun k => if k = true then b else .ok x
@[simp] abbrev vOr (a b : M D) : M D := a >>= fun x => D.tru x >>= fun k => if k = true then .ok x else b
@[simp] abbrev vNot (a : M D) : M D := a >>= fun x => D.tru x >>= fun k => .ok (.bl (!k))
@[simp] abbrev C2 (f : D → D → M Bool) (a b : M D) : M D := a >>= fun x => b >>= fun y => bD (f x y)
@[simp] abbrev C3 (f g : D → D → M Bool) (a b c : M D) : M D := a >>= fun x => b >>= fun y => f x y >>= fun k => if k = true then c >>= fun z => bD (g y z) else .ok (.bl false)
@[simp] abbrev T3 (f g : D → D → M Bool) (a b c : M D) : M Bool := a >>= fun x => b >>= fun y => f x y >>= fun k => if k = true then c >>= fun z => g y z else .ok false
@[simp] abbrev S3 (a : M D) (l h : M (Option Int)) : M D := a >>= fun x => l >>= fun l => h >>= fun h => D.sl x l h
@[simp] abbrev L1 (m : M (List D)) : M D := m >>= fun l => .ok (.lst l)
@[simp] abbrev oN : M (Option Int) := .ok none
@[simp] abbrev mPush (l : List D) (m : M D) : M (List D) := m >>= fun d => need (decide (l.length < sizeLine)) >>= fun _ => .ok (l ++ [d])
@[simp] abbrev mkIns (c : String) (m : List D → M (List (String × D))) (a : M (List D)) : M D := a >>= fun l => m l >>= fun l => .ok (.ins c l)
@[simp] abbrev noT : D → M Bool := fun _ => .ok true
@[simp] abbrev nLst (m : M (List D)) : M (List D) := m >>= fun l => need (decide (l.length ≤ sizeLine)) >>= fun _ => .ok l
abbrev nList (m : M (List D)) : M (List D) := m >>= fun l => match l with | [.lst l] => .ok l | [.tup l] => .ok l | _ => stuck
@[simp] def a1 {α : Type} (f : D → M α) : List D → M α
  | [a] => f a
  | _ => stuck
@[simp] def a2 {α : Type} (f : D → D → M α) : List D → M α
  | [a, b] => f a b
  | _ => stuck
@[simp] def a3 {α : Type} (f : D → D → D → M α) : List D → M α
  | [a, b, c] => f a b c
  | _ => stuck
@[simp] def a4 {α : Type} (f : D → D → D → D → M α) : List D → M α
  | [a, b, c, d] => f a b c d
  | _ => stuck
@[simp] def a5 {α : Type} (f : D → D → D → D → D → M α) : List D → M α
  | [a, b, c, d, e] => f a b c d e
  | _ => stuck
@[simp] def a6 {α : Type} (f : D → D → D → D → D → D → M α) : List D → M α
  | [a, b, c, d, e, g] => f a b c d e g
  | _ => stuck
section
variable {X : Cx} {E : XK} {G : List Sl} {a b c e : Expr} {ma mb mc : M D} {ta tb : M Bool} {pos : Pos} {F H : Hp} {st : Stmt} {rest body : List Stmt}
theorem dr_val {E₁ : St → XK} {i : Nat} {d : D} {x : Str} (h : G[i]? = some (.val d)) (p : PE X (.Name x pos) (tVar i)) : DR X E₁ G (.Name x pos) (.ok d) := dr_var h p
theorem dr_own {E₁ : St → XK} {i : Nat} {l : List D} {x : Str} (h : G[i]? = some (.own l)) (p : PE X (.Name x pos) (tVar i)) : DR X E₁ G (.Name x pos) (.ok (.lst l)) := dr_var h p
theorem dr_ownd {E₁ : St → XK} {i : Nat} {l : List (D × D)} {x : Str} (h : G[i]? = some (.ownd l)) (p : PE X (.Name x pos) (tVar i)) : DR X E₁ G (.Name x pos) (.ok (.dct l)) := dr_var h p
theorem dr_bor {E₁ : St → XK} {i : Nat} {d : D} {x : Str} (h : G[i]? = some (.bor d)) (p : PE X (.Name x pos) (tVar i)) : DR X E₁ G (.Name x pos) (.ok d) := dr_var h p
theorem dr_obj {E₁ : St → XK} {i : Nat} {l : List (String × D)} {x : Str} {a : Addr} {c : String} (h : G[i]? = some (.obj a c l)) (p : PE X (.Name x pos) (tVar i)) : DR X E₁ G (.Name x pos) (.ok (.ins c l)) := dr_var h p
theorem de_gintE {E₁ : St → XK} {x : Str} {i : Int} (hg : Gl X x) (hm : ∃ t, X.mg x = some (.int i t)) (hd : (x == ("__debug__" : Str)) = false := by decide) : DE X E₁ G (.Name x pos) (.ok (.int i)) := let ⟨_, h⟩ := hm; de_gint hg h hd
theorem de_gstrE {E₁ : St → XK} {x z : Str} (hg : Gl X x) (hm : ∃ t, X.mg x = some (.str z t)) (hz : PyData.strOk z = true := by decide) (hd : (x == ("__debug__" : Str)) = false := by decide) : DE X E₁ G (.Name x pos) (.ok (.str z)) := let ⟨_, h⟩ := hm; de_gstr hg h hz hd
theorem DNL.de {E₁ : St → XK} {m : M (List D)} (h : DNL X E₁ G e m) : DE X E₁ G e (m >>= fun l => .ok (.lst l)) := h.dn.de

theorem db_step {α β : Type} {m1 : M β} {G1 : β → List Sl} (G2 : β → List Sl) {k : β → M α} {post : α → Oc} (h1 : DS X E G st m1 (fun j => .nx (G1 j))) (e : ∀ j, G1 j = G2 j) (h2 : ∀ j, DB X E (G2 j) rest (k j) post) : DB X E G (st :: rest) (m1 >>= k) post :=
  db_then h1 fun j => by
    rw [e j]
    exact h2 j
theorem db_G {α : Type} (G2 : List Sl) {m : M α} {post : α → Oc} (e : G = G2) (h : DB X E G2 body m post) : DB X E G body m post := by
  rw [e]
  exact h
theorem db_fzO {α : Type} (i : Nat) {l : List D} {m : M α} {post : α → Oc} (hs : G[i]? = some (.own l)) (h : DB X E (G.set i (.val (.lst l))) body m post) : DB X E G body m post := db_fz hs h
theorem ds_pushO {x : Str} {i : Nat} {l : List D} {p1 p2 p3 : Pos} {m : M D} (hs : G[i]? = some (.own l)) (pv : PE X (.Name x p1) (tVar i)) (h : DE X (cE E) G e m)
    (hfew : ((backTo p3 (starEach [e] X.env)).all (fun x => !x.1) && (backToKw p3 (keywordEach [] X.env)).all (fun x => x.1.isSome)
      && decide (([e] : List Expr).length + ([] : List Keyword).length + (if ([] : List Keyword).isEmpty then 0 else 1) < 30)) = true := by rfl)
    (hbase : attributeBase (.Name x p1) "append" X.env (eval (.Name x p1) X.env) = eval (.Name x p1) X.env := by rfl)
    (hline : (p2.endLine == p3.line) = true := by rfl) (hst : starEach [e] X.env = (false, eval e X.env) :: starEach [] X.env := by rfl) (hplain : (backTo p3 (starEach [] X.env)).any (·.1) = false := by rfl) :
    DS X E G (.Expr (.Call (.Attribute (.Name x p1) "append" p2) [e] [] p3) pos) (m >>= fun d => need (decide (l.length < sizeLine)) >>= fun _ => .ok (l ++ [d])) (fun l' => .nx (G.set i (.own l'))) := by
  obtain ⟨t, ps, w⟩ := ds_push hs pv h hfew hbase hline hst hplain
  refine ⟨t, ps, fun B0 B σ F H D x0 g q => w B0 B σ F H D x0 g ?_⟩
  show WpB X.K E B0 B (fun s' => .nx (G.set i s')) (m >>= fun d => need (decide (l.length < sizeLine)) >>= fun _ => .ok (.own (l ++ [d]))) F D
  cases m with
  | error er => cases er with
    | stuck => exact q.elim
    | exc y => exact q
  | ok d =>
    have q : WpB X.K E B0 B (fun l' => .nx (G.set i (.own l'))) (need (decide (l.length < sizeLine)) >>= fun _ => .ok (l ++ [d])) F D := q
    show WpB X.K E B0 B (fun s' => .nx (G.set i s')) (need (decide (l.length < sizeLine)) >>= fun _ => .ok (.own (l ++ [d]))) F D
    cases hd : decide (l.length < sizeLine) with
    | false =>
      exfalso
      rw [hd] at q
      exact q
    | true =>
      rw [hd] at q
      exact q
theorem ds_setLc {i : Nat} {y : Str} {py : Pos} {m : M (List D)} (h : DNL X (cE E) G e m) (hy : X.N[i]? = some y) (hl : X.env.scope.names.lookup y = some .local) (hs : swapsWith e (some (.Name y py)) pos.line X.env = pure true) :
    DS X E G (.Assign [.Name y py] e pos) (m >>= fun l => .ok (.lst l)) (fun d => .nx (G.set i (.val d))) := by
  obtain ⟨t, _, ps, w⟩ := h
  refine ⟨_, ps hy hl hs, fun B0 B σ F H D x0 g q => w B σ F H _ x0.sFH g ?_⟩
  cases m with
  | ok l =>
    intro F' H' v x ⟨p, xs, ev, n, h, nf, r⟩
    subst ev
    exact q.ok _ _ H' (x.freeze n h nf).sF (x0.trans (x.freeze n h nf)) ((g.ext (x.freeze n h nf)).set (.lst upd_same (r.mono (same_new nf))))
  | error er => cases er with
    | stuck => exact q.elim
    | exc y => exact fun F' H' c d x r => q F' H' c d x.sF (x0.trans x) r
@[simp] def un2 {α : Type} (k : D → D → M α) : D → M α
  | .tup [a, b] => k a b
  | .lst [a, b] => k a b
  | _ => stuck
@[simp] def un3 {α : Type} (k : D → D → D → M α) : D → M α
  | .tup [a, b, c] => k a b c
  | .lst [a, b, c] => k a b c
  | _ => stuck
@[simp] def un4 {α : Type} (k : D → D → D → D → M α) : D → M α
  | .tup [a, b, c, d] => k a b c d
  | .lst [a, b, c, d] => k a b c d
  | _ => stuck
@[simp] def un5 {α : Type} (k : D → D → D → D → D → M α) : D → M α
  | .tup [a, b, c, d, e] => k a b c d e
  | .lst [a, b, c, d, e] => k a b c d e
  | _ => stuck
@[simp] def un6 {α : Type} (k : D → D → D → D → D → D → M α) : D → M α
  | .tup [a, b, c, d, e, f] => k a b c d e f
  | .lst [a, b, c, d, e, f] => k a b c d e f
  | _ => stuck
theorem un6_kk {α : Type} {k : D → D → D → D → D → D → M α} : ∀ ds : List D, ds.length = 6 → un6 k (.tup ds) = un6 k (.lst ds)
  | [], h => absurd h (by simp)
  | [_], h => absurd h (by simp)
  | [_, _], h => absurd h (by simp)
  | [_, _, _], h => absurd h (by simp)
  | [_, _, _, _], h => absurd h (by simp)
  | [_, _, _, _, _], h => absurd h (by simp)
  | [_, _, _, _, _, _], _ => rfl
  | _ :: _ :: _ :: _ :: _ :: _ :: _ :: _, h => absurd h (by simp only [List.length_cons]; omega)
theorem db_tup {α : Type} {tg : Expr} {is : List Nat} {n : Nat} {m : M D} {k : D → M α} {post : α → Oc} (h : DE X (cE E) G e m) (hn : is.length = n) (p : PG X tg (gSeq X.K n (gNames is)))
    (hs : swapsWithSole [tg] e pos.line X.env = pure false) (hw : swappedStores [tg] e X.env = pure none) (h1 : (assignEach [tg] X.env).map (·.2) = [assign tg X.env])
    (hk : ∀ d, (∃ ds, (d = .tup ds ∨ d = .lst ds) ∧ ds.length = n ∧ DB X E (setT G is ds) rest (k d) post) ∨ k d = stuck) (hkk : ∀ ds, ds.length = n → k (.tup ds) = k (.lst ds)) : DB X E G (.Assign [tg] e pos :: rest) (m >>= k) post := by
  have q := ds_tup (pos := pos) (tg := tg) (is := is) (n := n) h hn (fun {te} pe => ps_asg pe p hs hw h1)
  have stk : ∀ l : List D, ¬ l.length = n → k (.tup l) = stuck ∧ k (.lst l) = stuck := fun l hl => by
    refine ⟨?_, ?_⟩
    · rcases hk (.tup l) with ⟨ds, e1, e2, _⟩ | e1
      · rcases e1 with e1 | e1
        · cases e1
          exact absurd e2 hl
        · cases e1
      · exact e1
    · rcases hk (.lst l) with ⟨ds, e1, e2, _⟩ | e1
      · rcases e1 with e1 | e1
        · cases e1
        · cases e1
          exact absurd e2 hl
      · exact e1
  have eq : (m >>= k) = ((m >>= fun d => D.un n d) >>= fun ds => if ds.length = n then k (.tup ds) else stuck) := by
    cases m with
    | error er => rfl
    | ok d =>
      show k d = (D.un n d >>= fun ds => if ds.length = n then k (.tup ds) else stuck)
      cases d with
      | tup l =>
        show k (.tup l) = ((need (decide (l.length = n)) >>= fun _ => .ok l) >>= fun ds => if ds.length = n then k (.tup ds) else stuck)
        by_cases hl : l.length = n
        · rw [decide_eq_true hl]
          show _ = (if l.length = n then k (.tup l) else stuck)
          rw [if_pos hl]
        · rw [decide_eq_false hl]
          exact (stk l hl).1
      | lst l =>
        show k (.lst l) = ((need (decide (l.length = n)) >>= fun _ => .ok l) >>= fun ds => if ds.length = n then k (.tup ds) else stuck)
        by_cases hl : l.length = n
        · rw [decide_eq_true hl]
          show _ = (if l.length = n then k (.tup l) else stuck)
          rw [if_pos hl, hkk l hl]
        · rw [decide_eq_false hl]
          exact (stk l hl).2
      | _ =>
        refine Or.elim (hk _) (fun z => ?_) (fun z => z)
        obtain ⟨ds, e1, _⟩ := z
        rcases e1 with e1 | e1 <;> cases e1
  rw [eq]
  refine db_then q fun ds => ?_
  by_cases hl : ds.length = n
  · rw [if_pos hl]
    rcases hk (.tup ds) with ⟨ds', e1, e2, h⟩ | e1
    · rcases e1 with e1 | e1
      · cases e1
        exact h
      · cases e1
    · rw [e1]
      exact db_stuck
  · rw [if_neg hl]
    exact db_stuck
theorem db_un6' {α : Type} {tg : Expr} (is : List Nat) {m : M D} {k : D → D → D → D → D → D → M α} {post : α → Oc} (G2 : D → D → D → D → D → D → List Sl) (h : DE X (cE E) G e m) (hn : is.length = 6) (p : PG X tg (gSeq X.K 6 (gNames is)))
    (hs : swapsWithSole [tg] e pos.line X.env = pure false) (hw : swappedStores [tg] e X.env = pure none) (h1 : (assignEach [tg] X.env).map (·.2) = [assign tg X.env])
    (e2 : ∀ a b c d e f, setT G is [a, b, c, d, e, f] = G2 a b c d e f) (hk : ∀ a b c d e f, DB X E (G2 a b c d e f) rest (k a b c d e f) post) : DB X E G (.Assign [tg] e pos :: rest) (m >>= un6 k) post :=
  db_tup h hn p hs hw h1 (hkk := un6_kk) fun d => by
    unfold un6
    split
    · rename_i a b c d e f
      exact .inl ⟨[a, b, c, d, e, f], .inl rfl, rfl, by rw [e2]; exact hk a b c d e f⟩
    · rename_i a b c d e f
      exact .inl ⟨[a, b, c, d, e, f], .inr rfl, rfl, by rw [e2]; exact hk a b c d e f⟩
    · exact .inr rfl

@[simp] def Rx.thn {S S' T : Type} (r : Rx S' T) (k : S' → M (Rx S T)) : M (Rx S T) := match r with
  | .go s => k s
  | .ct t => .ok (.ct t)
  | .bk t => .ok (.bk t)
  | .rt d => .ok (.rt d)
@[simp] def Rx.fin {S' : Type} (r : Rx S' Empty) (k : S' → M D) : M D := match r with
  | .go s => k s
  | .rt d => .ok d
@[simp] def Rx.up {S T : Type} (r : Rx Empty T) : Rx S T := match r with
  | .ct t => .ct t
  | .bk t => .bk t
  | .rt d => .rt d
@[simp] def sThn {S S' T : Type} (r : S' ⊕ D) (k : S' → M (Rx S T)) : M (Rx S T) := match r with
  | .inl s => k s
  | .inr d => .ok (.rt d)
@[simp] def sFin {S' : Type} (r : S' ⊕ D) (k : S' → M D) : M D := match r with
  | .inl s => k s
  | .inr d => .ok d
theorem db_sumX {S S' T : Type} {Γ' : S' → List Sl} {Γ : S → List Sl} {Δ : T → List Sl} {m1 : M (S' ⊕ D)} {k : S' → M (Rx S T)} (h1 : DS X E G st m1 (sumOc Γ')) (h2 : ∀ s, DB X E (Γ' s) rest (k s) (Rx.oc Γ Δ)) :
    DB X E G (st :: rest) (m1 >>= fun r => sThn r k) (Rx.oc Γ Δ) := by
  refine db_cons h1 (fun j G' e => ?_) (fun j hj => ?_)
  · cases j with
    | inl s =>
      injection e with e
      rw [← e]
      exact h2 s
    | inr d => cases e
  · cases j with
    | inl s => exact absurd rfl (hj _)
    | inr d => exact ⟨_, rfl, rfl⟩
theorem db_sumF {S' : Type} {Γ' : S' → List Sl} {m1 : M (S' ⊕ D)} {k : S' → M D} (h1 : DS X E G st m1 (sumOc Γ')) (h2 : ∀ s, DB X E (Γ' s) rest (k s) .rt) :
    DB X E G (st :: rest) (m1 >>= fun r => sFin r k) .rt := by
  refine db_cons h1 (fun j G' e => ?_) (fun j hj => ?_)
  · cases j with
    | inl s =>
      injection e with e
      rw [← e]
      exact h2 s
    | inr d => cases e
  · cases j with
    | inl s => exact absurd rfl (hj _)
    | inr d => exact ⟨_, rfl, rfl⟩
theorem db_ifRt {S T : Type} {Γ : S → List Sl} {Δ : T → List Sl} {A : List Stmt} {mA : M D} {mc : M Bool} {mR : M (Rx S T)} (hc : DT X (cE E) G c mc) (hA : DB X E G A mA .rt) (hR : DB X E G rest mR (Rx.oc Γ Δ)) :
    DB X E G (.If c A [] pos :: rest) (mc >>= fun b => if b = true then mA >>= fun d => .ok (.rt d) else mR) (Rx.oc Γ Δ) :=
  db_ift (Rx.rt (S := S) (T := T)) hc hA (fun a G' e => by cases e) (fun a => rfl) hR
theorem db_ifRs {α : Type} {A : List Stmt} {mA : M Empty} {mc : M Bool} {mR : M α} {post : α → Oc} (hc : DT X (cE E) G c mc) (hA : DB X E G A mA (fun e => nomatch e)) (hR : DB X E G rest mR post) :
    DB X E G (.If c A [] pos :: rest) (mc >>= fun b => if b = true then mA >>= fun d => nomatch d else mR) post :=
  db_cast (db_ift (fun e : Empty => nomatch e) hc hA (fun a => nomatch a) (fun a => nomatch a) hR) (by
    congr 1
    funext b
    split
    · congr 1
      funext d
      cases d
    · rfl)
end
end DL

set_option Elab.async false
set_option linter.all false
set_option maxRecDepth 100000
set_option maxHeartbeats 4000000
namespace DL
open PySem PySem.Spec L2

theorem boot_len_ : bootBuiltins ("len" : Str) = some (.builtin "len") := by decide +kernel
theorem boot_abs_ : bootBuiltins ("abs" : Str) = some (.builtin "abs") := by decide +kernel
theorem boot_max_ : bootBuiltins ("max" : Str) = some (.builtin "max") := by decide +kernel
theorem boot_min_ : bootBuiltins ("min" : Str) = some (.builtin "min") := by decide +kernel
theorem boot_all_ : bootBuiltins ("all" : Str) = some (.builtin "all") := by decide +kernel
theorem boot_sorted_ : bootBuiltins ("sorted" : Str) = some (.builtin "sorted") := by decide +kernel
theorem boot_isinstance_ : bootBuiltins ("isinstance" : Str) = some (.builtin "isinstance") := by decide +kernel
theorem boot_int_ : bootBuiltins ("int" : Str) = some (.type "int") := by decide +kernel
theorem boot_str_ : bootBuiltins ("str" : Str) = some (.type "str") := by decide +kernel
theorem boot_list_ : bootBuiltins ("list" : Str) = some (.type "list") := by decide +kernel
theorem boot_tuple_ : bootBuiltins ("tuple" : Str) = some (.type "tuple") := by decide +kernel
theorem a1_ {α : Type} (f : D → M α) (a : D) : a1 f [a] = f a := rfl
theorem a2_ {α : Type} (f : D → D → M α) (a b : D) : a2 f [a, b] = f a b := rfl
theorem a3_ {α : Type} (f : D → D → D → M α) (a b c : D) : a3 f [a, b, c] = f a b c := rfl
theorem a6_ {α : Type} (f : D → D → D → D → D → D → M α) (a b c d e g : D) : a6 f [a, b, c, d, e, g] = f a b c d e g := rfl
def AllC (K : PySem.W.Frag) (f : String) : List String → Prop
  | [] => True
  | c :: cs => Cls K (He.ga K (Str.ofString c)) ∧ NoAttr K (He.ga K (Str.ofString c)) (Str.ofString f) ∧ AllC K f cs
theorem AllC.all {K : PySem.W.Frag} {f : String} : ∀ {cs : List String}, AllC K f cs → ∀ c ∈ cs, Cls K (He.ga K (Str.ofString c)) ∧ NoAttr K (He.ga K (Str.ofString c)) (Str.ofString f)
  | [], _, c, h => by cases h
  | d :: cs, ⟨h1, h2, h3⟩, c, h => by
    rcases List.mem_cons.mp h with rfl | h
    · exact ⟨h1, h2⟩
    · exact h3.all c h
section
variable {X : Cx} {E : XK} {G : List Sl} {a b c e : Expr} {ma mb mc : M D} {ta tb : M Bool} {pos : Pos} {F H : Hp} {st : Stmt} {rest body : List Stmt}
theorem pe_ty_ {T : String} {x : Str} (hg : Gl X x) (hm : X.mg x = none) (hv : bootBuiltins x = some (.type T)) (hn : x ≠ "__name__" := by decide) (hd : (x == ("__debug__" : Str)) = false := by decide) : PE X (.Name x pos) (tC (.ty T)) := pe_bltn hg hm hv rfl hn hd
theorem pe_cls_ {x : Str} {C : Addr} (hg : Gl X x) (hm : X.mg x = some (.ref C)) (hd : (x == ("__debug__" : Str)) = false := by decide) : PE X (.Name x pos) (tC (.ref C)) := pe_glob hg hm rfl hd
theorem dt_G {E₁ : St → XK} (G2 : List Sl) {m : M Bool} (h0 : G = G2) (h : DT X E₁ G2 e m) : DT X E₁ G e m := by
  rw [h0]
  exact h
@[simp] abbrev mField (f : String) (l : List (String × D)) (m : M D) : M (List (String × D)) := m >>= fun d => need (decide (l.length < 1000)) >>= fun _ => .ok (putD f d l)
theorem ds_fieldO {x : Str} {i : Nat} {a0 : Addr} {c f : String} {l : List (String × D)} {p1 p2 : Pos} {m : M D} (hs : G[i]? = some (.obj a0 c l)) (pv : PE X (.Name x p1) (tVar i)) (hc : Cls X.K (He.ga X.K (Str.ofString c)) ∧ NoAttr X.K (He.ga X.K (Str.ofString c)) (Str.ofString f)) (h : DE X (cE E) G e m)
    (hsw : swapsWith e (some (.Attribute (.Name x p1) (Str.ofString f) p2)) pos.line X.env = pure false) : DS X E G (.Assign [.Attribute (.Name x p1) (Str.ofString f) p2] e pos) (mField f l m) (fun l' => .nx (G.set i (.obj a0 c l'))) := by
  obtain ⟨t, ps, w⟩ := ds_field hs pv hc h hsw
  refine ⟨t, ps, fun B0 B σ F H D x0 g q => w B0 B σ F H D x0 g ?_⟩
  show WpB X.K E B0 B (fun s' => .nx (G.set i s')) (m >>= fun d => need (decide (l.length < 1000)) >>= fun _ => .ok (.obj a0 c (putD f d l))) F D
  cases m with
  | error er => cases er with
    | stuck => exact q.elim
    | exc y => exact q
  | ok d =>
    have q : WpB X.K E B0 B (fun l' => .nx (G.set i (.obj a0 c l'))) (need (decide (l.length < 1000)) >>= fun _ => .ok (putD f d l)) F D := q
    show WpB X.K E B0 B (fun s' => .nx (G.set i s')) (need (decide (l.length < 1000)) >>= fun _ => .ok (.obj a0 c (putD f d l))) F D
    cases hd : decide (l.length < 1000) with
    | false =>
      exfalso
      rw [hd] at q
      exact q
    | true =>
      rw [hd] at q
      exact q
end
@[simp] abbrev mMeth (c mn : String) (m : List D → M D) (a : M D) (ms : M (List D)) : M D := a >>= fun x => D.recv c mn x >>= fun x => ms >>= fun l => m (x :: l)
@[simp] abbrev mMeth0 (c mn : String) (m : List D → M D) (a : M D) : M D := a >>= fun x => D.recv c mn x >>= fun x => m [x]
def CXA (P : Program) : CXT := fun outer H s E u s' => ∃ w, L2.CX P w outer H s E u s'
theorem CXA.no {P : Program} {H : Hp} {s : Shared} {e : Value} {s' : Shared} (h : CXA P [] H s (fun _ _ _ => False) e s') : False := by
  obtain ⟨w, a, B, H', cls, d, h⟩ := h
  exact h.2.2.2.2.2.2.2
theorem fn_any {P : Program} {w : World} {K : PySem.W.Frag} {mg : Str → Option Value} {base : Heap} {k : Nat} {f : Addr} {fd : FuncData} {ps : List Str} {sp : Sp} (F : FnOk P w K mg base (L2.CX P w) k f fd ps sp) : FnOk P w K mg base (CXA P) k f fd ps sp :=
  ⟨F.len, fun A outer s H args us vs Q E h1 h2 h3 h4 h5 => codeAny_mono (F.run A outer s H args us vs Q E h1 h2 h3 h4 h5) fun r s' h => by
    cases r with
    | ok o => cases o with
      | ret u => exact h
      | _ => exact h.elim
    | error e => exact ⟨w, h⟩⟩
def insB (K : PySem.W.Frag) (C : Addr) : Bool := decide (PySem.W.findIn K (.ref C) "__class__" = some (some (.builtin "object.__class__"))) && (decide (PySem.W.specialIn K (.builtin "object.__class__") "__get__" = some (some (.builtin "getset_descriptor.__get__"))) &&
  (decide (PySem.W.takesIn K (.builtin "object.__class__") = some true) && (decide (PySem.W.mroIn K C (.type "object") = some true) && decide (PySem.W.kitOne K (.ref C) (.ref C) = some true))))
end DL

set_option Elab.async false
set_option linter.all false
set_option maxRecDepth 100000
set_option maxHeartbeats 4000000
namespace PySem.W
open PySem PySem.Calls PyProof.Rows
section
variable {prog : Program} {w : World} {A : Around} {s : Shared} {E : Value → Shared → Prop} {β : Type} {R : Value → β → Prop} {enc : β → PyData} {vs : List Value} {bs : List β}
theorem collect_tupT {l : Addr} {vs : List Value} {Q : List Value → Shared → Prop} (hl : IsTup s.heap l vs.toArray)
    (h : Q vs { s with heap := (s.heap.push (seqObj "list" #[] 0)).update s.heap.objs.size (Obj.mapSeq (· ++ vs.toArray)) }) (hsz : vs.length ≤ sizeLine := by size_fits) :
    wpAny (model prog w) A (collect (.ref l)) Q E s := by
  obtain ⟨o, ho, hc, n, hd⟩ := id hl
  unfold collect
  refine wpAny_bind (wpAny_runValue (codeAny_builtin entry_proto_collect' ?_))
  show wpAny _ _ (do again (.builtin "list.__iadd__" ⟨[← newList [], .ref l], []⟩)) _ _ s
  refine wpAny_bind (wpAny_newList (wpAny_pure ⟨Code.quiet_builtin _ (by decide +kernel), codeAny_builtin entry_list_iadd' ?_⟩))
  show wpAny _ _ (Builtin.List.listExtendWith (.ref s.heap.objs.size) (.ref l) (.ref s.heap.objs.size)) _ _ { s with heap := s.heap.push (seqObj "list" #[] 0) }
  unfold Builtin.List.listExtendWith
  have ho' : (s.heap.push (seqObj "list" #[] 0)).get? l = some o := Heap.get?_push_of_some _ ho
  refine wpAny_bind (wpAny_typeOf (T := "tuple") ⟨o, ho', hc⟩ ?_)
  have ht : (Value.type "tuple" == Value.type "tuple") = true := by rfl
  rw [if_pos (by rw [ht]; simp)]
  refine wpAny_bind (listItems_at ho' hd ?_)
  refine wpAny_bind (listItems_at (xs := #[]) (n := 0) (Heap.get?_push_size _ rfl) rfl ?_)
  rw [if_neg (by simp)]
  refine wpAny_bind (listUpdate_at (xs := #[]) (n := 0) (Heap.get?_push_size _ rfl) rfl ?_ (Nat.zero_le _) (by show (#[] ++ vs.toArray).size ≤ sizeLine + 1; simp only [Array.size_append, List.size_toArray, List.length_nil]; omega))
  refine wpAny_pure ?_
  show wpAny (model prog w) A (do
      let o ← load s.heap.objs.size
      match o.data with
      | .seq xs _ => pure xs.toList
      | _ => unsupported "internal:collect") Q E { s with heap := (s.heap.push (seqObj "list" #[] 0)).update s.heap.objs.size (Obj.mapSeq (· ++ vs.toArray)) }
  refine wpAny_bind (wpAny_load (get?_update_seq (Heap.get?_push_size _ rfl) _) ?_)
  show wpAny _ _ (pure ((#[] : Array Value) ++ vs.toArray).toList) Q E _
  rw [show ((#[] : Array Value) ++ vs.toArray).toList = vs by simp]
  exact wpAny_pure h
theorem sorted_dataT {l : Addr} {Q : Value → Shared → Prop} (hl : IsTup s.heap l vs.toArray) (e : EachIs R vs bs) (er : EachIs (fun v b => ∃ as, Reads s.heap v (enc b) as) vs bs) (hal : AllAlike (bs.map enc)) (hk : Sortable (bs.map enc)) (hL : bs.length ≤ sizeLine)
    (hu : ∀ b, b ∈ bs → A.units + 2 + (enc b).depth < cLine) (h : ∀ out, out.length = bs.length → EachIs R out (bs.mergeSort (dataLe false enc)) → Q (.ref (s.heap.objs.size + 1)) { s with heap := sortedAll s.heap vs (List.toArray out) }) :
    wpAny (model prog w) A (call (.builtin "sorted") [.ref l]) Q E s := by
  have er' : EachIs (fun v b => ∃ as, Reads (sortingHeap (copyHeap s.heap vs) (s.heap.objs.size + 1) vs) v (enc b) as) vs bs := er.mono fun _ _ ⟨as, r⟩ => ⟨as, PyProof.Rows.Reads.keeps (fun _ _ => sorting_copy_old) r⟩
  have hL' : vs.length ≤ sizeLine := by rw [e.length]; exact hL
  refine call_function_entry_kw kind_sorted plain_sorted entry_sorted (args_sorted1 _) ?_
  unfold Builtin.«sorted»
  refine wpAny_bind (m := checkCount "sorted" 1 1 _) (wpAny_pure ?_)
  refine wpAny_bind (collect_tupT hl ?_ hL')
  refine wpAny_bind (wpAny_newList ?_ hL')
  have hsz : ((s.heap.push (seqObj "list" #[] 0)).update s.heap.objs.size (Obj.mapSeq (· ++ vs.toArray))).objs.size = s.heap.objs.size + 1 := by
    rw [Heap.size_update, size_push']
  show wpAny _ _ _ _ _ { s with heap := copyHeap s.heap vs }
  rw [hsz]
  refine wpAny_bind (wpAny_holding (wpAny_call_entry_kw slot_list_sort ⟨_, copyHeap_at s.heap vs, rfl⟩ entry_list_sort ?body (args_list_sort _)))
  case body =>
    show wpAny (model prog w) A.in1.in1 (Builtin.«list.sort» ⟨[.ref (s.heap.objs.size + 1)], []⟩) _ _ _
    refine wpAny_mono (list_sort_vals (P := fun f s' => f = .done (.ret .none) ∧ Q (.ref (s.heap.objs.size + 1)) s') (s := { s with heap := copyHeap s.heap vs }) (copyHeap_at s.heap vs) (SortsAt.data (s := { s with heap := sortingHeap (copyHeap s.heap vs) (s.heap.objs.size + 1) vs }) (each_map (R := fun v d => ∃ as, Reads (sortingHeap (copyHeap s.heap vs) (s.heap.objs.size + 1) vs) v d as) enc er') hal hk (bound_map hu)) hL' ⟨rfl, h _ (by rw [sortVals_length false rfl]; exact e.length) (sortVals_data false e er' hal)⟩) (fun f s' hf => ?_) fun _ _ e => e
    obtain ⟨rfl, hq⟩ := hf
    exact ⟨_, rfl, wpAny_pure ⟨_, rfl, hq⟩⟩
end
end PySem.W
namespace DL
open PySem PySem.Spec L2
def rSortD (K : PySem.W.Frag) : List V → Hp → VK → Prop := fun vs H Q => ∃ (a : Addr) (bs : List (V × PyData)), vs = [V.ref a] ∧ (SqL K H a (bs.map (·.1)) ∨ SqT K H a (bs.map (·.1))) ∧ (∀ b ∈ bs, Dp K H b.1 b.2 ∧ b.2.depth ≤ 60) ∧ PySem.W.AllAlike (bs.map (·.2)) ∧ PySem.W.Sortable (bs.map (·.2)) ∧
  ∀ p, H p = none → Q (.ref p) (upd H p (.lst ((bs.mergeSort (PySem.W.dataLe false (·.2))).map (·.1))))
theorem each_of {X : Cx} {pins : List (Addr × Obj)} {σ : St} {H : Hp} {s : Shared} (I : Inv X pins σ H s) : ∀ {bs : List (V × PyData)} {its : List Value}, Vals (bs.map (·.1)) its → (∀ b ∈ bs, Dp X.K H b.1 b.2 ∧ b.2.depth ≤ 60) →
    PySem.W.EachIs (fun v (b : V × PyData) => RelV b.1 v) its bs ∧ PySem.W.EachIs (fun v (b : V × PyData) => ∃ as, PySem.Reads s.heap v b.2 as) its bs
  | [], _, r, _ => by
    cases r
    exact ⟨.nil, .nil⟩
  | b :: bs, _, r, h => by
    cases r with
    | cons r1 r2 =>
      obtain ⟨e1, e2⟩ := each_of I (bs := bs) r2 fun x hx => h x (List.mem_cons_of_mem _ hx)
      exact ⟨.cons r1 e1, .cons (Dp.reads I _ _ _ (h b (List.mem_cons_self ..)).1 r1) e2⟩
theorem vals_each : ∀ {bs : List (V × PyData)} {out : List Value}, PySem.W.EachIs (fun v (b : V × PyData) => RelV b.1 v) out bs → Vals (bs.map (·.1)) out
  | _, _, .nil => .nil
  | _, _, .cons r e => .cons r (vals_each e)
theorem cr_sortD {X : Cx} (hu : X.A.units + 70 < cLine) : CallR X (.builtin "sorted") (rSortD X.K) := by
  intro pins s σ H vs us Q I r h
  obtain ⟨a, bs, rfl, hs, hd, hal, hk, q⟩ := h
  have fin : ∀ (its : List Value), Vals (bs.map (·.1)) its → (bs.map (·.1)).length ≤ sizeLine → ∀ out : List Value, out.length = bs.length → PySem.W.EachIs (fun v (b : V × PyData) => RelV b.1 v) out (bs.mergeSort (PySem.W.dataLe false (·.2))) → EP X pins σ Q (.ref (s.heap.objs.size + 1)) { s with heap := PyProof.Rows.sortedAll s.heap its (List.toArray out) } := fun its rv hz out ho eo => by
    rw [List.length_map] at hz
    obtain ⟨ep, he'⟩ := PyProof.Rows.sortedAll_at s.heap its out.toArray
    have hlen : ((bs.mergeSort (PySem.W.dataLe false (·.2))).map (·.1)).length ≤ sizeLine := by
      rw [List.length_map, List.length_mergeSort]
      exact hz
    exact ⟨.ref _, upd H (s.heap.objs.size + 1) (.lst ((bs.mergeSort (PySem.W.dataLe false (·.2))).map (·.1))), I.laid (t' := s.toks) (fun _ _ => PyProof.Rows.sortedAll_old) (Nat.le_succ _) ⟨hlen, out, ep, vals_each eo, he'⟩, rfl, q _ (I.hok.fresh (Nat.le_succ _))⟩
  rcases hs with hs | hs
  · obtain ⟨its, rv, hl, hz⟩ := I.list hs
    rw [Vals.ref1 r]
    obtain ⟨e1, e2⟩ := each_of I rv hd
    refine PySem.W.sorted_data (enc := fun b : V × PyData => b.2) hl.isList e1 e2 hal hk (by rw [List.length_map] at hz; exact hz) (fun b hb => by have := (hd b hb).2; omega) (fin its rv hz)
  · obtain ⟨its, rv, hl, hz⟩ := I.tuple hs
    rw [Vals.ref1 r]
    obtain ⟨e1, e2⟩ := each_of I rv hd
    refine PySem.W.sorted_dataT (enc := fun b : V × PyData => b.2) hl e1 e2 hal hk (by rw [List.length_map] at hz; exact hz) (fun b hb => by have := (hd b hb).2; omega) (fin its rv hz)
def D.alk (l : List D) : Bool := l.all fun a => l.all fun b => PySem.W.alike a.py b.py
def D.tupN : D → Bool
  | .tup (_ :: _) => true
  | _ => false
def D.noTup : D → Bool
  | .tup _ => false
  | .non => false
  | _ => true
def D.leD (a b : D) : Bool := !PySem.W.dataLt b.py a.py
def D.srt (l : List D) : List D := l.mergeSort D.leD
def D.sortOk (l : List D) : Bool := l.all (D.shp 20) && (D.alk l && (l.all D.tupN || l.all fun d => d.noTup && d.leaf))
def D.sorted : D → M D
  | .lst l => need (D.sortOk l) >>= fun _ => .ok (.lst (D.srt l))
  | .tup l => need (D.sortOk l) >>= fun _ => .ok (.lst (D.srt l))
  | _ => stuck
theorem alk_ok {l : List D} (h : D.alk l = true) : PySem.W.AllAlike (l.map D.py) := by
  intro d hd d' hd'
  obtain ⟨a, ha, rfl⟩ := List.mem_map.mp hd
  obtain ⟨b, hb, rfl⟩ := List.mem_map.mp hd'
  exact List.all_eq_true.mp (List.all_eq_true.mp h a ha) b hb
theorem sortable_ok {l : List D} (h : (l.all D.tupN || l.all fun d => d.noTup && d.leaf) = true) : PySem.W.Sortable (l.map D.py) := by
  rcases Bool.or_eq_true_iff.mp h with h | h
  · refine .inl fun d hd => ?_
    obtain ⟨a, ha, rfl⟩ := List.mem_map.mp hd
    have := List.all_eq_true.mp h a ha
    cases a with
    | tup l => cases l with
      | nil => cases this
      | cons x r => exact ⟨x.py, D.pyL r, by simp only [D.py, D.pyL]⟩
    | _ => cases this
  · refine .inr fun d hd => ?_
    obtain ⟨a, ha, rfl⟩ := List.mem_map.mp hd
    obtain ⟨h1, h2⟩ := and2 (List.all_eq_true.mp h a ha)
    rcases D.leaf_cases h2 with rfl | ⟨b, rfl⟩ | ⟨i, rfl⟩ | ⟨x, rfl⟩
    · cases h1
    · exact ⟨by simp [D.py], fun xs => by simp [D.py]⟩
    · exact ⟨by simp [D.py], fun xs => by simp [D.py]⟩
    · exact ⟨by simp [D.py], fun xs => by simp [D.py]⟩
section
variable {K : PySem.W.Frag} {F H : Hp}
theorem rpl_zip : ∀ {xs : List V} {l : List D}, RpL K F xs l → (xs.zip l).map (·.1) = xs ∧ (xs.zip l).map (·.2) = l ∧ ∀ c ∈ xs.zip l, Rp K F c.1 c.2
  | _, _, .nil => ⟨rfl, rfl, fun c h => by cases h⟩
  | _, _, .cons (vs := vs) (ds := ds) r h => by
    obtain ⟨h1, h2, h3⟩ := rpl_zip h
    refine ⟨by rw [List.zip_cons_cons, List.map_cons, h1], by rw [List.zip_cons_cons, List.map_cons, h2], fun c hc => ?_⟩
    rw [List.zip_cons_cons] at hc
    rcases List.mem_cons.mp hc with rfl | hc
    · exact r
    · exact h3 c hc
theorem rpl_of : ∀ {cs : List (V × D)}, (∀ c ∈ cs, Rp K F c.1 c.2) → RpL K F (cs.map (·.1)) (cs.map (·.2))
  | [], _ => .nil
  | c :: cs, h => .cons (h c (List.mem_cons_self ..)) (rpl_of fun x hx => h x (List.mem_cons_of_mem _ hx))
theorem sort_rp {xs : List V} {l : List D} (r : RpL K F xs l) : RpL K F (((xs.zip (l.map D.py)).mergeSort (PySem.W.dataLe false (·.2))).map (·.1)) (D.srt l) := by
  obtain ⟨h1, h2, h3⟩ := rpl_zip r
  have eb : xs.zip (l.map D.py) = (xs.zip l).map fun c => (c.1, c.2.py) := by
    rw [List.zip_map_right]
    rfl
  have e1 : (((xs.zip (l.map D.py)).mergeSort (PySem.W.dataLe false (·.2))).map (·.1)) = ((xs.zip l).mergeSort fun a b => D.leD a.2 b.2).map (·.1) := by
    rw [eb, ← List.map_mergeSort (r := fun a b : V × D => D.leD a.2 b.2), List.map_map]
    · rfl
    · intro a _ b _
      rw [PySem.W.dataLe_eq]
      rfl
  have e2 : D.srt l = ((xs.zip l).mergeSort fun a b => D.leD a.2 b.2).map (·.2) := by
    unfold D.srt
    rw [List.map_mergeSort (s := D.leD), h2]
    intro a _ b _
    rfl
  rw [e1, e2]
  exact rpl_of fun c hc => h3 c (List.mem_mergeSort.mp hc)
end
theorem sorted_op {X : Cx} : OpN X.K (f1 D.sorted) (rSortD X.K) := opN1 fun E F H v d Q s r q => by
  cases d with
  | lst l =>
    have q : WpG X.K E (rE X.K) (need (D.sortOk l) >>= fun _ => .ok (.lst (D.srt l))) F H Q := q
    obtain ⟨c, q⟩ := q.need
    obtain ⟨c1, c2⟩ := and2 c
    obtain ⟨c2, c3⟩ := and2 c2
    obtain ⟨p, xs, rfl, h, r⟩ := r.lst s
    have hl : xs.length = (l.map D.py).length := by rw [List.length_map, r.length]
    have e1 : (xs.zip (l.map D.py)).map (·.1) = xs := List.map_fst_zip (Nat.le_of_eq hl)
    have e2 : (xs.zip (l.map D.py)).map (·.2) = l.map D.py := List.map_snd_zip (Nat.le_of_eq hl.symm)
    refine ⟨p, xs.zip (l.map D.py), rfl, by rw [e1]; exact .inl (SqL.of h), fun b hb => ?_, by rw [e2]; exact alk_ok c2, by rw [e2]; exact sortable_ok c3, new_lst s (sort_rp r) q⟩
    obtain ⟨h1, h2, h3⟩ := rpl_zip r
    rw [List.zip_map_right] at hb
    obtain ⟨z, hz, rfl⟩ := List.mem_map.mp hb
    have hz2 : z.2 ∈ l := by
      rw [← h2]
      exact List.mem_map.mpr ⟨z, hz, rfl⟩
    have sh := List.all_eq_true.mp c1 _ hz2
    exact ⟨(Rp.dp s sh (h3 z hz)).1, Nat.le_trans (D.shp_depth sh) (by omega)⟩
  | tup l =>
    have q : WpG X.K E (rE X.K) (need (D.sortOk l) >>= fun _ => .ok (.lst (D.srt l))) F H Q := q
    obtain ⟨c, q⟩ := q.need
    obtain ⟨c1, c2⟩ := and2 c
    obtain ⟨c2, c3⟩ := and2 c2
    obtain ⟨p, xs, rfl, h, r⟩ := r.tup s
    have hl : xs.length = (l.map D.py).length := by rw [List.length_map, r.length]
    have e1 : (xs.zip (l.map D.py)).map (·.1) = xs := List.map_fst_zip (Nat.le_of_eq hl)
    have e2 : (xs.zip (l.map D.py)).map (·.2) = l.map D.py := List.map_snd_zip (Nat.le_of_eq hl.symm)
    refine ⟨p, xs.zip (l.map D.py), rfl, by rw [e1]; exact .inr h, fun b hb => ?_, by rw [e2]; exact alk_ok c2, by rw [e2]; exact sortable_ok c3, new_lst s (sort_rp r) q⟩
    obtain ⟨h1, h2, h3⟩ := rpl_zip r
    rw [List.zip_map_right] at hb
    obtain ⟨z, hz, rfl⟩ := List.mem_map.mp hb
    have hz2 : z.2 ∈ l := by
      rw [← h2]
      exact List.mem_map.mpr ⟨z, hz, rfl⟩
    have sh := List.all_eq_true.mp c1 _ hz2
    exact ⟨(Rp.dp s sh (h3 z hz)).1, Nat.le_trans (D.shp_depth sh) (by omega)⟩
  | _ => exact q.elim
end DL

set_option Elab.async false
set_option linter.all false
set_option maxRecDepth 100000
set_option maxHeartbeats 4000000
namespace DL
open PySem PySem.Spec L2
section
variable {X : Cx} {E : St → XK} {G : List Sl} {a b c d e : Expr} {ma mb mc md : M D} {pos : Pos} {ta tb tc td : TE}
def tTest3 (r r' r'' : R2) (ta tb tc td : TE) : TT := fun σ H Q => ta σ H fun x H1 => tb σ H1 fun y H2 => r x y H2 fun z H3 => ∃ k, z = .bl k ∧ if k = true then tc σ H3 (fun w H4 => r' y w H4 fun z2 H5 => ∃ k2, z2 = .bl k2 ∧ if k2 = true then td σ H5 (fun v H6 => r'' w v H6 fun z3 H7 => ∃ k3, z3 = .bl k3 ∧ Q k3 H7) else Q false H5) else Q false H3
theorem pt_chain3 {op op' op'' : CmpOp} {r r' r'' : R2} (ho : OpR X (compareOp op) r) (ho' : OpR X (compareOp op') r') (ho'' : OpR X (compareOp op'') r'') (ha : PE X a ta) (hb : PE X b tb) (hc : PE X c tc) (hd : PE X d td)
    (hm : lastMarks [op, op', op''] [b, c, d] = false := by with_unfolding_all rfl) : PT X (.Compare a [op, op', op''] [b, c, d] pos) (tTest3 r r' r'' ta tb tc td) := by
  constructor
  intro pins s σ H Q I h
  refine PyProof.Rows.isTrue_chain (thn (ha.run pins s σ H _ I h) ?_) hm
  rintro v s1 ⟨x, H1, I1, r1, q1⟩
  refine PyProof.Rows.test_link (thn (hb.run pins s1 σ H1 _ I1 q1) ?_)
  rintro u s2 ⟨y, H2, I2, r2, q2⟩
  refine thn (ho pins s2 σ H2 x y v u _ I2 r1 r2 q2) ?_
  rintro t s3 ⟨z, H3, I3, r3, k, rfl, q3⟩
  cases r3
  refine wpAny_truthy_bool ?_
  cases k with
  | false => exact PyProof.Rows.ite_ff ⟨H3, I3, q3⟩
  | true =>
    refine PyProof.Rows.ite_tt (PyProof.Rows.test_link (thn (hc.run pins s3 σ H3 _ I3 q3) ?_))
    rintro w s4 ⟨y2, H4, I4, r4, q4⟩
    refine thn (ho' pins s4 σ H4 y y2 u w _ I4 r2 r4 q4) ?_
    rintro t2 s5 ⟨z2, H5, I5, r5, k2, rfl, q5⟩
    cases r5
    refine wpAny_truthy_bool ?_
    cases k2 with
    | false => exact PyProof.Rows.ite_ff ⟨H5, I5, q5⟩
    | true =>
      refine PyProof.Rows.ite_tt (PyProof.Rows.test_last (thn (hd.run pins s5 σ H5 _ I5 q5) ?_))
      rintro w2 s6 ⟨y3, H6, I6, r6, q6⟩
      refine thn (ho'' pins s6 σ H6 y2 y3 w w2 _ I6 r4 r6 q6) ?_
      rintro t3 s7 ⟨z3, H7, I7, r7, k3, rfl, q7⟩
      cases r7
      exact wpAny_truthy_bool ⟨H7, I7, q7⟩
@[simp] abbrev T4 (f g h : D → D → M Bool) (a b c d : M D) : M Bool := a >>= fun x => b >>= fun y => f x y >>= fun k => if k = true then c >>= fun z => g y z >>= fun k => if k = true then d >>= fun w => h z w else .ok false else .ok false
theorem dt_chain3 {op op' op'' : CmpOp} {r r' r'' : R2} {f f' f'' : D → D → M Bool} (ho : OpR X (compareOp op) r) (ho' : OpR X (compareOp op') r') (ho'' : OpR X (compareOp op'') r'') (hf : rCmp X.K f r) (hf' : rCmp X.K f' r') (hf'' : rCmp X.K f'' r'') (ha : DR X E G a ma) (hb : DR X E G b mb) (hc : DR X E G c mc) (hd : DR X E G d md)
    (hm : lastMarks [op, op', op''] [b, c, d] = false := by with_unfolding_all rfl) : DT X E G (.Compare a [op, op', op''] [b, c, d] pos) (T4 f f' f'' ma mb mc md) := by
  obtain ⟨t1, p1, w1⟩ := ha
  obtain ⟨t2, p2, w2⟩ := hb
  obtain ⟨t3, p3, w3⟩ := hc
  obtain ⟨t4, p4, w4⟩ := hd
  refine ⟨_, pt_chain3 ho ho' ho'' p1 p2 p3 p4 hm, fun B σ F H Q s g q => w1 B σ F H _ s g (q.bind fun x F1 H1 v x1 r1 q1 => w2 B σ F1 H1 _ x1.sFH (g.ext x1) (q1.bind fun y F2 H2 u x2 r2 q2 => ?_))⟩
  refine hf (E σ) F2 H2 v u x y _ x2.sFH (r1.ext x2) r2 (WpG.bool (q2.bind fun k F3 H3 k' x3 e q3 => ?_))
  subst e
  cases k' with
  | false =>
    rw [if_neg Bool.false_ne_true] at q3 ⊢
    exact q3 F3 H3 _ (Ext.refl x3.sFH) rfl
  | true =>
    rw [if_pos rfl] at q3 ⊢
    refine w3 B σ F3 H3 _ x3.sFH ((g.ext x1).ext x2 |>.ext x3) (q3.bind fun z F4 H4 w x4 r4 q4 => ?_)
    refine hf' (E σ) F4 H4 u w y z _ x4.sFH ((r2.ext x3).ext x4) r4 (WpG.bool (q4.bind fun k F5 H5 k' x5 e q5 => ?_))
    subst e
    cases k' with
    | false =>
      rw [if_neg Bool.false_ne_true] at q5 ⊢
      exact q5 F5 H5 _ (Ext.refl x5.sFH) rfl
    | true =>
      rw [if_pos rfl] at q5 ⊢
      refine w4 B σ F5 H5 _ x5.sFH ((((g.ext x1).ext x2).ext x3).ext x4 |>.ext x5) (q5.bind fun t F6 H6 w2 x6 r6 q6 => ?_)
      exact hf'' (E σ) F6 H6 w w2 z t _ x6.sFH ((r4.ext x5).ext x6) r6 (WpG.bool q6)
end
end DL

set_option Elab.async false
set_option linter.all false
set_option maxRecDepth 100000
set_option maxHeartbeats 4000000
namespace DL
open PySem PySem.Spec L2
def gAd (K : PySem.W.Frag) (p : Str × Option Str) : Addr := match PySem.W.recIn K (He.fAd K p) "property" with
  | some (.ref g :: _) => g
  | _ => 0
def codeAt (K : PySem.W.Frag) (a : Addr) : He.FnW :=
  (K.lookup a).bind fun o => match o.data with
    | .func f => some (f.name, f.qualname, f.params, f.body, f.scope, f.globals, f.closure, f.builtins)
    | _ => none
def restAt (K : PySem.W.Frag) (a : Addr) (q : Str) : Bool := PySem.W.keepIn K (.ref a) && match K.lookup a with
  | some o => (match o.data with
    | .func f => PySem.W.codeIn K f.code q && (He.dflB K f.defaults [] && He.kwdB K f.kwdefaults [])
    | _ => false)
  | none => false
theorem funAt {K : PySem.W.Frag} {a : Addr} {d : He.DefD} (e : codeAt K a = d.val) (c : restAt K a d.qual = true) : ∃ fd, FunD K d.name d.qual d.params d.body d.scope [] [] a fd := by
  obtain ⟨kp, c⟩ := and2 c
  unfold codeAt at e
  cases lk : K.lookup a with
  | none =>
    rw [lk] at c
    cases c
  | some o =>
    rw [lk] at c e
    obtain ⟨oc, od, dt, osl⟩ := o
    cases dt with
    | func f =>
      obtain ⟨n1, n2, n3, n4, n5, n6, n7, dV, kV, doc, pm, an, cdv, ct, n15⟩ := f
      have same : (some (n1, n2, n3, n4, n5, n6, n7, n15) : He.FnW) = some (d.name, d.qual, d.params, .stmts d.body, d.scope, mainGlobals, [], builtinsNs) := e
      injection same with same
      simp only [Prod.mk.injEq] at same
      obtain ⟨rfl, rfl, rfl, rfl, rfl, rfl, rfl, rfl⟩ := same
      obtain ⟨u1, u2⟩ := and2 c
      obtain ⟨u2, u3⟩ := and2 u2
      exact ⟨_, ⟨oc, od, dV, kV, doc, pm, an, cdv, ct, osl, rfl, lk, u1, He.dflB_ok u2, He.kwdB_ok u3⟩, kp⟩
    | _ => cases c
def propB (K : PySem.W.Frag) (c f : Str) : Bool := decide (PySem.W.findIn K (.ref (He.ga K c)) f = some (some (.ref (He.fAd K (c, some f))))) && (decide (PySem.W.specialIn K (.ref (He.fAd K (c, some f))) "__get__" = some (some (.builtin "property.__get__"))) &&
  (decide (PySem.W.takesIn K (.ref (He.fAd K (c, some f))) = some true) && match PySem.W.recIn K (He.fAd K (c, some f)) "property" with
    | some (.ref _ :: _) => true
    | _ => false))
theorem propB_ok {K : PySem.W.Frag} {c f : Str} (h : propB K c f = true) : PropOf K (He.ga K c) f (He.fAd K (c, some f)) (gAd K (c, some f)) := by
  unfold propB at h
  obtain ⟨h1, h⟩ := and2 h
  obtain ⟨h2, h⟩ := and2 h
  obtain ⟨h3, h4⟩ := and2 h
  refine ⟨of_decide_eq_true h1, of_decide_eq_true h2, of_decide_eq_true h3, ?_⟩
  unfold gAd
  split at h4
  · rename_i g r e
    exact ⟨r, by rw [e]⟩
  · cases h4
abbrev AlG : Type := He.AlD × Bool × List He.FnW
def seen (fa : List He.Fa) (fn gt : List He.DefD) (ex : PySem.W.Frag → Bool) (K : PySem.W.Frag) : AlG := (He.obsD fa fn K, ex K && gt.all (fun d => restAt K (gAd K d.at_) d.qual), gt.map fun d => codeAt K (gAd K d.at_))
def due (fn gt : List He.DefD) : AlG := (He.valD fn, true, gt.map He.DefD.val)
def SaysG (fa : List He.Fa) (fn gt : List He.DefD) (ex : PySem.W.Frag → Bool) (K : PySem.W.Frag) : Prop := seen fa fn gt ex K = due fn gt
section
variable {fa : List He.Fa} {fn gt : List He.DefD} {ex : PySem.W.Frag → Bool} {K : PySem.W.Frag}
theorem SaysG.d (c : SaysG fa fn gt ex K) : He.SaysD fa fn K := congrArg (fun z : AlG => z.1) c
theorem SaysG.more (c : SaysG fa fn gt ex K) : ex K = true := (and2 (congrArg (fun z : AlG => z.2.1) c)).1
theorem SaysG.get (c : SaysG fa fn gt ex K) (i : Nat) {d : He.DefD} (h : gt[i]? = some d) : ∃ fd, FunD K d.name d.qual d.params d.body d.scope [] [] (gAd K d.at_) fd := by
  have r := List.all_eq_true.mp (and2 (congrArg (fun z : AlG => z.2.1) c)).2 d (List.mem_of_getElem? h)
  have e : (gt.map fun d => codeAt K (gAd K d.at_)) = gt.map He.DefD.val := congrArg (fun z : AlG => z.2.2) c
  have e2 : (gt.map fun d => codeAt K (gAd K d.at_))[i]? = (gt.map He.DefD.val)[i]? := by rw [e]
  rw [List.getElem?_map, List.getElem?_map, h] at e2
  exact funAt (Option.some.inj e2) r
end
def noX {α : Type} : M α → M α
  | .ok a => .ok a
  | .error _ => stuck
@[simp] theorem noX_ok {α : Type} (a : α) : noX (.ok a : M α) = .ok a := rfl
theorem noX_no {α : Type} {m : M α} (x : Ex) : noX m ≠ .error (.exc x) := by
  cases m <;> exact fun z => nomatch z
theorem noX_wp {α β : Type} {K : PySem.W.Frag} {E : XK} {rel : Hp → Hp → β → α → Prop} {m : M α} {F H : Hp} {Q : β → Hp → Prop} (h : WpG K E rel (noX m) F H Q) : WpG K E rel m F H Q := by
  cases m with
  | ok a => exact h
  | error e => exact h.elim
abbrev DefOkG (K : PySem.W.Frag) (d : He.DefD) (fd : FuncData) : Prop := FunD K d.name d.qual d.params d.body d.scope [] [] (gAd K d.at_) fd
@[simp] abbrev mProp (c : String) (m : List D → M D) (a : M D) : M D := a >>= fun x => D.isIns c x >>= fun x => noX (m [x])
section
variable {X : Cx} {E : St → XK} {G : List Sl} {b : Expr} {mb : M D} {pos : Pos}
theorem de_propX {k : Nat} {p g : Addr} {fd : FuncData} {ps : List Str} {m : List D → M D} {c f : String} (hC : Cls X.K (He.ga X.K (Str.ofString c))) (hP : PropOf X.K (He.ga X.K (Str.ofString c)) (Str.ofString f) p g)
    (F : FnOk X.prog X.w X.K X.mg X.base (L2.CX X.prog X.w) k g fd ps (spD X.K [true] m)) (hr : Room (k + 1) X.A) (hb : Binds X.K fd ps []) (ho : DR X E G b mb)
    (hab : attributeBase b (Str.ofString f) X.env (eval b X.env) = eval b X.env := by rfl) : DE X E G (.Attribute b (Str.ofString f) pos) (mProp c m mb) :=
  de_prop (m := fun l => noX (m l)) hC hP (F.imp fun vs H Q E ⟨F0, ds, h1, h2, h3⟩ => ⟨F0, ds, h1, h2, noX_wp h3⟩) hr hb ho (fun l x => noX_no x) hab
end
end DL

set_option Elab.async false
set_option linter.all false
set_option maxRecDepth 100000
set_option maxHeartbeats 4000000
namespace DL
open PySem PySem.Spec L2
section
variable {X : Cx} {CX : CXT} {k n : Nat} {f C : Addr} {fd : FuncData} {ps ks : List Str} {sp : Sp} {E : St → XK} {x : Str} {p pos : Pos} {kws : List Keyword} {tk : TA} {g : List Value → List Value → List Value} {gV : List V → List V → List V} {pins : List (Addr × Obj)} {σ : St} {H : Hp} {s : Shared} {Q : VK} {ws : List Value} {zs : List V}
theorem make_atK {E1 : XK} (M : Mk X.K C f) (F : FnOk X.prog X.w X.K X.mg X.base CX k f fd ps sp) (hr : Room (k + 1) X.A) (hb : KBn X.K fd ps 1 ks g gV) (pass : PassesAt CX X σ E1) (I : Inv X pins σ H s) (rz : Vals zs ws) (lz : zs.length = ks.length)
    (want : ∀ x dx, H x = none → H dx = none → dx ≠ x → sp (gV [.ref x] zs) (upd (upd H dx (.own x)) x (.ins C dx [])) (fun v H2 => v = .non ∧ Q (.ref x) H2) E1) :
    wpAny (model X.prog X.w) X.A (call (.ref C) [] (ks.zip ws)) (EP X pins σ Q) X.xe s := by
  have w := want (s.heap.objs.size + 1) s.heap.objs.size (I.hok.fresh (Nat.le_succ _)) (I.hok.fresh (Nat.le_refl _)) (Nat.ne_of_lt (Nat.lt_succ_self _))
  have J := Inv.made (C := C) I
  have self : RelV (V.ref (s.heap.objs.size + 1)) (Value.ref (s.heap.objs.size + 1)) := rfl
  have one : Vals [V.ref (s.heap.objs.size + 1)] [Value.ref (s.heap.objs.size + 1)] := .cons self .nil
  have all := hb.rel one rz
  refine wpAny_call (make_map (f := f) I.kIn M.makes M.init (beq_iff_eq.mp M.fn) (codeAny_mono (F.run _ X.stack _ _ _ _ _ _ E1 (hr.make C [] (ks.zip ws)) (J.env0.make C [] (ks.zip ws)) (hb.to _ _ ws J.kIn rfl (rz.length.symm.trans lz)) all w) ?_))
  intro res s2 got
  match res, got with
  | .error e, got => exact pass pins _ _ e s2 J got
  | .ok (.ret u), got =>
    obtain ⟨v, H2, I2, rv, ev, q⟩ := J.after got
    cases ev
    exact ⟨rv, V.ref (s.heap.objs.size + 1), H2, I2, rfl, q⟩
def tMakeKS (C : Addr) (m : Nat) (sp : Sp) (gV : List V → List V → List V) (E : St → XK) (tk : TA) : TE := fun σ H Q => tk σ H fun zs H2 => zs.length = m ∧ ∀ x dx, H2 x = none → H2 dx = none → dx ≠ x → sp (gV [.ref x] zs) (upd (upd H2 dx (.own x)) x (.ins C dx [])) (fun v H3 => v = .non ∧ Q (.ref x) H3) (E σ)
theorem pe_makeKS (M : Mk X.K C f) (F : FnOk X.prog X.w X.K X.mg X.base CX k f fd ps sp) (hr : Room (k + 1) X.A) (hg : Gl X x) (hm : X.mg x = some (.ref C)) (hb : KBn X.K fd ps 1 ks g gV) (pass : ∀ σ, PassesAt CX X σ (E σ)) (hkw : PK X kws tk)
    (hall : (backToKw pos (keywordEach kws X.env)).all (·.1.isSome) = true) (hks : (backToKw pos (keywordEach kws X.env)).filterMap (·.1) = ks) (hdb : (x == ("__debug__" : Str)) = false)
    (hpl : ((backTo pos (starEach [] X.env)).any (·.1) || (backToKw pos (keywordEach kws X.env)).any (·.1.isNone)) = false) :
    PE X (.Call (.Name x p) [] kws pos) (tMakeKS C ks.length sp gV E tk) := by
  constructor
  intro pins s σ H Q I h
  refine wpAny_Call_Name_kw (ld_glob I hg hm (PySem.W.callWith_KW0 (h₀ := X.base) I.ok.mod.kin M.kp hall (thn (hkw.run pos pins s σ H _ I h) ?_) hpl) hdb)
  rintro ws s2 ⟨zs, H2, I2, rz, lz, q2⟩
  rw [hks]
  exact ⟨I2.kIn, make_atK M F hr hb (pass σ) I2 rz lz q2⟩
end
section
variable {X : Cx} {E : St → XK} {G : List Sl} {a : Expr} {ma : M D} {pos : Pos}
def DAK (X : Cx) (E : St → XK) (G : List Sl) (bs : List Bool) (kws : List Keyword) (m : M (List D)) : Prop :=
  ∃ t, PK X kws t ∧ ∀ B σ F H Q, Same F H → GOk X.K B G σ F H → WpG X.K (E σ) (fun F' H' v d => RpA X.K F' H' bs v d) m F H Q → t σ H Q
theorem dak_nil : DAK X E G [] [] (.ok []) := ⟨_, pk_nil, fun B σ F H Q s g q => q F H _ (Ext.refl s) .nil⟩
theorem dak_frz {kws : List Keyword} {nm : Option Str} {kp : Pos} {bs : List Bool} {ms : M (List D)} (ha : DE X E G a ma) (hr : DAK X E G bs kws ms) : DAK X E G (false :: bs) (⟨nm, a, kp⟩ :: kws) (ma >>= fun x => ms >>= fun xs => .ok (x :: xs)) := by
  obtain ⟨t1, p1, w1⟩ := ha
  obtain ⟨t2, p2, w2⟩ := hr
  exact ⟨_, pk_cons p1 p2, fun B σ F H Q s g q => w1 B σ F H _ s g (WpG.bind q fun x F1 H1 v x1 r1 k1 => w2 B σ F1 H1 _ x1.sFH (g.ext x1) (WpG.bind k1 fun xs F2 H2 vs x2 r2 k2 => k2 F2 H2 _ (Ext.refl x2.sFH) (.frz (r1.mono x2.sF) r2)))⟩
theorem de_makeK {k : Nat} {f : Addr} {fd : FuncData} {ps ks : List Str} {bc bs : List Bool} {m : List D → M (List (String × D))} {x : Str} {c : String} {p : Pos} {kws : List Keyword} {ms : M (List D)} {g : List Value → List Value → List Value} {gV : List V → List V → List V} {gv : List V → List V} {gd : List D → List D}
    (cx : CtxOk X E) (M : Mk X.K (He.ga X.K (Str.ofString c)) f) (F : FnOk X.prog X.w X.K X.mg X.base (L2.CX X.prog X.w) k f fd ps (spI X.K c bs m)) (hr : Room (k + 1) X.A) (hg : Gl X x) (hm : X.mg x = some (.ref (He.ga X.K (Str.ofString c)))) (hb : KBn X.K fd ps 1 ks g gV)
    (hgv : ∀ x zs, zs.length = ks.length → gV [.ref x] zs = .ref x :: gv zs) (hbc : bc.length = ks.length) (hv : ∀ F H vs ds, RpA X.K F H bc vs ds → RpA X.K F H bs (gv vs) (gd ds)) (ha : DAK X E G bc kws ms)
    (hall : (backToKw pos (keywordEach kws X.env)).all (·.1.isSome) = true := by rfl) (hks : (backToKw pos (keywordEach kws X.env)).filterMap (·.1) = ks := by rfl) (hdb : (x == ("__debug__" : Str)) = false := by decide)
    (hpl : ((backTo pos (starEach [] X.env)).any (·.1) || (backToKw pos (keywordEach kws X.env)).any (·.1.isNone)) = false := by rfl) :
    DE X E G (.Call (.Name x p) [] kws pos) (ms >>= fun l => m (gd l) >>= fun l => .ok (.ins c l)) := by
  obtain ⟨t, pk, w⟩ := ha
  refine ⟨_, pe_makeKS M F hr hg hm hb cx.pass pk hall hks hdb hpl, fun B σ F H Q s g q => w B σ F H _ s g (WpG.bind q fun l F1 H1 vs x1 r1 k1 => ⟨r1.len.1.trans hbc, fun x dx hx hdx ne => ?_⟩)⟩
  rw [hgv x vs (r1.len.1.trans hbc)]
  have h := make_run (c := c) (m := m) x1.sFH (hv F1 H1 vs l r1) k1 x dx hx hdx ne
  rw [List.append_nil] at h
  exact h
@[simp] abbrev mkInsK (c : String) (m : List D → M (List (String × D))) (gd : List D → List D) (a : M (List D)) : M D := a >>= fun l => m (gd l) >>= fun l => .ok (.ins c l)
end
def kwdAt (p : Str × Option Str) (x : Str) (K : PySem.W.Frag) : Addr := match K.lookup (He.fAd K p) with
  | some ⟨_, _, .func fd, _⟩ => (match fd.kwdefaults with
    | .ref D => (match PySem.W.nsIn K D x with
      | some (some (.ref a)) => a
      | _ => 0)
    | _ => 0)
  | _ => 0
def tup0B (K : PySem.W.Frag) (a : Addr) : Bool := match K.lookup a with
  | some ⟨.type "tuple", _, .seq its _, _⟩ => its.isEmpty
  | _ => false
theorem tup0_ok {K : PySem.W.Frag} {a : Addr} (h : tup0B K a = true) (F : Hp) : Rp K F (.ref a) (.tup []) := by
  unfold tup0B at h
  split at h
  · rename_i od its n sl e
    have hi : its = #[] := by simpa using h
    subst hi
    exact .tup (.inr ⟨_, #[], n, e, rfl, rfl, Nat.zero_le _, .nil⟩) .nil
  · cases h
def pick {α : Type} (l : List α) (i : Nat) : List α := (l.drop i).take 1
@[simp] theorem pick_0 {α : Type} (a : α) (l : List α) : pick (a :: l) 0 = [a] := rfl
@[simp] theorem pick_s {α : Type} (a : α) (l : List α) (i : Nat) : pick (a :: l) (i + 1) = pick l i := rfl
theorem vals_take : ∀ (n : Nat) {vs : List V} {us : List Value}, Vals vs us → Vals (vs.take n) (us.take n)
  | 0, _, _, _ => .nil
  | _ + 1, _, _, .nil => .nil
  | n + 1, _, _, .cons r h => .cons r (vals_take n h)
theorem vals_drop : ∀ (n : Nat) {vs : List V} {us : List Value}, Vals vs us → Vals (vs.drop n) (us.drop n)
  | 0, _, _, h => h
  | _ + 1, _, _, .nil => .nil
  | n + 1, _, _, .cons _ h => vals_drop n h
theorem vals_pick {vs : List V} {us : List Value} (h : Vals vs us) (i : Nat) : Vals (pick vs i) (pick us i) := vals_take 1 (vals_drop i h)
theorem rpa_pick {K : PySem.W.Frag} {F H : Hp} {b : Bool} {b2 : List Bool} {r : List V} {r2 : List D} : ∀ {bs : List Bool} {vs : List V} {ds : List D} (i : Nat), bs[i]? = some b → RpA K F H bs vs ds → RpA K F H b2 r r2 → RpA K F H (b :: b2) (pick vs i ++ r) (pick ds i ++ r2)
  | _, _, _, _, e, .nil, _ => by simp at e
  | _, _, _, 0, e, .frz x h, q => by
    have : false = b := by simpa using e
    subst this
    exact .frz x q
  | _, _, _, 0, e, .bor x h, q => by
    have : true = b := by simpa using e
    subst this
    exact .bor x q
  | _, _, _, i + 1, e, .frz x h, q => rpa_pick i (by simpa using e) h q
  | _, _, _, i + 1, e, .bor x h, q => rpa_pick i (by simpa using e) h q
theorem rpa_dfl {K : PySem.W.Frag} {F H : Hp} {b : Bool} {b2 : List Bool} {r : List V} {r2 : List D} {v : V} {d : D} (h : Rp K F v d) (q : RpA K F H b2 r r2) : RpA K F H (b :: b2) (v :: r) (d :: r2) := by
  cases b with
  | false => exact .frz h q
  | true => exact .bor (.of h) q
end DL

set_option Elab.async false
set_option linter.all false
set_option maxRecDepth 100000
set_option maxHeartbeats 4000000
namespace DL
open PySem PySem.Spec L2
section
variable {P : Program} {w : World} {K : PySem.W.Frag} {A : Around} {x qual nm : Str} {params : Arguments} {scope : Scope} {p1 p2 p3 p4 : Pos} {j : Nat} {f : Addr} {fd : FuncData} {N : List Str}
theorem first_call (F : FunD K x qual params [.Return (some (.Subscript (.Name nm p1) (.Constant (.int 0) j p2) p3)) p4] scope [] [] f fd) (S : FnScope N [nm] scope) (hl : scope.names.lookup nm = some .local) (hn : (nm == ("__debug__" : Str)) = false) (hb : Binds K fd [nm] []) (hd : A.depth < recursionLimit)
    {s : Shared} (KX : K.In s.heap) (lim : s.heap.NoLimit) {t : Addr} {its : Array Value} {y : Value} (ht : PyProof.Rows.IsTup s.heap t its) (hy : its[0]? = some y) :
    codeAny (model P w) A (.call (.ref f) ⟨[.ref t], []⟩) (fun r s' => r = .ok (.ret y) ∧ ∃ h' tk, s' = { s with heap := h', toks := tk } ∧ ∀ b o, s.heap.get? b = some o → h'.get? b = some o) s := by
  obtain ⟨oc, od, dV, kV, doc, pm, an, cdv, ct, osl, rfl, lk, hcd, _, _⟩ := F.ex
  have hkind : ∀ z ∈ [(nm, Value.ref t)], scope.names.lookup z.1 = some .local ∨ (scope.names.lookup z.1 = some .cell ∧ ((cellsFrom (s.heap.objs.size + 1) scope.names []).lookup z.1).isSome = true) := fun z hz => by
    rw [List.mem_singleton.mp hz]
    exact .inl hl
  refine codeAny_call_function hd (KX _ _ lk) rfl S.co S.gen rfl (PySem.W.codeRec_of KX hcd) (hb s [.ref t] KX rfl _ _ _ _ ?_)
  refine wpAny_newFunctionEnv_cells S.kind hkind fun env he s1 z => ?_
  subst he
  refine ⟨lim.keeps z.toInCall.keep, codeAny_func (wpAny_execs_cons (wpAny_Return_some (PyProof.Rows.Subscript_ ?_)))⟩
  refine wpAny_Name (wpAny_loadName_local S.kind hl z.toInCall.ns (v := .ref t) ?_ ?_) hn
  · show (if scope.names.lookup nm = some .local then (fun y => if y = nm then some (Value.ref t) else none) else fun _ => none) nm = _
    rw [if_pos hl]
    simp
  · refine wpAny_Constant_int ?_
    have z1 := z.tok (s1.toks + 1)
    refine PyProof.Rows.item_tuple (j := 0) (x := y) (ht.keeps z.toInCall.keep) (by decide) (by decide) ?_ hy ?_
    · have := (Array.getElem?_eq_some_iff.mp hy).1
      unfold seqIndex?
      have h0 : ((0 : Int) < (its.size : Int)) := by omega
      have hj : ((0 : Int) ≤ 0 && decide ((0 : Int) < (its.size : Int))) = true := by simp only [decide_eq_true h0]; rfl
      show (if ((0 : Int) ≤ (if (0 : Int) < 0 then 0 + (its.size : Int) else 0) && decide ((if (0 : Int) < 0 then 0 + (its.size : Int) else 0) < (its.size : Int))) = true then some (if (0 : Int) < 0 then 0 + (its.size : Int) else 0).toNat else none) = some 0
      rw [if_neg (show ¬ (0 : Int) < 0 by omega)]
      rw [if_pos (by simp only [decide_eq_true h0]; rfl)]
      rfl
    · obtain ⟨h', tk, e, k⟩ := z1.done
      exact ⟨rfl, h', tk, e, k⟩
end
end DL

set_option Elab.async false
set_option linter.all false
set_option maxRecDepth 100000
set_option maxHeartbeats 4000000
namespace DL
open PySem PySem.Spec L2
def rSortK0 (K : PySem.W.Frag) (f : Addr) : List V → List V → Hp → VK → Prop := fun vs zs H Q => ∃ (a : Addr) (bs : List (V × Str)), vs = [V.ref a] ∧ zs = [V.ref f] ∧ SqL K H a (bs.map (·.1)) ∧
  (∀ b ∈ bs, ∃ t xs, b.1 = V.ref t ∧ SqT K H t xs ∧ xs[0]? = some (V.str b.2)) ∧ ∀ p, H p = none → Q (.ref p) (upd H p (.lst ((bs.mergeSort (PySem.W.dataLe false fun b => .str b.2)).map (·.1))))
theorem vals_eachS : ∀ {bs : List (V × Str)} {out : List Value}, PySem.W.EachIs (fun v (b : V × Str) => RelV b.1 v) out bs → Vals (bs.map (·.1)) out
  | _, _, .nil => .nil
  | _, _, .cons r e => .cons r (vals_eachS e)
theorem eachS_vals : ∀ {bs : List (V × Str)} {out : List Value}, Vals (bs.map (·.1)) out → PySem.W.EachIs (fun v (b : V × Str) => RelV b.1 v) out bs
  | [], _, r => by
    cases r
    exact .nil
  | b :: bs, _, r => by
    cases r with
    | cons r1 r2 => exact .cons r1 (eachS_vals r2)
theorem cr_sortK0 {X : Cx} {x qual nm : Str} {params : Arguments} {scope : Scope} {p1 p2 p3 p4 : Pos} {j : Nat} {f : Addr} {fd : FuncData} {N : List Str}
    (F : FunD X.K x qual params [.Return (some (.Subscript (.Name nm p1) (.Constant (.int 0) j p2) p3)) p4] scope [] [] f fd) (S : FnScope N [nm] scope) (hl : scope.names.lookup nm = some .local) (hn : (nm == ("__debug__" : Str)) = false) (hb : Binds X.K fd [nm] [])
    (hd : X.A.in1.in1.depth < recursionLimit) (hu : X.A.units + 70 < cLine) : CallRK X (.builtin "sorted") [Str.ofString "key"] (rSortK0 X.K f) := by
  intro pins s σ H vs zs us ws Q I r rz h
  obtain ⟨a, bs, rfl, rfl, hs, hx, q⟩ := h
  obtain rfl := Vals.ref1 r
  obtain ⟨w1, rfl, e1⟩ := vals1 rz
  obtain rfl : w1 = Value.ref f := e1
  obtain ⟨its, rv, hlst, hz⟩ := I.list hs
  rw [List.length_map] at hz
  refine PySem.W.sorted_key_data (fun b : V × Str => PyData.str b.2) hlst.isList (eachS_vals rv) (PySem.W.AllAlike.of fun b b' => by simp [PySem.W.alike]) (PySem.W.Sortable.others fun b => ⟨by simp, fun xs => by simp⟩) hz (fun b hb => by simp only [PyData.depth]; omega)
    (PyProof.Rows.ksk_s1 _ _) (fun _ => PyProof.Rows.ksk_l1 _ _) (fun _ => PyProof.Rows.ksk_t1 _ _) (fun v b hR hb' h tk kp => ?_) fun out c h' tk kp hD hD2 ho eo => ?_
  · obtain ⟨t, xs, et, ht, h0⟩ := hx b hb'
    rw [et] at hR
    cases (show v = Value.ref t from hR)
    obtain ⟨its2, rv2, pl, hz2⟩ := I.tuple ht
    obtain ⟨y, hy, ry⟩ := rv2.get h0
    obtain ⟨tk2, rfl⟩ : ∃ t, y = Value.str b.2 t := ry
    refine wpAny_call (codeAny_mono (first_call F S hl hn hb hd (s := { s with heap := h, toks := tk }) (I.kIn.keeps kp) (I.nolimit.keeps kp) (pl.keeps kp) (y := Value.str b.2 tk2) (by simpa using hy)) fun r s' ⟨er, h2, tk3, e2, k2⟩ => ?_)
    subst er
    exact ⟨h2, tk3, e2, k2, .str _ _⟩
  · have hlen : ((bs.mergeSort (PySem.W.dataLe false fun b => .str b.2)).map (·.1)).length ≤ sizeLine := by
      rw [List.length_map, List.length_mergeSort]
      exact hz
    exact ⟨.ref _, upd H (s.heap.objs.size + 1) (.lst ((bs.mergeSort (PySem.W.dataLe false fun b => .str b.2)).map (·.1))), I.laid (t' := tk) (fun b o e => kp b o e) (Nat.le_succ _) ⟨hlen, out, c, vals_eachS eo, hD2⟩, rfl, q _ (I.hok.fresh (Nat.le_succ _))⟩
def D.key0 : D → Option Str
  | .tup (.str k :: _) => some k
  | _ => none
def D.sortK0 (l : List D) : List D := l.mergeSort fun a b => !PySem.W.dataLt (.str ((D.key0 b).getD ⟨#[]⟩)) (.str ((D.key0 a).getD ⟨#[]⟩))
def D.sortedK0 : D → M D
  | .lst l => need (l.all fun d => d.key0.isSome) >>= fun _ => .ok (.lst (D.sortK0 l))
  | _ => stuck
section
variable {K : PySem.W.Frag} {F H : Hp}
theorem key0_rp {v : V} {d : D} {k : Str} (r : Rp K F v d) (h : d.key0 = some k) : ∃ t xs, v = V.ref t ∧ SqT K F t xs ∧ xs[0]? = some (V.str k) := by
  cases d with
  | tup l => cases l with
    | nil => cases h
    | cons x l => cases x with
      | str y =>
        cases h
        cases r with
        | tup h1 hs => cases hs with
          | cons h2 _ => cases h2 with
            | str _ _ => exact ⟨_, _, rfl, h1, rfl⟩
      | _ => cases h
  | _ => cases h
theorem sortK0_rp {xs : List V} {l : List D} (r : RpL K F xs l) : RpL K F (((xs.zip (l.map fun d => (D.key0 d).getD ⟨#[]⟩)).mergeSort (PySem.W.dataLe false fun b => .str b.2)).map (·.1)) (D.sortK0 l) := by
  obtain ⟨h1, h2, h3⟩ := rpl_zip r
  have eb : xs.zip (l.map fun d => (D.key0 d).getD ⟨#[]⟩) = (xs.zip l).map fun c => (c.1, (D.key0 c.2).getD ⟨#[]⟩) := by
    rw [List.zip_map_right]
    rfl
  have e1 : (((xs.zip (l.map fun d => (D.key0 d).getD ⟨#[]⟩)).mergeSort (PySem.W.dataLe false fun b => .str b.2)).map (·.1)) = ((xs.zip l).mergeSort fun a b => !PySem.W.dataLt (.str ((D.key0 b.2).getD ⟨#[]⟩)) (.str ((D.key0 a.2).getD ⟨#[]⟩))).map (·.1) := by
    rw [eb, ← List.map_mergeSort (r := fun a b : V × D => !PySem.W.dataLt (.str ((D.key0 b.2).getD ⟨#[]⟩)) (.str ((D.key0 a.2).getD ⟨#[]⟩))), List.map_map]
    · rfl
    · intro a _ b _
      rw [PySem.W.dataLe_eq]
      rfl
  have e2 : D.sortK0 l = ((xs.zip l).mergeSort fun a b => !PySem.W.dataLt (.str ((D.key0 b.2).getD ⟨#[]⟩)) (.str ((D.key0 a.2).getD ⟨#[]⟩))).map (·.2) := by
    unfold D.sortK0
    rw [List.map_mergeSort (s := fun a b => !PySem.W.dataLt (.str ((D.key0 b).getD ⟨#[]⟩)) (.str ((D.key0 a).getD ⟨#[]⟩))), h2]
    intro a _ b _
    rfl
  rw [e1, e2]
  exact rpl_of fun c hc => h3 c (List.mem_mergeSort.mp hc)
end
section
variable {X : Cx} {E : St → XK} {G : List Sl} {a b c e : Expr} {ma mb mc : M D} {pos : Pos} {F H : Hp}
theorem de_sortK0 {f : Addr} {p pk : Pos} {k : Expr} (hc : CallRK X (.builtin "sorted") [Str.ofString "key"] (rSortK0 X.K f)) (hg : Gl X "sorted") (hm : X.mg "sorted" = none) (hk : PE X k (tC (.ref f))) (ha : DR X E G a ma)
    (hs : starEach [a] X.env = (false, eval a X.env) :: starEach [] X.env := by rfl)
    (he : backTo pos (starEach [a] X.env) = (false, eval a X.env) :: backTo pos (starEach [] X.env) := by rfl) (hpl : (backTo pos (starEach [a] X.env)).any (·.1) = false := by rfl)
    (hall : (backToKw pos (keywordEach [⟨some "key", k, pk⟩] X.env)).all (·.1.isSome) = true := by rfl) (hnone : (backToKw pos (keywordEach [⟨some "key", k, pk⟩] X.env)).any (·.1.isNone) = false := by rfl) (hks : (backToKw pos (keywordEach [⟨some "key", k, pk⟩] X.env)).filterMap (·.1) = [Str.ofString "key"] := by rfl) :
    DE X E G (.Call (.Name "sorted" p) [a] [⟨some "key", k, pk⟩] pos) (ma >>= fun x => D.sortedK0 x) := by
  obtain ⟨t, pa, w⟩ := ha
  refine ⟨_, pe_callBK hc hg hm boot_sorted_ (pa_cons pa pa_nil hs) (pk_cons hk pk_nil) (by decide) (by decide) he hpl hall hnone hks, fun B σ F H Q s g q => w B σ F H _ s g (WpG.bind q fun x F1 H1 v x1 r1 k1 => ?_)⟩
  cases x with
  | lst l =>
    have k1 : WpG X.K (E σ) (rE X.K) (need (l.all fun d => d.key0.isSome) >>= fun _ => .ok (.lst (D.sortK0 l))) F1 H1 Q := k1
    obtain ⟨c, k2⟩ := WpG.need k1
    clear k1
    obtain ⟨p, xs, rfl, h, r⟩ := r1.lst x1.sFH
    have hl : xs.length = (l.map fun d => (D.key0 d).getD ⟨#[]⟩).length := by rw [List.length_map, r.length]
    have e1 : (xs.zip (l.map fun d => (D.key0 d).getD ⟨#[]⟩)).map (·.1) = xs := List.map_fst_zip (Nat.le_of_eq hl)
    refine ⟨p, xs.zip (l.map fun d => (D.key0 d).getD ⟨#[]⟩), rfl, rfl, by rw [e1]; exact SqL.of h, fun b hb => ?_, new_lst x1.sFH (sortK0_rp r) k2⟩
    obtain ⟨h1, h2, h3⟩ := rpl_zip r
    rw [List.zip_map_right] at hb
    obtain ⟨z, hz, rfl⟩ := List.mem_map.mp hb
    have hz2 : z.2 ∈ l := by
      rw [← h2]
      exact List.mem_map.mpr ⟨z, hz, rfl⟩
    have sh := List.all_eq_true.mp c _ hz2
    obtain ⟨k, ek⟩ := Option.isSome_iff_exists.mp sh
    obtain ⟨t, ys, e1, e2, e3⟩ := key0_rp (h3 z hz) ek
    exact ⟨t, ys, e1, Same.seqT x1.sFH e2, by simpa [ek] using e3⟩
  | _ => exact k1.elim
end
end DL

set_option Elab.async false
set_option linter.all false
set_option maxRecDepth 100000
set_option maxHeartbeats 4000000
namespace DL
open PySem PySem.Spec L2
section
variable {K : PySem.W.Frag} {E : XK} {B0 B F H F' H' : Hp}
theorem GOk.setS {G : List Sl} {σ : St} {i : Nat} {p : Addr} {s' : Sl} (g : GOk K B G σ F H) (hs : SlOk K B F H (some (.ref p)) s')
    (new : ∀ (j : Nat) (s : Sl), G[j]? = some s → s.owns = true → σ[j]? ≠ some (some (.ref p))) : GOk K B (G.set i s') (σ.set i (some (.ref p))) F H where
  sB := g.sB
  len := by rw [List.length_set, List.length_set]; exact g.len
  ok := fun j s h => by
    by_cases e : i = j
    · subst e
      have hi : i < G.length := by
        have := (List.getElem?_eq_some_iff.mp h).1
        rwa [List.length_set] at this
      rw [List.getElem?_set_self hi] at h
      cases h
      exact ⟨some (.ref p), by rw [List.getElem?_set_self (by rw [g.len]; exact hi)], hs⟩
    · rw [List.getElem?_set_ne e] at h
      rw [List.getElem?_set_ne e]
      exact g.ok j s h
  dis := fun j k s t a h1 h2 o1 o2 e1 e2 => by
    by_cases nj : i = j
    · by_cases nk : i = k
      · rw [← nj, ← nk]
      · subst nj
        have hi : i < G.length := by
          have := (List.getElem?_eq_some_iff.mp h1).1
          rwa [List.length_set] at this
        rw [List.getElem?_set_self (by rw [g.len]; exact hi)] at e1
        cases e1
        rw [List.getElem?_set_ne nk] at h2 e2
        exact absurd e2 (new k t h2 o2)
    · by_cases nk : i = k
      · subst nk
        have hi : i < G.length := by
          have := (List.getElem?_eq_some_iff.mp h2).1
          rwa [List.length_set] at this
        rw [List.getElem?_set_self (by rw [g.len]; exact hi)] at e2
        cases e2
        rw [List.getElem?_set_ne nj] at h1 e1
        exact absurd e1 (new j s h1 o1)
      · rw [List.getElem?_set_ne nj] at h1 e1
        rw [List.getElem?_set_ne nk] at h2 e2
        exact g.dis j k s t a h1 h2 o1 o2 e1 e2
end
def putDk (l : List (D × D)) (k v : D) : List (D × D) := if (l.any fun q => D.beq q.1 k) = true then l.map (fun q => if D.beq q.1 k = true then (q.1, v) else q) else l ++ [(k, v)]
def dropDk (l : List (D × D)) (k : D) : List (D × D) := l.filter fun q => !D.beq q.1 k
section
variable {K : PySem.W.Frag} {F : Hp}
theorem kd_any (q : Key) : ∀ {kvs : List (Key × V)} {l : List (D × D)}, kvs.map (fun q => kD q.1) = l.map (·.1) → (kvs.any fun kv => decide (kv.1 = q)) = l.any fun x => D.beq x.1 (kD q)
  | [], [], _ => rfl
  | [], _ :: _, h => by simp at h
  | _ :: _, [], h => by simp at h
  | (k, x) :: kvs, (k2, y) :: l, h => by
    have h1 : kD k = k2 ∧ kvs.map (fun q => kD q.1) = l.map (·.1) := by simpa using h
    obtain ⟨rfl, h2⟩ := h1
    rw [List.any_cons, List.any_cons, kd_any q h2, beq_key]
theorem kd_map (q : Key) {v : V} {d : D} (r : Rp K F v d) : ∀ {kvs : List (Key × V)} {l : List (D × D)}, kvs.map (fun q => kD q.1) = l.map (·.1) → RpL K F (kvs.map (·.2)) (l.map (·.2)) →
    (kvs.map fun kv => if kv.1 = q then (kv.1, v) else kv).map (fun q => kD q.1) = (l.map fun x => if D.beq x.1 (kD q) = true then (x.1, d) else x).map (·.1) ∧
    RpL K F ((kvs.map fun kv => if kv.1 = q then (kv.1, v) else kv).map (·.2)) ((l.map fun x => if D.beq x.1 (kD q) = true then (x.1, d) else x).map (·.2))
  | [], [], _, _ => ⟨rfl, .nil⟩
  | [], _ :: _, h, _ => by simp at h
  | _ :: _, [], h, _ => by simp at h
  | (k, x) :: kvs, (k2, y) :: l, h, hr => by
    have h1 : kD k = k2 ∧ kvs.map (fun q => kD q.1) = l.map (·.1) := by simpa using h
    obtain ⟨rfl, h2⟩ := h1
    have hr : RpL K F (x :: kvs.map (·.2)) (y :: l.map (·.2)) := hr
    cases hr with
    | cons r1 r2 =>
      obtain ⟨i1, i2⟩ := kd_map q r h2 r2
      by_cases e : k = q
      · have e1 : D.beq (kD k) (kD q) = true := by rw [beq_key]; exact decide_eq_true e
        refine ⟨?_, ?_⟩
        · rw [List.map_cons, List.map_cons, List.map_cons, List.map_cons, i1]
          simp only [e1, if_true, if_pos e]
        · rw [List.map_cons, List.map_cons, List.map_cons, List.map_cons]
          simp only [e1, if_true, if_pos e]
          exact .cons r i2
      · have e1 : ¬ D.beq (kD k) (kD q) = true := by rw [beq_key]; simpa using e
        refine ⟨?_, ?_⟩
        · rw [List.map_cons, List.map_cons, List.map_cons, List.map_cons, i1]
          simp only [if_neg e1, if_neg e]
        · rw [List.map_cons, List.map_cons, List.map_cons, List.map_cons]
          simp only [if_neg e1, if_neg e]
          exact .cons r1 i2
theorem kd_put (q : Key) {v : V} {d : D} (r : Rp K F v d) {kvs : List (Key × V)} {l : List (D × D)} (h : kvs.map (fun q => kD q.1) = l.map (·.1)) (hr : RpL K F (kvs.map (·.2)) (l.map (·.2))) :
    (putK kvs q v).map (fun q => kD q.1) = (putDk l (kD q) d).map (·.1) ∧ RpL K F ((putK kvs q v).map (·.2)) ((putDk l (kD q) d).map (·.2)) := by
  unfold putK putDk
  rw [kd_any q h]
  by_cases e : (l.any fun x => D.beq x.1 (kD q)) = true
  · rw [if_pos e, if_pos e]
    exact kd_map q r h hr
  · rw [if_neg e, if_neg e]
    refine ⟨by rw [List.map_append, List.map_append, h]; rfl, ?_⟩
    rw [List.map_append, List.map_append]
    exact hr.append (.one r)
end
section
variable {X : Cx} {E : XK} {G : List Sl} {a b c e : Expr} {ma mb mc : M D} {ta tb : M Bool} {pos : Pos} {st : Stmt} {rest body : List Stmt} {F H : Hp}
theorem ds_newD {x : Str} {i : Nat} {pos' p2 : Pos} (p : ∀ {te : TE}, PE X (.Dict [] [] p2) te → PS X (.Assign [.Name x pos'] (.Dict [] [] p2) pos) (tAsg te (gName i))) : DS X E G (.Assign [.Name x pos'] (.Dict [] [] p2) pos) (.ok []) (fun l => .nx (G.set i (.ownd l))) := by
  refine ⟨_, p pe_dnewK, fun B0 B σ F H D x0 g q => fun a ha => ?_⟩
  have hB : B a = none := g.sB.free ha
  have fa : F a = none := x0.sFH.free ha
  have x1 : Ext F H F (upd H a (.dK [])) := Ext.newH x0.sFH ha
  exact q.ok _ F _ (Same.refl _) (x0.trans x1) ((g.ext x1).setS ⟨a, rfl, ⟨[], upd_same, rfl, .nil⟩, fa, hB⟩ fun j s hj oj ej => by
    obtain ⟨u, hu⟩ := g.owned hj oj ej
    rw [ha] at hu
    cases hu)
@[simp] abbrev mPut (l : List (D × D)) (me mk : M D) : M (List (D × D)) := me >>= fun d => mk >>= fun k => need (k.isKey && decide (l.length < sizeLine)) >>= fun _ => .ok (putDk l k d)
theorem ds_put {x : Str} {i : Nat} {l : List (D × D)} {p1 p2 : Pos} {me mk : M D} {k : Expr} (hu : X.A.units + 70 < cLine) (hs : G[i]? = some (.ownd l)) (pv : PE X (.Name x p1) (tVar i)) (h : DE X (cE E) G e me) (hk : DR X (cE E) G k mk)
    (hsw : swapsWith e (some (.Subscript (.Name x p1) k p2)) pos.line X.env = pure false) : DS X E G (.Assign [.Subscript (.Name x p1) k p2] e pos) (mPut l me mk) (fun l' => .nx (G.set i (.ownd l'))) := by
  obtain ⟨t, pe, w⟩ := h
  obtain ⟨tk, pk, wk⟩ := hk
  refine ⟨_, ps_dput (by omega) pv pk pe hsw, fun B0 B σ F H D x0 g q => w B σ F H _ x0.sFH g (WpB.expr (H := H) x0 q fun d F1 H1 v x1 x1' r1 q1 => ?_)⟩
  obtain ⟨o, h1, hs1⟩ := (g.ext x1).ok i _ hs
  obtain ⟨ad, rfl, hd, fa, ba⟩ := hs1
  refine ⟨_, h1, wk B σ F1 H1 _ x1'.sFH (g.ext x1) (WpB.expr (H := H1) x1' q1 fun kd F2 H2 kv x2 x2' r2 q2 => ?_)⟩
  have q2 : WpB X.K E B0 B (fun l' => .nx (G.set i (.ownd l'))) (need (kd.isKey && decide (l.length < sizeLine)) >>= fun _ => .ok (putDk l kd d)) F2 D := q2
  cases hc : (kd.isKey && decide (l.length < sizeLine)) with
  | false =>
    exfalso
    rw [hc] at q2
    exact q2
  | true =>
    rw [hc] at q2
    obtain ⟨c1, c2⟩ := and2 hc
    have c2 := of_decide_eq_true c2
    obtain ⟨qk, rfl, rfl⟩ := keyV c1 r2
    have g2 := (g.ext x1).ext x2
    obtain ⟨u0, hu0⟩ := hd.some
    have hd2 : DctAt X.K F2 (H2 ad) l := by
      rw [x2.sH _ _ hu0, ← hu0]
      exact hd.mono x2.sF
    have fa2 : F2 ad = none := by rw [x2.old _ _ hu0]; exact fa
    obtain ⟨kvs, e1, e2, e3⟩ := hd2
    have el : kvs.length = l.length := by
      have := congrArg List.length e2
      simpa using this
    obtain ⟨k1, k2⟩ := kd_put qk (r1.mono x2.sF) e2 e3
    refine ⟨ad, _, rfl, DPut.k e1 (by omega), ?_⟩
    have q3 : WpB X.K E B0 B (fun l' => .nx (G.set i (.ownd l'))) (.ok (putDk l (kD qk) d)) F2 D := q2
    exact q3.ok σ F2 _ (Same.refl _) (x2'.write fa2 ba) (g2.writeS hs rfl h1 fa2 ba ⟨ad, rfl, ⟨_, upd_same, k1, k2⟩, fa2, ba⟩)
end
section
variable {X : Cx} {E : St → XK} {G : List Sl} {a b c e : Expr} {ma mb mc : M D} {pos : Pos} {F H : Hp}
def D.get2 (x k z : D) : M D :=
  match x with
  | .dct l => need k.isKey >>= fun _ => .ok ((D.look l k).getD z)
  | _ => stuck
def D.isDct : D → Bool
  | .dct _ => true
  | _ => false
@[simp] abbrev mGet2 (mo mk mz : M D) : M D := mo >>= fun x => need x.isDct >>= fun _ => mk >>= fun k => mz >>= fun z => D.get2 x k z
theorem rpt_dct {K : PySem.W.Frag} {v : V} {l : List (D × D)} (s : Same F H) (h : RpT K F H v (.dct l)) : ∃ a, v = .ref a ∧ DctR K F H a l := by
  obtain ⟨a, rfl, kvs, e1, e2, r⟩ := h.dct s
  exact ⟨a, rfl, kvs, e1, e2, r⟩
theorem de_get2 {apos : Pos} {k z : Expr} {mk mz : M D} (hu : X.A.units + 70 < cLine) (ho : DR X E G b mb) (hk : DR X E G k mk) (hz : DE X E G z mz)
    (m : M2 X b "get" apos k z pos) : DE X E G (.Call (.Attribute b "get" apos) [k, z] [] pos) (mGet2 mb mk mz) := by
  obtain ⟨t1, p1, w1⟩ := ho
  obtain ⟨t2, p2, w2⟩ := hk
  obtain ⟨t3, p3, w3⟩ := hz
  refine ⟨_, pe_dget2 (by omega) p1 p2 p3 m, fun B σ F H Q s g q => w1 B σ F H _ s g (WpG.bind q fun x F1 H1 v x1 r1 k1 => ?_)⟩
  cases x with
  | dct l =>
    have k1 : WpG X.K (E σ) (rE X.K) (mk >>= fun k => mz >>= fun z => D.get2 (.dct l) k z) F1 H1 Q := k1
    obtain ⟨ad, rfl, kvs, e1, e2, e3⟩ := rpt_dct x1.sFH r1
    refine ⟨ad, rfl, .inl ⟨kvs, e1⟩, w2 B σ F1 H1 _ x1.sFH (g.ext x1) (WpG.bind k1 fun kd F2 H2 kv x2 r2 k2 => w3 B σ F2 H2 _ x2.sFH ((g.ext x1).ext x2) (WpG.bind k2 fun zd F3 H3 zv x3 r3 k3 => ?_))⟩
    have k3 : WpG X.K (E σ) (rE X.K) (need kd.isKey >>= fun _ => .ok ((D.look l kd).getD zd)) F3 H3 Q := k3
    obtain ⟨c, k4⟩ := WpG.need k3
    clear k3
    obtain ⟨qk, rfl, rfl⟩ := keyV c r2
    have e1' := rd_same x3.sH (rd_same x2.sH e1)
    refine ⟨_, DGet.kr e1', ?_⟩
    rcases look_val qk e2 ((e3.mono x2.sF).mono x3.sF) with ⟨n1, n2⟩ | ⟨v, d, n1, n2, n3⟩
    · rw [n2] at k4
      rw [n1]
      exact k4 F3 H3 _ (Ext.refl x3.sFH) r3
    · rw [n2] at k4
      rw [n1]
      exact k4 F3 H3 _ (Ext.refl x3.sFH) n3
  | _ => exact k1.elim
end
section
variable {X : Cx} {E : XK} {G : List Sl} {body : List Stmt}
theorem db_fzD {α : Type} {i : Nat} {l : List (D × D)} {m : M α} {post : α → Oc} (hs : G[i]? = some (.ownd l)) (h : DB X E (G.set i (.val (.dct l))) body m post) : DB X E G body m post := by
  obtain ⟨t, p, w⟩ := h
  refine ⟨t, p, fun B0 B σ F H D x0 g q => ?_⟩
  obtain ⟨o, h1, a, rfl, ⟨kvs, h2, h5, h6⟩, h3, h4⟩ := g.ok i _ hs
  have hi := (List.getElem?_eq_some_iff.mp hs).1
  have xF : Same F (upd F a (.dK kvs)) := same_new h3
  refine w B0 B σ (upd F a (.dK kvs)) H D ⟨x0.sF.trans xF, x0.sH, fun c u hc => ?_, fun c u hc => ?_⟩ ⟨g.sB, by rw [List.length_set]; exact g.len, fun j s' hj => ?_, fun j k s1 s2 b g1 g2 o1 o2 e1 e2 => ?_⟩ (q.mono xF)
  · by_cases e : c = a
    · subst e
      rw [upd_same] at hc
      cases hc
      exact h2
    · rw [upd_ne e] at hc
      exact x0.sFH c u hc
  · rw [upd_ne (ne_of_none hc h4)]
    exact x0.old c u hc
  · by_cases e : i = j
    · subst e
      rw [List.getElem?_set_self hi] at hj
      cases hj
      exact ⟨_, h1, _, rfl, .dctK (.inl upd_same) h5 (h6.mono xF)⟩
    · rw [List.getElem?_set_ne e] at hj
      obtain ⟨o, k1, k2⟩ := g.ok j s' hj
      refine ⟨o, k1, ?_⟩
      have nb : ∀ b, s'.owns = true → o = some (.ref b) → b ≠ a := fun b ow eo z => by
        subst z
        subst eo
        exact e (g.dis i j _ _ b hs hj rfl ow h1 k1)
      cases s' with
      | un => exact k2
      | any => trivial
      | val d => obtain ⟨v, e1, r⟩ := k2; exact ⟨v, e1, r.mono xF⟩
      | bor d => obtain ⟨v, e1, r⟩ := k2; exact ⟨v, e1, r.monoF xF⟩
      | tre b c l =>
        obtain ⟨k3, k4, as, t⟩ := k2
        exact ⟨k3, k4, as, t.mono xF fun b o e => upd_ne (ne_of_none e h4)⟩
      | exn b c l => exact ⟨k2.1, k2.2.mono xF⟩
      | own m =>
        obtain ⟨b, ys, eo, q1, q2, q3, q4⟩ := k2
        exact ⟨b, ys, eo, q1, by rw [upd_ne (nb b rfl eo)]; exact q2, q3, q4.mono xF⟩
      | ownd m =>
        obtain ⟨b, eo, q1, q2, q3⟩ := k2
        exact ⟨b, eo, q1.mono xF, by rw [upd_ne (nb b rfl eo)]; exact q2, q3⟩
      | ownu m =>
        obtain ⟨b, eo, q1, q2, q3⟩ := k2
        exact ⟨b, eo, q1.mono xF, by rw [upd_ne (nb b rfl eo)]; exact q2, q3⟩
      | obj b c m =>
        obtain ⟨dx, fs, eo, q1, q2, q3, q4, q5⟩ := k2
        exact ⟨dx, fs, eo, q1, by rw [upd_ne (nb b rfl eo)]; exact q2, q3, q4, q5.mono xF⟩
  · have ow : ∀ (j : Nat) (s : Sl), (G.set i (.val (.dct l)))[j]? = some s → s.owns = true → G[j]? = some s := fun j s hj o => by
      by_cases ej : i = j
      · subst ej
        rw [List.getElem?_set_self hi] at hj
        cases hj
        cases o
      · rw [List.getElem?_set_ne ej] at hj
        exact hj
    exact g.dis j k s1 s2 b (ow j s1 g1 o1) (ow k s2 g2 o2) o1 o2 e1 e2
end
end DL

set_option Elab.async false
set_option linter.all false
set_option maxRecDepth 100000
set_option maxHeartbeats 4000000
namespace DL
open PySem PySem.Spec L2
def WpE {α β : Type} (K : PySem.W.Frag) (E : XK) (B0 B : Hp) (σ : St) (G1 : α → List Sl) (rel : Hp → Hp → β → α → Prop) (m : M α) (F : Hp) (Q : β → Hp → Prop) : Prop :=
  match m with
  | .ok a => ∀ F' H' v, Same F F' → Ext B0 B F' H' → GOk K B (G1 a) σ F' H' → rel F' H' v a → Q v H'
  | .error .stuck => False
  | .error (.exc x) => ∀ F' H' c d, Same F F' → Ext B0 B F' H' → RpX K F' H' c d x → E c d H'
section
variable {K : PySem.W.Frag} {E : XK} {B0 B F F' : Hp} {σ : St}
theorem WpE.mono {α β : Type} {G1 : α → List Sl} {rel : Hp → Hp → β → α → Prop} {m : M α} {Q : β → Hp → Prop} (s : Same F F') (h : WpE K E B0 B σ G1 rel m F Q) : WpE K E B0 B σ G1 rel m F' Q := by
  cases m with
  | ok a => exact fun F2 H2 v s2 => h F2 H2 v (s.trans s2)
  | error e => cases e with
    | stuck => exact h
    | exc x => exact fun F2 H2 c d s2 => h F2 H2 c d (s.trans s2)
theorem WpE.bind {α β γ δ : Type} {G1 : α → List Sl} {G2 : γ → List Sl} {rel : Hp → Hp → β → α → Prop} {rel2 : Hp → Hp → δ → γ → Prop} {m : M α} {k : α → M γ} {Q : δ → Hp → Prop} {Q1 : β → Hp → Prop}
    (h : WpE K E B0 B σ G2 rel2 (m >>= k) F Q) (hk : ∀ a F' H' v, Same F F' → Ext B0 B F' H' → GOk K B (G1 a) σ F' H' → rel F' H' v a → WpE K E B0 B σ G2 rel2 (k a) F' Q → Q1 v H') : WpE K E B0 B σ G1 rel m F Q1 := by
  cases m with
  | ok a => exact fun F2 H2 v s2 x g r => hk a F2 H2 v s2 x g r (WpE.mono s2 h)
  | error e => cases e with
    | stuck => exact h
    | exc x => exact h
end
section
variable {X : Cx} {E : St → XK} {G : List Sl} {a b c e : Expr} {ma mb mc : M D} {pos : Pos} {F H : Hp}
def Rcv (X : Cx) (G : List Sl) (i : Nat) (x : D) : Prop := G[i]? = some (.bor x) ∨ G[i]? = some (.val x)
theorem Rcv.at {i : Nat} {x : D} (h : Rcv X G i x) {B : Hp} {σ : St} (g : GOk X.K B G σ F H) : ∃ v, σ[i]? = some (some v) ∧ ∀ F' H', Same F F' → Same B H' → RpT X.K F' H' v x := by
  rcases h with h | h
  · obtain ⟨o, h1, v, rfl, r⟩ := g.ok i _ h
    exact ⟨v, h1, fun F' H' s1 s2 => (r.monoF s1).monoH s2⟩
  · obtain ⟨o, h1, v, rfl, r⟩ := g.ok i _ h
    exact ⟨v, h1, fun F' H' s1 s2 => .of (r.mono s1)⟩
end
section
variable {X : Cx} {E : XK} {G : List Sl} {pos : Pos} {body : List Stmt}
end
end DL

set_option Elab.async false
set_option linter.all false
set_option maxRecDepth 100000
set_option maxHeartbeats 4000000
namespace DL
open PySem PySem.Spec L2
section
variable {X : Cx} {E : St → XK} {G : List Sl} {a b c e : Expr} {ma mb mc : M D} {pos : Pos} {F H : Hp}
end
end DL

set_option Elab.async false
set_option linter.all false
set_option maxRecDepth 100000
set_option maxHeartbeats 4000000
namespace DL
open PySem PySem.Spec L2
section
variable {X : Cx} {E : XK} {G : List Sl} {e : Expr} {pos : Pos} {st : Stmt} {rest body : List Stmt}
end
section
variable {P : Program} {w : World} {K : PySem.W.Frag} {mg : Str → Option Value} {base : Heap} {x qual : Str} {params : Arguments} {body : List Stmt} {scope : Scope} {dvs : List V} {kws : List (Str × V)} {f : Addr} {fd : FuncData}
end
section
variable {X : Cx} {E : St → XK} {G : List Sl} {a b c e : Expr} {ma mb mc : M D} {pos : Pos} {F H : Hp}
end
end DL

set_option Elab.async false
set_option linter.all false
set_option maxRecDepth 100000
set_option maxHeartbeats 4000000
namespace DL
open PySem PySem.Spec L2
@[simp] abbrev mMethO (c mn : String) (m : List D → M (List D)) (a : M D) (ms : M (List D)) : M (List D) := a >>= fun x => D.recv c mn x >>= fun x => ms >>= fun l => m (x :: l)
end DL

set_option Elab.async false
set_option linter.all false
set_option maxRecDepth 100000
set_option maxHeartbeats 4000000
namespace DL
open PySem PySem.Spec L2
def Sl.nb : Sl → Bool
  | .bor _ => false
  | .tre _ _ _ => false
  | _ => true
def nbL (G : List Sl) : Bool := G.all Sl.nb
section
variable {K : PySem.W.Frag} {F H B F' H' : Hp}
theorem TreOk.off {a : Addr} {c : String} {l : List (String × D)} {as : List Addr} (t : TreOk K F B a c l as) : ∀ p ∈ as, F p = none ∧ ∃ kvs, B p = some (.dK kvs) :=
  let ⟨_, _, _, _, h⟩ := t.at_
  h.off
theorem TreOk.ne {a : Addr} {c : String} {l : List (String × D)} {as : List Addr} (t : TreOk K F B a c l as) : ∀ p ∈ as, p ≠ a := fun p hp z => by
  obtain ⟨_, kvs, e⟩ := t.off p hp
  obtain ⟨dx, fs, h, _⟩ := t.at_
  subst z
  rw [h] at e
  cases e
theorem TreOk.same {B' : Hp} {a : Addr} {c : String} {l : List (String × D)} {as : List Addr} (t : TreOk K F B a c l as) (h : ∀ b u, B b = some u → B' b = some u) : TreOk K F B' a c l as := by
  obtain ⟨dx, fs, h1, h2, h3⟩ := t.at_
  refine ⟨⟨dx, fs, h _ _ h1, h2, FvL.same (fun p hp => ?_) h3⟩, t.na, t.nd⟩
  obtain ⟨_, kvs, e⟩ := h3.off p hp
  rw [e, h _ _ e]
structure GT (K : PySem.W.Frag) (W : Addr → Prop) (HB B : Hp) (a : Addr) (c : String) (l : List (String × D)) (G : List Sl) (σ : St) (F H : Hp) : Prop where
  g : GOk K B (.tre a c l :: G) σ F H
  nb : nbL G = true
  t : ∃ as, TreOk K F B a c l as ∧ W a ∧ ∀ b ∈ as, W b
  out : ∀ b o, ¬ W b → HB b = some o → B b = some o
  new : ∀ b, HB b = none → W b
  pin : ∀ b o, W b → HB b = some o → F b = none ∧ ∃ u, B b = some u
theorem GT.moreF {W : Addr → Prop} {HB : Hp} {a : Addr} {c : String} {l : List (String × D)} {G G' : List Sl} {σ σ' : St} (sF : Same F F') (old : ∀ b o, B b = some o → F' b = F b) (g : GT K W HB B a c l G σ F H) (g' : GOk K B (.tre a c l :: G') σ' F' H') (nb : nbL G' = true) : GT K W HB B a c l G' σ' F' H' :=
  ⟨g', nb, let ⟨as, h1, h2⟩ := g.t; ⟨as, h1.mono sF old, h2⟩, g.out, g.new, fun b o w h => by
    obtain ⟨n, u, hu⟩ := g.pin b o w h
    exact ⟨by rw [old _ _ hu]; exact n, u, hu⟩⟩
theorem GT.ext {W : Addr → Prop} {HB : Hp} {a : Addr} {c : String} {l : List (String × D)} {G : List Sl} {σ : St} (x : Ext F H F' H') (g : GT K W HB B a c l G σ F H) : GT K W HB B a c l G σ F' H' :=
  g.moreF x.sF (fun b o h => x.old _ _ (g.g.sB _ _ h)) (g.g.ext x) g.nb
@[simp] def D.fz : D → D
  | .ow l => .dct l
  | d => d
theorem Rp.fz {v : V} {d : D} (r : Rp K F v d) : d.fz = d := by
  cases r <;> rfl
theorem GOk.rebase {G : List Sl} {σ : St} {b a : Addr} {c : String} {l l' : List (String × D)} {o u : HO} (g : GOk K B (.tre a c l :: G) σ F H) (nb : nbL G = true) (hb : B b = some u) (r : ∃ as, TreOk K F (upd B b o) a c l' as) : GOk K (upd B b o) (.tre a c l' :: G) σ F (upd H b o) where
  sB := fun x z h => by
    by_cases e : x = b
    · subst e
      rw [upd_same] at h ⊢
      exact h
    · rw [upd_ne e] at h ⊢
      exact g.sB _ _ h
  len := g.len
  ok := fun i s hs => by
    cases i with
    | zero =>
      cases hs
      obtain ⟨v, k1, k2⟩ := g.ok 0 _ rfl
      exact ⟨v, k1, k2.1, fun x z h => by
        by_cases e : x = b
        · subst e
          rw [upd_same] at h ⊢
          exact h
        · rw [upd_ne e] at h ⊢
          exact g.sB _ _ h, r⟩
    | succ i =>
      obtain ⟨v, k1, k2⟩ := g.ok (i + 1) s hs
      have hs' : G[i]? = some s := hs
      have nbs := List.all_eq_true.mp nb s (List.mem_of_getElem? hs')
      have ne : ∀ x, B x = none → x ≠ b := fun x hx z => by
        rw [z, hb] at hx
        cases hx
      refine ⟨v, k1, ?_⟩
      cases s with
      | un => exact k2
      | any => trivial
      | tre b _ _ => cases nbs
      | val d => exact k2
      | exn _ _ _ => exact k2
      | bor d => cases nbs
      | own l =>
        obtain ⟨a, xs, e, e2, n, hn, r⟩ := k2
        exact ⟨a, xs, e, by rw [upd_ne (ne a hn)]; exact e2, n, by rw [upd_ne (ne a hn)]; exact hn, r⟩
      | ownd l =>
        obtain ⟨a, e, d, n, hn⟩ := k2
        exact ⟨a, e, by rw [upd_ne (ne a hn)]; exact d, n, by rw [upd_ne (ne a hn)]; exact hn⟩
      | ownu l =>
        obtain ⟨a, e, d, n, hn⟩ := k2
        exact ⟨a, e, by rw [upd_ne (ne a hn)]; exact d, n, by rw [upd_ne (ne a hn)]; exact hn⟩
      | obj a c l =>
        obtain ⟨dx, fs, e, h1, n, hn, h2, r⟩ := k2
        exact ⟨dx, fs, e, by rw [upd_ne (ne a hn)]; exact h1, n, by rw [upd_ne (ne a hn)]; exact hn, h2, r⟩
  dis := fun i j s t d hi hj o1 o2 e1 e2 => by
    cases i with
    | zero => cases hi; cases o1
    | succ i => cases j with
      | zero => cases hj; cases o2
      | succ j => exact g.dis (i + 1) (j + 1) s t d hi hj o1 o2 e1 e2
theorem GOk.base {B' : Hp} {G : List Sl} {σ : St} {a : Addr} {c : String} {l l' : List (String × D)} (g : GOk K B (.tre a c l :: G) σ F H) (nb : nbL G = true) (sB : Same B' H') (sF : Same F F') (hH : ∀ x u, H x = some u → B x = none → H' x = some u ∧ B' x = none ∧ F' x = F x) (r : ∃ as, TreOk K F' B' a c l' as) : GOk K B' (.tre a c l' :: G) σ F' H' where
  sB := sB
  len := g.len
  ok := fun i s hs => by
    cases i with
    | zero =>
      cases hs
      obtain ⟨v, k1, k2⟩ := g.ok 0 _ rfl
      exact ⟨v, k1, k2.1, sB, r⟩
    | succ i =>
      obtain ⟨v, k1, k2⟩ := g.ok (i + 1) s hs
      have hs' : G[i]? = some s := hs
      have nbs := List.all_eq_true.mp nb s (List.mem_of_getElem? hs')
      refine ⟨v, k1, ?_⟩
      cases s with
      | un => exact k2
      | any => trivial
      | exn _ _ _ => exact ⟨k2.1, k2.2.mono sF⟩
      | tre b _ _ => cases nbs
      | val d => exact ⟨k2.choose, k2.choose_spec.1, k2.choose_spec.2.mono sF⟩
      | bor d => cases nbs
      | own l =>
        obtain ⟨a, xs, e, e2, n, hn, r⟩ := k2
        obtain ⟨q1, q2, q3⟩ := hH _ _ e2 hn
        exact ⟨a, xs, e, q1, by rw [q3]; exact n, q2, r.mono sF⟩
      | ownd l =>
        obtain ⟨a, e, d, n, hn⟩ := k2
        obtain ⟨u, hu⟩ := d.some
        obtain ⟨q1, q2, q3⟩ := hH _ _ hu hn
        exact ⟨a, e, by rw [q1, ← hu]; exact d.mono sF, by rw [q3]; exact n, q2⟩
      | ownu l =>
        obtain ⟨a, e, d, n, hn⟩ := k2
        obtain ⟨u, hu⟩ := d.some
        obtain ⟨q1, q2, q3⟩ := hH _ _ hu hn
        exact ⟨a, e, by rw [q1, ← hu]; exact d.mono sF, by rw [q3]; exact n, q2⟩
      | obj a c l =>
        obtain ⟨dx, fs, e, h1, n, hn, h2, r⟩ := k2
        obtain ⟨q1, q2, q3⟩ := hH _ _ h1 hn
        exact ⟨dx, fs, e, q1, by rw [q3]; exact n, q2, h2, r.mono sF⟩
  dis := fun i j s t d hi hj o1 o2 e1 e2 => by
    cases i with
    | zero => cases hi; cases o1
    | succ i => cases j with
      | zero => cases hj; cases o2
      | succ j => exact g.dis (i + 1) (j + 1) s t d hi hj o1 o2 e1 e2
theorem Ext.rebase {B0 : Hp} {b : Addr} {o u : HO} (x : Ext B0 B F H) (fb : F b = none) (hb : B b = some u) : Ext B0 (upd B b o) F (upd H b o) where
  sF := x.sF
  sH := fun c z h => by
    by_cases e : c = b
    · subst e
      rw [upd_same] at h ⊢
      exact h
    · rw [upd_ne e] at h ⊢
      exact x.sH _ _ h
  sFH := fun c z h => by
    rw [upd_ne (ne_of_none h fb)]
    exact x.sFH _ _ h
  old := fun c z h => by
    by_cases e : c = b
    · subst e
      exact x.old _ _ hb
    · rw [upd_ne e] at h
      exact x.old _ _ h
theorem GT.wr {W : Addr → Prop} {HB : Hp} {a b : Addr} {c : String} {l l' : List (String × D)} {G : List Sl} {σ : St} {o u : HO} (g : GT K W HB B a c l G σ F H) (hb : B b = some u) (wb : W b) (t : ∃ as, TreOk K F (upd B b o) a c l' as ∧ ∀ p ∈ as, W p) : GT K W HB (upd B b o) a c l' G σ F (upd H b o) where
  g := let ⟨_, t1, _⟩ := t; g.g.rebase g.nb hb ⟨_, t1⟩
  nb := g.nb
  t := let ⟨as, t1, t2⟩ := t; let ⟨_, _, w, _⟩ := g.t; ⟨as, t1, w, t2⟩
  out := fun x z nw h => by
    have ne : x ≠ b := fun e => nw (by rw [e]; exact wb)
    rw [upd_ne ne]
    exact g.out _ _ nw h
  new := g.new
  pin := fun x z w h => by
    obtain ⟨n, v, hv⟩ := g.pin x z w h
    refine ⟨n, ?_⟩
    by_cases e : x = b
    · subst e
      exact ⟨o, upd_same⟩
    · exact ⟨v, by rw [upd_ne e]; exact hv⟩
theorem GT.fresh {W : Addr → Prop} {HB : Hp} {a p : Addr} {c : String} {l : List (String × D)} {G : List Sl} {σ : St} (g : GT K W HB B a c l G σ F H) (hp : H p = none) : W p := by
  apply Classical.byContradiction
  intro nw
  cases e : HB p with
  | none => exact nw (g.new p e)
  | some o =>
    have := g.g.sB _ _ (g.out p o nw e)
    rw [hp] at this
    cases this
def Fv1 (K : PySem.W.Frag) (F B : Hp) (v : V) (d : D) (as : List Addr) : Prop := (Rp K F v d ∧ as = []) ∨ ∃ p l, v = .ref p ∧ d = .ow l ∧ F p = none ∧ DctAt K F (B p) l ∧ as = [p]
theorem FvL.cons1 {v : V} {d : D} {as1 as : List Addr} {vs : List V} {ds : List D} (h : Fv1 K F B v d as1) (q : FvL K F B vs ds as) : FvL K F B (v :: vs) (d :: ds) (as1 ++ as) := by
  rcases h with ⟨r, rfl⟩ | ⟨p, l, rfl, rfl, h1, h2, rfl⟩
  · exact .frz r q
  · exact .dk h1 h2 q
theorem FvL.put {f : String} {v : V} {d : D} {as1 : List Addr} (h : Fv1 K F B v d as1) (n1 : as1.Nodup) : ∀ {fs : List (Str × V)} {l : List (String × D)} {as : List Addr}, fs.map (·.1) = l.map (fun q => Str.ofString q.1) → FvL K F B (fs.map (·.2)) (l.map (·.2)) as → as.Nodup → (∀ b ∈ as1, b ∉ as) →
    (putF (Str.ofString f) v fs).map (·.1) = (putD f d l).map (fun q => Str.ofString q.1) ∧ ∃ as', FvL K F B ((putF (Str.ofString f) v fs).map (·.2)) ((putD f d l).map (·.2)) as' ∧ as'.Nodup ∧ ∀ b ∈ as', b ∈ as ∨ b ∈ as1
  | [], [], _, _, q, _, _ => by
    cases q
    refine ⟨rfl, as1, ?_, n1, fun b hb => .inr hb⟩
    have := FvL.cons1 h (FvL.nil (K := K) (F := F) (B := B))
    rw [List.append_nil] at this
    exact this
  | [], _ :: _, _, h, _, _, _ => by simp at h
  | _ :: _, [], _, h, _, _, _ => by simp at h
  | (g, x) :: fs, (g2, y) :: l, as, hn, q, nd, dj => by
    have h1 : g = Str.ofString g2 ∧ fs.map (·.1) = l.map (fun q => Str.ofString q.1) := by simpa using hn
    obtain ⟨rfl, h2⟩ := h1
    have q' : FvL K F B (x :: fs.map (·.2)) (y :: l.map (·.2)) as := q
    have tail : ∃ as2 asx, as = asx ++ as2 ∧ Fv1 K F B x y asx ∧ FvL K F B (fs.map (·.2)) (l.map (·.2)) as2 := by
      cases q' with
      | frz r q3 => exact ⟨_, [], rfl, .inl ⟨r, rfl⟩, q3⟩
      | dk a1 a2 q3 => exact ⟨_, [_], rfl, .inr ⟨_, _, rfl, rfl, a1, a2, rfl⟩, q3⟩
    obtain ⟨as2, asx, rfl, hx, q2⟩ := tail
    have nd2 : as2.Nodup := (List.nodup_append.mp nd).2.1
    have dj2 : ∀ b ∈ as1, b ∉ as2 := fun b hb z => dj b hb (List.mem_append_right _ z)
    by_cases e : g2 = f
    · subst e
      have e1 : putF (Str.ofString g2) v ((Str.ofString g2, x) :: fs) = (Str.ofString g2, v) :: fs := if_pos rfl
      have e2 : putD g2 d ((g2, y) :: l) = (g2, d) :: l := if_pos rfl
      rw [e1, e2]
      refine ⟨by simp [h2], as1 ++ as2, FvL.cons1 h q2, List.nodup_append.mpr ⟨n1, nd2, fun a ha b hb z => dj2 a ha (z ▸ hb)⟩, fun b hb => ?_⟩
      rcases List.mem_append.mp hb with hb | hb
      · exact .inr hb
      · exact .inl (List.mem_append_right _ hb)
    · have e1 : putF (Str.ofString f) v ((Str.ofString g2, x) :: fs) = (Str.ofString g2, x) :: putF (Str.ofString f) v fs := if_neg fun z => e (ofString_inj z)
      have e2 : putD f d ((g2, y) :: l) = (g2, y) :: putD f d l := if_neg e
      rw [e1, e2]
      obtain ⟨i1, as', i2, i3, i4⟩ := FvL.put h n1 h2 q2 nd2 dj2
      have ndx := List.nodup_append.mp nd
      refine ⟨by simp [i1], asx ++ as', FvL.cons1 hx i2, List.nodup_append.mpr ⟨ndx.1, i3, fun a ha b hb z => ?_⟩, fun b hb => ?_⟩
      · subst z
        rcases i4 a hb with hb | hb
        · exact ndx.2.2 a ha a hb rfl
        · exact dj a hb (List.mem_append_left _ ha)
      · rcases List.mem_append.mp hb with hb | hb
        · exact .inl (List.mem_append_left _ hb)
        · rcases i4 b hb with hb | hb
          · exact .inl (List.mem_append_right _ hb)
          · exact .inr hb
theorem FvL.upd {f : String} {kl : List (D × D)} : ∀ {fs : List (Str × V)} {l : List (String × D)} {as : List Addr}, fs.map (·.1) = l.map (fun q => Str.ofString q.1) → FvL K F B (fs.map (·.2)) (l.map (·.2)) as → as.Nodup → l.lookup f = some (.ow kl) →
    ∃ p, fs.lookup (Str.ofString f) = some (.ref p) ∧ p ∈ as ∧ F p = none ∧ DctAt K F (B p) kl ∧ ∀ o kl', DctAt K F (some o) kl' → fs.map (·.1) = (putD f (.ow kl') l).map (fun q => Str.ofString q.1) ∧ FvL K F (upd B p o) (fs.map (·.2)) ((putD f (.ow kl') l).map (·.2)) as
  | [], [], _, _, _, _, h => by simp at h
  | [], _ :: _, _, h, _, _, _ => by simp at h
  | _ :: _, [], _, h, _, _, _ => by simp at h
  | (g, x) :: fs, (g2, y) :: l, as, hn, q, nd, hl => by
    have h1 : g = Str.ofString g2 ∧ fs.map (·.1) = l.map (fun q => Str.ofString q.1) := by simpa using hn
    obtain ⟨rfl, h2⟩ := h1
    have q' : FvL K F B (x :: fs.map (·.2)) (y :: l.map (·.2)) as := q
    by_cases e : f = g2
    · subst e
      have hy : y = .ow kl := by simpa [List.lookup] using hl
      subst hy
      cases q' with
      | frz r q => cases r
      | dk a1 a2 q2 =>
        rename_i p as2
        refine ⟨p, by simp [List.lookup], List.mem_cons_self .., a1, a2, fun o kl' hd => ?_⟩
        have e2 : putD f (.ow kl') ((f, .ow kl) :: l) = (f, .ow kl') :: l := if_pos rfl
        rw [e2]
        refine ⟨by simp [h2], ?_⟩
        refine FvL.dk a1 (by rw [upd_same]; exact hd) (FvL.same (fun b hb => upd_ne fun z => ?_) q2)
        subst z
        exact (List.nodup_cons.mp nd).1 hb
    · have e1 : (f == g2) = false := beq_eq_false_iff_ne.mpr e
      have e2 : (Str.ofString f == Str.ofString g2) = false := beq_eq_false_iff_ne.mpr fun z => e (ofString_inj z)
      have a1 : List.lookup f ((g2, y) :: l) = l.lookup f := by simp [List.lookup, e1]
      have a2 : List.lookup (Str.ofString f) ((Str.ofString g2, x) :: fs) = fs.lookup (Str.ofString f) := by simp [List.lookup, e2]
      rw [a1] at hl
      rw [a2]
      have e3 : ∀ d, putD f d ((g2, y) :: l) = (g2, y) :: putD f d l := fun d => if_neg (Ne.symm e)
      cases q' with
      | frz r q2 =>
        obtain ⟨p, i1, i2, i3, i4, i5⟩ := FvL.upd h2 q2 nd hl
        refine ⟨p, i1, i2, i3, i4, fun o kl' hd => ?_⟩
        obtain ⟨j1, j2⟩ := i5 o kl' hd
        rw [e3]
        exact ⟨by simp [j1], .frz r j2⟩
      | dk b1 b2 q2 =>
        obtain ⟨nd1, nd2⟩ := List.nodup_cons.mp nd
        obtain ⟨p, i1, i2, i3, i4, i5⟩ := FvL.upd h2 q2 nd2 hl
        refine ⟨p, i1, List.mem_cons_of_mem _ i2, i3, i4, fun o kl' hd => ?_⟩
        obtain ⟨j1, j2⟩ := i5 o kl' hd
        rw [e3]
        refine ⟨by simp [j1], .dk b1 ?_ j2⟩
        rw [upd_ne fun z => nd1 (by rw [z]; exact i2)]
        exact b2
end
end DL

set_option Elab.async false
set_option linter.all false
set_option maxRecDepth 100000
set_option maxHeartbeats 4000000
namespace DL
open PySem PySem.Spec L2
inductive OcT where
  | nx (l : List (String × D)) (G : List Sl)
  | ct (l : List (String × D)) (G : List Sl)
  | bk (l : List (String × D)) (G : List Sl)
  | no
def OutT (W : Addr → Prop) (HB B F : Hp) : Prop := (∀ b o, ¬ W b → HB b = some o → B b = some o) ∧ ∀ b o, W b → HB b = some o → F b = none
section
variable {K : PySem.W.Frag} {E : XK} {W : Addr → Prop} {HB B0 B F F' H H' : Hp} {a : Addr} {c : String}
def OcTP (K : PySem.W.Frag) (a : Addr) (c : String) (W : Addr → Prop) (HB B0 F : Hp) (D : Ends) : OcT → Prop
  | .nx l G => ∀ B σ F' H', Same F F' → Ext B0 B F' H' → GT K W HB B a c l G σ F' H' → D.nx σ H'
  | .ct l G => ∀ B σ F' H', Same F F' → Ext B0 B F' H' → GT K W HB B a c l G σ F' H' → D.ct σ H'
  | .bk l G => ∀ B σ F' H', Same F F' → Ext B0 B F' H' → GT K W HB B a c l G σ F' H' → D.bk σ H'
  | .no => False
def WpT {α : Type} (K : PySem.W.Frag) (E : XK) (a : Addr) (c : String) (W : Addr → Prop) (HB B0 : Hp) (post : α → OcT) (m : M α) (F : Hp) (D : Ends) : Prop :=
  match m with
  | .ok x => OcTP K a c W HB B0 F D (post x)
  | .error .stuck => False
  | .error (.exc x) => ∀ B F' H' c' d, Same F F' → Ext B0 B F' H' → OutT W HB B F' → RpX K F' H' c' d x → E c' d H'
theorem GT.outT {l : List (String × D)} {G : List Sl} {σ : St} (g : GT K W HB B a c l G σ F H) : OutT W HB B F := ⟨g.out, fun b o w h => (g.pin b o w h).1⟩
theorem OcTP.mono {D : Ends} {o : OcT} (s : Same F F') (h : OcTP K a c W HB B0 F D o) : OcTP K a c W HB B0 F' D o := by
  cases o with
  | nx l G => exact fun B σ F2 H2 s2 => h B σ F2 H2 (s.trans s2)
  | ct l G => exact fun B σ F2 H2 s2 => h B σ F2 H2 (s.trans s2)
  | bk l G => exact fun B σ F2 H2 s2 => h B σ F2 H2 (s.trans s2)
  | no => exact h
theorem WpT.mono {α : Type} {post : α → OcT} {m : M α} {D : Ends} (s : Same F F') (h : WpT K E a c W HB B0 post m F D) : WpT K E a c W HB B0 post m F' D := by
  cases m with
  | ok x => exact OcTP.mono s h
  | error e => cases e with
    | stuck => exact h
    | exc x => exact fun B F2 H2 c d s2 => h B F2 H2 c d (s.trans s2)
theorem WpT.err {α β : Type} {post : α → OcT} {p2 : β → OcT} {e : Er} {D : Ends} (h : WpT K E a c W HB B0 post (.error e) F D) : WpT K E a c W HB B0 p2 (.error e) F D := by
  cases e with
  | stuck => exact h
  | exc x => exact h
theorem WpT.bind {α β : Type} {post : α → OcT} {p1 : β → OcT} {m : M β} {k : β → M α} {D D1 : Ends} (h : WpT K E a c W HB B0 post (m >>= k) F D) (hk : ∀ j, m = .ok j → WpT K E a c W HB B0 post (k j) F D → OcTP K a c W HB B0 F D1 (p1 j)) : WpT K E a c W HB B0 p1 m F D1 := by
  cases m with
  | ok j => exact hk j rfl h
  | error e => cases e with
    | stuck => exact h
    | exc x => exact h
theorem WpT.need {α : Type} {post : α → OcT} {b : Bool} {k : Unit → M α} {D : Ends} (h : WpT K E a c W HB B0 post (need b >>= k) F D) : b = true ∧ WpT K E a c W HB B0 post (k ()) F D := by
  cases b with
  | true => exact ⟨rfl, h⟩
  | false => exact h.elim
theorem WpT.expr {α β γ : Type} {post : α → OcT} {rel : Hp → Hp → γ → β → Prop} {m : M β} {k : β → M α} {l : List (String × D)} {G : List Sl} {σ : St} {D : Ends} {Q : γ → Hp → Prop} (x0 : Ext B0 B F H) (g : GT K W HB B a c l G σ F H) (h : WpT K E a c W HB B0 post (m >>= k) F D)
    (hk : ∀ j F' H' v, Ext F H F' H' → Ext B0 B F' H' → GT K W HB B a c l G σ F' H' → rel F' H' v j → WpT K E a c W HB B0 post (k j) F' D → Q v H') : WpG K E rel m F H Q := by
  cases m with
  | ok j => exact fun F' H' v x r => hk j F' H' v x (x0.trans x) (g.ext x) r (WpT.mono x.sF h)
  | error e => cases e with
    | stuck => exact h
    | exc y => exact fun F' H' c d x r => h B F' H' c d x.sF (x0.trans x) (g.ext x).outT r
end
section
variable {X : Cx} {E : XK} {a : Addr} {c : String} {l : List (String × D)} {G : List Sl} {e e2 k : Expr} {ma mb mc : M D} {ta tb : M Bool} {pos : Pos} {st : Stmt} {rest body : List Stmt}
end
end DL

set_option Elab.async false
set_option linter.all false
set_option maxRecDepth 100000
set_option maxHeartbeats 4000000
namespace DL
open PySem PySem.Spec L2
section
variable {K : PySem.W.Frag} {F H : Hp}
end
section
variable {X : Cx} {E : St → XK} {G : List Sl} {a : Expr} {ma : M D} {pos : Pos}
end
section
variable {X : Cx} {E : XK} {a : Addr} {c : String} {l : List (String × D)} {G : List Sl} {e k : Expr} {m mk : M D} {pos : Pos}
theorem GT.self {K : PySem.W.Frag} {W : Addr → Prop} {HB B F H : Hp} {σ : St} (g : GT K W HB B a c l G σ F H) : σ[0]? = some (some (.ref a)) := by
  obtain ⟨o, h1, h2⟩ := g.g.ok 0 _ rfl
  rw [h1, h2.1]
@[simp] abbrev mFld (f : String) (l : List (String × D)) (m : M D) : M (List (String × D)) := m >>= fun d => need (decide (l.length < 1000)) >>= fun _ => .ok (putD f d l)
@[simp] abbrev mFldD (f : String) (l : List (String × D)) : M (List (String × D)) := need (decide (l.length < 1000)) >>= fun _ => .ok (putD f (.ow []) l)
def mOw (f : String) (l : List (String × D)) (k : List (D × D) → M (List (D × D))) : M (List (String × D)) := match l.lookup f with
  | some (.ow kl) => k kl >>= fun kl' => .ok (putD f (.ow kl') l)
  | _ => stuck
theorem GT.dict {K : PySem.W.Frag} {W : Addr → Prop} {HB B B0 F H : Hp} {σ : St} {f : String} {kl : List (D × D)} (x0 : Ext B0 B F H) (g : GT K W HB B a c l G σ F H) (hl : l.lookup f = some (.ow kl)) : ∃ dx fs p, H a = some (.ins (He.ga K (Str.ofString c)) dx fs) ∧ fs.lookup (Str.ofString f) = some (.ref p) ∧ DctAt K F (H p) kl ∧
    ∀ o kl', DctAt K F (some o) kl' → ∃ B', Ext B0 B' F (upd H p o) ∧ GT K W HB B' a c (putD f (.ow kl') l) G σ F (upd H p o) := by
  obtain ⟨as, t1, w1, t2⟩ := g.t
  obtain ⟨dx, fs, h1, h2, h3⟩ := t1.at_
  obtain ⟨p, i1, i2, i3, i4, i5⟩ := FvL.upd h2 h3 t1.nd hl
  obtain ⟨u, hu⟩ := i4.some
  refine ⟨dx, fs, p, g.g.sB _ _ h1, i1, ?_, fun o kl' hd => ⟨upd B p o, x0.rebase i3 hu, g.wr hu (t2 p i2) ⟨as, ⟨⟨dx, fs, ?_, (i5 o kl' hd).1, (i5 o kl' hd).2⟩, t1.na, t1.nd⟩, t2⟩⟩⟩
  · rw [g.g.sB _ _ hu, ← hu]
    exact i4
  · rw [upd_ne (Ne.symm (t1.ne p i2))]
    exact h1
@[simp] abbrev mPutT (f : String) (l : List (String × D)) (me mk : M D) : M (List (String × D)) := me >>= fun d => mOw f l fun kl => mk >>= fun k => need (k.isKey && decide (kl.length < sizeLine)) >>= fun _ => .ok (putDk kl k d)
theorem WpT.ow {α : Type} {K : PySem.W.Frag} {E : XK} {W : Addr → Prop} {HB B0 F : Hp} {post : α → OcT} {f : String} {g : List (D × D) → M (List (D × D))} {k : List (String × D) → M α} {Dn : Ends} (h : WpT K E a c W HB B0 post (mOw f l g >>= k) F Dn) : ∃ kl, l.lookup f = some (.ow kl) ∧ WpT K E a c W HB B0 post (g kl >>= fun kl' => k (putD f (.ow kl') l)) F Dn := by
  unfold mOw at h
  split at h
  · rename_i kl e
    refine ⟨kl, e, ?_⟩
    cases eg : g kl with
    | ok z => rw [eg] at h; exact h
    | error z => rw [eg] at h; exact h
  · exact h.elim
@[simp] abbrev mPopT (f : String) (l : List (String × D)) (mk : M D) : M (List (String × D)) := mOw f l fun kl => mk >>= fun k => need (k.isKey && (D.look kl k).isSome) >>= fun _ => .ok (dropDk kl k)
end
end DL

set_option Elab.async false
set_option linter.all false
set_option maxRecDepth 100000
set_option maxHeartbeats 4000000
namespace DL
open PySem PySem.Spec L2
section
variable {P : Program} {w : World} {K : PySem.W.Frag} {mg : Str → Option Value} {base : Heap} {x qual : Str} {params : Arguments} {body : List Stmt} {scope : Scope} {dvs : List V} {kws : List (Str × V)} {f : Addr} {fd : FuncData}
end
end DL

set_option Elab.async false
set_option linter.all false
set_option maxRecDepth 100000
set_option maxHeartbeats 4000000
namespace DL
open PySem PySem.Spec L2
section
variable {X : Cx} {E : XK} {a : Addr} {c : String} {l : List (String × D)} {G : List Sl} {e : Expr} {pos : Pos} {rest : List Stmt}
@[simp] abbrev mCallT (mn : String) (l : List (String × D)) (m : List (String × D) → List D → M (List (String × D))) (ms : M (List D)) : M (List (String × D)) := need (l.lookup mn).isNone >>= fun _ => ms >>= fun ds => m l ds
end
end DL

set_option Elab.async false
set_option linter.all false
set_option maxRecDepth 100000
set_option maxHeartbeats 4000000
namespace DL
open PySem PySem.Spec L2
section
variable {K : PySem.W.Frag} {F H B : Hp} {G : List Sl} {σ : St}
def D.keyOk : D → Bool
  | .int _ => true
  | .str x => PyData.strOk x
  | _ => false
theorem key_rp {k : Key} (h : (kD k).keyOk = true) : Rp K F (kV k) (kD k) := by
  cases k with
  | inl i => exact .int i
  | inr x => exact .str x h
theorem kl_get {kvs : List (Key × V)} {kl : List (D × D)} (h1 : kvs.map (fun q => kD q.1) = kl.map (·.1)) (h2 : RpL K F (kvs.map (·.2)) (kl.map (·.2))) {i : Nat} {d : D × D} (h : kl[i]? = some d) : ∃ k v, kvs[i]? = some (k, v) ∧ kD k = d.1 ∧ Rp K F v d.2 := by
  have e2 : (kl.map (·.2))[i]? = some d.2 := by rw [List.getElem?_map, h]; rfl
  obtain ⟨v, hv, r⟩ := h2.get e2
  rw [List.getElem?_map] at hv
  cases hk : kvs[i]? with
  | none => rw [hk] at hv; cases hv
  | some q =>
    rw [hk] at hv
    cases hv
    have e1 : (kvs.map (fun q => kD q.1))[i]? = some (kD q.1) := by rw [List.getElem?_map, hk]; rfl
    rw [h1, List.getElem?_map, h] at e1
    exact ⟨q.1, q.2, rfl, (Option.some.inj e1).symm, r⟩
end
section
variable {X : Cx} {E : St → XK} {a : Addr} {c : String} {l : List (String × D)} {G : List Sl} {e : Expr} {pos : Pos}
end
end DL

set_option Elab.async false
set_option linter.all false
set_option maxRecDepth 100000
set_option maxHeartbeats 4000000
section
open PySem PySem.SeqAt PyProof.Rows PySem.W
namespace PySem.W
section
variable {prog : Program} {w : World} {A : Around} {E : Value → Shared → Prop} {s : Shared}
theorem min_ix {l : Addr} {vs : Array Value} {x : PyData} {xs : List PyData} {as : List Addr} {Q : Value → Shared → Prop} (hh : A.handled = none) (hl : s.heap.IsList l vs) (hr : ReadsAll s.heap vs.toList (x :: xs) as) (ha : AlikeAll (x :: xs)) (hu : A.units + 1 + PyData.depthAll (x :: xs) < cLine)
    (h : ∀ (i : Nat) v h' tk, vs[i]? = some v → (x :: xs).getD i .none = minD x xs → (∀ b o, s.heap.get? b = some o → h'.get? b = some o) → Q v { s with heap := h', toks := tk }) :
    wpAny (model prog w) A (call (.builtin "min") [.ref l]) Q E s := by
  have hn : vs.size = xs.length + 1 := readsAll_len hr
  refine call_min_walkH (iter_listW (A := A.in1) hh hl fun s₂ e W st hfp hw hk => ?_)
  refine ⟨_, _, _, _, _, _, _, s.heap, _, rfl, W, st, hfp, by omega, hw, hk, cmpIn_lt (A := A.in1) hr ha (by show A.units + 1 + _ < _; exact hu), fun v s' hP m => ?_⟩
  obtain ⟨h', tk, rfl, hk'⟩ := moved_old e rfl m
  have e1 : vs.size - 1 = xs.length := by omega
  have e2 := (argBest_fold dataLt PyData.none x xs xs.length (Nat.le_refl _)).2
  rw [List.take_length] at e2
  rw [e1] at hP
  exact h _ v h' tk hP (by unfold minD; rw [← e2]) hk'
end
end PySem.W
end
namespace DL
open PySem PySem.Spec L2
def rLeast (K : PySem.W.Frag) (best : PyData → List PyData → PyData) : List V → Hp → VK → Prop := fun vs H Q => ∃ (a : Addr) (xs : List V) (d : PyData) (ds : List PyData), vs = [V.ref a] ∧ SqL K H a xs ∧ DpAll K H xs (d :: ds) ∧ PySem.W.AlikeAll (d :: ds) ∧ PyData.depthAll (d :: ds) ≤ 60 ∧
  ∀ i x, xs[i]? = some x → (d :: ds).getD i .none = best d ds → Q x H
theorem vals_at : ∀ {xs : List V} {its : List Value} {i : Nat} {v : Value}, Vals xs its → its[i]? = some v → ∃ x, xs[i]? = some x ∧ RelV x v
  | _, _, _, _, .nil, h => by simp at h
  | _, _, 0, _, .cons r _, h => by
    simp at h
    subst h
    exact ⟨_, rfl, r⟩
  | _, _, i + 1, v, .cons _ rs, h => by
    obtain ⟨x, h1, h2⟩ := vals_at (i := i) (v := v) rs (by simpa using h)
    exact ⟨x, by simpa using h1, h2⟩
theorem cr_minL {X : Cx} (hu : X.A.units + 70 < cLine) (hc : X.calm = true) : CallR X (.builtin "min") (rLeast X.K PySem.W.minD) := by
  intro pins s σ H vs us Q I r h
  obtain ⟨a, xs, d, ds, rfl, hs, hd, hal, hk, q⟩ := h
  obtain ⟨its, rv, hl, hz⟩ := I.list hs
  rw [Vals.ref1 r]
  obtain ⟨as, ra⟩ := Dp.readsAll I _ _ _ hd rv
  refine PySem.W.min_ix (I.ok.hd hc) hl.isList (by simpa using ra) hal (by omega) fun i v h' tk hv e k => ?_
  obtain ⟨x, h1, h2⟩ := vals_at rv (by simpa using hv)
  exact ⟨x, H, I.kept k, h2, q i x h1 e⟩
mutual
theorem D.py_inj : ∀ {n : Nat} {a b : D}, a.shp n = true → b.shp n = true → a.py = b.py → a = b
  | n, a, b, ha, hb, e => by
    rcases D.shp_cases ha with h1 | ⟨m, l, rfl, hd, hl⟩
    · rcases D.shp_cases hb with h2 | ⟨m2, l2, _, hd2, _⟩
      · rcases D.leaf_cases h1 with rfl | ⟨x, rfl⟩ | ⟨x, rfl⟩ | ⟨x, rfl⟩ <;> rcases D.leaf_cases h2 with rfl | ⟨y, rfl⟩ | ⟨y, rfl⟩ | ⟨y, rfl⟩ <;> simp_all [D.py]
      · rcases D.leaf_cases h1 with rfl | ⟨x, rfl⟩ | ⟨x, rfl⟩ | ⟨x, rfl⟩ <;> rcases hd2 with rfl | rfl <;> simp [D.py] at e
    · rcases D.shp_cases hb with h2 | ⟨m2, l2, e2, hd2, hl2⟩
      · rcases D.leaf_cases h2 with rfl | ⟨x, rfl⟩ | ⟨x, rfl⟩ | ⟨x, rfl⟩ <;> rcases hd with rfl | rfl <;> simp [D.py] at e
      · have e2 := Nat.succ.inj e2
        subst e2
        rcases hd with rfl | rfl <;> rcases hd2 with rfl | rfl <;> simp only [D.py] at e
        · injection e with e
          rw [D.pyL_inj hl hl2 e]
        · cases e
        · cases e
        · injection e with e
          rw [D.pyL_inj hl hl2 e]
theorem D.pyL_inj : ∀ {n : Nat} {a b : List D}, a.all (D.shp n) = true → b.all (D.shp n) = true → D.pyL a = D.pyL b → a = b
  | n, [], [], _, _, _ => rfl
  | n, [], _ :: _, _, _, e => by simp [D.pyL] at e
  | n, _ :: _, [], _, _, e => by simp [D.pyL] at e
  | n, x :: a, y :: b, ha, hb, e => by
    simp only [D.pyL] at e
    injection e with e1 e2
    rw [List.all_cons, Bool.and_eq_true] at ha hb
    rw [D.py_inj ha.1 hb.1 e1, D.pyL_inj ha.2 hb.2 e2]
end
def D.least (x : D) (xs : List D) : D := xs.foldl (fun a y => if PySem.W.dataLt y.py a.py then y else a) x
theorem least_py : ∀ (xs : List D) (x : D), (D.least x xs).py = PySem.W.minD x.py (xs.map D.py)
  | [], x => rfl
  | y :: xs, x => by
    show (D.least (if PySem.W.dataLt y.py x.py then y else x) xs).py = PySem.W.minD (if PySem.W.dataLt y.py x.py then y.py else x.py) (xs.map D.py)
    rw [least_py]
    split <;> rfl
theorem least_mem : ∀ (xs : List D) (x : D), D.least x xs ∈ x :: xs
  | [], x => List.mem_cons_self ..
  | y :: xs, x => by
    show D.least (if PySem.W.dataLt y.py x.py then y else x) xs ∈ _
    have := least_mem xs (if PySem.W.dataLt y.py x.py then y else x)
    rcases List.mem_cons.mp this with h | h
    · rw [h]
      split
      · exact List.mem_cons_of_mem _ (List.mem_cons_self ..)
      · exact List.mem_cons_self ..
    · exact List.mem_cons_of_mem _ (List.mem_cons_of_mem _ h)
def D.minOk (l : List D) : Bool := l.all (D.shp 20) && D.alk l && l.all fun d => !d.isNon
def D.minL : D → M D
  | .lst [] => stuck
  | .lst (x :: l) => need (D.minOk (x :: l)) >>= fun _ => .ok (D.least x l)
  | _ => stuck
theorem depth_all : ∀ {l : List D} {n : Nat}, l.all (D.shp n) = true → PyData.depthAll (l.map D.py) ≤ n
  | [], n, _ => by simp [PyData.depthAll]
  | a :: l, n, h => by
    rw [List.all_cons, Bool.and_eq_true] at h
    have h1 := D.shp_depth h.1
    have h2 := depth_all h.2
    simp only [List.map_cons, PyData.depthAll]
    omega
theorem least_run {K : PySem.W.Frag} {F H : Hp} {E : XK} {v : V} {x : D} {l : List D} {best : PyData → List PyData → PyData} {bd : D} {Q : VK} (hb : bd.py = best x.py (l.map D.py)) (hm : bd ∈ x :: l) (s : Same F H) (r : RpT K F H v (.lst (x :: l))) (q : WpG K E (rE K) (need (D.minOk (x :: l)) >>= fun _ => .ok bd) F H Q) : rLeast K best [v] H Q := by
  obtain ⟨c, q⟩ := q.need
  obtain ⟨c, c3⟩ := and2 c
  obtain ⟨c1, c2⟩ := and2 c
  obtain ⟨p, xs, rfl, h, r⟩ := r.lst s
  obtain ⟨d1, _⟩ := RpL.dpAll s c1 r
  refine ⟨p, xs, x.py, l.map D.py, rfl, SqL.of h, ?_, ⟨fun a ha b hb => alk_ok c2 a (by simpa using ha) b (by simpa using hb), fun a ha => ?_⟩, Nat.le_trans (depth_all c1) (by omega), fun i v hv e => ?_⟩
  · rw [D.pyL_eq] at d1
    exact d1
  · have ha : a ∈ (x :: l).map D.py := ha
    obtain ⟨d, hd, rfl⟩ := List.mem_map.mp ha
    have n := List.all_eq_true.mp c3 d hd
    have sh := List.all_eq_true.mp c1 d hd
    rcases D.shp_cases sh with h1 | ⟨m, l, _, hd, _⟩
    · rcases D.leaf_cases h1 with rfl | ⟨x, rfl⟩ | ⟨x, rfl⟩ | ⟨x, rfl⟩
      · cases n
      · simp [D.py]
      · simp [D.py]
      · simp [D.py]
    · rcases hd with rfl | rfl <;> simp [D.py]
  · obtain ⟨d, hd, rd⟩ := r.getV hv
    have ed : d = bd := by
      refine D.py_inj (n := 20) (List.all_eq_true.mp c1 d (List.mem_of_getElem? hd)) (List.all_eq_true.mp c1 bd hm) ?_
      rw [hb, ← e]
      have : ((x :: l).map D.py)[i]? = some d.py := by rw [List.getElem?_map, hd]; rfl
      show d.py = ((x :: l).map D.py).getD i .none
      rw [List.getD_eq_getElem?_getD, this]
      rfl
    subst ed
    exact q F H v (Ext.refl s) rd
theorem minL_op {X : Cx} : OpN X.K (f1 D.minL) (rLeast X.K PySem.W.minD) := opN1 fun E F H v d Q s r q => by
  cases d with
  | lst l => cases l with
    | nil => exact q.elim
    | cons x l => exact least_run (least_py l x) (least_mem l x) s r q
  | _ => exact q.elim
end DL

set_option Elab.async false
set_option linter.all false
set_option maxRecDepth 100000
set_option maxHeartbeats 4000000
namespace DL
open PySem PySem.Spec L2
@[simp] def a0 {α : Type} (f : M α) : List D → M α
  | [] => f
  | _ => stuck
section
variable {X : Cx} {E : XK} {a : Addr} {c : String} {l : List (String × D)} {G : List Sl} {e : Expr} {pos : Pos} {st : Stmt} {rest body : List Stmt}
end
end DL

set_option Elab.async false
set_option linter.all false
set_option maxRecDepth 100000
set_option maxHeartbeats 4000000
namespace DL
open PySem PySem.Spec L2
@[simp] abbrev mDisp1 (mk mv : M D) : M (List (D × D)) := mk >>= fun k => mv >>= fun v => need k.isKey >>= fun _ => .ok [(k, v)]
section
variable {X : Cx} {E : XK} {G : List Sl} {k v : Expr} {mk mv : M D} {pos : Pos}
end
end DL

set_option Elab.async false
set_option linter.all false
set_option maxRecDepth 100000
set_option maxHeartbeats 4000000
namespace DL
open PySem PySem.Spec L2
section
variable {X : Cx} {E : St → XK} {G : List Sl} {a b e z : Expr} {ma mb mz : M D} {pos : Pos}
@[simp] abbrev mRevL (m : M D) : M (List D) := m >>= fun x => match x with | .lst l => .ok l.reverse | _ => stuck
end
end DL
section
open PySem PySem.SeqAt PyProof.Rows PySem.W
namespace PySem.W
section
variable {prog : Program} {w : World} {A : Around} {E : Value → Shared → Prop} {s : Shared}
end
end PySem.W
end
namespace DL
open PySem PySem.Spec L2
section
variable {X : Cx} {E : St → XK} {G : List Sl} {a b e z : Expr} {ma mb mz : M D} {pos : Pos}
end
end DL

set_option Elab.async false
set_option linter.all false
set_option maxRecDepth 100000
set_option maxHeartbeats 4000000
namespace DL
open PySem PySem.Spec L2

structure SupAt (P : Program) (K : PySem.W.Frag) (C fI : Addr) (name qual : Str) (params : Arguments) (body : List Stmt) (scope : Scope) : Prop where
  ex : ∃ (kV doc pm ct oc ccl cl : Value) (an od cdd cld : Option Addr) (osl ccs csl : Array (Option Value)) (cda cc : Addr) (vs : Array Value) (file : Str) (tf : Tok),
    K.lookup fI = some ⟨oc, od, .func (PySem.W.ksFn name qual params body scope .none kV doc pm an (.ref cda) ct cc), osl⟩ ∧ PySem.W.codeIn K (.ref cda) qual = true ∧ K.lookup cda = some ⟨ccl, cdd, .fields vs, ccs⟩ ∧ vs[2]? = some (.str file tf) ∧
      ((P.main.file : Str) == file) = true ∧ K.lookup cc = some ⟨cl, cld, .cell (some (.ref C)), csl⟩
  htop : (P.main.scope.names.lookup ("super" : Str)).isSome = false
  sup : PySem.W.ks_superIn K C C "__init__" = some (some (.builtin "ValueError.__init__"))
  sub : PySem.W.mroIn K C (.ref C) = some true
  ve : PySem.W.subIn K (.ref C) (.type "ValueError") = some true
  sta : PySem.W.nsIn K cStatics "thirdparty.any" = some none
  ini : PySem.W.excInitIn K C He.veBase "ValueError.__new__" = true
  gs : PySem.W.nsIn K mainGlobals "super" = some none
structure SupSt (slf fld : Str) (scope : Scope) : Prop where
  hk : scope.kind = .function
  hco : scope.isCoroutine = false
  hgen : scope.isGenerator = false
  s1 : scope.names.lookup ("super" : Str) = some .globalImplicit
  s2 : scope.names.lookup ("__class__" : Str) = some .free
  s3 : scope.names.lookup slf = some .local
  s4 : scope.names.lookup fld = some .local
  s5 : ∀ x ∈ scope.names, x.2 ≠ .cell
  ne : (slf == fld) = false
  nd1 : (slf == ("__debug__" : Str)) = false
  nd2 : (fld == ("__debug__" : Str)) = false

section
open PySem.W PySem.Calls PyProof.Rows
variable {P : Program} {w : World} {A : Around} {K : Frag} {C fI a t0 : Addr} {name qual self fld txt : Str} {params : Arguments} {body : List Stmt} {scope : Scope} {a1 a2 : Arg} {p0 p1 p2 p3 p4 p5 q1 q2 q3 q4 : Pos} {ck : Nat} {u : Value} {h₀ hp : Heap} {g : Array GenState} {d : Drawn} {t : Nat} {os : OsState} {mg : Str → Option Value} {R : Result → Shared → Prop} {pl : Env → Sem Bool}
theorem sup_run (S : SupAt P K C fI name qual params body scope) (T : SupSt self fld scope)
    (hbody : body = [.Expr (.Call (.Attribute (.Call (.Name "super" p0) [] [] p1) "__init__" p2) [.Constant (.str txt) ck p3] [] p4) p5, .Assign [.Attribute (.Name self q1) fld q2] (.Name fld q3) q4])
    (hbind : ∀ kV doc pm an cdv ct cc (x y : Value), bindArgs (ksFn name qual params body scope .none kV doc pm an cdv ct cc) ⟨[x, y], []⟩ = pure [(self, x), (fld, y)])
    (hpar : (params.posonlyargs ++ params.args).head? = some a1) (ha1 : a1.arg = self)
    (he : ∀ env, eval (.Call (.Attribute (.Call (.Name "super" p0) [] [] p1) "__init__" p2) [.Constant (.str txt) ck p3] [] p4) env = (do
      let ov ← attributeBase (.Call (.Name "super" p0) [] [] p1) "__init__" env (eval (.Call (.Name "super" p0) [] [] p1) env)
      standAt p2.atName
      let (f, first) ← holding [ov] (getMethod ov "__init__" (pl env))
      callWith p4 f first (backTo p4 (starEach [.Constant (.str txt) ck p3] env)) []))
    (hsw : ∀ env, swapsWith (.Name fld q3) (some (.Attribute (.Name self q1) fld q2)) q4.line env = pure false)
    (O : OexC K C) (hno : findIn K (.ref C) fld = some none)
    (X₀ : K.In h₀) (k0 : ∀ b o, h₀.get? b = some o → hp.get? b = some o) (na : h₀.get? a = none)
    (M0 : L2.Mod K mg h₀) (hroom : A.depth < recursionLimit) (ha : hp.get? a = some (HandSPX.excO C t0))
    (hq : ∀ h' t' t1 dx, (∀ b o, b ≠ a → hp.get? b = some o → h'.get? b = some o) → hp.objs.size ≤ dx → dx ≠ a →
      h'.get? a = some ({ cls := .ref C, dict := some dx, data := .fields #[.ref t1, .none, .none, .none, .bool false, .none] } : Obj) → h'.Ns1 dx (fun y => if y = fld then some u else none) → R (.ok (.ret .none)) ⟨h', g, d, t', os⟩) :
    codeAny (model P w) A (.call (.ref fI) ⟨[.ref a, u], []⟩) R ⟨hp, g, d, t, os⟩ := by
  have X : K.In hp := X₀.keeps k0
  obtain ⟨mb, bl, bs⟩ := M0.blt
  have gs : mg ("super" : Str) = none := mg_none_of X₀ M0.glob S.gs
  have lim : hp.NoLimit := M0.nolimit.keeps k0
  obtain ⟨kV, doc, pm, ct, oc, ccl, cl, an, od, cdd, cld, osl, ccs, csl, cda, cc, vs, file, tf, lk, hcd, hcode, hvs, hfile, hcell⟩ := S.ex
  have hL0 : a ≠ hp.objs.size := Nat.ne_of_lt (Heap.lt_size ha)
  refine ks_codeAny_call_defAt (fd := ksFn name qual params body scope .none kV doc pm an (.ref cda) ct cc) (body := body) (binds := [(self, .ref a), (fld, u)]) hroom (X _ _ lk) rfl lim (codeRec_of X hcd) rfl (BindsTo.of_eq (hbind ..)) T.s5 (fun x hx => ?_) (fun h₁ hns k₁ => ?_) T.hco T.hgen T.hk
  · rcases List.mem_cons.mp hx with rfl | hx
    · exact T.s3
    · rcases List.mem_cons.mp hx with rfl | hx
      · exact T.s4
      · cases hx
  have kL : ∀ b o, h₀.get? b = some o → h₁.get? b = some o := fun b o e => k₁ _ _ (k0 _ _ e)
  have X1 : K.In h₁ := X₀.keeps kL
  have hx1 := k₁ _ _ ha
  have hns : h₁.Ns hp.objs.size (fun x => List.lookup x [(fld, u), (self, .ref a)]) := hns
  obtain ⟨nm, N', qn, bss, bm, hdct, sn, sub, ab, col, dd, kk0, kk1, kk2, kk3, kk5, hC1, hT⟩ := excInit_of X1 S.ini
  have l1 : List.lookup self [(fld, u), (self, Value.ref a)] = some (.ref a) := by simp [List.lookup, T.ne]
  have l2 : List.lookup fld [(fld, u), (self, Value.ref a)] = some u := by simp [List.lookup]
  subst hbody
  show _root_.PySem.wpAt _ (A.deeper (ksEnv qual scope hp.objs.size fI (.ref cda) cc)) (.func _ (ksEnv qual scope hp.objs.size fI (.ref cda) cc)) (execs _ (ksEnv qual scope hp.objs.size fI (.ref cda) cc)) _ _ _
  refine ks_wpAt_execs_cons (ks_wpAt_Expr_any (ks_wpAt_MethodCall (pl := pl _) ?_ (he _)) (by simp [interactive, T.hk]))
  refine ks_wpAt_super_base (ar := a1) T.s1 T.s2 (by decide) rfl (X1 _ _ lk) rfl hpar rfl (X1 _ _ hcode) rfl hvs hfile S.htop ?_
  refine ks_loadName_global T.hk T.s1 (loadGlobal_builtin (M0.glob.keeps kL) gs (bl.keeps kL) ((bs _ (by decide)).trans (by rfl)) ⟨rfl, ?_⟩)
  refine wpAny_loadName_free T.hk T.s2 rfl ⟨_, X1 _ _ hcell, rfl⟩ ?_
  rw [ha1]
  refine wpAny_loadName_local T.hk T.s3 hns (v := .ref a) l1 ?_
  refine ks_wpAny_isType_cls hC1 rfl ⟨rfl, ?_⟩
  have sub1 : ∀ {h : Heap}, K.In h → Looks (model P w) h (isSubtype (.ref C) (.ref C)) true := fun Y => looks_mroIn Y S.sub
  refine ks_wpAny_call_super hC1 rfl hx1 rfl (fun c e => by cases e) (sub1 X1) (fun h2 e2 k2 => ?_)
  have ks2 : ∀ b o, h₀.get? b = some o → h2.get? b = some o := fun b o e => k2 _ _ (kL _ _ e)
  have X2 : K.In h2 := X₀.keeps ks2
  have ha2 := k2 _ _ hx1
  have I2 : InstAt h2 a (HandSPX.excO C t0) C none := ⟨ha2, rfl, rfl, trivial⟩
  have hI2 : Looks (model P w) h2 (isInstance (.ref a) (.type "ValueError")) true := I2.type.andThen (looks_subIn X2 S.ve)
  have hm := S.sup
  cases hc : clsIn K C with
  | none => unfold ks_superIn at hm; rw [hc] at hm; cases hm
  | some cd =>
    unfold ks_superIn at hm
    rw [hc] at hm
    refine kxs_getMethod kxs_ValueError e2 (looks_opaque X2 S.sta) (l₀ := cd.mro) (fun A Q E s k q => wpAny_bind ((looks_clsIn X2 hc) A _ E s k (wpAny_pure q))) rfl X2 hm hI2 (ks_ne X2 I2 hc) (by decide) ?_
    have k3 : ∀ b o, h2.get? b = some o → (h2.push (kxs_mw "ValueError.__init__" a)).get? b = some o := fun b o e => Heap.get?_push_of_some _ e
    have hu3 : (h2.push (kxs_mw "ValueError.__init__" a)).get? h2.objs.size = some (kxs_mw "ValueError.__init__" a) := Heap.get?_push_at rfl rfl
    generalize h2.push (kxs_mw "ValueError.__init__" a) = h3 at k3 hu3 ⊢
    have ks3 : ∀ b o, h₀.get? b = some o → h3.get? b = some o := fun b o e => k3 _ _ (ks2 _ _ e)
    have X3 : K.In h3 := X₀.keeps ks3
    have ha3 := k3 _ _ ha2
    obtain ⟨nm3, N3, qn3, bss3, bm3, hdct3, sn3, sub3, ab3, col3, dd3, k30, k31, k32, k33, k35, hC3, hT3⟩ := excInit_of X3 S.ini
    refine kxs_callWith (i := "ValueError.__init__") (x := a) rfl (evalArgs_plain (spliced_cons (Constant_str (k := ck) (pos := p3) (spliced_nil ⟨hu3, ?_⟩))))
    -- the call
    refine wpAny_call (codeAny_of_tree ?_)
    show wpAny _ _ (callAny (.ref h2.objs.size) _) _ _ _
    simp only [callAny]
    refine wpAny_bind (wpAny_load hu3 ?_)
    simp only [kxs_mw, show (Value.type "method-wrapper" == Value.type "method" || Value.type "method-wrapper" == Value.type "builtin_function_or_method" || Value.type "method-wrapper" == Value.type "method-wrapper") = true by decide, if_true]
    refine KFB.if_so (by decide) ?_
    refine wpAny_bind (check_bound_init PySem.F.excBase_ValueError.toExcCallFacts hC3 ha3 rfl ?_)
    refine wpAny_bind (wpAny_pure (wpAny_pure ?_))
    refine ⟨plainId_quiet PySem.F.excBase_ValueError.init.plain _, codeAny_builtin PySem.F.excBase_ValueError.initEntry ?_⟩
    refine exc_init_tree (cls := .ref C) (t0 := t0) (dv := none) (c2 := .none) (c3 := .none) (b4 := .bool false) ha3 (by rw [sizeLine_eq]; exact (by decide : 1 ≤ 16777216)) (fun h4 k4 ha4 ht4 => ?_)
    have k4' : ∀ b o, b ≠ a → hp.get? b = some o → h4.get? b = some o := fun b o n e => k4 _ _ n (k3 _ _ (k2 _ _ (k₁ _ _ e)))
    have ks4 : ∀ b o, h₀.get? b = some o → h4.get? b = some o := fun b o e => k4' _ _ (fun z => by rw [z, na] at e; cases e) (k0 _ _ e)
    have X4 : K.In h4 := X₀.keeps ks4
    have hns4 : h4.Ns hp.objs.size (fun x => List.lookup x [(fld, u), (self, .ref a)]) := by
      obtain ⟨oL, es, ep, hL, rL⟩ := hns
      exact ⟨oL, es, ep, k4 _ _ (Ne.symm hL0) (k3 _ _ (k2 _ _ hL)), rL⟩
    have hsz : hp.objs.size ≤ h4.objs.size := by
      obtain ⟨oL, _, _, hL, _⟩ := hns4
      exact Nat.le_of_lt (Heap.lt_size hL)
    refine ks_wpAt_execs_cons (ks_wpAt_Assign_Attr (wpAt_of_wpAny (wpAny_Name (wpAny_loadName_local T.hk T.s4 hns4 l2 (wpAny_Name (wpAny_loadName_local T.hk T.s3 hns4 l1 ?_) T.nd1)) T.nd2)) (hsw _))
    obtain ⟨nm4, q4', N4, bs4, bm4, sn4, sub4, ab4, col4, dd4, k40, k41, k42, k43, k45, hC4, hbm⟩ := O.cls
    have hcl : clsIn K C = some { name := nm4, bases := bs4, mro := .ref C :: bm4, ns := N4, qualname := q4', hasDict := true, slotNames := sn4, subclasses := sub4, abstract := ab4, collection := col4, hasDel := false } := by unfold clsIn; rw [hC4] <;> rfl
    refine set_plain X4 (ox := { cls := .ref C, dict := none, data := .fields #[.ref h3.objs.size, .none, .none, .none, .bool false, .none] }) (od := none) ⟨ha4, rfl, rfl, trivial⟩ O.sa ?_
    refine HandSPX.exc_osa X4 ha4 hcl (show HandSPX.refsVE (.ref C :: bm4) = true from hbm) rfl hno (fun h5 tk5 dx k5 dn dne hx hn => ?_)
    exact wpAt_of_wpAny (wpAny_execs_nil (hq h5 _ _ dx (fun b o n e => k5 _ _ n (k4' _ _ n e)) (Nat.le_trans hsz dn) dne hx hn))
end
end DL

set_option Elab.async false
set_option linter.all false
set_option maxRecDepth 100000
set_option maxHeartbeats 4000000
namespace DL
open PySem PySem.Spec L2
section
open PySem.W PySem.Calls PyProof.Rows
def tSup (C : Addr) (f : Str) (te : TE) : L2.St → Hp → XK → Prop := fun σ H Q => te σ H fun v H1 => ∀ d, H1 d = none → Q (.ref C) (some d) (upd H1 d (.xd [(f, v)]))
variable {X : Cx} {e : Expr} {te : TE}
variable {C fI : Addr} {x name qual self fld txt : Str} {params : Arguments} {body : List Stmt} {scope : Scope} {a1 : Arg} {p pos p0 p1 p2 p3 p4 p5 q1 q2 q3 q4 : Pos} {ck : Nat} {pl : Env → Sem Bool}
structure SupC (P : Program) (K : PySem.W.Frag) (C fI : Addr) (fld : Str) : Prop where
  run : ∀ {w : World} {A : Around} {mg : Str → Option Value} {a t0 : Addr} {u : Value} {h₀ hp : Heap} {g : Array GenState} {d : Drawn} {t : Nat} {os : OsState} {R : Result → Shared → Prop},
    K.In h₀ → (∀ b o, h₀.get? b = some o → hp.get? b = some o) → h₀.get? a = none → L2.Mod K mg h₀ → A.depth < recursionLimit → hp.get? a = some (HandSPX.excO C t0) →
    (∀ h' t' t1 dx, (∀ b o, b ≠ a → hp.get? b = some o → h'.get? b = some o) → hp.objs.size ≤ dx → dx ≠ a →
      h'.get? a = some ({ cls := .ref C, dict := some dx, data := .fields #[.ref t1, .none, .none, .none, .bool false, .none] } : Obj) → h'.Ns1 dx (fun y => if y = fld then some u else none) → R (.ok (.ret .none)) ⟨h', g, d, t', os⟩) →
    codeAny (model P w) A (.call (.ref fI) ⟨[.ref a, u], []⟩) R ⟨hp, g, d, t, os⟩
  o : OexC K C
  iC : findIn K (.ref C) "__init__" = some (some (.ref fI))
  tI : typeIn K (.ref fI) = some (.type "function")
theorem pmk_sup (T : SupC X.prog X.K C fI fld) (hr : Room 1 X.A) (hg : Gl X x) (hm : X.mg x = some (.ref C)) (ha : PE X e te)
    (hdb : (x == ("__debug__" : Str)) = false := by decide) (he : starEach (e :: []) X.env = (false, eval e X.env) :: starEach [] X.env := by rfl) (hpl : (backTo pos (starEach [] X.env)).any (·.1) = false := by rfl) :
    PMk X (.Call (.Name x p) [e] [] pos) (tSup C fld te) := by
  intro pins s σ H Q I h
  obtain ⟨nm, q, N, bs, bm, sn, sub, ab, col, dd, k0, k1, k2, k3, k5, hC, hbm⟩ := T.o.cls
  refine wpAny_Call_Name_kw (ld_glob I hg hm ?_ hdb)
  have ha' : PA X [e] (tCons te tNil) := pa_cons ha pa_nil he
  refine PySem.W.callWith_K (h₀ := X.base) I.ok.mod.kin T.o.kC (thn (ha'.run pos pins s σ H (fun vs H1 => match vs with | [v] => ∀ d, H1 d = none → Q (.ref C) (some d) (upd H1 d (.xd [(fld, v)])) | _ => False) I h) fun us s1 ⟨vs, H1, I1, r1, q1⟩ => ⟨I1.kIn, ?_⟩) he hpl
  obtain ⟨v, ev⟩ : ∃ v, vs = [v] := by
    match vs, q1 with
    | [v], _ => exact ⟨v, rfl⟩
  subst ev
  have q1 : ∀ d, H1 d = none → Q (.ref C) (some d) (upd H1 d (.xd [(fld, v)])) := q1
  cases r1 with
  | @cons _ u _ us' ru rn =>
    cases rn
    show wpAny _ _ (call (.ref C) [u]) _ _ _
    obtain ⟨hp, g, dr, tk, os⟩ := s1
    have hsz : hp.objs.size ≤ hp.objs.size + 1 := Nat.le_succ _
    have hn : H1 (hp.objs.size + 1) = none := I1.hok.fresh hsz
    have kk : ∀ b o, hp.get? b = some o → ((hp.push (PySem.W.kdv_tup [u])).push (PySem.HandSPX.excO C hp.objs.size)).get? b = some o := fun b o e => Heap.get?_push_of_some _ (Heap.get?_push_of_some _ e)
    have hget : ((hp.push (PySem.W.kdv_tup [u])).push (PySem.HandSPX.excO C hp.objs.size)).get? (hp.objs.size + 1) = some (PySem.HandSPX.excO C hp.objs.size) := by heap_get
    have I2 : Inv X pins σ (upd H1 (hp.objs.size + 1) (exo (hp.objs.size + 1) C none)) ⟨(hp.push (PySem.W.kdv_tup [u])).push (PySem.HandSPX.excO C hp.objs.size), g, dr, tk, os⟩ :=
      I1.laid (t' := tk) (a := hp.objs.size + 1) (o := exo (hp.objs.size + 1) C none) (h' := (hp.push (PySem.W.kdv_tup [u])).push (PySem.HandSPX.excO C hp.objs.size)) kk hsz (exo_ok hget)
    have hna : X.base.get? (hp.objs.size + 1) = none := by
      cases z : X.base.get? (hp.objs.size + 1) with
      | none => rfl
      | some o => exact absurd (Heap.lt_size (I1.bk _ _ z)) (Nat.not_lt.mpr hsz)
    refine wpAny_call (PySem.HandSPX.call_own F.excBase_ValueError (fun Y => PySem.HandSPX.refsVE_contains Y bm hbm) (I1.kIn _ _ hC) (PySem.W.looks_findIn I1.kIn T.iC) (fun self => PySem.W.bind_fn I1.kIn self T.tI) (by rw [sizeLine_eq]; exact (by decide : 1 ≤ 16777216)) ?_)
    refine T.run (mg := X.mg) I.ok.mod.kin (fun b o e => I2.bk b o e) hna I.ok.mod (hr.make C [u] []).depth hget (fun h' t' t1 dx k hdx dne hx hns => ?_)
    generalize hh2 : ((hp.push (PySem.W.kdv_tup [u])).push (PySem.HandSPX.excO C hp.objs.size)) = hp2 at *
    generalize haa : hp.objs.size + 1 = a at *
    have e : (upd H1 a (exo a C none)) a = some (exo a C none) := upd_same
    have hnd : (upd H1 a (exo a C none)) dx = none := I2.hok.fresh hdx
    have hd1 : H1 dx = none := by rw [upd_ne dne] at hnd; exact hnd
    have nd : ∀ {b : Addr} {o : Obj}, hp2.get? b = some o → b ≠ dx := fun {b o} q => Nat.ne_of_lt (Nat.lt_of_lt_of_le (Heap.lt_size q) hdx)
    have na : ∀ {b : Addr}, (upd H1 a (exo a C none)) b = none → b ≠ a := fun {b} n z => by
      rw [z, e] at n
      cases n
    have Un1 : Un (frs X.stack) [] (upd H1 a (exo a C none)) (upd (upd (upd H1 a (exo a C none)) dx (exd dx [(fld, v)])) a (exo a C (some dx))) hp2 h' := {
      keep := fun b o q n _ _ => k b o (na n) q
      slot := fun b o q n _ _ => ⟨o.slots, k b o (na n) q⟩
      free := fun b o q n _ => by rw [upd_ne (na n), upd_ne (nd q)]; exact n
      there := fun b o q _ => by
        by_cases hb : b = a
        · exact ⟨_, by rw [hb]; exact hx⟩
        · exact ⟨o, k b o hb q⟩
      tups := fun b xs q => by rw [upd_ne (at_ne e q exo_tup), upd_ne (ne_of_none q hnd)]; exact q
      frzs := fun b o v q => by rw [upd_ne (at_ne e q exo_frz), upd_ne (ne_of_none q hnd)]; exact q
      tbls := fun b ps q => ⟨#[], by rw [upd_ne (at_ne e q exo_tbl), upd_ne (ne_of_none q hnd), q]; simp⟩ }
    have hok : HOk X.prog X.w (upd (upd (upd H1 a (exo a C none)) dx (exd dx [(fld, v)])) a (exo a C (some dx))) h' := fun b o q => by
      by_cases hb : b = a
      · subst hb
        rw [upd_same] at q
        cases q
        exact exo_ok hx
      · rw [upd_ne hb] at q
        by_cases hd : b = dx
        · subst hd
          rw [upd_same] at q
          cases q
          exact exd_ok hns (relO_put (fs := []) ru fun g => True.intro)
        · rw [upd_ne hd] at q
          exact (I2.hok b o q).stay (fun c v hc z => k c v (by
              rcases hc with hc | hc
              · rw [hc]
                exact hb
              · exact at_ne e hc exo_own) z)
            (fun c hc => by rw [upd_ne (at_ne e hc exo_own), upd_ne (ne_of_none hc hnd)]; exact hc) (fun c xs hc => by rw [upd_ne (at_ne e hc exo_tup), upd_ne (ne_of_none hc hnd)]; exact hc)
    have hsz' : hp.objs.size ≤ a := hsz
    have fin := mk_end (Q := Q) (fs := [(fld, v)]) (d2 := dr) (t2 := t') (raises_own T.o.exC T.o.tyC) I1 hsz' kk Un1 hok rfl I2.bare upd_same (by rw [upd_ne dne, upd_same]) hd1 (by
      have eq1 : upd (del (upd (upd (upd H1 a (exo a C none)) dx (exd dx [(fld, v)])) a (exo a C (some dx))) a) dx (.xd [(fld, v)]) = upd H1 dx (.xd [(fld, v)]) := by
        funext b
        by_cases hb : b = dx
        · rw [hb, upd_same, upd_same]
        · rw [upd_ne hb, upd_ne hb]
          by_cases hba : b = a
          · rw [hba, del_same, hn]
          · rw [del_ne hba, upd_ne hba, upd_ne hb, upd_ne hba]
      rw [eq1]
      exact q1 dx hd1)
    exact ⟨rfl, fin⟩
end
end DL

set_option Elab.async false
set_option linter.all false
set_option maxRecDepth 100000
set_option maxHeartbeats 4000000
namespace DL
open PySem PySem.Spec L2 PyProof.Rows
abbrev Hdl : Type := Value × Option Nat × (Addr → Value → Option Addr → TS)
def wGen (K : PySem.W.Frag) (Wout : WX) (D : Ends) : List Hdl → WX
  | [] => Wout
  | (c, none, ts) :: r => fun cls d σ H => ∃ b, PySem.W.exmOne K cls c = some b ∧ (b = true → ∀ a, H a = none → ts a cls d D σ H) ∧ (b = false → wGen K Wout D r cls d σ H)
  | (c, some i, ts) :: r => fun cls d σ H => ∃ b, PySem.W.exmOne K cls c = some b ∧ (b = true → ∀ a, H a = none → ts a cls d { nx := fun σ' H' => D.nx (σ'.set i none) H', rt := D.rt, bk := fun σ' H' => D.bk (σ'.set i none) H', ct := fun σ' H' => D.ct (σ'.set i none) H' } (σ.set i (some (.ref a))) H) ∧ (b = false → wGen K Wout D r cls d σ H)
inductive HdsG (X : Cx) : List ExceptHandler → List Hdl → Prop
  | nil : HdsG X [] []
  | cons {x : Str} {c : Value} {ts : Addr → Value → Option Addr → TS} {b₀ : Stmt} {suite : List Stmt} {np pos' : Pos} {hds : List ExceptHandler} {l : List Hdl} (hc : Names X x c)
      (hsu : ∀ (a : Addr) (oe : Obj) (cls : Value) (d : Option Addr) (pn : List (Addr × Obj)), Zc cls d oe → (∃ vs, oe.data = .fields vs) → PSs (X.suite a ((a, oe) :: pn)) (b₀ :: suite) (ts a cls d)) (r : HdsG X hds l) :
      HdsG X (.ExceptHandler (some (.Name x np)) none (b₀ :: suite) pos' :: hds) ((c, none, ts) :: l)
  | consA {x n : Str} {i : Nat} {c : Value} {ts : Addr → Value → Option Addr → TS} {b₀ : Stmt} {suite : List Stmt} {np pos' : Pos} {hds : List ExceptHandler} {l : List Hdl} (hc : Names X x c) (hi : X.N[i]? = some n) (hln : X.env.kindOf n = some .local)
      (hsu : ∀ (a : Addr) (oe : Obj) (cls : Value) (d : Option Addr) (pn : List (Addr × Obj)), Zc cls d oe → (∃ vs, oe.data = .fields vs) → PSs (X.suite a ((a, oe) :: pn)) (b₀ :: suite) (ts a cls d)) (r : HdsG X hds l) :
      HdsG X (.ExceptHandler (some (.Name x np)) (some n) (b₀ :: suite) pos' :: hds) ((c, some i, ts) :: l)
section
variable {X : Cx} {body : List Stmt} {h₀ : ExceptHandler} {hds : List ExceptHandler} {l : List Hdl} {pos : Pos} {tb : WX → TS} {Wout : WX}
theorem ps_try_gen (hs : X.stack = X.env :: X.outer) (hf : X.env.frame = some X.env.locals) (hN : X.N.Nodup) (tk : Takes X Wout)
    (hb : ∀ (W : WX) (pn : List (Addr × Obj)) (xe : Value → Shared → Prop), Takes (X.tr pn xe) W → PassesOwn (model X.prog X.w) X.A X.env xe → PSs (X.tr pn xe) body (tb W))
    (hh : HdsG X (h₀ :: hds) l) : PS X (.Try body (h₀ :: hds) [] [] pos) (fun D σ H => tb (wGen X.K Wout D l) D σ H) := by
  refine ⟨fun pins s σ H D I h => ?_⟩
  have ok := I.ok
  have hfr : X.A.frames = some (X.env :: X.outer) := by rw [ok.frames, hs]
  refine wpAny_Try_except ?_
  refine wpAny_mono ((hb (wGen X.K Wout D l) (X.pn ++ pins) (fun e s₁ => wpAny (model X.prog X.w) X.A (noteFrame e X.env) (fun _ s₂ => wpAny (model X.prog X.w) X.A (setFlight e none) (fun _ s₃ =>
    wpAny (model X.prog X.w) X.A (handleBy e X.env (h₀ :: hds)) (SP X pins D) X.xe s₃) X.xe s₂) X.xe s₁) (fun u s' xx => ?_) PassesOwn.looking).run [] s σ H D (I.toTry _) h) (fun f s1 hsp => ?_) (fun e s1 he => he)
  · -- the catch
    obtain ⟨a, B, sI, pins', σ', H', cls, d, rfl, J', nb, up, sky, na, os, ag, w⟩ := xx
    have J : Inv X pins σ' H' sI := J'.ofTry ok
    have sky' : Sky B (X.env :: X.outer) a (Zc cls d) X.env.locals s'.heap := by rw [← hs]; exact sky
    show wpAny (model X.prog X.w) X.A (noteFrame (.ref a) X.env) _ _ _
    refine Sky.land Zc.steady hfr hf sky' fun h3 fl3 up3 => ?_
    have J3 : Inv X pins σ' H' { s' with heap := h3 } := J.landed nb fl3.1 (up.trans up3) os ag
    obtain ⟨oe3, vs3, he3, hz3, hd3⟩ := fl3.there
    have notFr : ∀ {h : Heap} {o : Obj} {vs : Array Value}, h.FunFrames B (X.env :: X.outer) → h.get? a = some o → o.data = .fields vs → a ∉ frs (X.env :: X.outer) := fun {h o vs} ff e dd hm => by
      obtain ⟨_, o', e', hnf⟩ := ff.mem hm
      rw [e] at e'; cases e'
      exact hnf _ dd
    have nfr := notFr fl3.2.2.1 he3 hd3
    have nL : a ≠ X.env.locals := fun z => nfr (List.mem_filterMap.mpr ⟨X.env, List.mem_cons_self, by rw [hf, z]⟩)
    have nF : a ∉ X.fs := fun hm => by
      obtain ⟨e, he, q⟩ := List.mem_filterMap.mp hm
      exact nfr (List.mem_filterMap.mpr ⟨e, List.mem_cons_of_mem _ he, q⟩)
    have S3 := J3.suite he3 hd3 na nL nF
    have tst : ∀ {x : Str} {c : Value} {np : Pos} {Q : Value → Shared → Prop} {E : Value → Shared → Prop}, Names X x c → Q c { s' with heap := h3 } → wpAny (model X.prog X.w) (X.A.mark (some (.ref a))) (eval (.Name x np) X.env) Q E { s' with heap := h3 } := fun {x c np Q E} hc q => by
      obtain ⟨hg, hdbg, hm | ⟨hm, hv, hnn⟩⟩ := hc
      · exact ld_glob (X := X.suite a ((a, oe3) :: (X.pn ++ pins))) S3 hg hm q hdbg
      · exact ld_blt (X := X.suite a ((a, oe3) :: (X.pn ++ pins))) S3 hg hm hv q hnn hdbg
    have LT : PySem.W.Looks (model X.prog X.w) h3 (typeOf (.ref a)) cls := fun A Q E s k q => wpAny_typeOf_ref (k _ _ he3) (by rw [hz3.1]; exact q)
    have go : ∀ {hds' : List ExceptHandler} {l' : List Hdl}, HdsG X hds' l' → wGen X.K Wout D l' cls d σ' H' →
        wpAny (model X.prog X.w) X.A (handleBy (.ref a) X.env hds') (SP X pins D) X.xe { s' with heap := h3 } := by
      intro hds' l' hk
      induction hk with
      | nil =>
        intro w
        refine wpAny_handleBy_nil ?_
        obtain ⟨k1, k2, k3, oe, vs, T, oT, ts', he, hz, hd, h1, hr⟩ := id fl3
        unfold PySem.passOn
        refine wpAny_bind (wpAny_field he hd h1 ?_)
        rw [if_neg (show ¬ ((Value.ref T == Value.none) = true) from by simp)]
        have fin : wpAny (model X.prog X.w) X.A (setFlight (.ref a) X.env.frame) (fun _ s4 => wpAny (model X.prog X.w) X.A (throw (.ref a) : Sem Flow) (SP X pins D) X.xe s4) X.xe { s' with heap := h3 } := by
          rw [hf]
          refine HandSPX.setFlight_upZ fl3 fun h4 hh4 up4 => wpAny_throw (tk _ _ ?_)
          exact ⟨a, B, sI, pins, σ', H', cls, d, rfl, J, nb, (up.trans up3).trans up4, .inr (.inr (by rw [hs]; exact hh4)), na, os, ag, w⟩
        first
          | exact wpAny_bind (wpAny_pure (wpAny_bind fin))
          | exact wpAny_bind fin
      | @cons x c ts b₀ suite np pos' hds2 l2 hc hsu r ih =>
        intro w
        obtain ⟨b, hb1, hyes, hno⟩ := w
        refine wpAny_handleBy_cons (codeAny_handlers_test ?_) (by intro q; cases q)
        have LM := PySem.W.exm_one (M := model X.prog X.w) (J3.kIn) LT hb1
        refine tst hc (LM.here ?_)
        cases b with
        | true =>
          refine codeAny_handlers_suite ?_
          refine HandSPX.lands_againZ fl3 fun h4 fl4 up4 => ?_
          have J4 : Inv X pins σ' H' { s' with heap := h4 } := J.landed nb fl4.1 ((up.trans up3).trans up4) os ag
          obtain ⟨oe4, vs4, he4, hz4, hd4⟩ := fl4.there
          have S4 := J4.suite he4 hd4 na nL nF
          refine wpAny_mono ((hsu a oe4 cls d (X.pn ++ pins) hz4 ⟨_, hd4⟩).run [] _ _ H' _ S4 (hyes rfl a na)) (fun f s6 hsp => ?_) (fun _ _ z => False.elim z)
          cases f with
          | next =>
            obtain ⟨σ6, H6, S6, q6⟩ := hsp
            exact ⟨_, _, S6.unsuite ok, q6⟩
          | brk =>
            obtain ⟨σ6, H6, S6, q6⟩ := hsp
            exact ⟨_, _, S6.unsuite ok, q6⟩
          | cont =>
            obtain ⟨σ6, H6, S6, q6⟩ := hsp
            exact ⟨_, _, S6.unsuite ok, q6⟩
          | ret u =>
            obtain ⟨v6, σ6, H6, S6, r6, q6⟩ := hsp
            exact ⟨_, _, _, S6.unsuite ok, r6, q6⟩
        | false =>
          show wpAny _ X.A (handleBy (.ref a) X.env hds2) _ _ _
          exact ih (hno rfl)
      | @consA x n i c ts b₀ suite np pos' hds2 l2 hc hi hln hsu r ih =>
        intro w
        obtain ⟨b, hb1, hyes, hno⟩ := w
        refine wpAny_handleBy_cons (codeAny_handlers_test ?_) (by intro q; cases q)
        have LM := PySem.W.exm_one (M := model X.prog X.w) (J3.kIn) LT hb1
        refine tst hc (LM.here ?_)
        cases b with
        | true =>
          refine codeAny_handlers_suite_as ?_
          refine HandSPX.lands_againZ fl3 fun h4 fl4 up4 => ?_
          have J4 : Inv X pins σ' H' { s' with heap := h4 } := J.landed nb fl4.1 ((up.trans up3).trans up4) os ag
          obtain ⟨oe4, vs4, he4, hz4, hd4⟩ := fl4.there
          have S4 := J4.suite he4 hd4 na nL nF
          refine store_ok (X := X.suite a ((a, oe4) :: (X.pn ++ pins))) (v := .ref a) S4 hN hi (.inl hln) rfl (fun s5 S5 => ?_) (.inr hln)
          refine wpAny_mono ((hsu a oe4 cls d (X.pn ++ pins) hz4 ⟨_, hd4⟩).run [] s5 _ H' _ S5 (hyes rfl a na)) (fun f s6 hsp => ?_) (fun _ _ z => False.elim z)
          have end_ : ∀ {σ6 : L2.St} {H6 : Hp} {Q : Shared → Prop}, Inv (X.suite a ((a, oe4) :: (X.pn ++ pins))) [] σ6 H6 s6 → (∀ s7, Inv X pins (σ6.set i none) H6 s7 → Q s7) →
              wpAny (model X.prog X.w) X.A (do bindName X.env n .none; unbindBehindTheSuite X.env n pos') (fun _ s7 => Q s7) X.xe s6 := fun {σ6 H6 Q} S6 hq => gone_ok (S6.unsuite ok) hN hi hln hq
          cases f with
          | next =>
            obtain ⟨σ6, H6, S6, q6⟩ := hsp
            exact end_ S6 fun s7 J7 => ⟨_, _, J7, q6⟩
          | brk =>
            obtain ⟨σ6, H6, S6, q6⟩ := hsp
            exact end_ S6 fun s7 J7 => ⟨_, _, J7, q6⟩
          | cont =>
            obtain ⟨σ6, H6, S6, q6⟩ := hsp
            exact end_ S6 fun s7 J7 => ⟨_, _, J7, q6⟩
          | ret u =>
            obtain ⟨v6, σ6, H6, S6, r6, q6⟩ := hsp
            exact end_ S6 fun s7 J7 => ⟨_, _, _, J7, r6, q6⟩
        | false =>
          show wpAny _ X.A (handleBy (.ref a) X.env hds2) _ _ _
          exact ih (hno rfl)
    exact go hh w
  · cases f with
    | next =>
      obtain ⟨σ', H', J', q⟩ := hsp
      exact wpAny_execs_nil ⟨σ', H', J'.ofTry ok, q⟩
    | brk =>
      obtain ⟨σ', H', J', q⟩ := hsp
      exact ⟨σ', H', J'.ofTry ok, q⟩
    | cont =>
      obtain ⟨σ', H', J', q⟩ := hsp
      exact ⟨σ', H', J'.ofTry ok, q⟩
    | ret u =>
      obtain ⟨v, σ', H', J', r, q⟩ := hsp
      exact ⟨v, σ', H', J'.ofTry ok, r, q⟩
end
end DL

set_option Elab.async false
set_option linter.all false
set_option maxRecDepth 100000
set_option maxHeartbeats 4000000
namespace DL
open PySem PySem.Spec L2
structure XC (K : PySem.W.Frag) (Fs : List String) (c : String) : Prop where
  e : ExcC K (He.ga K (Str.ofString c))
  x : XfC K (He.ga K (Str.ofString c))
  no : ∀ f ∈ Fs, PySem.W.findIn K (.ref (He.ga K (Str.ofString c))) (Str.ofString f) = some none
def excCB (K : PySem.W.Frag) (D : Addr) : Bool := decide (PySem.W.findIn K (.ref D) "__getattribute__" = some (some (.builtin "BaseException.__getattribute__"))) && (decide (PySem.W.findIn K (.ref D) "__getattr__" = some none) && (decide (PySem.W.subIn K (.ref D) (.type "BaseException") = some true) &&
  (PySem.W.hasDictIn K D && (decide (PySem.W.findIn K (.ref D) "__class__" = some (some (.builtin "object.__class__"))) && (decide (PySem.W.specialIn K (.builtin "object.__class__") "__get__" = some (some (.builtin "getset_descriptor.__get__"))) &&
  (decide (PySem.W.takesIn K (.builtin "object.__class__") = some true) && decide (PySem.W.mroIn K D (.type "object") = some true)))))))
theorem excCB_ok {K : PySem.W.Frag} {D : Addr} (h : excCB K D = true) : ExcC K D := by
  obtain ⟨h1, h⟩ := and2 h
  obtain ⟨h2, h⟩ := and2 h
  obtain ⟨h3, h⟩ := and2 h
  obtain ⟨h4, h⟩ := and2 h
  obtain ⟨h5, h⟩ := and2 h
  obtain ⟨h6, h⟩ := and2 h
  obtain ⟨h7, h8⟩ := and2 h
  exact ⟨of_decide_eq_true h1, of_decide_eq_true h2, of_decide_eq_true h3, h4, of_decide_eq_true h5, of_decide_eq_true h6, of_decide_eq_true h7, of_decide_eq_true h8⟩
def xcB (K : PySem.W.Frag) (Fs : List String) (c : String) : Bool := excCB K (He.ga K (Str.ofString c)) && (xfB K (He.ga K (Str.ofString c)) && Fs.all fun f => decide (PySem.W.findIn K (.ref (He.ga K (Str.ofString c))) (Str.ofString f) = some none))
theorem xcB_ok {K : PySem.W.Frag} {Fs : List String} {c : String} (h : xcB K Fs c = true) : XC K Fs c := by
  obtain ⟨h1, h⟩ := and2 h
  obtain ⟨h2, h3⟩ := and2 h
  exact ⟨excCB_ok h1, xfB_ok h2, fun f hf => of_decide_eq_true (List.all_eq_true.mp h3 f hf)⟩
def cvD (K : PySem.W.Frag) : Option String → Value
  | some c => .ref (He.ga K (Str.ofString c))
  | none => .type "ValueError"
structure XP (K : PySem.W.Frag) (U : List String) (t : Option String) (cs : List String) : Prop where
  m : ∀ c ∈ U, PySem.W.exmOne K (.ref (He.ga K (Str.ofString c))) (cvD K t) = some (cs.contains c)
  i : ∀ c ∈ U, PySem.W.kitOne K (.ref (He.ga K (Str.ofString c))) (cvD K t) = some (cs.contains c)
def xpB (K : PySem.W.Frag) (U : List String) (t : Option String) (cs : List String) : Bool := U.all fun c => decide (PySem.W.exmOne K (.ref (He.ga K (Str.ofString c))) (cvD K t) = some (cs.contains c)) && decide (PySem.W.kitOne K (.ref (He.ga K (Str.ofString c))) (cvD K t) = some (cs.contains c))
theorem xpB_ok {K : PySem.W.Frag} {U : List String} {t : Option String} {cs : List String} (h : xpB K U t cs = true) : XP K U t cs :=
  ⟨fun c hc => of_decide_eq_true (and2 (List.all_eq_true.mp h c hc)).1, fun c hc => of_decide_eq_true (and2 (List.all_eq_true.mp h c hc)).2⟩

def mExc0 {α : Type} (c : String) : M α := .error (.exc ⟨c, []⟩)
def mExc1 {α : Type} (c f : String) (m : M D) : M α := m >>= fun d => .error (.exc ⟨c, [(f, d)]⟩)
@[simp] abbrev mRs {α : Type} (m : M Empty) : M α := m >>= fun d => nomatch d
def Ex.get (x : Ex) (f : String) : M D := match x.args with
  | [(g, v)] => if g = f then .ok v else stuck
  | _ => stuck
def Ex.isA (x : Ex) (cs : List String) : M D := .ok (.bl (cs.contains x.cls))

section
variable {X : Cx} {E : XK} {G : List Sl} {a b c e : Expr} {ma mb mc : M D} {pos : Pos} {st : Stmt} {rest body : List Stmt} {F H : Hp}
theorem takes_def {P : Program} {w : World} {K : PySem.W.Frag} {mg : Str → Option Value} {base : Heap} {N : List Str} {qual : Str} {scope : Scope} {f : Addr} {cd : Value} {A : Around} {outer : List Env} {s : Shared} {H : Hp} {E : XK} :
    Takes (cxOf (L2.CX P w) P w K mg base N qual scope f cd A outer s H E) (fun c d _ H => E c d H) := takes_of rfl rfl rfl rfl
theorem ds_raise0 {α : Type} {post : α → Oc} {c : String} {m : Str} {j : Nat} {p p2 p3 : Pos} (hc : X.calm = true) (tk : Takes X (fun c d _ H => E c d H))
    (f : PySem.W.excIn X.K (He.ga X.K (Str.ofString c)) He.veBase "ValueError.__new__" = true ∧ PySem.W.keepIn X.K (.ref (He.ga X.K (Str.ofString c))) = true ∧ PySem.W.subIn X.K (.ref (He.ga X.K (Str.ofString c))) (.type "BaseException") = some true ∧ PySem.W.typeIn X.K (.ref (He.ga X.K (Str.ofString c))) = some (.type "type"))
    (gC : X.mg (Str.ofString c) = some (.ref (He.ga X.K (Str.ofString c)))) (hg : Gl X (Str.ofString c)) (hdb : (Str.ofString c == ("__debug__" : Str)) = false := by decide) :
    DS X E G (.Raise (some (.Call (.Name (Str.ofString c) p) [.Constant (.str m) j p2] [] p3)) none pos) (mExc0 c : M α) post := by
  refine ⟨_, ps_raise hc tk (pmk_own PySem.F.excBase_ValueError f.1 gC f.2.1 (raises_own f.2.2.1 f.2.2.2) hg hdb), fun B0 B σ F H D x0 g q => ?_⟩
  exact q F H _ _ (Same.refl _) x0 ⟨rfl, rfl⟩
theorem ds_raise1 {α : Type} {post : α → Oc} {c f : String} {fI : Addr} {p p3 : Pos} {me : M D} (hc : X.calm = true) (tk : Takes X (fun c d _ H => E c d H)) (T : SupC X.prog X.K (He.ga X.K (Str.ofString c)) fI (Str.ofString f)) (hr : Room 1 X.A)
    (gC : X.mg (Str.ofString c) = some (.ref (He.ga X.K (Str.ofString c)))) (hg : Gl X (Str.ofString c)) (ha : DE X (cE E) G e me)
    (hdb : (Str.ofString c == ("__debug__" : Str)) = false := by decide) (he : starEach (e :: []) X.env = (false, eval e X.env) :: starEach [] X.env := by rfl) (hpl : (backTo p3 (starEach [] X.env)).any (·.1) = false := by rfl) :
    DS X E G (.Raise (some (.Call (.Name (Str.ofString c) p) [e] [] p3)) none pos) (mExc1 c f me : M α) post := by
  obtain ⟨t, pe, w⟩ := ha
  refine ⟨_, ps_raise hc tk (pmk_sup T hr hg gC pe hdb he hpl), fun B0 B σ F H D x0 g q => ?_⟩
  refine w B σ F H _ x0.sFH g ?_
  unfold mExc1 at q
  cases me with
  | ok dv =>
    have q : ∀ F' H' c' d', Same F F' → Ext B0 B F' H' → RpX X.K F' H' c' d' ⟨c, [(f, dv)]⟩ → E c' d' H' := q
    intro F1 H1 v x1 r d hd
    have n := Ext.new (o := .xd [(Str.ofString f, v)]) x1.sFH hd
    exact q _ _ _ _ (x1.sF.trans n.sF) ((x0.trans x1).trans n) ⟨rfl, d, v, rfl, upd_same, r.mono n.sF⟩
  | error er =>
    cases er with
    | stuck => exact q.elim
    | exc y => exact fun F1 H1 c' d' x1 r => q F1 H1 c' d' x1.sF (x0.trans x1) r

inductive Wk : List Sl → List Sl → Prop
  | nil : Wk [] []
  | any {s : Sl} {G G' : List Sl} : Wk G G' → Wk (s :: G) (.any :: G')
  | same {s : Sl} {G G' : List Sl} : Wk G G' → Wk (s :: G) (s :: G')
theorem Wk.len : ∀ {G G' : List Sl}, Wk G G' → G.length = G'.length
  | _, _, .nil => rfl
  | _, _, .any h => congrArg Nat.succ h.len
  | _, _, .same h => congrArg Nat.succ h.len
theorem Wk.at : ∀ {G G' : List Sl}, Wk G G' → ∀ (i : Nat) (s : Sl), G'[i]? = some s → s = .any ∨ G[i]? = some s
  | _, _, .nil, i, s, h => by simp at h
  | _, _, .any h, 0, s, e => by
    simp at e
    exact .inl e.symm
  | _, _, .any h, i + 1, s, e => by
    have := h.at i s (by simpa using e)
    simpa using this
  | _, _, .same h, 0, s, e => by
    simp at e
    exact .inr (by simpa using e)
  | _, _, .same h, i + 1, s, e => by
    have := h.at i s (by simpa using e)
    simpa using this
theorem GOk.wk {K : PySem.W.Frag} {B : Hp} {σ : St} {G G' : List Sl} (w : Wk G G') (g : GOk K B G σ F H) : GOk K B G' σ F H where
  sB := g.sB
  len := by rw [g.len, w.len]
  ok := fun i s h => by
    rcases w.at i s h with rfl | h'
    · have hi : i < G'.length := (List.getElem?_eq_some_iff.mp h).1
      have hi2 : i < σ.length := by rw [g.len, w.len]; exact hi
      exact ⟨σ[i], List.getElem?_eq_getElem hi2, trivial⟩
    · exact g.ok i s h'
  dis := fun i j s t a h1 h2 o1 o2 e1 e2 => by
    rcases w.at i s h1 with rfl | h1'
    · cases o1
    · rcases w.at j t h2 with rfl | h2'
      · cases o2
      · exact g.dis i j s t a h1' h2' o1 o2 e1 e2
def WpX {α : Type} (K : PySem.W.Frag) (W : WX) (Gt : List Sl) (B0 B : Hp) (post : α → Oc) (m : M α) (F : Hp) (D : Ends) : Prop :=
  match m with
  | .ok x => OcP K B0 B F D (post x)
  | .error .stuck => False
  | .error (.exc x) => ∀ σ F' H' c d, Same F F' → Ext B0 B F' H' → GOk K B Gt σ F' H' → RpX K F' H' c d x → W c d σ H'
section
variable {K : PySem.W.Frag} {W : WX} {Gt : List Sl} {B0 B F' H' : Hp} {σ : St}
theorem WpX.mono {α : Type} {post : α → Oc} {m : M α} {D : Ends} (s : Same F F') (h : WpX K W Gt B0 B post m F D) : WpX K W Gt B0 B post m F' D := by
  cases m with
  | ok x => exact OcP.mono s h
  | error e => cases e with
    | stuck => exact h
    | exc x => exact fun σ F2 H2 c d s2 => h σ F2 H2 c d (s.trans s2)
theorem WpX.bind {α β : Type} {post : α → Oc} {p1 : β → Oc} {m : M β} {k : β → M α} {D D1 : Ends} (h : WpX K W Gt B0 B post (m >>= k) F D) (hk : ∀ j, m = .ok j → WpX K W Gt B0 B post (k j) F D → OcP K B0 B F D1 (p1 j)) : WpX K W Gt B0 B p1 m F D1 := by
  cases m with
  | ok j => exact hk j rfl h
  | error e => cases e with
    | stuck => exact h
    | exc x => exact h
theorem WpX.expr {α β γ : Type} {post : α → Oc} {rel : Hp → Hp → γ → β → Prop} {m : M β} {k : β → M α} {D : Ends} {Q : γ → Hp → Prop} (x0 : Ext B0 B F H) (wk : Wk G Gt) (g : GOk K B G σ F H) (h : WpX K W Gt B0 B post (m >>= k) F D)
    (hk : ∀ j F' H' v, Ext F H F' H' → Ext B0 B F' H' → rel F' H' v j → WpX K W Gt B0 B post (k j) F' D → Q v H') : WpG K (WE W σ) rel m F H Q := by
  cases m with
  | ok j => exact fun F' H' v x r => hk j F' H' v x (x0.trans x) r (WpX.mono x.sF h)
  | error e => cases e with
    | stuck => exact h
    | exc y => exact fun F' H' c d x r => h σ F' H' c d x.sF (x0.trans x) ((g.ext x).wk wk) r
end
def DSX (X : Cx) (W : WX) (Gt G : List Sl) (st : Stmt) {α : Type} (m : M α) (post : α → Oc) : Prop :=
  ∃ t, PS X st t ∧ ∀ B0 B σ F H D, Ext B0 B F H → GOk X.K B G σ F H → WpX X.K W Gt B0 B post m F D → t D σ H
def DBX (X : Cx) (W : WX) (Gt G : List Sl) (body : List Stmt) {α : Type} (m : M α) (post : α → Oc) : Prop :=
  ∃ t, PSs X body t ∧ ∀ B0 B σ F H D, Ext B0 B F H → GOk X.K B G σ F H → WpX X.K W Gt B0 B post m F D → t D σ H
variable {W : WX} {Gt : List Sl}
theorem dbx_nil {α : Type} {x : α} {post : α → Oc} (h : post x = .nx G) : DBX X W Gt G [] (.ok x) post := by
  refine ⟨_, pss_nil, fun B0 B σ F H D x0 g q => ?_⟩
  have q : OcP X.K B0 B F D (post x) := q
  rw [h] at q
  exact q σ F H (Same.refl _) x0 g
theorem dbx_last {α : Type} {m : M α} {post : α → Oc} (h : DSX X W Gt G st m post) : DBX X W Gt G [st] m post := by
  obtain ⟨t, p, w⟩ := h
  exact ⟨_, pss_one p, w⟩
theorem dbx_cons {α β : Type} {m1 : M β} {p1 : β → Oc} {k : β → M α} {post : α → Oc} (h1 : DSX X W Gt G st m1 p1) (h2 : ∀ j G', p1 j = .nx G' → DBX X W Gt G' rest (k j) post)
    (h3 : ∀ j, (∀ G', p1 j ≠ .nx G') → ∃ a, k j = .ok a ∧ post a = p1 j) : DBX X W Gt G (st :: rest) (m1 >>= k) post := by
  obtain ⟨t1, ps, w1⟩ := h1
  have r2 : PSs X rest (fun D σ H => ∃ j G' B0 B F, p1 j = .nx G' ∧ Ext B0 B F H ∧ GOk X.K B G' σ F H ∧ WpX X.K W Gt B0 B post (k j) F D) :=
    ⟨fun pins s σ H D I ⟨j, G', B0, B, F, e, x, g, q⟩ => by
      obtain ⟨t2, p2, w2⟩ := h2 j G' e
      exact p2.run pins s σ H D I (w2 B0 B σ F H D x g q)⟩
  refine ⟨_, pss_cons ps r2, fun B0 B σ F H D x0 g q => w1 B0 B σ F H _ x0 g (q.bind fun j _ qj => ?_)⟩
  have fin : ∀ o, p1 j = o → (∀ G', o ≠ .nx G') → OcP X.K B0 B F D o := fun o e no => by
    obtain ⟨a, e1, e2⟩ := h3 j fun G' z => no G' (e.symm.trans z)
    rw [e1] at qj
    have qj : OcP X.K B0 B F D (post a) := qj
    rw [e2, e] at qj
    exact qj
  cases e : p1 j with
  | nx G' => exact fun σ' F' H' s' x' g' => ⟨j, G', B0, B, F', e, x', g', qj.mono s'⟩
  | ct G' => exact fin _ e fun G' z => by cases z
  | bk G' => exact fin _ e fun G' z => by cases z
  | rt d => exact fin _ e fun G' z => by cases z
  | rg R => exact fin _ e fun G' z => by cases z
theorem dbx_step {α β : Type} {m1 : M β} {G1 : β → List Sl} (G2 : β → List Sl) {k : β → M α} {post : α → Oc} (h1 : DSX X W Gt G st m1 (fun j => .nx (G1 j))) (e : ∀ j, G1 j = G2 j) (h2 : ∀ j, DBX X W Gt (G2 j) rest (k j) post) : DBX X W Gt G (st :: rest) (m1 >>= k) post :=
  dbx_cons h1 (fun j G' z => by
    injection z with z
    rw [← z, e j]
    exact h2 j) (fun j h => absurd rfl (h _))
theorem dsx_expr {m : M D} (wk : Wk G Gt) (h : DE X (WE W) G e m) (p : ∀ {te : TE}, PE X e te → PS X (.Expr e pos) (tDrop te)) : DSX X W Gt G (.Expr e pos) m (fun _ => .nx G) := by
  obtain ⟨t, pe, w⟩ := h
  refine ⟨_, p pe, fun B0 B σ F H D x0 g q => w B σ F H _ x0.sFH g ?_⟩
  cases m with
  | ok d => exact fun F' H' v x r => (show OcP X.K B0 B F D (.nx G) from q) _ F' H' x.sF (x0.trans x) (g.ext x)
  | error er => cases er with
    | stuck => exact q.elim
    | exc y => exact fun F' H' c d x r => q σ F' H' c d x.sF (x0.trans x) ((g.ext x).wk wk) r
theorem dsx_set {x : Str} {i : Nat} {pos' : Pos} {m : M D} (wk : Wk G Gt) (h : DE X (WE W) G e m) (p : ∀ {te : TE}, PE X e te → PS X (.Assign [.Name x pos'] e pos) (tAsg te (gName i))) : DSX X W Gt G (.Assign [.Name x pos'] e pos) m (fun d => .nx (G.set i (.val d))) := by
  obtain ⟨t, pe, w⟩ := h
  refine ⟨_, p pe, fun B0 B σ F H D x0 g q => w B σ F H _ x0.sFH g ?_⟩
  cases m with
  | ok d => exact fun F' H' v x r => (show OcP X.K B0 B F D (.nx (G.set i (.val d))) from q) _ F' H' x.sF (x0.trans x) ((g.ext x).set r)
  | error er => cases er with
    | stuck => exact q.elim
    | exc y => exact fun F' H' c d x r => q σ F' H' c d x.sF (x0.trans x) ((g.ext x).wk wk) r
theorem dsx_if {α : Type} {A B : List Stmt} {mc : M Bool} {mA mB : M α} {post : α → Oc} (wk : Wk G Gt) (hc : DT X (WE W) G c mc) (hA : DBX X W Gt G A mA post) (hB : DBX X W Gt G B mB post) : DSX X W Gt G (.If c A B pos) (mc >>= fun b => if b = true then mA else mB) post := by
  obtain ⟨tc, pc, wc⟩ := hc
  obtain ⟨t1, p1, w1⟩ := hA
  obtain ⟨t2, p2, w2⟩ := hB
  refine ⟨_, ps_if pc p1 p2, fun B0 B σ F H D x0 g q => wc B σ F H _ x0.sFH g (WpX.expr (H := H) x0 wk g q fun b F' H' v x x' r qd => ?_)⟩
  subst r
  cases v with
  | true => exact w1 B0 B σ F' H' D x' (g.ext x) qd
  | false => exact w2 B0 B σ F' H' D x' (g.ext x) qd
end
end DL

set_option Elab.async false
set_option linter.all false
set_option maxRecDepth 100000
set_option maxHeartbeats 4000000
namespace DL
open PySem PySem.Spec L2
section
open PyProof.Rows
def rIsX (K : PySem.W.Frag) (F0 : Hp) (D a : Addr) (d : Option Addr) (l : List (String × DL.D)) : List V → Hp → VK → Prop := fun xs H Q => ∃ (c : V) (cv : Value) (b : Bool) (F : Hp), Same F H ∧ XAt K F d l ∧ xs = [.ref a, c] ∧ (∀ u, RelV c u → u = cv) ∧ PySem.W.kitOne K (.ref D) cv = some b ∧ Q (.bl b) H
theorem call_isX {X : Cx} {F0 : Hp} {a D : Addr} {d : Option Addr} {l : List (String × DL.D)} {oe : Obj} {pn : List (Addr × Obj)} (C : ExcC X.K D) (hz : Zc (.ref D) d oe) (hf : ∃ vs, oe.data = .fields vs) : CallR (X.suite a ((a, oe) :: pn)) (.builtin "isinstance") (rIsX X.K F0 D a d l) := by
  intro pins s σ H xs us Q I r h
  obtain ⟨c, cv, b, F, sF, xat, rfl, hcv, e, q⟩ := h
  cases r with
  | cons rx rr =>
    cases rr with
    | cons rt rr =>
      cases rr
      cases rx
      have ec := hcv _ rt
      subst ec
      obtain ⟨hget, _⟩ := I.pin (a, oe) (List.mem_append.mpr (.inl List.mem_cons_self))
      obtain ⟨vs, hv⟩ := hf
      have J : ∃ od, PySem.W.InstAt s.heap a oe D od := by
        obtain ⟨oc, od, oda, osl⟩ := oe
        obtain ⟨h1, h2⟩ := hz
        dsimp only at h1 h2 hv
        subst h1 h2 hv
        match l, xat with
        | [], xat =>
          subst xat
          exact ⟨none, hget, rfl, rfl, trivial⟩
        | [(f, v)], xat =>
          obtain ⟨dd, y, e1, e2, _⟩ := xat
          subst e1
          have hx : ObjOk X.prog X.w H s.heap dd (.xd [(Str.ofString f, y)]) := I.hok dd _ (sF _ _ e2)
          obtain ⟨mA, hns, hr⟩ := hx
          obtain ⟨od, ho, hl⟩ := lookIn_ns hns
          exact ⟨some od, hget, rfl, rfl, ho⟩
      obtain ⟨od, J⟩ := J
      obtain ⟨cdD, hcD, _⟩ := PySem.W.any_some C.hd
      exact PySem.W.kia_one (PySem.W.kitx_exc (by rw [hcD] <;> rfl) C.hg C.hk C.hs C.ha C.hn C.ht C.hm) I.kIn J e (fun z => nomatch z) fun tk => ⟨.bl b, H, I.kept (t' := tk) fun _ _ z => z, rfl, q⟩
end
section
variable {X : Cx} {E : St → XK} {G : List Sl} {e : Expr} {pos : Pos} {F H : Hp} {i : Nat} {a : Addr} {oe : Obj} {d : Option Addr} {pn : List (Addr × Obj)} {x : Ex} {Fs U : List String}
theorem de_xfld {f : String} {y : Str} {p1 : Pos} (T : XC X.K Fs x.cls) (hf : f ∈ Fs) (hz : Zc (.ref (He.ga X.K (Str.ofString x.cls))) d oe) (hfl : ∃ vs, oe.data = .fields vs) (hs : G[i]? = some (.exn a d x.args)) (pv : PE (X.suite a ((a, oe) :: pn)) (.Name y p1) (tVar i))
    (hb : attributeBase (.Name y p1) (Str.ofString f) X.env (eval (.Name y p1) X.env) = eval (.Name y p1) X.env := by rfl) :
    DE (X.suite a ((a, oe) :: pn)) E G (.Attribute (.Name y p1) (Str.ofString f) pos) (x.get f) := by
  refine ⟨_, pe_xf T.x (T.no f hf) hz hfl pv hb, fun B σ F H Q s g q => ?_⟩
  obtain ⟨o, h1, h2, h3⟩ := g.ok i _ hs
  subst h2
  refine ⟨_, h1, rfl, rfl, ?_⟩
  obtain ⟨c, args⟩ := x
  match args, h3, q with
  | [], h3, q => exact q.elim
  | [(g', v)], h3, q =>
    obtain ⟨dd, w, e1, e2, r⟩ := h3
    have q2 : WpG X.K (E σ) (rE X.K) (if g' = f then (.ok v : M D) else stuck) F H Q := q
    by_cases hg : g' = f
    · rw [if_pos hg] at q2
      exact ⟨dd, _, w, e1, s _ _ e2, by rw [hg]; simp [List.lookup], q2 F H w (Ext.refl s) r⟩
    · rw [if_neg hg] at q2
      exact q2.elim
  | _ :: _ :: _, h3, q => exact q.elim
theorem de_isE {t : Option String} {cs : List String} {tx : Expr} {c : V} {y : Str} {p p1 : Pos} (hx : x.cls ∈ U) (T : XC X.K Fs x.cls) (P : XP X.K U t cs) (hz : Zc (.ref (He.ga X.K (Str.ofString x.cls))) d oe) (hfl : ∃ vs, oe.data = .fields vs) (hs : G[i]? = some (.exn a d x.args))
    (hg : Gl X "isinstance") (hm : X.mg "isinstance" = none) (hv : bootBuiltins ("isinstance" : Str) = some (.builtin "isinstance")) (pv : PE (X.suite a ((a, oe) :: pn)) (.Name y p1) (tVar i)) (hT : PE (X.suite a ((a, oe) :: pn)) tx (tC c)) (hc : ∀ u, RelV c u → u = cvD X.K t)
    (he : starEach [.Name y p1, tx] X.env = (false, eval (.Name y p1) X.env) :: starEach [tx] X.env := by rfl) (he2 : starEach [tx] X.env = (false, eval tx X.env) :: starEach [] X.env := by rfl) (hpl : (backTo pos (starEach [tx] X.env)).any (·.1) = false := by rfl) :
    DE (X.suite a ((a, oe) :: pn)) E G (.Call (.Name "isinstance" p) [.Name y p1, tx] [] pos) (x.isA cs) := by
  refine ⟨_, pe_callB (X := X.suite a ((a, oe) :: pn)) (call_isX (F0 := fun _ => none) (l := x.args) T.e hz hfl) hg hm hv (pa_cons pv (pa_cons hT pa_nil he2) he) (by decide) (by decide) he hpl, fun B σ F H Q s g q => ?_⟩
  obtain ⟨o, h1, h2, h3⟩ := g.ok i _ hs
  subst h2
  exact ⟨_, h1, c, cvD X.K t, cs.contains x.cls, F, s, h3, rfl, hc, P.i x.cls hx, q F H _ (Ext.refl s) (.bl _)⟩
end

def tryN (U : List String) : List (List String × (Ex → M D)) → Ex → M D
  | [], x => .error (.exc x)
  | (cs, h) :: r, x => if cs.contains x.cls = true then noX (h x) else tryN U r x
def mTryN {S : Type} (U : List String) (hs : List (List String × (Ex → M D))) (m : M (S ⊕ D)) : M (S ⊕ D) := match m with
  | .ok r => .ok r
  | .error .stuck => stuck
  | .error (.exc x) => need (U.contains x.cls) >>= fun _ => tryN U hs x >>= fun d => .ok (.inr d)
inductive HJ (X : Cx) (U Fs : List String) (Gt : List Sl) : List ExceptHandler → List (List String × (Ex → M D)) → Prop
  | nil : HJ X U Fs Gt [] []
  | cons {t : String} {cs : List String} {h : Ex → M D} {b₀ : Stmt} {suite : List Stmt} {np pos' : Pos} {hds : List ExceptHandler} {l : List (List String × (Ex → M D))} (hc : Names X (Str.ofString t) (.ref (He.ga X.K (Str.ofString t)))) (hp : XP X.K U (some t) cs)
      (hsu : ∀ (x : Ex), x.cls ∈ U → ∀ (a : Addr) (oe : Obj) (d : Option Addr) (pn : List (Addr × Obj)), Zc (.ref (He.ga X.K (Str.ofString x.cls))) d oe → (∃ vs, oe.data = .fields vs) → DB (X.suite a ((a, oe) :: pn)) EN0 Gt (b₀ :: suite) (h x) .rt) (r : HJ X U Fs Gt hds l) :
      HJ X U Fs Gt (.ExceptHandler (some (.Name (Str.ofString t) np)) none (b₀ :: suite) pos' :: hds) ((cs, h) :: l)
  | consA {t : String} {n : Str} {i : Nat} {cs : List String} {h : Ex → M D} {b₀ : Stmt} {suite : List Stmt} {np pos' : Pos} {hds : List ExceptHandler} {l : List (List String × (Ex → M D))} (hc : Names X (Str.ofString t) (.ref (He.ga X.K (Str.ofString t)))) (hp : XP X.K U (some t) cs)
      (hi : X.N[i]? = some n) (hln : X.env.kindOf n = some .local)
      (hsu : ∀ (x : Ex), x.cls ∈ U → ∀ (a : Addr) (oe : Obj) (d : Option Addr) (pn : List (Addr × Obj)), Zc (.ref (He.ga X.K (Str.ofString x.cls))) d oe → (∃ vs, oe.data = .fields vs) → DB (X.suite a ((a, oe) :: pn)) EN0 (Gt.set i (.exn a d x.args)) (b₀ :: suite) (h x) .rt) (r : HJ X U Fs Gt hds l) :
      HJ X U Fs Gt (.ExceptHandler (some (.Name (Str.ofString t) np)) (some n) (b₀ :: suite) pos' :: hds) ((cs, h) :: l)
section
variable {X : Cx} {E : XK} {G Gt : List Sl} {pos : Pos} {U Fs : List String} {body : List Stmt} {h₀ : ExceptHandler} {hds : List ExceptHandler} {hs : List (List String × (Ex → M D))}
theorem tryN_wp {S : Type} {Γ : S → List Sl} {B0 B F : Hp} {D₁ : Ends} {m : M D} (q : WpB X.K E B0 B (sumOc Γ) (noX m >>= fun d => .ok (.inr d)) F D₁) (D2 : Ends) (hr : D2.rt = D₁.rt) : WpB X.K EN0 B0 B .rt m F D2 := by
  cases m with
  | ok d =>
    have q : OcP X.K B0 B F D₁ (.rt d) := q.ok
    exact WpB.of_ok (post := Oc.rt) (by
      intro v F' H' s x r
      rw [hr]
      exact q v F' H' s x r)
  | error e => exact q.elim
theorem hj_run {S : Type} (Γ : S → List Sl) (j : HJ X U Fs Gt hds hs) : ∃ l, HdsG X hds l ∧ ∀ (D₁ : Ends) (B0 B : Hp) (x : Ex), x.cls ∈ U → ∀ σ F' H' c d, Ext B0 B F' H' → GOk X.K B Gt σ F' H' → RpX X.K F' H' c d x →
    WpB X.K E B0 B (sumOc Γ) (tryN U hs x >>= fun d => .ok (.inr d)) F' D₁ → wGen X.K (fun c d _ H => E c d H) D₁ l c d σ H' := by
  induction j with
  | nil => exact ⟨[], .nil, fun D₁ B0 B x hx σ F' H' c d x0 g r q => q F' H' c d (Same.refl _) x0 r⟩
  | @cons t cs h b₀ suite np pos' hds2 l2 hc hp hsu r ih =>
    obtain ⟨l, hl, ih⟩ := ih
    refine ⟨_, .cons (ts := fun a cls d D₂ σ H => ∃ (x : Ex) (B0 B F : Hp), x.cls ∈ U ∧ cls = .ref (He.ga X.K (Str.ofString x.cls)) ∧ Ext B0 B F H ∧ GOk X.K B Gt σ F H ∧ WpB X.K EN0 B0 B .rt (h x) F D₂) hc (fun a oe cls d pn hz hf => ⟨fun pins s σ H D₂ I z => ?_⟩) hl, fun D₁ B0 B x hx σ F' H' c d x0 g r q => ?_⟩
    · obtain ⟨x, B0, B, F, hx, hcl, x0, g, w⟩ := z
      subst hcl
      obtain ⟨t2, p2, w2⟩ := hsu x hx a oe d pn hz hf
      exact p2.run pins s σ H D₂ I (w2 B0 B σ F H D₂ x0 g w)
    · obtain ⟨rc, ra⟩ := id r
      subst rc
      refine ⟨cs.contains x.cls, hp.m x.cls hx, fun hb a na => ?_, fun hb => ih D₁ B0 B x hx σ F' H' _ d x0 g r ?_⟩
      · have e : tryN U ((cs, h) :: l2) x = noX (h x) := if_pos hb
        rw [e] at q
        exact ⟨x, B0, B, F', hx, rfl, x0, g, tryN_wp q _ rfl⟩
      · have e : tryN U ((cs, h) :: l2) x = tryN U l2 x := if_neg (by rw [hb]; exact Bool.false_ne_true)
        rw [e] at q
        exact q
  | @consA t n i cs h b₀ suite np pos' hds2 l2 hc hp hi hln hsu r ih =>
    obtain ⟨l, hl, ih⟩ := ih
    refine ⟨_, .consA (ts := fun a cls d D₂ σ H => ∃ (x : Ex) (B0 B F : Hp), x.cls ∈ U ∧ cls = .ref (He.ga X.K (Str.ofString x.cls)) ∧ Ext B0 B F H ∧ GOk X.K B (Gt.set i (.exn a d x.args)) σ F H ∧ WpB X.K EN0 B0 B .rt (h x) F D₂) hc hi hln (fun a oe cls d pn hz hf => ⟨fun pins s σ H D₂ I z => ?_⟩) hl, fun D₁ B0 B x hx σ F' H' c d x0 g r q => ?_⟩
    · obtain ⟨x, B0, B, F, hx, hcl, x0, g, w⟩ := z
      subst hcl
      obtain ⟨t2, p2, w2⟩ := hsu x hx a oe d pn hz hf
      exact p2.run pins s σ H D₂ I (w2 B0 B σ F H D₂ x0 g w)
    · obtain ⟨rc, ra⟩ := id r
      subst rc
      refine ⟨cs.contains x.cls, hp.m x.cls hx, fun hb a na => ?_, fun hb => ih D₁ B0 B x hx σ F' H' _ d x0 g r ?_⟩
      · have e : tryN U ((cs, h) :: l2) x = noX (h x) := if_pos hb
        rw [e] at q
        refine ⟨x, B0, B, F', hx, rfl, x0, g.setS (s' := .exn a d x.args) ⟨rfl, ra⟩ (fun j s hj oj ej => ?_), tryN_wp q _ rfl⟩
        obtain ⟨u, hu⟩ := g.owned hj oj ej
        rw [na] at hu
        cases hu
      · have e : tryN U ((cs, h) :: l2) x = tryN U l2 x := if_neg (by rw [hb]; exact Bool.false_ne_true)
        rw [e] at q
        exact q
theorem ds_try {S : Type} {Γ : S → List Sl} {m : M (S ⊕ D)} (hc : X.calm = true) (hst : X.stack = X.env :: X.outer) (hf : X.env.frame = some X.env.locals) (hN : X.N.Nodup) (tk : Takes X (fun c d _ H => E c d H))
    (hb : ∀ (W : WX) (pn : List (Addr × Obj)) (xe : Value → Shared → Prop), CtxOk (X.tr pn xe) (WE W) → DBX (X.tr pn xe) W Gt G body m (sumOc Γ)) (j : HJ X U Fs Gt (h₀ :: hds) hs) : DS X E G (.Try body (h₀ :: hds) [] [] pos) (mTryN U hs m) (sumOc Γ) := by
  obtain ⟨l, hl, hj⟩ := hj_run (E := E) Γ j
  refine ⟨_, ps_try_gen (tb := fun W D₁ σ H => ∃ B0 B F, Ext B0 B F H ∧ GOk X.K B G σ F H ∧ WpX X.K W Gt B0 B (sumOc Γ) m F D₁) hst hf hN tk (fun W pn xe tk2 po => ⟨fun pins s σ H D₁ I z => ?_⟩) hl, fun B0 B σ F H D₁ x0 g q => ⟨B0, B, F, x0, g, ?_⟩⟩
  · obtain ⟨B0, B, F, x0, g, w⟩ := z
    obtain ⟨t2, p2, w2⟩ := hb W pn xe ⟨hc, fun σ => passAt tk2 σ, po⟩
    exact p2.run pins s σ H D₁ I (w2 B0 B σ F H D₁ x0 g w)
  · cases m with
    | ok r => exact q.ok
    | error e =>
      cases e with
      | stuck => exact q.elim
      | exc x =>
        have q : WpB X.K E B0 B (sumOc Γ) (need (U.contains x.cls) >>= fun _ => tryN U hs x >>= fun d => .ok (.inr d)) F D₁ := q
        cases hu : U.contains x.cls with
        | false =>
          rw [hu] at q
          exact q.elim
        | true =>
          rw [hu] at q
          have hx : x.cls ∈ U := by simpa using hu
          exact fun σ' F' H' c d s' x' g' r => hj D₁ B0 B x hx σ' F' H' c d x' g' r (WpB.mono s' q)
end
end DL

set_option Elab.async false
set_option linter.all false
set_option maxRecDepth 100000
set_option maxHeartbeats 4000000
namespace DL
open PySem PySem.Spec L2
abbrev SupV : Type := Option (Str × Str × Arguments × FuncBody × Scope × Addr × List Str × Addr)
def supO (K : PySem.W.Frag) (fI : Addr) : SupV := (K.lookup fI).bind fun o => match o.data with
  | .func f => some (f.name, f.qualname, f.params, f.body, f.scope, f.globals, f.closure.map (·.1), f.builtins)
  | _ => none
def supD (d : He.DefD) : SupV := some (d.name, d.qual, d.params, .stmts d.body, d.scope, mainGlobals, ["__class__"], builtinsNs)
def fileAt (K : PySem.W.Frag) (c : Value) (f0 : Str) : Bool := match c with
  | .ref a => (match K.lookup a with
    | some o => (match o.data with
      | .fields vs => (match (vs[2]? : Option Value) with
        | some (.str f _) => decide (f = f0)
        | _ => false)
      | _ => false)
    | none => false)
  | _ => false
theorem fileAt_ok {K : PySem.W.Frag} {c : Value} {f0 : Str} (h : fileAt K c f0 = true) : ∃ (a : Addr) (ccl : Value) (cdd : Option Addr) (vs : Array Value) (ccs : Array (Option Value)) (tf : Tok), c = .ref a ∧ K.lookup a = some ⟨ccl, cdd, .fields vs, ccs⟩ ∧ vs[2]? = some (.str f0 tf) := by
  unfold fileAt at h
  cases c with
  | ref a =>
    dsimp only at h
    cases e : K.lookup a with
    | none => rw [e] at h; cases h
    | some o =>
      rw [e] at h
      obtain ⟨ccl, cdd, dt, ccs⟩ := o
      cases dt with
      | fields vs =>
        dsimp only at h
        cases e2 : vs[2]? with
        | none => rw [e2] at h; cases h
        | some v =>
          rw [e2] at h
          cases v with
          | str f tf =>
            have h := of_decide_eq_true h
            subst h
            exact ⟨a, ccl, cdd, vs, ccs, tf, rfl, e, e2⟩
          | _ => cases h
      | _ => cases h
  | _ => cases h
def cellAt (K : PySem.W.Frag) (a C : Addr) : Bool := match K.lookup a with
  | some o => (match o.data with
    | .cell (some (.ref D)) => decide (D = C)
    | _ => false)
  | none => false
theorem cellAt_ok {K : PySem.W.Frag} {a C : Addr} (h : cellAt K a C = true) : ∃ (cl : Value) (cld : Option Addr) (csl : Array (Option Value)), K.lookup a = some ⟨cl, cld, .cell (some (.ref C)), csl⟩ := by
  unfold cellAt at h
  cases e : K.lookup a with
  | none => rw [e] at h; cases h
  | some o =>
    rw [e] at h
    obtain ⟨cl, cld, dt, csl⟩ := o
    cases dt with
    | cell v =>
      cases v with
      | none => cases h
      | some v =>
        cases v with
        | ref D =>
          have h := of_decide_eq_true h
          subst h
          exact ⟨cl, cld, csl, rfl⟩
        | _ => cases h
    | _ => cases h
def cloAt (K : PySem.W.Frag) (C : Addr) : List (Str × Addr) → Bool
  | [(_, cc)] => cellAt K cc C
  | _ => false
theorem cloAt_ok {K : PySem.W.Frag} {C : Addr} : ∀ {l : List (Str × Addr)}, cloAt K C l = true → l.map (·.1) = [("__class__" : Str)] → ∃ cc, l = [(("__class__" : Str), cc)] ∧ cellAt K cc C = true
  | [(x, cc)], h, e => by
    have ex : x = ("__class__" : Str) := by
      have : [x] = [("__class__" : Str)] := e
      injection this
    subst ex
    exact ⟨cc, rfl, h⟩
  | [], h, e => by cases h
  | _ :: _ :: _, h, e => by cases h
def supX (K : PySem.W.Frag) (f0 q : Str) (C fI : Addr) : Bool := match K.lookup fI with
  | some o => (match o.data with
    | .func f => PySem.W.codeIn K f.code q && (He.dflB K f.defaults [] && (fileAt K f.code f0 && cloAt K C f.closure))
    | _ => false)
  | none => false
def oexB (K : PySem.W.Frag) (C : Addr) : Bool := match K.lookup C with
  | some ⟨.type "type", _, .cls cd, sl⟩ => (match cd.mro, sl.toList with
    | .ref C' :: bm, [_, _, _, _, some (.builtin n), _] => C' == C && n == "ValueError.__new__" && !cd.hasDel && cd.hasDict && HandSPX.refsVE bm
    | _, _ => false)
  | _ => false
theorem oexB_ok {K : PySem.W.Frag} {C : Addr} (q : oexB K C = true) : ∃ nm qn N bs bm sn sub ab col dd k0 k1 k2 k3 k5, K.lookup C = some (excClassObj nm qn C N bs bm true sn sub ab col dd k0 k1 k2 k3 k5 "ValueError.__new__") ∧ HandSPX.refsVE bm = true := by
  unfold oexB at q
  split at q
  · rename_i dd cd sl ho
    split at q
    · rename_i C' bm k0 k1 k2 k3 n k5 hm hs
      simp only [Bool.and_eq_true, beq_iff_eq, Bool.not_eq_true'] at q
      obtain ⟨⟨⟨⟨rfl, rfl⟩, hdel⟩, hdct⟩, ht⟩ := q
      obtain ⟨nm, bs, mro, ns, qn, hd, sn, sub, ab, col, del⟩ := cd
      dsimp only at hm hdel hdct
      subst hm hdel hdct
      have hsl : sl = #[k0, k1, k2, k3, some (.builtin "ValueError.__new__"), k5] := by
        obtain ⟨l⟩ := sl
        simp only at hs
        rw [hs]
      subst hsl
      exact ⟨nm, qn, ns, bs, bm, sn, sub, ab, col, dd, k0, k1, k2, k3, k5, ho, ht⟩
    · cases q
  · cases q
def supB (K : PySem.W.Frag) (f0 q : Str) (C fI : Addr) (fld : Str) : Bool := supX K f0 q C fI && (oexB K C && (
  decide (PySem.W.findIn K (.ref C) "__setattr__" = some (some (.builtin "object.__setattr__"))) && (decide (PySem.W.subIn K (.ref C) (.type "BaseException") = some true) && (decide (PySem.W.typeIn K (.ref C) = some (.type "type")) && (PySem.W.keepIn K (.ref C) && (
  decide (PySem.W.findIn K (.ref C) "__init__" = some (some (.ref fI))) && (decide (PySem.W.typeIn K (.ref fI) = some (.type "function")) && (decide (PySem.W.findIn K (.ref C) fld = some none) && (
  decide (PySem.W.ks_superIn K C C "__init__" = some (some (.builtin "ValueError.__init__"))) && (decide (PySem.W.mroIn K C (.ref C) = some true) && (decide (PySem.W.subIn K (.ref C) (.type "ValueError") = some true) && (decide (PySem.W.nsIn K cStatics "thirdparty.any" = some none) && (
  PySem.W.excInitIn K C He.veBase "ValueError.__new__" && decide (PySem.W.nsIn K mainGlobals "super" = some none))))))))))))))
structure PFx (P : Program) (f0 : Str) : Prop where
  file : ((P.main.file : Str) == f0) = true
  top : (P.main.scope.names.lookup ("super" : Str)).isSome = false
section
variable {P : Program} {K : PySem.W.Frag} {C fI : Addr} {f0 self fld txt : Str} {d : He.DefD} {a1 : Arg} {p0 p1 p2 p3 p4 p5 q1 q2 q3 q4 : Pos} {ck : Nat} {pl : Env → Sem Bool}
theorem supC_of (pf : PFx P f0) (e : supO K fI = supD d) (h : supB K f0 d.qual C fI fld = true) (T : SupSt self fld d.scope)
    (hbody : d.body = [.Expr (.Call (.Attribute (.Call (.Name "super" p0) [] [] p1) "__init__" p2) [.Constant (.str txt) ck p3] [] p4) p5, .Assign [.Attribute (.Name self q1) fld q2] (.Name fld q3) q4])
    (hbind : ∀ kV doc pm an cdv ct cc (x y : Value), bindArgs (PySem.W.ksFn d.name d.qual d.params d.body d.scope .none kV doc pm an cdv ct cc) ⟨[x, y], []⟩ = pure [(self, x), (fld, y)])
    (hpar : (d.params.posonlyargs ++ d.params.args).head? = some a1) (ha1 : a1.arg = self)
    (he : ∀ env, eval (.Call (.Attribute (.Call (.Name "super" p0) [] [] p1) "__init__" p2) [.Constant (.str txt) ck p3] [] p4) env = (do
      let ov ← attributeBase (.Call (.Name "super" p0) [] [] p1) "__init__" env (eval (.Call (.Name "super" p0) [] [] p1) env)
      standAt p2.atName
      let (f, first) ← holding [ov] (getMethod ov "__init__" (pl env))
      callWith p4 f first (backTo p4 (starEach [.Constant (.str txt) ck p3] env)) []))
    (hsw : ∀ env, swapsWith (.Name fld q3) (some (.Attribute (.Name self q1) fld q2)) q4.line env = pure false) : SupC P K C fI fld := by
  obtain ⟨h0, h⟩ := and2 h
  obtain ⟨h1, h⟩ := and2 h
  obtain ⟨h2, h⟩ := and2 h
  obtain ⟨h3, h⟩ := and2 h
  obtain ⟨h4, h⟩ := and2 h
  obtain ⟨h5, h⟩ := and2 h
  obtain ⟨h6, h⟩ := and2 h
  obtain ⟨h7, h⟩ := and2 h
  obtain ⟨h8, h⟩ := and2 h
  obtain ⟨h9, h⟩ := and2 h
  obtain ⟨h10, h⟩ := and2 h
  obtain ⟨h11, h⟩ := and2 h
  obtain ⟨h12, h⟩ := and2 h
  obtain ⟨h13, h14⟩ := and2 h
  have O : OexC K C := ⟨oexB_ok h1, of_decide_eq_true h2, of_decide_eq_true h3, of_decide_eq_true h4, h5⟩
  have S : SupAt P K C fI d.name d.qual d.params d.body d.scope := by
    refine ⟨?_, pf.top, of_decide_eq_true h9, of_decide_eq_true h10, of_decide_eq_true h11, of_decide_eq_true h12, h13, of_decide_eq_true h14⟩
    unfold supO at e
    unfold supX at h0
    cases lk : K.lookup fI with
    | none => rw [lk] at h0; cases h0
    | some o =>
      rw [lk] at h0 e
      obtain ⟨oc, od, dt, osl⟩ := o
      cases dt with
      | func f =>
        obtain ⟨n1, n2, n3, n4, n5, n6, n7, dV, kV, doc, pm, an, cdv, ct, n15⟩ := f
        have same : (some (n1, n2, n3, n4, n5, n6, n7.map (·.1), n15) : SupV) = some (d.name, d.qual, d.params, FuncBody.stmts d.body, d.scope, mainGlobals, [("__class__" : Str)], builtinsNs) := e
        injection same with same
        simp only [Prod.mk.injEq] at same
        obtain ⟨rfl, rfl, rfl, rfl, rfl, rfl, e7, rfl⟩ := same
        have h0 : (PySem.W.codeIn K cdv d.qual && (He.dflB K dV [] && (fileAt K cdv f0 && cloAt K C n7))) = true := h0
        obtain ⟨u1, v1⟩ := and2 h0
        obtain ⟨v2, v3⟩ := and2 v1
        obtain ⟨v4, u3⟩ := and2 v3
        have u0 : dV = .none := by
          cases dV with
          | none => rfl
          | _ => cases v2
        subst u0
        obtain ⟨a, ccl, cdd, vs, ccs, tf, rfl, l2, l3⟩ := fileAt_ok v4
        obtain ⟨cc, rfl, u4⟩ := cloAt_ok u3 e7
        obtain ⟨cl, cld, csl, l4⟩ := cellAt_ok u4
        exact ⟨kV, doc, pm, ct, oc, ccl, cl, an, od, cdd, cld, osl, ccs, csl, a, cc, vs, f0, tf, rfl, u1, l2, l3, pf.file, l4⟩
      | _ => cases h0
  exact ⟨fun X0 k0 na M0 hroom ha hq => sup_run S T hbody hbind hpar ha1 he hsw O (of_decide_eq_true h8) X0 k0 na M0 hroom ha hq, O, of_decide_eq_true h6, of_decide_eq_true h7⟩
end
abbrev AlX : Type := AlG × List SupV
structure SupE where
  cls : Str
  fld : Str
  d : He.DefD
def SupE.fI (K : PySem.W.Frag) (s : SupE) : Addr := He.ma K (He.ga K s.cls) "__init__"
def exX (sx : List SupE) (f0 : Str) (ex : PySem.W.Frag → Bool) (K : PySem.W.Frag) : Bool := ex K && sx.all fun s => supB K f0 s.d.qual (He.ga K s.cls) (s.fI K) s.fld
def seenX (fa : List He.Fa) (fn gt : List He.DefD) (sx : List SupE) (f0 : Str) (ex : PySem.W.Frag → Bool) (K : PySem.W.Frag) : AlX := (seen fa fn gt (exX sx f0 ex) K, sx.map fun s => supO K (s.fI K))
def dueX (fn gt : List He.DefD) (sx : List SupE) : AlX := (due fn gt, sx.map fun s => supD s.d)
def SaysX (fa : List He.Fa) (fn gt : List He.DefD) (sx : List SupE) (f0 : Str) (ex : PySem.W.Frag → Bool) (K : PySem.W.Frag) : Prop := seenX fa fn gt sx f0 ex K = dueX fn gt sx
def asX (g : Addr → Option Obj) (n : Nat) : List Addr := cStatics :: He.asD g n
def hookX (n : Nat) (fa : List He.Fa) (fn gt : List He.DefD) (sx : List SupE) (f0 : Str) (ex : PySem.W.Frag → Bool) : PySem.W.Hook where
  α := AlX
  obs := fun s => seenX fa fn gt sx f0 ex (He.frG s.heap.get? (asX s.heap.get? n))
  val := fun _ => dueX fn gt sx
  says := fun _ h => ∃ K : PySem.W.Frag, K.In h ∧ SaysX fa fn gt sx f0 ex K
  of := fun _ _ e => ⟨_, He.frG_in, e⟩
  keeps := fun _ _ _ ⟨K, hK, c⟩ k => ⟨K, PySem.W.Frag.In.keeps hK k, c⟩
theorem obsX_eq {n : Nat} {fa : List He.Fa} {fn gt : List He.DefD} {sx : List SupE} {f0 : Str} {ex : PySem.W.Frag → Bool} {g : Addr → Option Obj} {s : Shared} (h : ∀ a, g a = s.heap.get? a) : seenX fa fn gt sx f0 ex (He.frG g (asX g n)) = (hookX n fa fn gt sx f0 ex).obs s := by
  have e : g = s.heap.get? := funext h
  rw [e] <;> rfl
section
variable {fa : List He.Fa} {fn gt : List He.DefD} {sx : List SupE} {f0 : Str} {ex : PySem.W.Frag → Bool} {K : PySem.W.Frag}
theorem SaysX.g (c : SaysX fa fn gt sx f0 ex K) : SaysG fa fn gt (exX sx f0 ex) K := congrArg (fun z : AlX => z.1) c
theorem SaysX.d (c : SaysX fa fn gt sx f0 ex K) : He.SaysD fa fn K := c.g.d
theorem SaysX.more (c : SaysX fa fn gt sx f0 ex K) : ex K = true := (and2 c.g.more).1
theorem SaysX.get (c : SaysX fa fn gt sx f0 ex K) (i : Nat) {d : He.DefD} (h : gt[i]? = some d) : ∃ fd, FunD K d.name d.qual d.params d.body d.scope [] [] (gAd K d.at_) fd := c.g.get i h
theorem SaysX.sup (c : SaysX fa fn gt sx f0 ex K) (i : Nat) {s : SupE} (h : sx[i]? = some s) : supO K (s.fI K) = supD s.d ∧ supB K f0 s.d.qual (He.ga K s.cls) (s.fI K) s.fld = true := by
  have e : (sx.map fun s => supO K (s.fI K)) = sx.map fun s => supD s.d := congrArg (fun z : AlX => z.2) c
  have e2 : (sx.map fun s => supO K (s.fI K))[i]? = (sx.map fun s => supD s.d)[i]? := by rw [e]
  rw [List.getElem?_map, List.getElem?_map, h] at e2
  exact ⟨Option.some.inj e2, List.all_eq_true.mp (and2 c.g.more).2 s (List.mem_of_getElem? h)⟩
end
end DL

set_option Elab.async false
set_option linter.all false
set_option maxRecDepth 100000
set_option maxHeartbeats 4000000
namespace DL
open PySem PySem.Spec L2
theorem boot_ValueError_ : bootBuiltins ("ValueError" : Str) = some (.type "ValueError") := PyProof.Rows.Boot.«ValueError»
section
variable {X : Cx} {E : XK} {G Gt : List Sl} {c e : Expr} {pos : Pos} {st : Stmt} {rest body : List Stmt} {W : WX}
end
end DL

set_option Elab.async false
set_option linter.all false
set_option maxRecDepth 100000
set_option maxHeartbeats 4000000
namespace DL
open PySem PySem.Spec L2
section
variable {X : Cx} {E : XK} {G : List Sl} {a b c e : Expr} {ma mb mc : M D} {pos : Pos} {st : Stmt} {rest body : List Stmt} {F H : Hp}
def setIx (l : List D) (i v : D) : M (List D) := match i with
  | .int k => (match ixN l.length k with | some j => .ok (l.set j v) | none => stuck)
  | _ => stuck
@[simp] abbrev mSetI (l : List D) (me mk : M D) : M (List D) := me >>= fun d => mk >>= fun i => setIx l i d
end
section
variable {X : Cx} {E : St → XK} {G : List Sl} {a b c e : Expr} {ma mb mc : M D} {pos : Pos} {st : Stmt} {rest body : List Stmt} {F H : Hp}
end
section
variable {X : Cx} {G : List Sl} {pos : Pos} {body : List Stmt} {F H : Hp}
end
section
variable {X : Cx} {E : St → XK} {G : List Sl} {a b : Expr} {pos : Pos} {F H : Hp}
end
end DL

set_option Elab.async false
set_option linter.all false
set_option maxRecDepth 100000
set_option maxHeartbeats 4000000
namespace DL
open PySem PySem.Spec L2
def IsDk (u : HO) (kvs : List (Key × V)) : Prop := u = .dK kvs ∨ ∃ o, u = .frz o (.dK kvs)
def lkF (M : Hp) (a : Addr) (u : HO) : Hp := fun b => if b = a then (match M a with | none => none | some _ => some u) else M b
theorem lk_ne {M : Hp} {a b : Addr} {u : HO} (h : b ≠ a) : lkF M a u b = M b := if_neg h
theorem lk_none {M : Hp} {a : Addr} {u : HO} (h : M a = none) : lkF M a u a = none := by
  unfold lkF
  rw [if_pos rfl, h]
theorem lk_some {M : Hp} {a : Addr} {u x : HO} (h : M a = some x) : lkF M a u a = some u := by
  unfold lkF
  rw [if_pos rfl, h]
section
variable {K : PySem.W.Frag} {F H B : Hp} {a : Addr} {u0 u1 : HO} {kvs : List (Key × V)} (d0 : IsDk u0 kvs) (d1 : IsDk u1 kvs) (hF : ∀ x, F a = some x → x = u0)
include d0 d1 hF
theorem lk_keep {b : Addr} {u : HO} (h : F b = some u) (hu : ¬ IsDk u kvs) : lkF F a u1 b = some u := by
  by_cases e : b = a
  · subst e
    exact absurd (by rw [hF u h]; exact d0) hu
  · rw [lk_ne e]
    exact h
theorem lk_rd {b : Addr} {kvs' : List (Key × V)} (h : Rd F b (.dK kvs')) : Rd (lkF F a u1) b (.dK kvs') := by
  by_cases e : b = a
  · subst e
    have key : ∀ x, F b = some x → IsDk x kvs' → Rd (lkF F b u1) b (.dK kvs') := fun x hx hd => by
      have e0 := hF x hx
      have ek : kvs' = kvs := by
        rw [e0] at hd
        rcases d0 with d0 | ⟨o, d0⟩ <;> rcases hd with hd | ⟨o', hd⟩ <;> rw [d0] at hd <;> cases hd <;> rfl
      rw [ek]
      rcases d1 with d1 | ⟨o, d1⟩
      · exact .inl (by rw [lk_some hx, d1])
      · exact .inr ⟨o, by rw [lk_some hx, d1]⟩
    rcases h with h | ⟨o, h⟩
    · exact key _ h (.inl rfl)
    · exact key _ h (.inr ⟨o, rfl⟩)
  · rcases h with h | ⟨o, h⟩
    · exact .inl (by rw [lk_ne e]; exact h)
    · exact .inr ⟨o, by rw [lk_ne e]; exact h⟩
theorem lk_seqT {b : Addr} {xs : List V} (h : SqT K F b xs) : SqT K (lkF F a u1) b xs := by
  rcases h with (h | ⟨o, h⟩) | h
  · exact .inl (.inl (lk_keep d0 d1 hF h (by rintro (z | ⟨_, z⟩) <;> cases z)))
  · exact .inl (.inr ⟨o, lk_keep d0 d1 hF h (by rintro (z | ⟨_, z⟩) <;> cases z)⟩)
  · exact .inr h
theorem lk_seqL {b : Addr} {xs : List V} (h : SqL K F b xs) : SqL K (lkF F a u1) b xs := by
  rcases h with (h | ⟨o, h⟩) | h
  · exact .inl (.inl (lk_keep d0 d1 hF h (by rintro (z | ⟨_, z⟩) <;> cases z)))
  · exact .inl (.inr ⟨o, lk_keep d0 d1 hF h (by rintro (z | ⟨_, z⟩) <;> cases z)⟩)
  · exact .inr h
mutual
theorem Rp.lk : ∀ {v : V} {d : D}, Rp K F v d → Rp K (lkF F a u1) v d
  | _, _, .non => .non
  | _, _, .bl b => .bl b
  | _, _, .int i => .int i
  | _, _, .str x h => .str x h
  | _, _, .tup h hs => .tup (lk_seqT d0 d1 hF h) (RpL.lk hs)
  | _, _, .lst h hs => .lst (lk_keep d0 d1 hF h (by rintro (z | ⟨_, z⟩) <;> cases z)) (RpL.lk hs)
  | _, _, .scr h => .scr (lk_seqL d0 d1 hF h)
  | _, _, .dctK h h2 hs => .dctK (lk_rd d0 d1 hF h) h2 (RpL.lk hs)
  | _, _, .dctT h h2 hs => .dctT (lk_keep d0 d1 hF h (by rintro (z | ⟨_, z⟩) <;> cases z)) h2 (RpL.lk hs)
  | _, _, .ins h h2 hs => .ins (lk_keep d0 d1 hF h (by rintro (z | ⟨_, z⟩) <;> cases z)) h2 (RpL.lk hs)
theorem RpL.lk : ∀ {v : List V} {d : List D}, RpL K F v d → RpL K (lkF F a u1) v d
  | _, _, .nil => .nil
  | _, _, .cons h hs => .cons (Rp.lk h) (RpL.lk hs)
end
end
def Sl.noT : Sl → Sl
  | .tre _ _ _ => .any
  | .exn _ _ _ => .any
  | s => s
theorem Sl.noT_owns (s : Sl) : s.noT.owns = s.owns := by cases s <;> rfl
section
variable {K : PySem.W.Frag} {F H B : Hp} {a : Addr} {u0 u1 : HO} {kvs : List (Key × V)} {G : List Sl} {σ : St}
theorem RpOL.lk (d0 : IsDk u0 kvs) (d1 : IsDk u1 kvs) (hF : ∀ x, F a = some x → x = u0) (hB : ∀ x, B a = some x → x = u0) : ∀ {vs : List V} {fv : List D}, RpOL K F B vs fv → RpOL K (lkF F a u1) (lkF B a u1) vs fv
  | _, _, .nil => .nil
  | _, _, .frz r q => .frz (r.lk d0 d1 hF) (RpOL.lk d0 d1 hF hB q)
  | _, _, .dk ⟨ks, r1, r2, r3⟩ q => .dk ⟨ks, lk_rd d0 d1 hB r1, r2, r3.lk d0 d1 hF⟩ (RpOL.lk d0 d1 hF hB q)
theorem same_lk (s : Same F H) : Same (lkF F a u1) (upd H a u1) := fun b z h => by
  by_cases e : b = a
  · subst e
    rw [upd_same]
    cases hb : F b with
    | none =>
      rw [lk_none hb] at h
      cases h
    | some x =>
      rw [lk_some hb] at h
      exact h
  · rw [upd_ne e]
    rw [lk_ne e] at h
    exact s b z h
theorem GOk.lk (d0 : IsDk u0 kvs) (d1 : IsDk u1 kvs) (s : Same F H) (g : GOk K B G σ F H) (hH : H a = some u0) (hab : F a ≠ none ∨ B a ≠ none) : GOk K (lkF B a u1) (G.map Sl.noT) σ (lkF F a u1) (upd H a u1) where
  sB := same_lk g.sB
  len := by rw [List.length_map]; exact g.len
  ok := fun i s1 hs => by
    have hF : ∀ x, F a = some x → x = u0 := fun x hx => Option.some.inj ((s a x hx).symm.trans hH)
    have hB : ∀ x, B a = some x → x = u0 := fun x hx => Option.some.inj ((g.sB a x hx).symm.trans hH)
    rw [List.getElem?_map] at hs
    cases e : G[i]? with
    | none => rw [e] at hs; cases hs
    | some s' =>
      rw [e] at hs
      cases hs
      obtain ⟨v, k1, k2⟩ := g.ok i _ e
      have ne : ∀ x, F x = none → B x = none → x ≠ a := fun x h1 h2 z => by
        subst z
        rcases hab with h | h
        · exact h h1
        · exact h h2
      refine ⟨v, k1, ?_⟩
      cases s' with
      | un => exact k2
      | any => trivial
      | tre b _ _ => trivial
      | exn _ _ _ => trivial
      | val d =>
        obtain ⟨w, e1, r⟩ := k2
        exact ⟨w, e1, r.lk d0 d1 hF⟩
      | own l =>
        obtain ⟨b, xs, e1, e2, n1, n2, r⟩ := k2
        have nb := ne b n1 n2
        exact ⟨b, xs, e1, by rw [upd_ne nb]; exact e2, by rw [lk_ne nb]; exact n1, by rw [lk_ne nb]; exact n2, r.lk d0 d1 hF⟩
      | ownd l =>
        obtain ⟨b, e1, ⟨ks, r1, r2, r3⟩, n1, n2⟩ := k2
        have nb := ne b n1 n2
        exact ⟨b, e1, ⟨ks, by rw [upd_ne nb]; exact r1, r2, r3.lk d0 d1 hF⟩, by rw [lk_ne nb]; exact n1, by rw [lk_ne nb]; exact n2⟩
      | ownu l =>
        obtain ⟨b, e1, ⟨ks, r1, r2, r3⟩, n1, n2⟩ := k2
        have nb := ne b n1 n2
        exact ⟨b, e1, ⟨ks, by rw [upd_ne nb]; exact r1, r2, r3.lk d0 d1 hF⟩, by rw [lk_ne nb]; exact n1, by rw [lk_ne nb]; exact n2⟩
      | obj b c l =>
        obtain ⟨dx, fs, e1, e2, n1, n2, e3, r⟩ := k2
        have nb := ne b n1 n2
        exact ⟨dx, fs, e1, by rw [upd_ne nb]; exact e2, by rw [lk_ne nb]; exact n1, by rw [lk_ne nb]; exact n2, e3, r.lk d0 d1 hF⟩
      | bor d =>
        obtain ⟨w, e1, r⟩ := k2
        refine ⟨w, e1, ?_⟩
        cases r with
        | of r => exact .of (r.lk d0 d1 hF)
        | own h r => exact .own (lk_keep d0 d1 hB h (by rintro (z | ⟨_, z⟩) <;> cases z)) (r.lk d0 d1 hF)
        | ownd r =>
          obtain ⟨ks, r1, r2, r3⟩ := r
          exact .ownd ⟨ks, lk_rd d0 d1 hB r1, r2, r3.lk d0 d1 hF⟩
        | ownu r =>
          obtain ⟨ks, r1, r2, r3⟩ := r
          exact .ownu ⟨ks, lk_keep d0 d1 hB r1 (by rintro (z | ⟨_, z⟩) <;> cases z), r2, r3.lk d0 d1 hF⟩
        | obj h h2 r => exact .obj (lk_keep d0 d1 hB h (by rintro (z | ⟨_, z⟩) <;> cases z)) h2 (r.lk d0 d1 hF)
        | obt h h2 r => exact .obt (lk_keep d0 d1 hB h (by rintro (z | ⟨_, z⟩) <;> cases z)) h2 (RpOL.lk d0 d1 hF hB r)
  dis := fun i j s1 t1 d h1 h2 o1 o2 e1 e2 => by
    rw [List.getElem?_map] at h1 h2
    cases ei : G[i]? with
    | none => rw [ei] at h1; cases h1
    | some x =>
      cases ej : G[j]? with
      | none => rw [ej] at h2; cases h2
      | some y =>
        rw [ei] at h1
        rw [ej] at h2
        cases h1
        cases h2
        rw [Sl.noT_owns] at o1 o2
        exact g.dis i j _ _ d ei ej o1 o2 e1 e2
end
section
variable {X : Cx} {E : St → XK} {G : List Sl} {e c : Expr} {pos : Pos}
end
end DL

set_option Elab.async false
set_option linter.all false
set_option maxRecDepth 100000
set_option maxHeartbeats 4000000
namespace DL
open PySem PySem.Spec L2
section
variable {X : Cx} {E : St → XK} {G : List Sl} {a : Expr} {ma : M D} {pos : Pos}
end
end DL

set_option Elab.async false
set_option linter.all false
set_option maxRecDepth 100000
set_option maxHeartbeats 4000000
namespace DL
open PySem PySem.Spec L2
section
variable {X : Cx} {E : St → XK} {G : List Sl} {a : Expr} {ma : M D} {pos : Pos}
end
end DL

set_option Elab.async false
set_option linter.all false
set_option maxRecDepth 100000
set_option maxHeartbeats 4000000
namespace DL
open PySem PySem.Spec L2
@[simp] def a7 {α : Type} (f : D → D → D → D → D → D → D → M α) : List D → M α
  | [a, b, c, d, e, g, h] => f a b c d e g h
  | _ => stuck
@[simp] def a8 {α : Type} (f : D → D → D → D → D → D → D → D → M α) : List D → M α
  | [a, b, c, d, e, g, h, i] => f a b c d e g h i
  | _ => stuck
def killX {α : Type} (m : M α) : M α := match m with
  | .ok x => .ok x
  | .error _ => stuck
def D.itemsK : D → M (List D)
  | .dct l => need (l.all fun q => q.1.keyOk) >>= fun _ => .ok (l.map fun q => .tup [q.1, q.2])
  | _ => stuck
theorem yld_itemsL {K : PySem.W.Frag} {d : Addr} {od : Obj} {kvs : List (Key × V)} {kl : List (D × D)} {F0 : Hp} (h1 : kvs.map (fun q => kD q.1) = kl.map (·.1)) (h2 : RpL K F0 (kvs.map (·.2)) (kl.map (·.2))) (hk : (kl.all fun q => q.1.keyOk) = true) :
    Yld K (Iti d od kvs) (fun F1 H1 => Same F0 F1 ∧ H1 d = some (.frz od (.dK kvs))) (kl.map fun q => .tup [q.1, q.2]) := fun F H x s => by
  obtain ⟨xF, hd⟩ := x
  have el : kvs.length = kl.length := by
    have := congrArg List.length h1
    simpa using this
  refine ⟨fun i z hz => ?_, ⟨hd, by rw [List.length_map, el]; exact Nat.le_refl _⟩⟩
  rw [List.getElem?_map] at hz
  cases hq : kl[i]? with
  | none => rw [hq] at hz; cases hz
  | some q =>
    rw [hq] at hz
    cases hz
    obtain ⟨k, v, e1, e2, r⟩ := kl_get h1 h2 hq
    refine ⟨⟨hd, (List.getElem?_eq_some_iff.mp e1).1⟩, fun y H' hy => ?_⟩
    obtain ⟨T, k', v', e3, rfl, hT, rfl⟩ := hy
    rw [e1] at e3
    cases e3
    have ok : (kD k).keyOk = true := by rw [e2]; exact List.all_eq_true.mp hk q (List.mem_of_getElem? hq)
    have xn := Ext.new (o := .tup [kV k, v]) s hT
    refine ⟨_, xn, .tup (SqT.of upd_same) (.cons ?_ (.cons ((r.mono xF).mono xn.sF) .nil))⟩
    rw [← e2]
    exact key_rp ok
theorem ps_orS {X : Cx} {st : Stmt} {t t' : TS} (h : PS X st t) (h' : PS X st t') : PS X st (fun D σ H => t D σ H ∨ t' D σ H) := by
  refine ⟨fun pins s σ H D I hw => ?_⟩
  rcases hw with hw | hw
  · exact h.run pins s σ H D I hw
  · exact h'.run pins s σ H D I hw
section
variable {K : PySem.W.Frag} {B0 B F H F' H' : Hp} {a : Addr} {u0 u1 u : HO}
theorem same_lk2 (s : Same F F') : Same (lkF F a u) (lkF F' a u) := fun b z h => by
  by_cases e : b = a
  · subst e
    cases hb : F b with
    | none =>
      rw [lk_none hb] at h
      cases h
    | some y =>
      rw [lk_some hb] at h
      rw [lk_some (s b y hb)]
      exact h
  · rw [lk_ne e] at h
    rw [lk_ne e]
    exact s b z h
theorem lk_lk (h : ∀ x, F a = some x → x = u0) : lkF (lkF F a u1) a u0 = F := funext fun b => by
  by_cases e : b = a
  · subst e
    cases hb : F b with
    | none => rw [lk_none (lk_none hb)]
    | some y => rw [lk_some (lk_some hb), h y hb]
  · rw [lk_ne e, lk_ne e]
theorem Ext.lk (x : Ext B0 B F H) : Ext (lkF B0 a u) (lkF B a u) (lkF F a u) (upd H a u) where
  sF := same_lk2 x.sF
  sH := same_lk x.sH
  sFH := same_lk x.sFH
  old := fun b z h => by
    by_cases e : b = a
    · subst e
      cases hb : B b with
      | none =>
        rw [lk_none hb] at h
        cases h
      | some y =>
        have h1 := x.old b y hb
        cases h0 : B0 b with
        | none =>
          rw [h0] at h1
          rw [lk_none h1, lk_none h0]
        | some w =>
          rw [h0] at h1
          rw [lk_some h1, lk_some h0]
    · rw [lk_ne e] at h
      rw [lk_ne e, lk_ne e]
      exact x.old b z h
theorem Ext.unlk2 (h0 : ∀ x, B0 a = some x → x = u0) (h1 : ∀ x, B a = some x → x = u0) (x : Ext (lkF B0 a u1) (lkF B a u1) F' H') : Ext B0 B (lkF F' a u0) (upd H' a u0) := by
  have y := x.lk (a := a) (u := u0)
  rw [lk_lk h0, lk_lk h1] at y
  exact y
end
theorem loop_noexc {S : Type} (g : S → D → M (Rs S)) : ∀ (ds : List D) (s : S) z, loopR (fun s q => killX (g s q)) ds s ≠ .error (.exc z)
  | [], s, z, h => by cases h
  | d :: ds, s, z, h => by
    have h : ((killX (g s d)) >>= fun r => match r with
      | .go s => loopR (fun s q => killX (g s q)) ds s
      | .ct s => loopR (fun s q => killX (g s q)) ds s
      | .bk s => .ok (.inl s)
      | .rt d => .ok (.inr d)) = .error (.exc z) := h
    cases e : g s d with
    | error w =>
      rw [e] at h
      cases h
    | ok r =>
      rw [e] at h
      cases r with
      | go s' => exact loop_noexc g ds s' z h
      | ct s' => exact loop_noexc g ds s' z h
      | bk s' => cases h
      | rt d' => cases h
section
variable {X : Cx} {E : XK} {G : List Sl} {pos : Pos} {body : List Stmt}
theorem ds_forK2 {x : Str} {p1 apos cpos tpos : Pos} {elts : List Expr} {kk i j i0 : Nat} {S : Type} {Γ : S → List Sl} {f : S → D → D → M (Rs S)} {d : D} (s0 : S) (hG : G = Γ s0) (cx : CtxOk X (cE E)) (hnt : ∀ s, (Γ s).map Sl.noT = Γ s)
    (hd : (Γ s0)[i0]? = some (.val d) ∨ (Γ s0)[i0]? = some (.bor d)) (pv : PE X (.Name x p1) (tVar i0)) (pg : PG X (.Tuple elts kk tpos) (gTup X.K 2 (gNames [i, j])))
    (hb : ∀ s d1 d2, DB X E (((Γ s).set i (.val d1)).set j (.val d2)) body (f s d1 d2) (Rs.oc Γ))
    (hbase : attributeBase (.Name x p1) "items" X.env (eval (.Name x p1) X.env) = eval (.Name x p1) X.env := by rfl) (hline : (apos.endLine == cpos.line) = true := by rfl)
    (hs : ∀ y, foldedSetIterable (.Call (.Attribute (.Name x p1) "items" apos) [] [] cpos) X.env y = pure y := by intro _; rfl) :
    DS X E G (.For (.Tuple elts kk tpos) (.Call (.Attribute (.Name x p1) "items" apos) [] [] cpos) body [] pos) (D.itemsK d >>= fun ds => loopR (fun s q => killX (on2 (f s) q)) ds s0) (sumOc Γ) := by
  subst hG
  have pb : PSs X body (fun D σ H => ∃ s d1 d2 B0 B F, Ext B0 B F H ∧ GOk X.K B (((Γ s).set i (.val d1)).set j (.val d2)) σ F H ∧ WpB X.K E B0 B (Rs.oc Γ) (f s d1 d2) F D) :=
    ⟨fun pins s σ H D I ⟨s', d1, d2, B0, B, F, x0, gk, q⟩ => by
      obtain ⟨t, p, w⟩ := hb s' d1 d2
      exact p.run pins s σ H D I (w B0 B σ F H D x0 gk q)⟩
  have pf := ps_for (pos := pos) cx.own cx.calm (pi_items (elts := elts) (kk := kk) (tpos := tpos) pv hbase hline) pg pb hs
  refine ⟨_, ps_orS (ps_lock pf) pf, fun B0 B σ F H D x0 g q => ?_⟩
  have rd : ∃ v, σ[i0]? = some (some v) ∧ RpT X.K F B v d := by
    rcases hd with hd | hd
    · obtain ⟨o, h1, v, rfl, r⟩ := g.ok i0 _ hd
      exact ⟨v, h1, .of r⟩
    · obtain ⟨o, h1, v, rfl, r⟩ := g.ok i0 _ hd
      exact ⟨v, h1, r⟩
  obtain ⟨v, hv, r⟩ := rd
  cases d with
  | dct l =>
    have q : WpB X.K E B0 B (sumOc Γ) ((need (l.all fun q => q.1.keyOk) >>= fun _ => (.ok (l.map fun q => DL.D.tup [q.1, q.2]) : M (List DL.D))) >>= fun ds => loopR (fun s q => killX (on2 (f s) q)) ds s0) F D := q
    cases hk : (l.all fun q => q.1.keyOk) with
    | false =>
      rw [hk] at q
      exact q.elim
    | true =>
      rw [hk] at q
      have q : WpB X.K E B0 B (sumOc Γ) (loopR (fun s q => killX (on2 (f s) q)) (l.map fun q => DL.D.tup [q.1, q.2]) s0) F D := q
      have rr : ∃ a kvs, v = .ref a ∧ Rd H a (.dK kvs) ∧ (F a ≠ none ∨ B a ≠ none) ∧ kvs.map (fun q => kD q.1) = l.map (·.1) ∧ RpL X.K F (kvs.map (·.2)) (l.map (·.2)) := by
        cases r with
        | of r => cases r with
          | dctK h h2 hs =>
            refine ⟨_, _, rfl, rd_same x0.sFH h, .inl fun z => ?_, h2, hs⟩
            rcases h with h | ⟨o, h⟩ <;> rw [z] at h <;> cases h
        | ownd r =>
          obtain ⟨kvs, h, h2, h3⟩ := r
          refine ⟨_, _, rfl, rd_same g.sB h, .inr fun z => ?_, h2, h3⟩
          rcases h with h | ⟨o, h⟩ <;> rw [z] at h <;> cases h
      obtain ⟨a, kvs, rfl, hH, hab, hk1, hk2⟩ := rr
      have run := fun (u0 : HO) (od : Obj) (D' : Ends) (h0 : H a = some u0) (d0 : IsDk u0 kvs)
          (kn : ∀ σ' H', H' a = some (.frz od (.dK kvs)) → D.nx σ' (upd H' a u0) → D'.nx σ' H') (kr : ∀ v H', H' a = some (.frz od (.dK kvs)) → D.rt v (upd H' a u0) → D'.rt v H') =>
        (show tFor (iItems (tVar i0)) (gTup X.K 2 (gNames [i, j])) (fun D σ H => ∃ s d1 d2 B0 B F, Ext B0 B F H ∧ GOk X.K B (((Γ s).set i (.val d1)).set j (.val d2)) σ F H ∧ WpB X.K E B0 B (Rs.oc Γ) (f s d1 d2) F D) D' σ (upd H a (.frz od (.dK kvs))) from by
          have d1 : IsDk (.frz od (.dK kvs)) kvs := .inr ⟨od, rfl⟩
          generalize hu : (HO.frz od (.dK kvs)) = u1 at d1 kn kr ⊢
          have fF : ∀ x, F a = some x → x = u0 := fun x hx => Option.some.inj ((x0.sFH a x hx).symm.trans h0)
          have fB : ∀ x, B a = some x → x = u0 := fun x hx => Option.some.inj ((g.sB a x hx).symm.trans h0)
          have fB0 : ∀ x, B0 a = some x → x = u0 := fun x hx => fF x (x0.sF a x hx)
          have hat : ∀ F' H', Same (lkF F a u1) F' → Ext (lkF B0 a u1) (lkF B a u1) F' H' → H' a = some u1 := fun F' H' s x => by
            rcases hab with h | h
            · cases e : F a with
              | none => exact absurd e h
              | some y => exact x.sFH a u1 (s a u1 (lk_some e))
            · cases e : B a with
              | none => exact absurd e h
              | some y => exact x.sH a u1 (lk_some e)
          have hab' : ∀ F', Same (lkF F a u1) F' → F' a ≠ none ∨ lkF B a u1 a ≠ none := fun F' s => by
            rcases hab with h | h
            · cases e : F a with
              | none => exact absurd e h
              | some y =>
                left
                rw [s a u1 (lk_some e)]
                exact fun z => nomatch z
            · cases e : B a with
              | none => exact absurd e h
              | some y =>
                right
                rw [lk_some e]
                exact fun z => nomatch z
          have fF' : ∀ F' H', Same (lkF F a u1) F' → Ext (lkF B0 a u1) (lkF B a u1) F' H' → ∀ x, F' a = some x → x = u1 := fun F' H' s x y hy => Option.some.inj ((x.sFH a y hy).symm.trans (hat F' H' s x))
          have sback : ∀ F', Same (lkF F a u1) F' → Same F (lkF F' a u0) := fun F' s => by
            have := same_lk2 (a := a) (u := u0) s
            rw [lk_lk fF] at this
            exact this
          have x1 : Ext (lkF B0 a u1) (lkF B a u1) (lkF F a u1) (upd H a u1) := x0.lk
          have g1 : GOk X.K (lkF B a u1) (Γ s0) σ (lkF F a u1) (upd H a u1) := by
            have := GOk.lk d0 d1 x0.sFH g h0 hab
            rw [hnt] at this
            exact this
          have q1 : WpB X.K E (lkF B0 a u1) (lkF B a u1) (sumOc Γ) (loopR (fun s q => killX (on2 (f s) q)) (l.map fun q => DL.D.tup [q.1, q.2]) s0) (lkF F a u1) D' := by
            cases e : loopR (fun s q => killX (on2 (f s) q)) (l.map fun q => DL.D.tup [q.1, q.2]) s0 with
            | error z =>
              rw [e] at q
              cases z with
              | stuck => exact q.elim
              | exc z => exact absurd e (loop_noexc _ _ _ _)
            | ok r =>
              rw [e] at q
              cases r with
              | inl s =>
                intro σ' F' H' s' x' g'
                have g2 := GOk.lk d1 d0 x'.sFH g' (hat F' H' s' x') (hab' F' s')
                rw [hnt, lk_lk fB] at g2
                exact kn σ' H' (hat F' H' s' x') (q σ' _ _ (sback F' s') (x'.unlk2 fB0 fB) g2)
              | inr y =>
                intro v F' H' s' x' r'
                exact kr v H' (hat F' H' s' x') (q v _ _ (sback F' s') (x'.unlk2 fB0 fB) (r'.lk d1 d0 (fF' F' H' s' x')))
          have yl : Yld X.K (Iti a od kvs) (fun F1 H1 => Same (lkF F a u1) F1 ∧ H1 a = some (.frz od (.dK kvs))) (l.map fun q => DL.D.tup [q.1, q.2]) := yld_itemsL hk1 (hk2.lk d0 d1 fF) hk
          generalize (l.map fun q => DL.D.tup [q.1, q.2]) = ds at q1 yl
          refine ⟨.ref a, hv, a, od, kvs, rfl, by rw [hu]; exact upd_same, ?_⟩
          refine ⟨fun n m σ H => m = ds.length - n ∧ n ≤ ds.length ∧ ∃ F2 s, Same (lkF F a u1) F2 ∧ Ext (lkF B0 a u1) (lkF B a u1) F2 H ∧ GOk X.K (lkF B a u1) (Γ s) σ F2 H ∧ WpB X.K E (lkF B0 a u1) (lkF B a u1) (sumOc Γ) (loopR (fun s q => killX (on2 (f s) q)) (ds.drop n) s) F2 D', ⟨ds.length, by simp, Nat.zero_le _, lkF F a u1, s0, Same.refl _, x1, g1, q1⟩, ?_⟩
          rintro n m σ H ⟨rfl, hn, F2, s, sF, x, g', q'⟩
          obtain ⟨yi, ye⟩ := yl F2 H ⟨sF, by rw [hu]; exact hat F2 H sF x⟩ x.sFH
          by_cases hlt : n < ds.length
          · have hd : ds[n]? = some ds[n] := List.getElem?_eq_getElem hlt
            obtain ⟨go, yl⟩ := yi n _ hd
            rw [List.drop_eq_getElem_cons hlt] at q'
            refine .inr ⟨go, fun σ' H' => ∃ F' s', Same (lkF F a u1) F' ∧ Ext (lkF B0 a u1) (lkF B a u1) F' H' ∧ GOk X.K (lkF B a u1) (Γ s') σ' F' H' ∧ WpB X.K E (lkF B0 a u1) (lkF B a u1) (sumOc Γ) (loopR (fun s q => killX (on2 (f s) q)) (ds.drop (n + 1)) s') F' D', fun σ' H' ⟨F', s', a1, a2, a3, a4⟩ => ⟨ds.length - (n + 1), by omega, rfl, hlt, F', s', a1, a2, a3, a4⟩, fun v H' hv => ?_⟩
            obtain ⟨F', x', rv⟩ := yl v H' hv
            have q2 : WpB X.K E (lkF B0 a u1) (lkF B a u1) (sumOc Γ) (killX (on2 (f s) ds[n]) >>= fun r => match r with
              | .go s => loopR (fun s q => killX (on2 (f s) q)) (ds.drop (n + 1)) s
              | .ct s => loopR (fun s q => killX (on2 (f s) q)) (ds.drop (n + 1)) s
              | .bk s => .ok (.inl s)
              | .rt d => .ok (.inr d)) F2 D' := q'
            have q3 := q2.mono x'.sF
            have hne : on2 (f s) ds[n] ≠ stuck := fun z => by
              rw [z] at q3
              exact q3.elim
            obtain ⟨e1, e2, ed⟩ := on2_not hne
            rw [ed] at q3 rv
            have q3 : WpB X.K E (lkF B0 a u1) (lkF B a u1) (sumOc Γ) (killX (f s e1 e2) >>= fun r => match r with
              | .go s => loopR (fun s q => killX (on2 (f s) q)) (ds.drop (n + 1)) s
              | .ct s => loopR (fun s q => killX (on2 (f s) q)) (ds.drop (n + 1)) s
              | .bk s => .ok (.inl s)
              | .rt d => .ok (.inr d)) F' D' := q3
            have sF' := sF.trans x'.sF
            cases rv with
            | tup h hs =>
              refine ⟨_, _, rfl, Same.seqT (x.trans x').sFH h, by rw [hs.length]; rfl, gNames_run (x.trans x').sFH (g'.ext x') hs (ds := [e1, e2]) (G' := ((Γ s).set i (.val e1)).set j (.val e2)) rfl fun σ' gG _ _ => ⟨s, e1, e2, _, _, F', x.trans x', gG, ?_⟩⟩
              cases ef : f s e1 e2 with
              | error w =>
                rw [ef] at q3
                exact q3.elim
              | ok r =>
                rw [ef] at q3
                cases r with
                | go s' => exact fun σ2 F2 H2 s2 x2 g2 => ⟨F2, s', sF'.trans s2, x2, g2, WpB.mono s2 q3⟩
                | ct s' => exact fun σ2 F2 H2 s2 x2 g2 => ⟨F2, s', sF'.trans s2, x2, g2, WpB.mono s2 q3⟩
                | bk s' => exact q3
                | rt d => exact q3
          · have e : n = ds.length := by omega
            subst e
            rw [List.drop_length] at q'
            exact .inl ⟨ye, q'.ok σ F2 H (Same.refl _) x g'⟩)
      rcases hH with hH | ⟨o, hH⟩
      · left
        refine ⟨a, .dK kvs, hH, trivial, fun od => ?_⟩
        exact run (.dK kvs) od _ hH (.inl rfl) (fun σ' H' h q => ⟨h, q⟩) (fun v H' h q => ⟨h, q⟩)
      · right
        have eu : ∀ H' : Hp, H' a = some (.frz o (.dK kvs)) → upd H' a (.frz o (.dK kvs)) = H' := fun H' h => funext fun b => by
          by_cases e : b = a
          · subst e
            rw [upd_same, h]
          · rw [upd_ne e]
        have ru := run (.frz o (.dK kvs)) o D hH (.inr ⟨o, rfl⟩) (fun σ' H' h q => by rw [eu H' h] at q; exact q) (fun v H' h q => by rw [eu H' h] at q; exact q)
        rw [eu H hH] at ru
        exact ru
  | _ => exact q.elim
end
end DL

set_option Elab.async false
set_option linter.all false
set_option maxRecDepth 100000
set_option maxHeartbeats 4000000
namespace DL
open PySem PySem.Spec L2
section
variable {K : PySem.W.Frag} {F F' H H' : Hp}
theorem freezeO {p : Addr} {o : HO} (x : Ext F H F' H') (n : H p = none) (h : H' p = some o) (nf : F' p = none) : Ext F H (upd F' p o) H' where
  sF := fun b u q => by
    rw [upd_ne (fun z => by
      subst z
      have := x.sF _ _ q
      rw [nf] at this
      cases this)]
    exact x.sF _ _ q
  sH := x.sH
  sFH := fun b u q => by
    by_cases e : b = p
    · subst e
      rw [upd_same] at q
      cases q
      exact h
    · rw [upd_ne e] at q
      exact x.sFH _ _ q
  old := fun a u q => by
    rw [upd_ne (ne_of_none q n)]
    exact x.old a u q
end
section
variable {X : Cx} {E : St → XK} {G : List Sl} {a : Expr} {ma : M D} {pos : Pos}
end
end DL

set_option Elab.async false
set_option linter.all false
set_option maxRecDepth 100000
set_option maxHeartbeats 4000000
namespace DL
open PySem PySem.Spec L2
section
variable {X : Cx}
end
end DL

set_option Elab.async false
set_option linter.all false
set_option maxRecDepth 100000
set_option maxHeartbeats 4000000
namespace DL
open PySem PySem.Spec L2
section
variable {X : Cx} {E : XK} {G : List Sl} {body : List Stmt}
end
end DL

set_option Elab.async false
set_option linter.all false
set_option maxRecDepth 100000
set_option maxHeartbeats 4000000
namespace DL
open PySem PySem.Spec L2
structure FnG (P : Program) (w : World) (K : PySem.W.Frag) (mg : Str → Option Value) (base : Heap) (CX : CXT) (k : Nat) (f : Addr) (fd : FuncData) (ps : List Str) (sp : Sp) : Prop where
  ln : ∀ vs H Q E, sp vs H Q E → vs.length = ps.length
  go : ∀ (A : Around) (o : List Env) (s : Shared) (H : Hp) (ar : Args) (us : List Value) (vs : List V) (Q : VK) (E : XK), A.guards = some [] → Room k A → Env0 P w K mg base A o s H → BindsTo s fd ar (ps.zip us) → Vals vs us → sp vs H Q E → codeAny (model P w) A (.call (.ref f) ar) (CR CX o P w H s Q E) s
section
variable {P : Program} {w : World} {K : PySem.W.Frag} {mg : Str → Option Value} {base : Heap} {CX : CXT} {f : Addr} {fd : FuncData} {x : Str} {qual : Str} {params : Arguments} {body : List Stmt} {scope : Scope} {dvs : List V} {kws : List (Str × V)}
end
end DL

set_option Elab.async false
set_option linter.all false
set_option maxRecDepth 100000
set_option maxHeartbeats 4000000
namespace DL
open PySem PySem.Spec L2
section
variable {K : PySem.W.Frag} {x qual : Str} {params : Arguments} {body : List Stmt} {scope : Scope} {f : Addr} {fd : FuncData} {ps : List Str}
end
section
variable {X : Cx} {CX : CXT} {k n : Nat} {f : Addr} {fd : FuncData} {ps ks : List Str} {sp : Sp} {E : St → XK} {x : Str} {p pos : Pos} {e : Expr} {es : List Expr} {kws : List Keyword} {t tk : TA} {g : List Value → List Value → List Value} {gV : List V → List V → List V} {pins : List (Addr × Obj)} {σ : St} {H : Hp} {s : Shared} {Q : VK} {us ws : List Value} {vs zs : List V}
end
section
variable {X : Cx} {E : St → XK} {G : List Sl} {a : Expr} {pos : Pos}
theorem RpA.app {K : PySem.W.Frag} {F H : Hp} {b2 : List Bool} {v2 : List V} {d2 : List D} (h2 : RpA K F H b2 v2 d2) : ∀ {bs : List Bool} {vs : List V} {ds : List D}, RpA K F H bs vs ds → RpA K F H (bs ++ b2) (vs ++ v2) (ds ++ d2)
  | _, _, _, .nil => h2
  | _, _, _, .frz r h => .frz r (RpA.app h2 h)
  | _, _, _, .bor r h => .bor r (RpA.app h2 h)
@[simp] abbrev mCallK (m : List D → M D) (gd : List D → List D) (a b : M (List D)) : M D := a >>= fun l => b >>= fun k => m (l ++ gd k)
end
end DL

set_option Elab.async false
set_option linter.all false
set_option maxRecDepth 100000
set_option maxHeartbeats 4000000
namespace DL
open PySem PySem.Spec L2
def D.addN : D → D → M (List D)
  | .lst l, .lst m => need (decide (l.length + m.length ≤ sizeLine)) >>= fun _ => .ok (l ++ m)
  | _, _ => stuck
section
variable {X : Cx} {E : St → XK} {G : List Sl} {a b : Expr} {ma mb : M D} {pos : Pos}
theorem dn_addN (ha : DR X E G a ma) (hb : DR X E G b mb) : DN X E G (.BinOp a .Add b pos) (ma >>= fun x => mb >>= fun y => D.addN x y) := by
  obtain ⟨ta, pa, wa⟩ := ha
  obtain ⟨tb, pb, wb⟩ := hb
  refine ⟨_, pe_op op_cat pa pb, fun B σ F H Q s g q => wa B σ F H _ s g (WpG.bind q fun x F1 H1 v x1 r1 k1 => wb B σ F1 H1 _ x1.sFH (g.ext x1) (WpG.bind k1 fun y F2 H2 u x2 r2 k2 => ?_))⟩
  have r1' := r1.ext x2
  have x12 := x1.trans x2
  cases x with
  | lst l => cases y with
    | lst m =>
      have k2 : WpG X.K (E σ) _ (need (decide (l.length + m.length ≤ sizeLine)) >>= fun _ => (.ok (l ++ m) : M (List D))) F2 H2 Q := k2
      obtain ⟨c, k3⟩ := WpG.need k2
      obtain ⟨p, xs, rfl, e1, q1⟩ := r1'.lst x2.sFH
      obtain ⟨p2, ys, rfl, e2, q2⟩ := r2.lst x2.sFH
      exact ⟨p, p2, xs, ys, rfl, rfl, e1, e2, by rw [q1.length, q2.length]; exact of_decide_eq_true c, fun z hz => k3 F2 _ _ (Ext.newH x2.sFH hz) ⟨z, _, rfl, x12.sH.free hz, upd_same, x2.sFH.free hz, q1.append q2⟩⟩
    | _ => exact k2.elim
  | _ => cases y <;> exact k2.elim
end
end DL

set_option Elab.async false
set_option linter.all false
set_option maxRecDepth 100000
set_option maxHeartbeats 4000000
namespace DL
open PySem PySem.Spec L2
section
variable {X : Cx} {CX : CXT} {k : Nat} {C f : Addr} {fd : FuncData} {ps ks : List Str} {sp : Sp} {E : St → XK} {m : Str} {apos pos : Pos} {o : Expr} {kws : List Keyword} {ta : TE} {tk : TA} {g : List Value → List Value → List Value} {gV : List V → List V → List V}
end
section
variable {X : Cx} {E : St → XK} {G : List Sl} {b : Expr} {mb : M D} {pos : Pos}
@[simp] abbrev mMethK (c mn : String) (m : List D → M D) (gd : List D → List D) (a : M D) (b : M (List D)) : M D := a >>= fun x => D.recv c mn x >>= fun x => b >>= fun l => m (x :: gd l)
end
end DL

set_option Elab.async false
set_option linter.all false
set_option maxRecDepth 100000
set_option maxHeartbeats 4000000
namespace DL
open PySem PySem.Spec L2
section
variable {X : Cx} {E : St → XK} {e fe : Expr} {es : List Expr} {pos : Pos} {tf : TE} {ta : TA}
end
def pickF (ms : List (List D → M D)) : D → M (List D → M D)
  | .int (.ofNat n) => match ms[n]? with
    | some m => .ok m
    | none => stuck
  | _ => stuck
section
variable {X : Cx} {E : St → XK} {G : List Sl} {a ie : Expr} {pos : Pos}
@[simp] abbrev mCallIx (fs : List (List D → M D)) (i : M D) (ms : M (List D)) : M D := i >>= fun i => pickF fs i >>= fun f => ms >>= fun l => f l
end
end DL

set_option Elab.async false
set_option linter.all false
set_option maxRecDepth 100000
set_option maxHeartbeats 4000000
namespace PySem
open Sem (wp)
section
variable {M : Model} {A : Around} {E : Value → Shared → Prop} {s : Shared} {env : Env}
end
end PySem

namespace L2
open PySem PySem.Spec PyProof.Rows
section
variable {X : Cx} {pins : List (Addr × Obj)} {σ : St} {H : Hp} {s s' : Shared} {E : XK} {L : Addr}
end
section
variable {X : Cx} {pins : List (Addr × Obj)} {σ : St} {H3 : Hp} {s3 : Shared} {E : XK} {W : WX} {scope : Scope} {ce : Env} {fp : List Addr}
end
end L2

namespace L2
open PySem PySem.Spec PyProof.Rows
section
variable {X : Cx}
end
end L2

namespace DL
open PySem PySem.Spec L2
section
variable {X : Cx} {E1 : XK} {s : Shared} {H : Hp} {scope : Scope} {cenv : Env} {fp : List Addr}
structure XOk (X : Cx) (E1 : XK) : Prop where
  stk : X.stack = X.env :: X.outer
  frm : X.env.frame = some X.env.locals
  tk : Takes X (fun c d _ H => E1 c d H)
end
section
variable {X : Cx} {E1 : XK} {G : List Sl} {e c : Expr} {pos : Pos}
end
section
variable {X : Cx} {E1 : XK} {G : List Sl} {e c : Expr} {pos : Pos}
end
end DL

set_option Elab.async false
set_option linter.all false
set_option maxRecDepth 100000
set_option maxHeartbeats 4000000
namespace SrtF
open PySem PySem.Calls PyProof.Rows SrtO Srt
section
variable {prog : Program} {w : World} {A : Around} {s : Shared} {E : Value → Shared → Prop}
def FstT (h : Heap) (v : Value) (x : Str) : Prop := ∃ (a : Addr) (o : Obj) (xs : Array Value) (n : Nat) (t : Tok), v = .ref a ∧ h.get? a = some o ∧ o.cls = .type "tuple" ∧ o.data = .seq xs n ∧ xs[0]? = some (.str x t) ∧ ∀ u ∈ xs.toList, (u == u) = true
theorem FstT.keeps {h h' : Heap} {v : Value} {x : Str} (p : FstT h v x) (k : ∀ b o, h.get? b = some o → o.cls = .type "tuple" → h'.get? b = some o) : FstT h' v x := by
  obtain ⟨a, o, xs, n, t, e, ho, hc, hd, h0, hs⟩ := p
  exact ⟨a, o, xs, n, t, e, k _ _ ho hc, hc, hd, h0, hs⟩
end
end SrtF
namespace DL
open PySem PySem.Spec L2 SrtF
def gV : V → Value
  | .ref c => .ref c
  | _ => .none
end DL

set_option Elab.async false
set_option linter.all false
set_option maxRecDepth 100000
set_option maxHeartbeats 4000000
namespace L2
open PySem PySem.Spec PyProof.Rows
section
variable {X : Cx}
end
end L2
namespace DL
open PySem PySem.Spec L2
section
variable {X : Cx} {E : St → XK} {G : List Sl} {pos : Pos}
def DDL (X : Cx) (E : St → XK) (G : List Sl) (e : Expr) (m : M D) : Prop :=
  ∃ t, PE X e t ∧ (∀ {i : Nat} {y : Str} {py spos : Pos}, X.N[i]? = some y → X.env.scope.names.lookup y = some .local → swapsWith e (some (.Name y py)) spos.line X.env = pure true → PS X (.Assign [.Name y py] e spos) (tAsg t (gName i))) ∧
    ∀ B σ F H Q, Same F H → GOk X.K B G σ F H → WpG X.K (E σ) (fun F' _ v d => Rp X.K F' v d) m F H Q → t σ H Q
theorem DDL.de {e : Expr} {m : M D} (h : DDL X E G e m) : DE X E G e m := let ⟨t, p, _, w⟩ := h; ⟨t, p, w⟩
end
section
variable {X : Cx} {E : XK} {G : List Sl} {e : Expr} {pos : Pos}
end
end DL

set_option Elab.async false
set_option linter.all false
set_option maxRecDepth 100000
set_option maxHeartbeats 4000000
namespace DL
open PySem PySem.Spec L2
def Sl.ol : Option (List D) → Sl
  | none => .val .non
  | some l => .own l
section
variable {X : Cx} {E : XK} {G : List Sl} {e : Expr} {pos : Pos} {st : Stmt} {rest body : List Stmt}
end
section
variable {P : Program} {w : World} {K : PySem.W.Frag} {mg : Str → Option Value} {base : Heap} {x qual : Str} {params : Arguments} {body : List Stmt} {scope : Scope} {dvs : List V} {kws : List (Str × V)} {f : Addr} {fd : FuncData}
end
section
variable {X : Cx} {E : St → XK} {G : List Sl} {a b c e : Expr} {ma mb mc : M D} {pos : Pos} {F H : Hp}
end
end DL

set_option Elab.async false
set_option linter.all false
set_option maxRecDepth 100000
set_option maxHeartbeats 4000000
namespace DL
open PySem PySem.Spec L2
structure RoomP (k : Nat) (A : Around) : Prop where
  dp : A.depth + 3 * k + 5 < recursionLimit
  un : A.units + 16 * k + 200 < cLine
theorem RoomP.mono {j k : Nat} {A : Around} (r : RoomP k A) (h : j ≤ k) : RoomP j A := ⟨by have := r.dp; omega, by have := r.un; omega⟩
theorem RoomP.deeper {k : Nat} {A : Around} (r : RoomP (k + 1) A) (env : Env) : RoomP k (A.deeper env) :=
  ⟨by have := r.dp; show A.depth + 1 + 3 * k + 5 < _; omega, by have := r.un; show A.units + 3 + 16 * k + 200 < _; omega⟩
theorem RoomP.u70 {k : Nat} {A : Around} (r : RoomP k A) : A.units + 70 < cLine := by have := r.un; omega
structure FnP (P : Program) (w : World) (K : PySem.W.Frag) (mg : Str → Option Value) (base : Heap) (CX : CXT) (k : Nat) (f : Addr) (fd : FuncData) (ps : List Str) (sp : Sp) : Prop where
  ln : ∀ vs H Q E, sp vs H Q E → vs.length = ps.length
  go : ∀ (A : Around) (o : List Env) (s : Shared) (H : Hp) (ar : Args) (us : List Value) (vs : List V) (Q : VK) (E : XK), RoomP k A → Env0 P w K mg base A o s H → BindsTo s fd ar (ps.zip us) → Vals vs us → sp vs H Q E → codeAny (model P w) A (.call (.ref f) ar) (CR CX o P w H s Q E) s
section
variable {P : Program} {w : World} {K : PySem.W.Frag} {mg : Str → Option Value} {base : Heap} {CX : CXT} {f : Addr} {fd : FuncData} {x : Str} {qual : Str} {params : Arguments} {body : List Stmt} {scope : Scope} {dvs : List V} {kws : List (Str × V)}
end
section
variable {X : Cx} {G : List Sl} {a : Expr} {pos : Pos}
end
end DL

set_option Elab.async false
set_option linter.all false
set_option maxRecDepth 100000
set_option maxHeartbeats 4000000
namespace DL
open PySem PySem.Spec L2
def stepL {α : Type} (k : Int) (l : List α) : List α := (sliceRange 0 (l.length : Nat) k).filterMap (l[·]?)
theorem RpL.pick {K : PySem.W.Frag} {F : Hp} {xs : List V} {ds : List D} (r : RpL K F xs ds) : ∀ is : List Nat, RpL K F (is.filterMap (xs[·]?)) (is.filterMap (ds[·]?))
  | [] => .nil
  | i :: is => by
    have ih := RpL.pick r is
    cases h : xs[i]? with
    | none =>
      have h2 : ds[i]? = none := by
        rw [List.getElem?_eq_none_iff] at h ⊢
        rw [← r.length]
        exact h
      rw [List.filterMap_cons_none h, List.filterMap_cons_none h2]
      exact ih
    | some x =>
      obtain ⟨u, h2, ru⟩ := r.getV h
      rw [List.filterMap_cons_some h, List.filterMap_cons_some h2]
      exact .cons ru ih
section
variable {X : Cx} {E : St → XK} {G : List Sl} {e st : Expr} {te ts : TE} {ma mb : M D} {p3 pos : Pos}
@[simp] abbrev mStepL (ma mb : M D) : M (List D) := ma >>= fun x => mb >>= fun y => match x, y with
  | .lst l, .int k => need (decide (0 < k)) >>= fun _ => .ok (stepL k l)
  | _, _ => stuck
end
end DL

set_option Elab.async false
set_option linter.all false
set_option maxRecDepth 100000
set_option maxHeartbeats 4000000
namespace DL
open PySem PySem.Spec L2
section
variable {X : Cx} {E : XK} {G : List Sl} {e : Expr} {pos : Pos}
end
end DL

set_option Elab.async false
set_option linter.all false
set_option maxRecDepth 100000
set_option maxHeartbeats 4000000
namespace DL
open PySem PySem.Spec L2
section
variable {X : Cx} {E : St → XK} {G : List Sl} {a b : Expr} {ma mb : M D} {pos : Pos}
end
end DL

set_option Elab.async false
set_option linter.all false
set_option maxRecDepth 100000
set_option maxHeartbeats 4000000
namespace DL
open PySem PySem.Spec L2
section
variable {X : Cx} {E : St → XK} {G : List Sl} {pos : Pos} {body : List Stmt}
end
end DL

set_option Elab.async false
set_option linter.all false
set_option maxRecDepth 100000
set_option maxHeartbeats 4000000
namespace DL
open PySem PySem.Spec L2
section
variable {P : Program} {w : World} {K : PySem.W.Frag} {mg : Str → Option Value} {base : Heap} {x qual : Str} {params : Arguments} {body : List Stmt} {scope : Scope} {dvs : List V} {kws : List (Str × V)} {f : Addr} {fd : FuncData}
end
section
variable {X : Cx} {E : St → XK} {G : List Sl} {a b : Expr} {ml : M (List D)} {mb : M D} {pos : Pos}
@[simp] abbrev mCallC (m : List D → M D) (ml : M (List D)) (mb : M D) : M D := ml >>= fun l => mb >>= fun d => m [.lst l, d]
end
end DL

set_option Elab.async false
set_option linter.all false
set_option maxRecDepth 100000
set_option maxHeartbeats 4000000
namespace DL
open PySem PySem.Spec PyProof.Rows L2
open PySem.Builtin PySem.Builtin.Str
def cuts1 (x y : Str) : List Nat := occurrences x y 0 x.length 1
def rep1 (x y z : Str) : Str := if ((cuts1 x y).isEmpty || (y.length == 0 && z.length == 0)) = true then x else glued z (partsBetween x (cuts1 x y) y.length)
theorem gives_rep1 (x y z : Str) (t u v w : Tok)
    (hf : ((cuts1 x y).isEmpty || (y.length == 0 && z.length == 0)) = false →
      (u == 0 || v == 0) = false ∧ (u == v) = false ∧ (y == z) = false ∧ tooLong (x.length + (cuts1 x y).length * z.length) = false) :
    Gives («str.replace» ⟨[.str x t, .str y u, .str z v, .int 1 w], []⟩) (if ((cuts1 x y).isEmpty || (y.length == 0 && z.length == 0)) = true then .val (.str x t) else .str (glued z (partsBetween x (cuts1 x y) y.length))) := by
  show Gives (if ((cuts1 x y).isEmpty || (y.length == 0 && z.length == 0)) = true then (do rule "str.replace.nothing"; ret (.str x t)) else
          (do let same ← isSame (.str y u) (.str z v)
              if same = true then (do rule "str.replace.old-is-new"; ret (.str x t)) else
              if tooLong (x.length + (cuts1 x y).length * z.length) = true then unsupported "str.replace:memory" else
              retStr (glued z (partsBetween x (cuts1 x y) y.length)))) _
  cases hc : ((cuts1 x y).isEmpty || (y.length == 0 && z.length == 0))
  · obtain ⟨h0, huv, hyz, hl⟩ := hf hc
    rw [isSame_str_other y z u v h0 huv hyz, hl]
    exact .of_eq rfl
  · exact .rule (.of_eq rfl)
theorem cuts1_le (x y : Str) : (cuts1 x y).length ≤ 1 := StrLaws.occ_length_le x y 0 x.length 1
theorem fits_rep1 {x z : Str} (y : Str) (hb : x.length + z.length ≤ 16777216) : (glued z (partsBetween x (cuts1 x y) y.length)).length ≤ sizeLine := by
  have h1 := cuts1_le x y
  have hy : (glued y (partsBetween x (cuts1 x y) y.length)).length = x.length := by
    unfold cuts1
    rw [StrLaws.glued_between_self]
  rw [size_glued, length_partsBetween, Nat.add_sub_cancel] at hy
  rw [size_glued, length_partsBetween, Nat.add_sub_cancel, sizeLine_eq]
  have h2 : (cuts1 x y).length * z.length ≤ 1 * z.length := Nat.mul_le_mul_right _ h1
  omega
theorem wp_rep1 {prog : Program} {w : World} {A : Around} {E : Value → Shared → Prop} {s : Shared} {x y z : Str} {t u v k : Tok} {Q : Value → Shared → Prop} (hu : u ≠ 0) (hv : v ≠ 0) (huv : u ≠ v) (hyz : (y == z) = false) (hb : x.length + z.length ≤ 16777216)
    (hq : ∀ t' k, Q (.str (rep1 x y z) t') { s with toks := k }) : wpAny (model prog w) A (call (.builtin "str.replace") [.str x t, .str y u, .str z v, .int 1 k]) Q E s := by
  have e : (2 : Nat) ^ 24 = 16777216 := by decide
  have hl : tooLong (x.length + (cuts1 x y).length * z.length) = false := by
    have h1 := cuts1_le x y
    have h2 : (cuts1 x y).length * z.length ≤ 1 * z.length := Nat.mul_le_mul_right _ h1
    unfold tooLong sizeLine
    exact decide_eq_false (by omega)
  refine PySem.call_gives F.slot_str_replace (typeIs_str _ _ _) F.entry_str_replace (F.args_str_replace_4 _ _ _ _)
    (gives_rep1 x y z t u v k fun _ => ⟨by simp [hu, hv], by simp [huv], hyz, hl⟩) ?_
  have hq' := hq
  unfold rep1 at hq'
  cases hc : ((cuts1 x y).isEmpty || (y.length == 0 && z.length == 0))
  · rw [hc] at hq'
    simp only [Bool.false_eq_true, if_false] at hq' ⊢
    exact ⟨fits_rep1 y hb, hq' _ _⟩
  · rw [hc] at hq'
    simp only [if_true] at hq' ⊢
    exact hq' t s.toks
theorem strOk_rep1 {x y z : Str} (hx : PyData.strOk x = true) (hz : PyData.strOk z = true) : PyData.strOk (rep1 x y z) = true := by
  unfold rep1
  split
  · exact hx
  · rw [StrLaws.glued_eq_join, ← TL.join_eq]
    refine strOk_join hz fun p hp => ?_
    rw [strOk_tl]
    intro c hc
    have e := StrLaws.glued_between_self x y 1
    rw [StrLaws.glued_eq_join] at e
    refine strOk_tl.mp hx c ?_
    have e2 : TL.tl x = TL.tl (Str.join y (partsBetween x (occurrences x y 0 x.length 1) y.length)) := by rw [e]
    rw [e2, TL.tl_join]
    exact mem_joinL (List.mem_map_of_mem hp) hc
def tRep1 (to : TE) (y z : Str) : TE := fun σ H Q => to σ H fun v H1 => ∃ x, v = .str x ∧ x.length + z.length ≤ 16777216 ∧ Q (.str (rep1 x y z)) H1
section
variable {X : Cx} {o : Expr} {to : TE} {y z : Str} {j k l : Nat} {c0 c1 c2 apos pos : Pos}
theorem pet_rep1 (ho : PE X o to) (hyz : (y == z) = false := by decide)
    (hfew : ((backTo pos (starEach [.Constant (.str y) j c0, .Constant (.str z) k c1, .Constant (.int 1) l c2] X.env)).all (fun x => !x.1) && (backToKw pos (keywordEach [] X.env)).all (fun x => x.1.isSome)
      && decide (([.Constant (.str y) j c0, .Constant (.str z) k c1, .Constant (.int 1) l c2] : List Expr).length + ([] : List Keyword).length + (if ([] : List Keyword).isEmpty then 0 else 1) < 30)) = true := by rfl)
    (hst : backTo pos (starEach [.Constant (.str y) j c0, .Constant (.str z) k c1, .Constant (.int 1) l c2] X.env) = [(false, eval (.Constant (.str y) j c0) X.env), (false, eval (.Constant (.str z) k c1) X.env), (false, eval (.Constant (.int 1) l c2) X.env)] := by rfl)
    (hbase : attributeBase o "replace" X.env (eval o X.env) = eval o X.env := by rfl) (hline : (apos.endLine == pos.line) = true := by rfl) :
    PET X (.Call (.Attribute o "replace" apos) [.Constant (.str y) j c0, .Constant (.str z) k c1, .Constant (.int 1) l c2] [] pos) (tRep1 to y z) := by
  intro pins s σ H Q h0 I h
  refine PySem.wpAny_Call_method_lateS hbase hfew hline ?_
  rw [hst]
  refine wpAny_mono (PySem.wpAny_toks (ho.run pins s σ H _ I h)) (fun v s1 q => ?_) fun _ _ z => z.2
  obtain ⟨hk, v', H1, I1, r1, x, e1, hb, q⟩ := q
  subst e1
  obtain ⟨tx, e2⟩ := r1
  subst e2
  refine ⟨"str", _, PySem.F.plainAttrs_str, PySem.F.slot_str_replace, PySem.F.type_str_replace, typeIs_str _ _ _, (fun _ e => nomatch e), Calls.callWith_builtin rfl (Calls.evalArgs_plain (Calls.spliced_cons ?_))⟩
  refine Calls.Constant_str (Calls.spliced_cons (Calls.Constant_str (Calls.spliced_cons (wpAny_Constant_int (Calls.spliced_nil ?_)))))
  exact wp_rep1 (by show s1.toks ≠ 0; omega) (by show s1.toks + 1 ≠ 0; omega) (by show s1.toks ≠ s1.toks + 1; omega) hyz hb fun t' k => ⟨.str (rep1 x y z), H1, I1.tok k, ⟨t', rfl⟩, q⟩
end
end DL
namespace DL
open PySem PySem.Spec L2
def PS1 (X : Cx) (st : Stmt) (t : TS) : Prop :=
  ∀ (pins : List (Addr × Obj)) (s : Shared) (σ : St) (H : Hp) (D : Ends), Inv X pins σ H s → t D σ H → wpAny (model X.prog X.w) X.A (exec st X.env) (fun f s' => 1 ≤ s'.toks ∧ SP X pins D f s') X.xe s
def PE1 (X : Cx) (e : Expr) (t : TE) : Prop :=
  ∀ (pins : List (Addr × Obj)) (s : Shared) (σ : St) (H : Hp) (Q : VK), Inv X pins σ H s → t σ H Q → wpAny (model X.prog X.w) X.A (eval e X.env) (fun v s' => 1 ≤ s'.toks ∧ EP X pins σ Q v s') X.xe s
section
variable {X : Cx} {st : Stmt} {rest : List Stmt} {t u : TS}
theorem pss1_cons (h1 : PS1 X st t) (h2 : PSsT X rest u) : PSs X (st :: rest) (tSeq t u) := by
  refine ⟨fun pins s σ H D I h => ?_⟩
  refine wpAny_execs_cons (wpAny_mono (h1 pins s σ H { D with nx := u D } I h) (fun f s1 q => ?_) fun _ _ x => x)
  obtain ⟨hk, q⟩ := q
  cases f with
  | next =>
    obtain ⟨σ', H', I', q⟩ := q
    exact h2 pins s1 σ' H' D hk I' q
  | ret v => exact q
  | brk => exact q
  | cont => exact q
theorem ps1_set {i : Nat} {x : Str} {e : Expr} {te : TE} {pos pos' : Pos} (hN : X.N.Nodup) (hi : X.N[i]? = some x) (hx : Loc X.env.scope x) (he : PE1 X e te) (hs : swapsWith e (some (.Name x pos')) pos.line X.env = pure false := by rfl) (hf : X.fn x = true ∨ X.env.scope.names.lookup x = some .local := by first | exact .inl rfl | exact .inr rfl | assumption) :
    PS1 X (.Assign [.Name x pos'] e pos) (tAsg te (gName i)) := by
  intro pins s σ H D I h
  refine wpAny_Assign_Name (wpAny_mono (he pins s σ H _ I h) (fun v s1 q => ?_) fun _ _ z => z) hs
  obtain ⟨hk, y, H1, I1, r1, q1⟩ := q
  exact wpAny_mono (PySem.wpAny_toks_of hk (store_ok I1 hN hi hx r1 (fun s2 I2 => ⟨_, H1, I2, q1⟩) hf)) (fun _ _ z => z) fun _ _ z => z.2
theorem pe1_m1 {o : Expr} {to : TE} {name : Str} {apos cpos c0 : Pos} {T id : String} {y : Str} {j : Nat} {r : V → List V → Hp → VK → Prop} (pa : PlainAttrs T) (slot : Slot T name id) (hty : typeOf (.builtin id) = pure (.type "method_descriptor")) (hm : MtR X id r) (ho : PE X o to)
    (hbase : attributeBase o name X.env (eval o X.env) = eval o X.env := by rfl)
    (hfew : ((backTo cpos (starEach [.Constant (.str y) j c0] X.env)).all (fun x => !x.1) && (backToKw cpos (keywordEach [] X.env)).all (fun x => x.1.isSome)
      && decide (([.Constant (.str y) j c0] : List Expr).length + ([] : List Keyword).length + (if ([] : List Keyword).isEmpty then 0 else 1) < 30)) = true := by rfl)
    (hline : (apos.endLine == cpos.line) = true := by rfl) (hst : backTo cpos (starEach [.Constant (.str y) j c0] X.env) = [(false, eval (.Constant (.str y) j c0) X.env)] := by rfl) :
    PE1 X (.Call (.Attribute o name apos) [.Constant (.str y) j c0] [] cpos) (tBM X.K T r to (fun _ H Q => Q [.str y] H)) := by
  intro pins s σ H Q I h
  refine wpAny_Call_method_late hbase hfew hline hst (thn (ho.run pins s σ H _ I h) fun v s1 ⟨x, H1, I1, r1, ty, q1⟩ => ?_)
  obtain ⟨h1, h2⟩ := tyV_is I1 r1 ty
  refine ⟨T, id, pa, slot, hty, h1, h2, ?_⟩
  refine Calls.callWith_builtin rfl (Calls.evalArgs_plain (Calls.spliced_cons (Calls.Constant_str (Calls.spliced_nil ?_))))
  exact wpAny_mono (PySem.wpAny_toks_of (n := 1) (by show 1 ≤ s1.toks + 1; omega) (hm pins { s1 with toks := s1.toks + 1 } σ H1 x [.str y] v [.str y s1.toks] Q (I1.tok _) r1 (.cons ⟨_, rfl⟩ .nil) q1)) (fun _ _ z => z) fun _ _ z => z.2
end
section
variable {X : Cx} {E : XK} {G : List Sl} {a b c e : Expr} {ma mb mc : M D} {pos : Pos} {st : Stmt} {rest body : List Stmt}
def DBk (X : Cx) (E : XK) (G : List Sl) (body : List Stmt) {α : Type} (m : M α) (post : α → Oc) : Prop :=
  ∃ t, PSsT X body t ∧ ∀ B0 B σ F H D, Ext B0 B F H → GOk X.K B G σ F H → WpB X.K E B0 B post m F D → t D σ H
def DSk (X : Cx) (E : XK) (G : List Sl) (st : Stmt) {α : Type} (m : M α) (post : α → Oc) : Prop :=
  ∃ t, PST X st t ∧ ∀ B0 B σ F H D, Ext B0 B F H → GOk X.K B G σ F H → WpB X.K E B0 B post m F D → t D σ H
def DS1 (X : Cx) (E : XK) (G : List Sl) (st : Stmt) {α : Type} (m : M α) (post : α → Oc) : Prop :=
  ∃ t, PS1 X st t ∧ ∀ B0 B σ F H D, Ext B0 B F H → GOk X.K B G σ F H → WpB X.K E B0 B post m F D → t D σ H
theorem DBk.of {α : Type} {m : M α} {post : α → Oc} (h : DB X E G body m post) : DBk X E G body m post := let ⟨t, p, w⟩ := h; ⟨t, PSsT.of p, w⟩
theorem DSk.of {α : Type} {m : M α} {post : α → Oc} (h : DS X E G st m post) : DSk X E G st m post := let ⟨t, p, w⟩ := h; ⟨t, PST.of p, w⟩
theorem dbk_cast {α : Type} {m m' : M α} {post : α → Oc} (h : DBk X E G body m post) (e : m = m') : DBk X E G body m' post := e ▸ h
theorem dbk_cons {α β : Type} {m1 : M β} {p1 : β → Oc} {k : β → M α} {post : α → Oc} (h1 : DSk X E G st m1 p1) (h2 : ∀ j G', p1 j = .nx G' → DBk X E G' rest (k j) post)
    (h3 : ∀ j, (∀ G', p1 j ≠ .nx G') → ∃ a, k j = .ok a ∧ post a = p1 j) : DBk X E G (st :: rest) (m1 >>= k) post := by
  obtain ⟨t1, ps, w1⟩ := h1
  have r2 : PSsT X rest (fun D σ H => ∃ j G' B0 B F, p1 j = .nx G' ∧ Ext B0 B F H ∧ GOk X.K B G' σ F H ∧ WpB X.K E B0 B post (k j) F D) :=
    fun pins s σ H D h0 I ⟨j, G', B0, B, F, e, x, g, q⟩ => by
      obtain ⟨t2, p2, w2⟩ := h2 j G' e
      exact p2 pins s σ H D h0 I (w2 B0 B σ F H D x g q)
  refine ⟨_, psst_cons ps r2, fun B0 B σ F H D x0 g q => w1 B0 B σ F H _ x0 g (q.bind fun j _ qj => ?_)⟩
  cases e : p1 j with
  | nx G' => exact fun σ' F' H' s' x' g' => ⟨j, G', B0, B, F', e, x', g', qj.mono s'⟩
  | ct G' =>
    obtain ⟨a, e1, e2⟩ := h3 j fun G' z => by rw [e] at z; cases z
    rw [e1] at qj
    have qj := qj.ok
    rw [e2, e] at qj
    exact qj
  | bk G' =>
    obtain ⟨a, e1, e2⟩ := h3 j fun G' z => by rw [e] at z; cases z
    rw [e1] at qj
    have qj := qj.ok
    rw [e2, e] at qj
    exact qj
  | rt d =>
    obtain ⟨a, e1, e2⟩ := h3 j fun G' z => by rw [e] at z; cases z
    rw [e1] at qj
    have qj := qj.ok
    rw [e2, e] at qj
    exact qj
  | rg R =>
    obtain ⟨a, e1, e2⟩ := h3 j fun G' z => by rw [e] at z; cases z
    rw [e1] at qj
    have qj := qj.ok
    rw [e2, e] at qj
    exact qj
theorem db1_cons {α β : Type} {m1 : M β} {p1 : β → Oc} {k : β → M α} {post : α → Oc} (h1 : DS1 X E G st m1 p1) (h2 : ∀ j G', p1 j = .nx G' → DBk X E G' rest (k j) post)
    (h3 : ∀ j, (∀ G', p1 j ≠ .nx G') → ∃ a, k j = .ok a ∧ post a = p1 j) : DB X E G (st :: rest) (m1 >>= k) post := by
  obtain ⟨t1, ps, w1⟩ := h1
  have r2 : PSsT X rest (fun D σ H => ∃ j G' B0 B F, p1 j = .nx G' ∧ Ext B0 B F H ∧ GOk X.K B G' σ F H ∧ WpB X.K E B0 B post (k j) F D) :=
    fun pins s σ H D h0 I ⟨j, G', B0, B, F, e, x, g, q⟩ => by
      obtain ⟨t2, p2, w2⟩ := h2 j G' e
      exact p2 pins s σ H D h0 I (w2 B0 B σ F H D x g q)
  refine ⟨_, pss1_cons ps r2, fun B0 B σ F H D x0 g q => w1 B0 B σ F H _ x0 g (q.bind fun j _ qj => ?_)⟩
  cases e : p1 j with
  | nx G' => exact fun σ' F' H' s' x' g' => ⟨j, G', B0, B, F', e, x', g', qj.mono s'⟩
  | ct G' =>
    obtain ⟨a, e1, e2⟩ := h3 j fun G' z => by rw [e] at z; cases z
    rw [e1] at qj
    have qj := qj.ok
    rw [e2, e] at qj
    exact qj
  | bk G' =>
    obtain ⟨a, e1, e2⟩ := h3 j fun G' z => by rw [e] at z; cases z
    rw [e1] at qj
    have qj := qj.ok
    rw [e2, e] at qj
    exact qj
  | rt d =>
    obtain ⟨a, e1, e2⟩ := h3 j fun G' z => by rw [e] at z; cases z
    rw [e1] at qj
    have qj := qj.ok
    rw [e2, e] at qj
    exact qj
  | rg R =>
    obtain ⟨a, e1, e2⟩ := h3 j fun G' z => by rw [e] at z; cases z
    rw [e1] at qj
    have qj := qj.ok
    rw [e2, e] at qj
    exact qj

theorem dbk_then {α β : Type} {m1 : M β} {G1 : β → List Sl} {k : β → M α} {post : α → Oc} (h1 : DSk X E G st m1 (fun j => .nx (G1 j))) (h2 : ∀ j, DBk X E (G1 j) rest (k j) post) : DBk X E G (st :: rest) (m1 >>= k) post :=
  dbk_cons h1 (fun j G' e => by
    injection e with e
    rw [← e]
    exact h2 j) (fun j h => absurd rfl (h _))
theorem dbk_step {α β : Type} {m1 : M β} {G1 : β → List Sl} (G2 : β → List Sl) {k : β → M α} {post : α → Oc} (h1 : DS X E G st m1 (fun j => .nx (G1 j))) (e : ∀ j, G1 j = G2 j) (h2 : ∀ j, DBk X E (G2 j) rest (k j) post) : DBk X E G (st :: rest) (m1 >>= k) post :=
  dbk_then (DSk.of h1) fun j => by
    rw [e j]
    exact h2 j
theorem db_step1 {α β : Type} {m1 : M β} {G1 : β → List Sl} (G2 : β → List Sl) {k : β → M α} {post : α → Oc} (h1 : DS1 X E G st m1 (fun j => .nx (G1 j))) (e : ∀ j, G1 j = G2 j) (h2 : ∀ j, DBk X E (G2 j) rest (k j) post) : DB X E G (st :: rest) (m1 >>= k) post :=
  db1_cons h1 (fun j G' e' => by
    injection e' with e'
    rw [← e', e j]
    exact h2 j) (fun j h => absurd rfl (h _))
theorem dbk_last {α : Type} {m : M α} {post : α → Oc} (h : DS X E G st m post) : DBk X E G [st] m post := DBk.of (db_last h)
theorem dsk_if {α : Type} {A B : List Stmt} {mc : M Bool} {mA mB : M α} {post : α → Oc} (hc : DT X (cE E) G c mc) (hA : DBk X E G A mA post) (hB : DBk X E G B mB post) : DSk X E G (.If c A B pos) (mc >>= fun b => if b = true then mA else mB) post := by
  obtain ⟨tc, pc, wc⟩ := hc
  obtain ⟨t1, p1, w1⟩ := hA
  obtain ⟨t2, p2, w2⟩ := hB
  refine ⟨_, CwR.pst_if pc p1 p2, fun B0 B σ F H D x0 g q => wc B σ F H _ x0.sFH g (WpB.expr (H := H) x0 q fun b F' H' v x x' r qd => ?_)⟩
  subst r
  cases v with
  | true => exact w1 B0 B σ F' H' D x' (g.ext x) qd
  | false => exact w2 B0 B σ F' H' D x' (g.ext x) qd
theorem dbk_ift {α β : Type} {A : List Stmt} {mc : M Bool} {mA : M β} {pA : β → Oc} {mR : M α} {post : α → Oc} (inj : β → α) (hc : DT X (cE E) G c mc) (hA : DBk X E G A mA pA) (hT : ∀ a G', pA a ≠ .nx G') (hp : ∀ a, post (inj a) = pA a) (hR : DBk X E G rest mR post) :
    DBk X E G (.If c A [] pos :: rest) (mc >>= fun b => if b = true then mA >>= fun a => .ok (inj a) else mR) post := by
  have h1 : DSk X E G (.If c A [] pos) (mc >>= fun b => if b = true then mA >>= fun a => .ok (some a) else .ok none) (fun (o : Option β) => match o with | some a => pA a | none => .nx G) := by
    refine dsk_if hc ?_ (DBk.of (db_nil rfl))
    obtain ⟨t, p, w⟩ := hA
    refine ⟨t, p, fun B0 B σ F H D x0 g q => w B0 B σ F H D x0 g (q.bind fun j _ qj => ?_)⟩
    exact qj.ok
  have h2 := dbk_cons (rest := rest) (k := fun (o : Option β) => match o with | some a => .ok (inj a) | none => mR) (post := post) h1 (fun j G' e => by
    cases j with
    | some a => exact absurd e (hT a G')
    | none =>
      cases e
      exact hR) (fun j h => by
    cases j with
    | some a => exact ⟨inj a, rfl, hp a⟩
    | none => exact absurd rfl (h G))
  refine dbk_cast h2 ?_
  cases mc with
  | error e => rfl
  | ok b => cases b with
    | true => cases mA <;> rfl
    | false => rfl
theorem dbk_ifr {A : List Stmt} {mc : M Bool} {mA mR : M D} (hc : DT X (cE E) G c mc) (hA : DBk X E G A mA .rt) (hR : DBk X E G rest mR .rt) : DBk X E G (.If c A [] pos :: rest) (mc >>= fun b => if b = true then mA else mR) .rt :=
  dbk_cast (dbk_ift id hc hA (fun a G' h => nomatch h) (fun _ => rfl) hR) (by
    cases mc with
    | error e => rfl
    | ok b => cases b with
      | true => cases mA <;> rfl
      | false => rfl)

def D.rep1 (y z : Str) : D → M D
  | .str x => need (decide (x.length + z.length ≤ 16777216)) >>= fun _ => .ok (.str (DL.rep1 x y z))
  | _ => stuck
theorem dbk_retRep1 {o : Expr} {mo : M D} {y z : Str} {j k l : Nat} {c0 c1 c2 apos cpos : Pos} (ho : DR X (cE E) G o mo) (hz : PyData.strOk z = true) (hyz : (y == z) = false := by decide)
    (hfew : ((backTo cpos (starEach [.Constant (.str y) j c0, .Constant (.str z) k c1, .Constant (.int 1) l c2] X.env)).all (fun x => !x.1) && (backToKw cpos (keywordEach [] X.env)).all (fun x => x.1.isSome)
      && decide (([.Constant (.str y) j c0, .Constant (.str z) k c1, .Constant (.int 1) l c2] : List Expr).length + ([] : List Keyword).length + (if ([] : List Keyword).isEmpty then 0 else 1) < 30)) = true := by rfl)
    (hst : backTo cpos (starEach [.Constant (.str y) j c0, .Constant (.str z) k c1, .Constant (.int 1) l c2] X.env) = [(false, eval (.Constant (.str y) j c0) X.env), (false, eval (.Constant (.str z) k c1) X.env), (false, eval (.Constant (.int 1) l c2) X.env)] := by rfl)
    (hbase : attributeBase o "replace" X.env (eval o X.env) = eval o X.env := by rfl) (hline : (apos.endLine == cpos.line) = true := by rfl) :
    DBk X E G [.Return (some (.Call (.Attribute o "replace" apos) [.Constant (.str y) j c0, .Constant (.str z) k c1, .Constant (.int 1) l c2] [] cpos)) pos] (mo >>= fun x => D.rep1 y z x) .rt := by
  obtain ⟨t, pe, w⟩ := ho
  refine ⟨_, CwR.psst_one (CwR.pst_ret (pet_rep1 pe hyz hfew hst hbase hline)), fun B0 B σ F H Dn x0 g q => w B σ F H _ x0.sFH g (WpB.expr (H := H) x0 q fun d F1 H1 v x1 x1' r1 q1 => ?_)⟩
  cases d with
  | str x =>
    have q1 : WpB X.K E B0 B .rt (need (decide (x.length + z.length ≤ 16777216)) >>= fun _ => .ok (.str (rep1 x y z))) F1 Dn := q1
    cases hc : decide (x.length + z.length ≤ 16777216) with
    | false =>
      rw [hc] at q1
      exact q1.elim
    | true =>
      rw [hc] at q1
      have q2 : OcP X.K B0 B F1 Dn (.rt (.str (rep1 x y z))) := q1.ok
      exact ⟨x, r1.str.1, of_decide_eq_true hc, q2 _ F1 H1 (Same.refl _) x1' (.str _ (strOk_rep1 r1.str.2 hz))⟩
  | _ => exact q1.elim
theorem ds1_split {x : Str} {i : Nat} {o : Expr} {mo : M D} {y : Str} {j : Nat} {c0 apos cpos pos' : Pos} (hN : X.N.Nodup) (hi : X.N[i]? = some x) (hx : Loc X.env.scope x) (ho : DR X (cE E) G o mo) (hy : PyData.strOk y = true)
    (hbase : attributeBase o "split" X.env (eval o X.env) = eval o X.env := by rfl)
    (hfew : ((backTo cpos (starEach [.Constant (.str y) j c0] X.env)).all (fun x => !x.1) && (backToKw cpos (keywordEach [] X.env)).all (fun x => x.1.isSome)
      && decide (([.Constant (.str y) j c0] : List Expr).length + ([] : List Keyword).length + (if ([] : List Keyword).isEmpty then 0 else 1) < 30)) = true := by rfl)
    (hline : (apos.endLine == cpos.line) = true := by rfl) (hst : backTo cpos (starEach [.Constant (.str y) j c0] X.env) = [(false, eval (.Constant (.str y) j c0) X.env)] := by rfl)
    (hs : swapsWith (.Call (.Attribute o "split" apos) [.Constant (.str y) j c0] [] cpos) (some (.Name x pos')) pos.line X.env = pure false := by rfl) (hf : X.fn x = true ∨ X.env.scope.names.lookup x = some .local := by first | exact .inl rfl | exact .inr rfl | assumption) :
    DS1 X E G (.Assign [.Name x pos'] (.Call (.Attribute o "split" apos) [.Constant (.str y) j c0] [] cpos) pos) (meth D.isStr mo (.ok [.str y]) (m1 D.split)) (fun d => .nx (G.set i (.val d))) := by
  obtain ⟨t, pe, w⟩ := ho
  refine ⟨_, ps1_set hN hi hx (pe1_m1 PySem.F.plainAttrs_str PySem.F.slot_str_split PySem.F.type_str_split mt_split pe hbase hfew hline hst) hs hf, fun B0 B σ F H Dn x0 g q => w B σ F H _ x0.sFH g (WpB.expr (H := H) x0 q fun d F1 H1 v x1 x1' r1 q1 => ?_)⟩
  cases d with
  | str z =>
    have q1 : WpB X.K E B0 B (fun d => .nx (G.set i (.val d))) (need (!(y.length == 0) && decide (z.length + 2 ≤ sizeLine)) >>= fun _ => .ok (.lst ((Txt.split z y).map D.str))) F1 Dn := q1
    cases hc : (!(y.length == 0) && decide (z.length + 2 ≤ sizeLine)) with
    | false =>
      rw [hc] at q1
      exact q1.elim
    | true =>
      rw [hc] at q1
      obtain ⟨c1, c2⟩ := and2 hc
      have q2 : OcP X.K B0 B F1 Dn (.nx (G.set i (.val (.lst ((Txt.split z y).map D.str))))) := q1.ok
      refine ⟨by rw [r1.str.1]; rfl, z, y, r1.str.1, rfl, by simpa using c1, of_decide_eq_true c2, fun p hp => ?_⟩
      have y1 := Ext.new x1'.sFH hp (o := .lst ((Txt.split z y).map V.str))
      exact q2 _ _ _ y1.sF (x1'.trans y1) (((g.ext x1).ext y1).set (.lst upd_same ((strs_new (strOk_split r1.str.2)).mono y1.sF)))
  | _ => exact q1.elim
end
section
variable {X : Cx} {E : St → XK} {G : List Sl} {a : Expr} {ma : M D} {pos : Pos}
def D.upper : D → M D
  | .str x => need (x.cps.toList.all (· < 128) && decide (x.length ≤ 5592405)) >>= fun _ => .ok (.str ⟨x.cps.map PyProof.Rows.up1⟩)
  | _ => stuck
theorem up1_lt {c : Nat} (h : c < 128) : PyProof.Rows.up1 c < 128 := by
  unfold PyProof.Rows.up1
  split <;> omega
theorem de_upper {apos : Pos} (ha : DR X E G a ma) (hbase : attributeBase a "upper" X.env (eval a X.env) = eval a X.env := by rfl) (hline : (apos.endLine == pos.line) = true := by rfl) : DE X E G (.Call (.Attribute a "upper" apos) [] [] pos) (ma >>= fun x => D.upper x) :=
  de_m0 PySem.F.plainAttrs_str PySem.F.slot_str_upper PySem.F.type_str_upper
    (mt0 (C := fun a => a.length ≤ 5592405) (g := fun a => .str (Txt.upper a)) fun _ _ _ _ hc h => PySem.SC.upper (PyProof.Rows.short24 (by rename_i z _ _ _; have := PyProof.Rows.len_upper z; omega)) (h _ _ ⟨_, rfl⟩))
    (fun E F H v d Q s r q => by
      cases d with
      | str x =>
        have q : WpG X.K E (rE X.K) (need (x.cps.toList.all (· < 128) && decide (x.length ≤ 5592405)) >>= fun _ => .ok (.str ⟨x.cps.map PyProof.Rows.up1⟩)) F H Q := q
        obtain ⟨c, q⟩ := WpG.need q
        obtain ⟨c1, c2⟩ := and2 c
        have c1 : ∀ z ∈ x.cps.toList, z < 128 := fun z hz => of_decide_eq_true (List.all_eq_true.mp c1 z hz)
        have e := PyProof.Rows.upper_ascii (x := x) c1
        refine ⟨by rw [r.str.1]; rfl, x, r.str.1, rfl, of_decide_eq_true c2, ?_⟩
        show Q (.str (Txt.upper x)) H
        rw [e]
        refine q F H _ (Ext.refl s) (.str _ (strOk_tl.mpr fun z hz => ?_))
        have hz : z ∈ (x.cps.map PyProof.Rows.up1).toList := hz
        rw [Array.toList_map] at hz
        obtain ⟨y, hy, rfl⟩ := List.mem_map.mp hz
        have := up1_lt (c1 y hy)
        omega
      | _ => exact q.elim) ha hbase hline
end
end DL

set_option Elab.async false
set_option linter.all false
set_option maxRecDepth 100000
set_option maxHeartbeats 4000000
namespace LawWalk
open PySem PySem.Spec L2 DL
def top (i : Nat) : Stmt := PySem.Challenge.pw_waypapers_k68_texts_that_are_no_papers.main.body.getD i (.Pass ⟨0, 0, 0, 0⟩)
def d_law_row : He.DefD := ⟨("_law_row", none), "_law_row", "_law_row", defArgs (top 48), defBody (top 48), defScope (top 48), [], []⟩
def d_law_numbers : He.DefD := ⟨("_law_numbers", none), "_law_numbers", "_law_numbers", defArgs (top 49), defBody (top 49), defScope (top 49), [], []⟩
def d_law_lines : He.DefD := ⟨("_law_lines", none), "_law_lines", "_law_lines", defArgs (top 51), defBody (top 51), defScope (top 51), [], []⟩
def d_require : He.DefD := ⟨("require", none), "require", "require", defArgs (top 23), defBody (top 23), defScope (top 23), [], []⟩
def d_name_of : He.DefD := ⟨("name_of", none), "name_of", "name_of", defArgs (top 22), defBody (top 22), defScope (top 22), [], []⟩
def d_are_different : He.DefD := ⟨("are_different", none), "are_different", "are_different", defArgs (top 20), defBody (top 20), defScope (top 20), [], []⟩
def d_Map_road_names : He.DefD := ⟨("Map", some "road_names"), "road_names", "Map.road_names", defArgs (inClass (top 24) 3), defBody (inClass (top 24) 3), defScope (inClass (top 24) 3), [], []⟩
def d_is_name : He.DefD := ⟨("is_name", none), "is_name", "is_name", defArgs (top 19), defBody (top 19), defScope (top 19), [], []⟩
def d_are_hours : He.DefD := ⟨("are_hours", none), "are_hours", "are_hours", defArgs (top 21), defBody (top 21), defScope (top 21), [], []⟩
def d_Map_checked : He.DefD := ⟨("Map", some "checked"), "checked", "Map.checked", defArgs (inClass (top 24) 1), defBody (inClass (top 24) 1), defScope (inClass (top 24) 1), [], []⟩
def d_Map_road : He.DefD := ⟨("Map", some "road"), "road", "Map.road", defArgs (inClass (top 24) 4), defBody (inClass (top 24) 4), defScope (inClass (top 24) 4), [], []⟩
def d_Map_checked_bar : He.DefD := ⟨("Map", some "checked_bar"), "checked_bar", "Map.checked_bar", defArgs (inClass (top 24) 2), defBody (inClass (top 24) 2), defScope (inClass (top 24) 2), [], []⟩
def d_Map_init : He.DefD := ⟨("Map", some "__init__"), "__init__", "Map.__init__", defArgs (inClass (top 24) 0), defBody (inClass (top 24) 0), defScope (inClass (top 24) 0), [], [("places", .adr (kwdAt ("Map", some "__init__") "places")), ("roads", .adr (kwdAt ("Map", some "__init__") "roads")), ("bars", .adr (kwdAt ("Map", some "__init__") "bars"))]⟩
def d_check_kind : He.DefD := ⟨("check_kind", none), "check_kind", "check_kind", defArgs (top 26), defBody (top 26), defScope (top 26), [], []⟩
def d_Map_check_place : He.DefD := ⟨("Map", some "check_place"), "check_place", "Map.check_place", defArgs (inClass (top 24) 5), defBody (inClass (top 24) 5), defScope (inClass (top 24) 5), [], []⟩
def d_check_trip : He.DefD := ⟨("check_trip", none), "check_trip", "check_trip", defArgs (top 27), defBody (top 27), defScope (top 27), [], []⟩
def d_least_labels : He.DefD := ⟨("least_labels", none), "least_labels", "least_labels", defArgs (top 36), defBody (top 36), defScope (top 36), [], []⟩
def d_Map_roads_from : He.DefD := ⟨("Map", some "roads_from"), "roads_from", "Map.roads_from", defArgs (inClass (top 24) 6), defBody (inClass (top 24) 6), defScope (inClass (top 24) 6), [], []⟩
def d_Map_followers : He.DefD := ⟨("Map", some "followers"), "followers", "Map.followers", defArgs (inClass (top 24) 10), defBody (inClass (top 24) 10), defScope (inClass (top 24) 10), [], []⟩
def d_enter : He.DefD := ⟨("enter", none), "enter", "enter", defArgs (top 28), defBody (top 28), defScope (top 28), [], []⟩
def d_arrive : He.DefD := ⟨("arrive", none), "arrive", "arrive", defArgs (top 29), defBody (top 29), defScope (top 29), [], []⟩
def d_Map_check_kind : He.DefD := ⟨("Map", some "check_kind"), "check_kind", "Map.check_kind", defArgs (inClass (top 24) 11), defBody (inClass (top 24) 11), defScope (inClass (top 24) 11), [], []⟩
def d_Map_may_use : He.DefD := ⟨("Map", some "may_use"), "may_use", "Map.may_use", defArgs (inClass (top 24) 12), defBody (inClass (top 24) 12), defScope (inClass (top 24) 12), [], []⟩
def d_arrival_over : He.DefD := ⟨("arrival_over", none), "arrival_over", "arrival_over", defArgs (top 35), defBody (top 35), defScope (top 35), [], []⟩
def d_is_low : He.DefD := ⟨("is_low", none), "is_low", "is_low", defArgs (top 37), defBody (top 37), defScope (top 37), [], []⟩
def d_are_low : He.DefD := ⟨("are_low", none), "are_low", "are_low", defArgs (top 38), defBody (top 38), defScope (top 38), [], []⟩
def d_Map_is_barred : He.DefD := ⟨("Map", some "is_barred"), "is_barred", "Map.is_barred", defArgs (inClass (top 24) 8), defBody (inClass (top 24) 8), defScope (inClass (top 24) 8), [], []⟩
def d_is_drivable : He.DefD := ⟨("is_drivable", none), "is_drivable", "is_drivable", defArgs (top 30), defBody (top 30), defScope (top 30), [], []⟩
def d_run : He.DefD := ⟨("run", none), "run", "run", defArgs (top 31), defBody (top 31), defScope (top 31), [], []⟩
def d_end_of : He.DefD := ⟨("end_of", none), "end_of", "end_of", defArgs (top 32), defBody (top 32), defScope (top 32), [], []⟩
def d_route_arrives : He.DefD := ⟨("route_arrives", none), "route_arrives", "route_arrives", defArgs (top 39), defBody (top 39), defScope (top 39), [], []⟩
def d_Map_roads_to : He.DefD := ⟨("Map", some "roads_to"), "roads_to", "Map.roads_to", defArgs (inClass (top 24) 7), defBody (inClass (top 24) 7), defScope (inClass (top 24) 7), [], []⟩
def d_check_paper : He.DefD := ⟨("check_paper", none), "check_paper", "check_paper", defArgs (top 40), defBody (top 40), defScope (top 40), [], []⟩
def d_Paper_init : He.DefD := ⟨("Paper", some "__init__"), "__init__", "Paper.__init__", defArgs (inClass (top 34) 0), defBody (inClass (top 34) 0), defScope (inClass (top 34) 0), [], []⟩
def d_read_number : He.DefD := ⟨("read_number", none), "read_number", "read_number", defArgs (top 44), defBody (top 44), defScope (top 44), [], []⟩
def d_parse_paper : He.DefD := ⟨("parse_paper", none), "parse_paper", "parse_paper", defArgs (top 45), defBody (top 45), defScope (top 45), [], []⟩
def d_check_text : He.DefD := ⟨("check_text", none), "check_text", "check_text", defArgs (top 46), defBody (top 46), defScope (top 46), [], []⟩
def d_law_told : He.DefD := ⟨("_law_told", none), "_law_told", "_law_told", defArgs (top 50), defBody (top 50), defScope (top 50), [], []⟩
def d_law_broken : He.DefD := ⟨("_law_broken", none), "_law_broken", "_law_broken", defArgs (top 52), defBody (top 52), defScope (top 52), [], []⟩
def d_law : He.DefD := ⟨("law", none), "law", "law", defArgs (top 53), defBody (top 53), defScope (top 53), [], []⟩
def fn : List He.DefD := [d_law_row, d_law_numbers, d_law_lines, d_require, d_name_of, d_are_different, d_is_name, d_are_hours, d_Map_checked, d_Map_road, d_Map_checked_bar, d_Map_init, d_check_kind, d_Map_check_place, d_check_trip, d_least_labels, d_Map_roads_from, d_Map_followers, d_enter, d_arrive, d_Map_check_kind, d_Map_may_use, d_arrival_over, d_is_low, d_are_low, d_Map_is_barred, d_is_drivable, d_run, d_end_of, d_route_arrives, d_Map_roads_to, d_check_paper, d_Paper_init, d_read_number, d_parse_paper, d_check_text, d_law_told, d_law_broken, d_law]
def gt : List He.DefD := [d_Map_road_names]
def fa : List He.Fa := [.free "abs", .free "int", .free "range", .free "len", .free "max", .glo "_law_row", .free "str", .glo "InvalidMap", .exc "InvalidMap", .free "enumerate", .cls "Paper", .noat "Paper" "roads", .cls "Map", .noat "Map" "roads", .free "tuple", .int "MOST_NAME_CHARS" (12), .str "NAME_CHARS" "abcdefghijklmnopqrstuvwxyz0123456789", .free "all", .int "MOST_HOURS" (4), .int "ROAD_PARTS" (6), .glo "require", .int "MOST_MINUTES" (1000), .noat "Map" "places", .glo "is_name", .noat "Map" "kinds", .glo "are_different", .noat "Map" "day", .glo "are_hours", .glo "UnknownName", .meth "Map" "road", .int "MOST_DAY" (1440), .int "MOST_PLACES" (30), .int "MOST_KINDS" (4), .free "sorted", .int "MOST_ROADS" (60), .meth "Map" "checked", .glo "name_of", .int "MOST_BARS" (40), .meth "Map" "checked_bar", .noat "Map" "bars", .glo "check_kind", .meth "Map" "check_place", .free "min", .meth "Map" "roads_from", .glo "enter", .meth "Map" "check_kind", .meth "Map" "may_use", .glo "arrive", .glo "arrival_over", .glo "is_low", .meth "Map" "followers", .meth "Map" "is_barred", .glo "check_trip", .glo "is_drivable", .glo "InvalidRoute", .glo "run", .noat "Paper" "arrival", .glo "end_of", .free "list", .noat "Paper" "lows", .glo "least_labels", .meth "Map" "roads_to", .glo "are_low", .glo "route_arrives", .str "DIGITS" "0123456789", .int "MOST_DIGITS" (9), .glo "InvalidPaper", .glo "read_number", .mkr "Paper", .glo "Paper", .glo "parse_paper", .glo "check_paper", .mkr "Map", .glo "Map", .glo "check_text", .glo "InvalidNotation", .free "isinstance", .free "ValueError", .glo "WaypapersError", .glo "_law_numbers", .glo "_law_lines", .glo "_law_told", .glo "_law_broken", .glo "law"]
theorem fa_0 : fa[0]? = some (.free "abs") := rfl
theorem fa_1 : fa[1]? = some (.free "int") := rfl
theorem fa_2 : fa[2]? = some (.free "range") := rfl
theorem fa_3 : fa[3]? = some (.free "len") := rfl
theorem fa_4 : fa[4]? = some (.free "max") := rfl
theorem fa_5 : fa[5]? = some (.glo "_law_row") := rfl
theorem fa_6 : fa[6]? = some (.free "str") := rfl
theorem fa_7 : fa[7]? = some (.glo "InvalidMap") := rfl
theorem fa_8 : fa[8]? = some (.exc "InvalidMap") := rfl
theorem fa_9 : fa[9]? = some (.free "enumerate") := rfl
theorem fa_10 : fa[10]? = some (.cls "Paper") := rfl
theorem fa_11 : fa[11]? = some (.noat "Paper" "roads") := rfl
theorem fa_12 : fa[12]? = some (.cls "Map") := rfl
theorem fa_13 : fa[13]? = some (.noat "Map" "roads") := rfl
theorem fa_14 : fa[14]? = some (.free "tuple") := rfl
theorem fa_15 : fa[15]? = some (.int "MOST_NAME_CHARS" (12)) := rfl
theorem fa_16 : fa[16]? = some (.str "NAME_CHARS" "abcdefghijklmnopqrstuvwxyz0123456789") := rfl
theorem fa_17 : fa[17]? = some (.free "all") := rfl
theorem fa_18 : fa[18]? = some (.int "MOST_HOURS" (4)) := rfl
theorem fa_19 : fa[19]? = some (.int "ROAD_PARTS" (6)) := rfl
theorem fa_20 : fa[20]? = some (.glo "require") := rfl
theorem fa_21 : fa[21]? = some (.int "MOST_MINUTES" (1000)) := rfl
theorem fa_22 : fa[22]? = some (.noat "Map" "places") := rfl
theorem fa_23 : fa[23]? = some (.glo "is_name") := rfl
theorem fa_24 : fa[24]? = some (.noat "Map" "kinds") := rfl
theorem fa_25 : fa[25]? = some (.glo "are_different") := rfl
theorem fa_26 : fa[26]? = some (.noat "Map" "day") := rfl
theorem fa_27 : fa[27]? = some (.glo "are_hours") := rfl
theorem fa_28 : fa[28]? = some (.glo "UnknownName") := rfl
theorem fa_29 : fa[29]? = some (.meth "Map" "road") := rfl
theorem fa_30 : fa[30]? = some (.int "MOST_DAY" (1440)) := rfl
theorem fa_31 : fa[31]? = some (.int "MOST_PLACES" (30)) := rfl
theorem fa_32 : fa[32]? = some (.int "MOST_KINDS" (4)) := rfl
theorem fa_33 : fa[33]? = some (.free "sorted") := rfl
theorem fa_34 : fa[34]? = some (.int "MOST_ROADS" (60)) := rfl
theorem fa_35 : fa[35]? = some (.meth "Map" "checked") := rfl
theorem fa_36 : fa[36]? = some (.glo "name_of") := rfl
theorem fa_37 : fa[37]? = some (.int "MOST_BARS" (40)) := rfl
theorem fa_38 : fa[38]? = some (.meth "Map" "checked_bar") := rfl
theorem fa_39 : fa[39]? = some (.noat "Map" "bars") := rfl
theorem fa_40 : fa[40]? = some (.glo "check_kind") := rfl
theorem fa_41 : fa[41]? = some (.meth "Map" "check_place") := rfl
theorem fa_42 : fa[42]? = some (.free "min") := rfl
theorem fa_43 : fa[43]? = some (.meth "Map" "roads_from") := rfl
theorem fa_44 : fa[44]? = some (.glo "enter") := rfl
theorem fa_45 : fa[45]? = some (.meth "Map" "check_kind") := rfl
theorem fa_46 : fa[46]? = some (.meth "Map" "may_use") := rfl
theorem fa_47 : fa[47]? = some (.glo "arrive") := rfl
theorem fa_48 : fa[48]? = some (.glo "arrival_over") := rfl
theorem fa_49 : fa[49]? = some (.glo "is_low") := rfl
theorem fa_50 : fa[50]? = some (.meth "Map" "followers") := rfl
theorem fa_51 : fa[51]? = some (.meth "Map" "is_barred") := rfl
theorem fa_52 : fa[52]? = some (.glo "check_trip") := rfl
theorem fa_53 : fa[53]? = some (.glo "is_drivable") := rfl
theorem fa_54 : fa[54]? = some (.glo "InvalidRoute") := rfl
theorem fa_55 : fa[55]? = some (.glo "run") := rfl
theorem fa_56 : fa[56]? = some (.noat "Paper" "arrival") := rfl
theorem fa_57 : fa[57]? = some (.glo "end_of") := rfl
theorem fa_58 : fa[58]? = some (.free "list") := rfl
theorem fa_59 : fa[59]? = some (.noat "Paper" "lows") := rfl
theorem fa_60 : fa[60]? = some (.glo "least_labels") := rfl
theorem fa_61 : fa[61]? = some (.meth "Map" "roads_to") := rfl
theorem fa_62 : fa[62]? = some (.glo "are_low") := rfl
theorem fa_63 : fa[63]? = some (.glo "route_arrives") := rfl
theorem fa_64 : fa[64]? = some (.str "DIGITS" "0123456789") := rfl
theorem fa_65 : fa[65]? = some (.int "MOST_DIGITS" (9)) := rfl
theorem fa_66 : fa[66]? = some (.glo "InvalidPaper") := rfl
theorem fa_67 : fa[67]? = some (.glo "read_number") := rfl
theorem fa_68 : fa[68]? = some (.mkr "Paper") := rfl
theorem fa_69 : fa[69]? = some (.glo "Paper") := rfl
theorem fa_70 : fa[70]? = some (.glo "parse_paper") := rfl
theorem fa_71 : fa[71]? = some (.glo "check_paper") := rfl
theorem fa_72 : fa[72]? = some (.mkr "Map") := rfl
theorem fa_73 : fa[73]? = some (.glo "Map") := rfl
theorem fa_74 : fa[74]? = some (.glo "check_text") := rfl
theorem fa_75 : fa[75]? = some (.glo "InvalidNotation") := rfl
theorem fa_76 : fa[76]? = some (.free "isinstance") := rfl
theorem fa_77 : fa[77]? = some (.free "ValueError") := rfl
theorem fa_78 : fa[78]? = some (.glo "WaypapersError") := rfl
theorem fa_79 : fa[79]? = some (.glo "_law_numbers") := rfl
theorem fa_80 : fa[80]? = some (.glo "_law_lines") := rfl
theorem fa_81 : fa[81]? = some (.glo "_law_told") := rfl
theorem fa_82 : fa[82]? = some (.glo "_law_broken") := rfl
theorem fa_83 : fa[83]? = some (.glo "law") := rfl
def insC : List Str := []
def propC : List (Str × Str) := [("Map", "road_names")]
def tup0C : List ((Str × Option Str) × Str) := [(("Map", some "__init__"), "bars"), (("Map", some "__init__"), "roads")]
def exU : List String := ["InvalidMap", "UnknownName", "InvalidRoute", "InvalidPaper"]
def exF : List String := ["line", "name"]
def exP : List (Option String × List String) := [(some "InvalidRoute", ["InvalidRoute"]), (some "UnknownName", ["UnknownName"]), (some "InvalidPaper", ["InvalidPaper"]), (some "InvalidNotation", []), (none, ["InvalidMap", "UnknownName", "InvalidRoute", "InvalidPaper"]), (some "WaypapersError", ["InvalidMap", "UnknownName", "InvalidRoute", "InvalidPaper"])]
def dx_UnknownName : He.DefD := ⟨("UnknownName", some "__init__"), "__init__", "UnknownName.__init__", defArgs (inClass (top 4) 0), defBody (inClass (top 4) 0), defScope (inClass (top 4) 0), [], []⟩
def dx_InvalidRoute : He.DefD := ⟨("InvalidRoute", some "__init__"), "__init__", "InvalidRoute.__init__", defArgs (inClass (top 5) 0), defBody (inClass (top 5) 0), defScope (inClass (top 5) 0), [], []⟩
def dx_InvalidPaper : He.DefD := ⟨("InvalidPaper", some "__init__"), "__init__", "InvalidPaper.__init__", defArgs (inClass (top 7) 0), defBody (inClass (top 7) 0), defScope (inClass (top 7) 0), [], []⟩
def sx : List SupE := [⟨"UnknownName", "name", dx_UnknownName⟩, ⟨"InvalidRoute", "number", dx_InvalidRoute⟩, ⟨"InvalidPaper", "line", dx_InvalidPaper⟩]
def f0 : Str := (PySem.Challenge.rw_waypapers_k68_texts_that_are_no_papers).prog.main.file
def exW (K : PySem.W.Frag) : Bool := insC.all (fun x => insB K (He.ga K x)) && (propC.all (fun p => propB K p.1 p.2) && (tup0C.all (fun p => tup0B K (kwdAt p.1 p.2 K)) && (exU.all (fun c => xcB K exF c) && exP.all (fun p => xpB K exU p.1 p.2))))
abbrev DefOk (K : PySem.W.Frag) (d : He.DefD) (fd : FuncData) : Prop := FunD K d.name d.qual d.params d.body d.scope (d.dvs K) (d.kws K) (He.fAd K d.at_) fd
structure Lw (P : Program) (K : PySem.W.Frag) (mg : Str → Option Value) : Prop where
  h : ∃ hp : Heap, K.In hp ∧ hp.Ns mainGlobals mg
  s : SaysX fa fn gt sx f0 exW K
  pf : PFx P f0
theorem Lw.c {P : Program} {K : PySem.W.Frag} {mg : Str → Option Value} (L : Lw P K mg) : He.SaysD fa fn K := L.s.d
section
variable {P : Program} {K : PySem.W.Frag} {mg : Str → Option Value} (L : Lw P K mg) {i : Nat}
include L
theorem Lw.glo {x : Str} (e : fa[i]? = some (.glo x)) : mg x = some (.ref (He.ga K x)) := let ⟨_, X, G⟩ := L.h; He.glo_ok X G (L.c.fact i e)
theorem Lw.free {x : Str} (e : fa[i]? = some (.free x)) : mg x = none := let ⟨_, X, G⟩ := L.h; He.free_ok X G (L.c.fact i e)
theorem Lw.int {x : Str} {v : Int} (e : fa[i]? = some (.int x v)) : ∃ t, mg x = some (.int v t) := let ⟨_, X, G⟩ := L.h; He.int_ok X G (L.c.fact i e)
theorem Lw.str {x z : Str} (e : fa[i]? = some (.str x z)) : ∃ t, mg x = some (.str z t) := let ⟨_, X, G⟩ := L.h; He.str_ok X G (L.c.fact i e)
theorem Lw.cls {x : Str} (e : fa[i]? = some (.cls x)) : Cls K (He.ga K x) := He.cls_ok (L.c.fact i e)
theorem Lw.noat {x f : Str} (e : fa[i]? = some (.noat x f)) : NoAttr K (He.ga K x) f := He.noat_ok (L.c.fact i e)
theorem Lw.mkr {x : Str} (e : fa[i]? = some (.mkr x)) : Mk K (He.ga K x) (He.ma K (He.ga K x) "__init__") := He.mkr_ok (L.c.fact i e)
theorem Lw.exc {x : Str} (e : fa[i]? = some (.exc x)) : PySem.W.excIn K (He.ga K x) He.veBase "ValueError.__new__" = true ∧ PySem.W.keepIn K (.ref (He.ga K x)) = true ∧ PySem.W.subIn K (.ref (He.ga K x)) (.type "BaseException") = some true ∧ PySem.W.typeIn K (.ref (He.ga K x)) = some (.type "type") := He.exc_ok (L.c.fact i e)
theorem Lw.prop {c f : Str} (h : (c, f) ∈ propC) : PropOf K (He.ga K c) f (He.fAd K (c, some f)) (gAd K (c, some f)) := propB_ok (List.all_eq_true.mp (and2 (and2 L.s.more).2).1 (c, f) h)
theorem Lw.tup0 {p : Str × Option Str} {x : Str} (h : (p, x) ∈ tup0C) (F : Hp) : Rp K F (.ref (kwdAt p x K)) (.tup []) := tup0_ok (List.all_eq_true.mp (and2 (and2 (and2 L.s.more).2).2).1 (p, x) h) F
theorem Lw.xc {c : String} (h : c ∈ exU) : XC K exF c := xcB_ok (List.all_eq_true.mp (and2 (and2 (and2 (and2 L.s.more).2).2).2).1 c h)
theorem Lw.xp {t : Option String} {cs : List String} (h : (t, cs) ∈ exP) : XP K exU t cs := xpB_ok (List.all_eq_true.mp (and2 (and2 (and2 (and2 L.s.more).2).2).2).2 (t, cs) h)
theorem Lw.meth {x m : Str} (e : fa[i]? = some (.meth x m)) : Meth K (He.ga K x) m (He.ma K (He.ga K x) m) := He.meth_ok (L.c.fact i e)
theorem Lw.ats {cs : List String} {f : String} (h : AllC K f cs) : ∀ c ∈ cs, Cls K (He.ga K (Str.ofString c)) ∧ NoAttr K (He.ga K (Str.ofString c)) (Str.ofString f) := h.all
end
theorem sup_UnknownName {P : Program} {K : PySem.W.Frag} {mg : Str → Option Value} (L : Lw P K mg) : SupC P K (He.ga K (Str.ofString "UnknownName")) (He.ma K (He.ga K (Str.ofString "UnknownName")) "__init__") (Str.ofString "name") := by
  obtain ⟨h1, h2⟩ := L.s.sup 0 (s := ⟨"UnknownName", "name", dx_UnknownName⟩) rfl
  exact supC_of (self := "self") (d := dx_UnknownName) L.pf h1 h2 ⟨rfl, rfl, rfl, rfl, rfl, rfl, rfl, by decide, by decide, by decide, by decide⟩ rfl (fun _ _ _ _ _ _ _ _ _ => rfl) rfl rfl (fun _ => rfl) (fun _ => rfl)
theorem sup_InvalidRoute {P : Program} {K : PySem.W.Frag} {mg : Str → Option Value} (L : Lw P K mg) : SupC P K (He.ga K (Str.ofString "InvalidRoute")) (He.ma K (He.ga K (Str.ofString "InvalidRoute")) "__init__") (Str.ofString "number") := by
  obtain ⟨h1, h2⟩ := L.s.sup 1 (s := ⟨"InvalidRoute", "number", dx_InvalidRoute⟩) rfl
  exact supC_of (self := "self") (d := dx_InvalidRoute) L.pf h1 h2 ⟨rfl, rfl, rfl, rfl, rfl, rfl, rfl, by decide, by decide, by decide, by decide⟩ rfl (fun _ _ _ _ _ _ _ _ _ => rfl) rfl rfl (fun _ => rfl) (fun _ => rfl)
theorem sup_InvalidPaper {P : Program} {K : PySem.W.Frag} {mg : Str → Option Value} (L : Lw P K mg) : SupC P K (He.ga K (Str.ofString "InvalidPaper")) (He.ma K (He.ga K (Str.ofString "InvalidPaper")) "__init__") (Str.ofString "line") := by
  obtain ⟨h1, h2⟩ := L.s.sup 2 (s := ⟨"InvalidPaper", "line", dx_InvalidPaper⟩) rfl
  exact supC_of (self := "self") (d := dx_InvalidPaper) L.pf h1 h2 ⟨rfl, rfl, rfl, rfl, rfl, rfl, rfl, by decide, by decide, by decide, by decide⟩ rfl (fun _ _ _ _ _ _ _ _ _ => rfl) rfl rfl (fun _ => rfl) (fun _ => rfl)
end LawWalk

set_option Elab.async false
set_option linter.all false
set_option maxRecDepth 100000
set_option maxHeartbeats 0
namespace LawHead
open PySem PySem.Spec PyProof.Rows L2
abbrev R : PySem.W.OpenRow := PySem.W.OpenLaw.row PySem.Challenge.rw_waypapers_k68_texts_that_are_no_papers
abbrev hk : PySem.W.Hook := DL.hookX 5 LawWalk.fa LawWalk.fn LawWalk.gt LawWalk.sx LawWalk.f0 LawWalk.exW
def ob (s : PySem.W.SharedT) : DL.AlX := DL.seenX LawWalk.fa LawWalk.fn LawWalk.gt LawWalk.sx LawWalk.f0 LawWalk.exW (He.frG (HandSHeadRun.getT s) (DL.asX (HandSHeadRun.getT s) 5))
theorem ob_eq (s : PySem.W.SharedT) : ob s = hk.obs s.abs := DL.obsX_eq (HandSHeadRun.getT_eq s)
def loose : List PySem.Str := (["_wall", "WaypapersError", "InvalidMap", "UnknownName", "InvalidRoute", "InvalidNotation", "InvalidPaper", "NAME_CHARS", "MOST_NAME_CHARS", "MOST_DAY", "MOST_PLACES", "MOST_KINDS"] : List PySem.Str) ++ (["MOST_ROADS", "MOST_BARS", "MOST_MINUTES", "MOST_HOURS", "ROAD_PARTS", "is_name", "are_different", "are_hours", "name_of", "require", "Map", "check_kind"] : List PySem.Str) ++ (["check_trip", "enter", "arrive", "is_drivable", "run", "end_of", "Paper", "arrival_over", "least_labels", "is_low", "are_low", "route_arrives"] : List PySem.Str) ++ (["check_paper", "DIGITS", "MOST_DIGITS", "read_number", "parse_paper", "check_text", "_law_row", "_law_numbers", "_law_told", "_law_lines", "_law_broken"] : List PySem.Str)
theorem run (w : World) : HandSHeadRun.RunEq R (PySem.W.view R.prog [53]) hk ob 20000 loose w := by
  intro os
  kernel_rfl
end LawHead

set_option Elab.async false
set_option linter.all false
set_option maxRecDepth 100000
set_option maxHeartbeats 4000000
namespace DL
open PySem L2
section
variable {α β : Type}
@[simp] theorem okb (a : α) (f : α → M β) : ((.ok a : M α) >>= f) = f a := rfl
@[simp] theorem erb (e : Er) (f : α → M β) : ((.error e : M α) >>= f) = .error e := rfl
@[simp] theorem need_t : need true = .ok () := rfl
@[simp] theorem need_f : need false = stuck := rfl

variable {i j : Int} {l m : List D} {x y : Str} {a b : Bool}
@[simp] theorem f1_1 (f : D → M D) (x : D) : f1 f [x] = f x := rfl
@[simp] theorem f2_2 (f : D → D → M D) (x y : D) : f2 f [x, y] = f x y := rfl
@[simp] theorem add_ii : D.add (.int i) (.int j) = .ok (.int (i + j)) := rfl
@[simp] theorem sub_ii : D.sub (.int i) (.int j) = .ok (.int (i - j)) := rfl
@[simp] theorem mul_ii : D.mul (.int i) (.int j) = (need (decide ((-(2 ^ 64) < i ∧ i < 2 ^ 64) ∨ (-(2 ^ 64) < j ∧ j < 2 ^ 64))) >>= fun _ => .ok (.int (i * j))) := rfl
@[simp] theorem mod_ii : D.mod (.int i) (.int j) = (need (decide (0 < j)) >>= fun _ => .ok (.int (i % j))) := rfl
@[simp] theorem fdiv_ii : D.fdiv (.int i) (.int j) = (need (decide (0 < j ∧ j < 1073741824)) >>= fun _ => .ok (.int (i / j))) := rfl
@[simp] theorem pow_ii : D.pow (.int i) (.int j) = (need (decide (0 ≤ j ∧ j ≤ 1000000 ∧ i.natAbs < 2 ^ 64)) >>= fun _ => .ok (.int (i ^ j.toNat))) := rfl
@[simp] theorem neg_i : D.neg (.int i) = .ok (.int (-i)) := rfl
@[simp] theorem toInt_i : D.toInt (.int i) = .ok (.int i) := rfl
@[simp] theorem abs_i : D.abs (.int i) = .ok (.int (if i < 0 then -i else i)) := rfl
@[simp] theorem lt_ii : D.lt (.int i) (.int j) = .ok (decide (i < j)) := rfl
@[simp] theorem le_ii : D.le (.int i) (.int j) = .ok (decide (i ≤ j)) := rfl
@[simp] theorem gt_ii : D.gt (.int i) (.int j) = .ok (decide (j < i)) := rfl
@[simp] theorem ge_ii : D.ge (.int i) (.int j) = .ok (decide (j ≤ i)) := rfl
@[simp] theorem max_ii : D.max2 (.int i) (.int j) = .ok (.int (if j > i then j else i)) := rfl
@[simp] theorem min_ii : D.min2 (.int i) (.int j) = .ok (.int (if j < i then j else i)) := rfl
@[simp] theorem len_l : D.len (.lst l) = .ok (.int l.length) := rfl
@[simp] theorem len_t : D.len (.tup l) = .ok (.int l.length) := rfl
@[simp] theorem len_scr {l : List Int} : D.len (.scr l) = .ok (.int l.length) := rfl
@[simp] theorem len_s : D.len (.str x) = (need (decide (x.length ≤ sizeLine)) >>= fun _ => .ok (.int x.length)) := rfl
@[simp] theorem tru_b : D.tru (.bl a) = .ok a := rfl
@[simp] theorem tru_i : D.tru (.int i) = .ok (i != 0) := rfl
@[simp] theorem tru_l : D.tru (.lst l) = .ok (!l.isEmpty) := rfl
@[simp] theorem tru_t : D.tru (.tup l) = .ok (!l.isEmpty) := rfl
@[simp] theorem items_l : D.items (.lst l) = .ok l := rfl
@[simp] theorem items_t : D.items (.tup l) = .ok l := rfl
@[simp] theorem items_s : D.items (.str x) = .ok (x.cps.toList.map fun c => D.str ⟨#[c]⟩) := rfl
@[simp] theorem bnd_i : D.bnd (.int i) = .ok (some i) := rfl
@[simp] theorem isN_n {d : D} : D.isN d .non = .ok d.isNon := rfl
@[simp] theorem notN_n {d : D} : D.notN d .non = .ok (!d.isNon) := rfl
@[simp] theorem isNon_n : D.isNon .non = true := rfl
@[simp] theorem isNon_l : D.isNon (.lst l) = false := rfl
@[simp] theorem isNon_t : D.isNon (.tup l) = false := rfl
@[simp] theorem isNon_i : D.isNon (.int i) = false := rfl
@[simp] theorem isNon_s : D.isNon (.str x) = false := rfl
@[simp] theorem bD_ok : bD (.ok a) = .ok (.bl a) := rfl
@[simp] theorem mkLst_l : D.mkLst l = (need (decide (l.length ≤ sizeLine)) >>= fun _ => .ok (.lst l)) := rfl
@[simp] theorem mkTup_l : D.mkTup l = (need (decide (l.length ≤ sizeLine)) >>= fun _ => .ok (.tup l)) := rfl
@[simp] theorem toTup_l : D.toTup (.lst l) = .ok (.tup l) := rfl
@[simp] theorem toTup_t : D.toTup (.tup l) = .ok (.tup l) := rfl
@[simp] theorem toList_l : D.toList (.lst l) = .ok (.lst l) := rfl
@[simp] theorem toList_t : D.toList (.tup l) = .ok (.lst l) := rfl
@[simp] theorem nList_l : nList (.ok [.lst l]) = .ok l := rfl
@[simp] theorem nList_t : nList (.ok [.tup l]) = .ok l := rfl
@[simp] theorem sl_l {lo hi : Option Int} : D.sl (.lst l) lo hi = .ok (.lst (cutL l lo hi)) := rfl
@[simp] theorem sl_t {lo hi : Option Int} : D.sl (.tup l) lo hi = .ok (.tup (cutL l lo hi)) := rfl
@[simp] theorem sl_scr {l : List Int} {lo hi : Option Int} : D.sl (.scr l) lo hi = .ok (.lst ((cutL l lo hi).map D.int)) := rfl
@[simp] theorem sl_s {lo hi : Option Int} : D.sl (.str x) lo hi = (need (decide (x.length ≤ sizeLine)) >>= fun _ => .ok (.str (cutS x lo hi))) := rfl
@[simp] theorem add_ss : D.add (.str x) (.str y) = (need (decide (x.length + y.length ≤ sizeLine)) >>= fun _ => .ok (.str (x ++ y))) := rfl
@[simp] theorem add_ll : D.add (.lst l) (.lst m) = (need (decide (l.length + m.length ≤ sizeLine)) >>= fun _ => .ok (.lst (l ++ m))) := rfl
@[simp] theorem add_tt : D.add (.tup l) (.tup m) = (need (decide (l.length + m.length ≤ sizeLine)) >>= fun _ => .ok (.tup (l ++ m))) := rfl
@[simp] theorem range1_i : D.range1 [.int j] = (need (smallI j) >>= fun _ => .ok (rangeL 0 j.toNat)) := rfl
@[simp] theorem range2_i : D.range2 [.int i, .int j] = (need (smallI i && smallI j) >>= fun _ => .ok (rangeL i (j - i).toNat)) := rfl
theorem ix_nat {n : Nat} {d : D} (h : l[n]? = some d) (e : i = (n : Int)) : D.ix (.lst l) (.int i) = .ok d := by
  subst e
  show (match atI l (n : Int) with | some d => (.ok d : M D) | none => stuck) = _
  have : atI l (n : Int) = some d := by
    have hl := (List.getElem?_eq_some_iff.mp h).1
    have e : ixN l.length (n : Int) = some n := by
      unfold ixN
      simp
      omega
    show (ixN l.length (n : Int)).bind (fun j => l[j]?) = some d
    rw [e]
    exact h
  rw [this]
theorem ix_natT {n : Nat} {d : D} (h : l[n]? = some d) (e : i = (n : Int)) : D.ix (.tup l) (.int i) = .ok d := ix_nat (l := l) h e
end
section
variable {α : Type}
theorem cut_take (xs : List α) {i : Int} (h : 0 ≤ i) : cutL xs none (some i) = xs.take i.toNat := by
  have e1 : HT.sIx xs.length 0 none = 0 := rfl
  have e2 : HT.sIx xs.length xs.length (some i) = min i.toNat xs.length := by
    unfold HT.sIx
    simp
    omega
  unfold cutL
  rw [e1, e2, List.drop_zero, Nat.sub_zero]
  apply List.ext_getElem?
  intro k
  rw [List.getElem?_take, List.getElem?_take]
  by_cases h1 : k < xs.length
  · by_cases h2 : k < i.toNat
    · rw [if_pos (by omega), if_pos h2]
    · rw [if_neg (by omega), if_neg h2]
  · rw [List.getElem?_eq_none (by omega)]
    simp
theorem cut_drop (xs : List α) {i : Int} (h : 0 ≤ i) : cutL xs (some i) none = xs.drop i.toNat := by
  have e1 : HT.sIx xs.length xs.length none = xs.length := rfl
  have e2 : HT.sIx xs.length 0 (some i) = min i.toNat xs.length := by
    unfold HT.sIx
    simp
    omega
  unfold cutL
  rw [e1, e2]
  by_cases h1 : i.toNat ≤ xs.length
  · rw [Nat.min_eq_left h1, List.take_of_length_le (by rw [List.length_drop]; omega)]
  · rw [Nat.min_eq_right (by omega), List.drop_eq_nil_of_le (Nat.le_refl _), List.drop_eq_nil_of_le (by omega), List.take_nil]
end
section
variable {S : Type}
theorem loopF_nil {f : S → D → M S} {s : S} : loopF f [] s = .ok s := rfl
theorem loopF_cons {f : S → D → M S} {s : S} {d : D} {ds : List D} : loopF f (d :: ds) s = (f s d >>= fun s => loopF f ds s) := rfl
theorem loopF_inv {f : S → D → M S} (I : Nat → S → Prop) : ∀ (ds : List D) (k : Nat) (s0 : S), I k s0 → (∀ i d s, ds[i]? = some d → I (k + i) s → ∃ s', f s d = .ok s' ∧ I (k + i + 1) s') → ∃ s', loopF f ds s0 = .ok s' ∧ I (k + ds.length) s'
  | [], k, s0, h, _ => ⟨s0, rfl, h⟩
  | d :: ds, k, s0, h, st => by
    obtain ⟨s1, e1, h1⟩ := st 0 d s0 rfl h
    obtain ⟨s', e2, h2⟩ := loopF_inv I ds (k + 1) s1 h1 (fun i d' s hd hi => by
      have hi' : I (k + (i + 1)) s := by
        have e : k + (i + 1) = k + 1 + i := by omega
        rw [e]
        exact hi
      obtain ⟨s', e, h'⟩ := st (i + 1) d' s (by simpa using hd) hi'
      refine ⟨s', e, ?_⟩
      have e : k + 1 + i + 1 = k + (i + 1) + 1 := by omega
      rw [e]
      exact h')
    refine ⟨s', ?_, ?_⟩
    · rw [loopF_cons, e1]
      exact e2
    · have e : k + (d :: ds).length = k + 1 + ds.length := by simp; omega
      rw [e]
      exact h2
theorem rangeL_len (lo : Int) (n : Nat) : (rangeL lo n).length = n := by simp [rangeL]
theorem rangeL_get {lo : Int} {n i : Nat} {d : D} (h : (rangeL lo n)[i]? = some d) : d = .int (lo + (i : Int)) ∧ i < n := by
  unfold rangeL at h
  rw [List.getElem?_map] at h
  by_cases hi : i < n
  · rw [List.getElem?_range hi] at h
    cases h
    exact ⟨rfl, hi⟩
  · rw [List.getElem?_eq_none (by simpa using hi)] at h
    cases h
theorem small_of {i : Int} (h1 : -4611686018427387904 ≤ i) (h2 : i < 4611686018427387904) : smallI i = true := by
  unfold smallI
  exact decide_eq_true ⟨h1, h2⟩
theorem whileF_inv {c : S → M Bool} {f : S → M S} (I : S → Prop) (μ : S → Nat) (hc : ∀ s, I s → ∃ b, c s = .ok b ∧ (b = true → ∃ s', f s = .ok s' ∧ I s' ∧ μ s' < μ s)) : ∀ (n : Nat) (s : S), I s → μ s < n → ∃ s', whileF c f n s = .ok s' ∧ I s' ∧ c s' = .ok false
  | 0, s, h, hm => absurd hm (Nat.not_lt_zero _)
  | n + 1, s, h, hm => by
    obtain ⟨b, e, hb⟩ := hc s h
    cases b with
    | false =>
      refine ⟨s, ?_, h, e⟩
      show (c s >>= fun b => if b = true then f s >>= fun s => whileF c f n s else .ok s) = _
      rw [e]
      rfl
    | true =>
      obtain ⟨s', e2, h2, h3⟩ := hb rfl
      obtain ⟨s'', e4, h4, h5⟩ := whileF_inv I μ hc n s' h2 (by omega)
      refine ⟨s'', ?_, h4, h5⟩
      show (c s >>= fun b => if b = true then f s >>= fun s => whileF c f n s else .ok s) = _
      rw [e]
      show (f s >>= fun s => whileF c f n s) = _
      rw [e2]
      exact e4
end
end DL

set_option Elab.async false
set_option linter.all false
set_option maxRecDepth 100000
set_option maxHeartbeats 4000000
namespace DL
open PySem L2
theorem need_p {p : Prop} [Decidable p] (h : p) : need (decide p) = .ok () := by
  rw [decide_eq_true h]
  rfl
theorem mod_ok {i j : Int} (h : 0 < j) : D.mod (.int i) (.int j) = .ok (.int (i % j)) := by
  rw [mod_ii, need_p h]
  rfl
abbrev tl (x : Str) : List Nat := TL.tl x
def mk (l : List Nat) : Str := ⟨l.toArray⟩
@[simp] theorem tl_mk (l : List Nat) : tl (mk l) = l := rfl
@[simp] theorem mk_tl (x : Str) : mk (tl x) = x := TL.mk_tl x
theorem len_mk (l : List Nat) : (mk l).length = l.length := TL.len_tl _
@[simp] theorem mk_inj {l m : List Nat} : mk l = mk m ↔ l = m := ⟨fun h => congrArg tl h, fun h => h ▸ rfl⟩
theorem tl_cut (z : Str) (lo hi : Option Int) : tl (cutS z lo hi) = cutL (tl z) lo hi := by
  unfold cutS cutL
  rw [TL.len_tl z]
theorem cutS_mk (l : List Nat) (lo hi : Option Int) : cutS (mk l) lo hi = mk (cutL l lo hi) := TL.ext_tl (tl_cut _ _ _)
theorem mem_char' (c : Nat) (z : Str) : D.mem (.str (mk [c])) (.str z) = .ok (decide (c ∈ tl z)) := rfl
theorem items_mk (l : List Nat) : D.items (.str (mk l)) = .ok (l.map fun c => D.str (mk [c])) := rfl
theorem ix_str {x : Str} {n : Nat} {c : Nat} {i : Int} (hl : x.length ≤ 16777216) (h : (tl x)[n]? = some c) (e : i = (n : Int)) : D.ix (.str x) (.int i) = .ok (.str (mk [c])) := by
  subst e
  have hn := (List.getElem?_eq_some_iff.mp h).1
  have e : atI x.cps.toList (n : Int) = some c := by
    have e : ixN (tl x).length (n : Int) = some n := by
      unfold ixN
      simp
      omega
    show (ixN (tl x).length (n : Int)).bind (fun j => (tl x)[j]?) = some c
    rw [e]
    exact h
  show (need (decide (x.length ≤ sizeLine)) >>= fun _ => match atI x.cps.toList (n : Int) with | some c => (.ok (.str ⟨#[c]⟩) : M D) | none => stuck) = _
  rw [PySem.sizeLine_eq, decide_eq_true hl, e]
  rfl
section
variable {α : Type}
theorem compL_mapA {f : D → M D} {k : α → D} {g : α → D} {l : List α} (hl : l.length ≤ 16777216) (h : ∀ a ∈ l, f (k a) = .ok (g a)) : compL (fElt noT f) (l.map k) = .ok (l.map g) := by
  unfold compL
  rw [PySem.sizeLine_eq, List.length_map, decide_eq_true hl]
  show comp _ _ = _
  clear hl
  induction l with
  | nil => rfl
  | cons a l ih =>
    have h1 := h a (List.mem_cons_self ..)
    have h2 := ih fun x hx => h x (List.mem_cons_of_mem _ hx)
    rw [List.map_cons]
    unfold comp
    have e : fElt noT f (k a) = .ok (some (g a)) := by
      unfold fElt
      simp [h1]
    rw [e]
    show (comp (fElt noT f) (l.map k) >>= fun ys => .ok (g a :: ys)) = _
    rw [h2]
    rfl
theorem bools_map {p : α → Bool} : ∀ l : List α, D.bools (l.map fun a => D.bl (p a)) = some (l.map p)
  | [] => rfl
  | a :: l => by
    show (D.bools (l.map fun a => D.bl (p a))).map (p a :: ·) = _
    rw [bools_map l]
    rfl
theorem all_map {p : α → Bool} (l : List α) : D.all (.lst (l.map fun a => D.bl (p a))) = .ok (.bl (l.all p)) := by
  show (match D.bools (l.map fun a => D.bl (p a)) with | some bs => (.ok (.bl (bs.all id)) : M D) | none => stuck) = _
  rw [bools_map]
  simp
theorem strs_map : ∀ l : List Str, D.strs (l.map D.str) = some l
  | [] => rfl
  | a :: l => by
    show (D.strs (l.map D.str)).map (a :: ·) = _
    rw [strs_map l]
    rfl
end
@[simp] theorem isStr_s {x : Str} : D.isStr (.str x) = true := rfl
@[simp] theorem meth_s {x : Str} {l : List D} {f : D → List D → M D} : meth D.isStr (.ok (.str x)) (.ok l) f = f (.str x) l := rfl
@[simp] theorem m1_1 {x y : D} {f : D → D → M D} : m1 f x [y] = f x y := rfl
theorem join_ok {y : Str} {l : List Str} (h : (l.map (·.length)).sum + l.length * y.length ≤ 16777216) : D.join (.str y) (.lst (l.map D.str)) = .ok (.str (Str.join y l)) := by
  unfold D.join
  simp only [strs_map]
  show (need (decide ((l.map (·.length)).sum + l.length * y.length ≤ 16777216)) >>= fun _ => (.ok (.str (Txt.join y l)) : M D)) = _
  rw [decide_eq_true h, TL.join_eq]
  rfl
theorem split_ok {x y : Str} (hy : y.length ≠ 0) (h : x.length + 2 ≤ 16777216) : D.split (.str x) (.str y) = .ok (.lst ((Txt.split x y).map D.str)) := by
  show (need (!(y.length == 0) && decide (x.length + 2 ≤ sizeLine)) >>= fun _ => (.ok (.lst ((Txt.split x y).map D.str)) : M D)) = _
  have e : (!(y.length == 0) && decide (x.length + 2 ≤ sizeLine)) = true := by
    rw [PySem.sizeLine_eq, decide_eq_true h]
    simp [hy]
  rw [e]
  rfl
theorem joinL_len (S : List Nat) : ∀ l : List (List Nat), (TL.joinL S l).length ≤ (l.map fun p : List Nat => p.length).sum + l.length * S.length
  | [] => by simp [TL.joinL]
  | [p] => by simp [TL.joinL]
  | p :: q :: r => by
    have := joinL_len S (q :: r)
    have e : TL.joinL S (p :: q :: r) = p ++ (S ++ TL.joinL S (q :: r)) := rfl
    rw [e, List.length_append, List.length_append]
    simp only [List.map_cons, List.sum_cons, List.length_cons] at this ⊢
    have e2 : (r.length + 1 + 1) * S.length = (r.length + 1) * S.length + S.length := Nat.succ_mul _ _
    omega
theorem eq_ss {x y : Str} : D.eq (.str x) (.str y) = .ok (decide (x = y)) := by
  unfold D.eq
  simp [D.shp, D.leaf, D.beq]
theorem eq_ii {i j : Int} : D.eq (.int i) (.int j) = .ok (decide (i = j)) := by
  unfold D.eq
  simp [D.shp, D.leaf, D.beq]
theorem eq_of {x y : D} (hx : x.shp 20 = true) (hy : y.shp 20 = true) : D.eq x y = .ok (D.beq x y) := by
  unfold D.eq
  rw [hx, hy]
  rfl
theorem ne_of {x y : D} (hx : x.shp 20 = true) (hy : y.shp 20 = true) : D.ne x y = .ok (!D.beq x y) := by
  unfold D.ne
  rw [eq_of hx hy]
  rfl
theorem ne_ii {x y : Int} : D.ne (.int x) (.int y) = .ok (!decide (x = y)) := by
  unfold D.ne
  rw [eq_ii]
  rfl
theorem shp_leaf {d : D} (h : d.leaf = true) : ∀ n, d.shp n = true
  | 0 => h
  | n + 1 => by cases d <;> first | exact h | cases h
theorem shp_mono : ∀ {n : Nat} {d : D}, d.shp n = true → d.shp (n + 1) = true
  | n, d, h => by
    induction n generalizing d with
    | zero => exact shp_leaf h 1
    | succ n ih =>
      rcases D.shp_cases h with h1 | ⟨m, l, e, hd, hl⟩
      · exact shp_leaf h1 _
      · cases e
        have : l.all (D.shp (n + 1)) = true := List.all_eq_true.mpr fun x hx => ih _ (List.all_eq_true.mp hl x hx)
        rcases hd with rfl | rfl <;> exact this
theorem shp_le {n m : Nat} {d : D} (h : d.shp n = true) (hm : n ≤ m) : d.shp m = true := by
  induction m with
  | zero =>
    have : n = 0 := by omega
    subst this
    exact h
  | succ m ih =>
    by_cases e : n = m + 1
    · subst e
      exact h
    · exact shp_mono (ih (by omega))
theorem beq_refl : ∀ {n : Nat} {d : D}, d.shp n = true → D.beq d d = true
  | n, d, h => by
    induction n generalizing d with
    | zero => rcases D.leaf_cases h with rfl | ⟨b, rfl⟩ | ⟨i, rfl⟩ | ⟨x, rfl⟩ <;> simp [D.beq]
    | succ n ih =>
      have q : ∀ l : List D, l.all (D.shp n) = true → D.beqL l l = true := by
        intro l
        induction l with
        | nil => intro _; rfl
        | cons a l ihl =>
          intro h
          rw [List.all_cons, Bool.and_eq_true] at h
          simp only [D.beqL]
          rw [ih _ h.1, ihl h.2]
          rfl
      rcases D.shp_cases h with h1 | ⟨m, l, e, hd, hl⟩
      · rcases D.leaf_cases h1 with rfl | ⟨b, rfl⟩ | ⟨i, rfl⟩ | ⟨x, rfl⟩ <;> simp [D.beq]
      · cases e
        rcases hd with rfl | rfl <;> (simp only [D.beq]; exact q l hl)
theorem ne_self {d : D} (h : d.shp 20 = true) : D.ne d d = .ok false := by
  rw [ne_of h h, beq_refl h]
  rfl
theorem shp_lst {l : List D} {n : Nat} (h : ∀ d ∈ l, d.shp n = true) : (D.lst l).shp (n + 1) = true := List.all_eq_true.mpr h
@[simp] theorem shp_str {x : Str} {n : Nat} : (D.str x).shp n = true := shp_leaf rfl n
@[simp] theorem shp_int {x : Int} {n : Nat} : (D.int x).shp n = true := shp_leaf rfl n
@[simp] theorem shp_non {n : Nat} : (D.non).shp n = true := shp_leaf rfl n
@[simp] theorem shp_bl {b : Bool} {n : Nat} : (D.bl b).shp n = true := shp_leaf rfl n
theorem toStr_nat {n : Nat} (h : n < 1000000000000) : D.toStr (.int n) = .ok (.str (mk (TL.numL n))) := by
  have hl : (n : Int).natAbs.log2 < 1920 := by
    have h2 : n.log2 ≤ n := Nat.log2_le_self n
    by_cases h0 : n = 0
    · subst h0
      decide
    · have : n.log2 < 40 := (Nat.log2_lt h0).mpr (by omega)
      simp
      omega
  show (need (decide ((n : Int).natAbs.log2 < 1920)) >>= fun _ => (.ok (.str (toString (n : Int))) : M D)) = _
  rw [decide_eq_true hl]
  show (.ok (.str (Str.ofString (toString (n : Int)))) : M D) = _
  congr 2
  exact TL.ext_tl (TL.tl_num n)
theorem toInt_num {n : Nat} (h : n < 10 ^ 600) : D.toInt (.str (mk (TL.numL n))) = .ok (.int n) := by
  have hl : (TL.numL n).length ≤ 600 := TL.numL_len (by decide) h
  have e : PySem.intText? (mk (TL.numL n)) = some (n : Int) := by
    have : mk (TL.numL n) = Str.ofString (toString ((n : Nat) : Int)) := TL.ext_tl (TL.tl_num n).symm
    rw [this]
    exact TL.int_num (by omega)
  show (match PySem.intText? (mk (TL.numL n)) with | some n' => (need (decide ((mk (TL.numL n)).length ≤ 640)) >>= fun _ => (.ok (.int n') : M D)) | none => stuck) = _
  rw [e]
  show (need (decide ((mk (TL.numL n)).length ≤ 640)) >>= fun _ => (.ok (.int n) : M D)) = _
  rw [len_mk, decide_eq_true (by omega : (TL.numL n).length ≤ 640)]
  rfl
end DL

set_option Elab.async false
set_option linter.all false
set_option maxRecDepth 100000
set_option maxHeartbeats 4000000
namespace DL
open PySem L2
structure En {α : Type} [DecidableEq α] (n : Nat) (e : α → D) : Prop where
  beq : ∀ x y, D.beq (e x) (e y) = decide (x = y)
  shp : ∀ x, (e x).shp n = true
section
variable {α β : Type} [DecidableEq α] [DecidableEq β] {n m : Nat} {e : α → D} {e2 : β → D}
theorem En.le (h : En n e) (hm : n ≤ m) : En m e := ⟨h.beq, fun x => shp_le (h.shp x) hm⟩
theorem en_str : En n D.str := ⟨fun x y => by simp [D.beq], fun x => shp_str⟩
def optD (e : α → D) : Option α → D
  | none => .non
  | some x => e x
theorem beqL_map (h : ∀ x y, D.beq (e x) (e y) = decide (x = y)) : ∀ l m : List α, D.beqL (l.map e) (m.map e) = decide (l = m)
  | [], [] => by simp [D.beqL]
  | [], _ :: _ => by simp [D.beqL]
  | _ :: _, [] => by simp [D.beqL]
  | a :: l, b :: m => by
    simp only [List.map_cons, D.beqL, h, beqL_map h l m]
    by_cases e1 : a = b <;> by_cases e2 : l = m <;> simp [e1, e2]
theorem en_lst (h : En n e) : En (n + 1) (fun l : List α => D.lst (l.map e)) := ⟨fun x y => by simp only [D.beq]; exact beqL_map h.beq x y, fun x => shp_lst fun d hd => by
  obtain ⟨a, _, rfl⟩ := List.mem_map.mp hd
  exact h.shp a⟩
variable (h : En 15 e)
include h
theorem En.eq (x y : α) : D.eq (e x) (e y) = .ok (decide (x = y)) := by rw [eq_of (shp_le (h.shp x) (by omega)) (shp_le (h.shp y) (by omega)), h.beq]
theorem En.ne (x y : α) : D.ne (e x) (e y) = .ok (!decide (x = y)) := by
  unfold D.ne
  rw [h.eq]
  rfl
theorem En.any (x : α) (l : List α) : ((l.map e).any fun z => D.beq z (e x)) = decide (x ∈ l) := by
  induction l with
  | nil => simp
  | cons a l ih =>
    rw [List.map_cons, List.any_cons, h.beq, ih]
    by_cases e1 : a = x
    · simp [e1]
    · have e2 : ¬ x = a := fun z => e1 z.symm
      simp [e1, e2]
theorem En.all (l : List α) : (l.map e).all (D.shp 19) = true := List.all_eq_true.mpr fun d hd => by
  obtain ⟨a, _, rfl⟩ := List.mem_map.mp hd
  exact shp_le (h.shp a) (by omega)
theorem En.mem (x : α) (l : List α) [i : Decidable (x ∈ l)] : D.mem (e x) (.lst (l.map e)) = .ok (decide (x ∈ l)) := by
  have ei : i = List.instDecidableMemOfLawfulBEq x l := Subsingleton.elim _ _
  subst ei
  show (need ((e x).shp 19 && (l.map e).all (D.shp 19)) >>= fun _ => .ok ((l.map e).any fun z => D.beq z (e x))) = _
  rw [shp_le (h.shp x) (by omega), h.all, h.any]
  rfl
theorem En.nmem (x : α) (l : List α) [Decidable (x ∈ l)] : D.nmem (e x) (.lst (l.map e)) = .ok (!decide (x ∈ l)) := by
  unfold D.nmem
  rw [h.mem]
  rfl
end
def leS (a b : Str) : Bool := decide (tl a ≤ tl b)
def sortS (l : List Str) : List Str := l.mergeSort leS
def leP (a b : Str × Str) : Bool := if a.1 = b.1 then leS a.2 b.2 else leS a.1 b.1
def prS (p : Str × Str) : D := .tup [.str p.1, .str p.2]
def sortP (l : List (Str × Str)) : List (Str × Str) := l.mergeSort leP
theorem loopF_app {S : Type} {f : S → D → M S} : ∀ (a b : List D) (s : S), loopF f (a ++ b) s = (loopF f a s >>= fun s => loopF f b s)
  | [], b, s => rfl
  | d :: a, b, s => by
    rw [List.cons_append, loopF_cons, loopF_cons]
    cases e : f s d with
    | error z => rfl
    | ok s' => exact loopF_app a b s'
section
variable {S : Type}
theorem loopR_go {f : S → D → M (Rs S)} {s s' : S} {d : D} {ds : List D} (h : f s d = .ok (.go s')) : loopR f (d :: ds) s = loopR f ds s' := by
  show (f s d >>= _) = _
  rw [h]
  rfl
end
end DL

set_option Elab.async false
set_option linter.all false
set_option maxRecDepth 100000
set_option maxHeartbeats 4000000
namespace LawWalk
open PySem PySem.Spec L2 DL
def m_law_row_l1 (cell_1 : D) : (List D × D × D) → D → M (List D × D × D) := fun s k_1 => match s with | (row_here_2, rest_2, mixed_2) => ((B2 D.mod (B1 (f1 D.toInt) (A1 (B2 D.add (B2 D.mul (.ok mixed_2) (.ok (.int 16807))) (B2 D.mul (.ok (.int 271)) (B2 D.add (.ok k_1) (.ok (.int 3))))) A0)) (.ok (.int 2147483629))) >>= fun mixed_3 => (mIf (B2 D.ge (B1 (f1 D.abs) (A1 (.ok cell_1) A0)) (B2 D.pow (.ok (.int 10)) (.ok (.int 18)))) (mPush row_here_2 (B2 D.mod (B1 (f1 D.toInt) (A1 (.ok rest_2) A0)) (.ok (.int 1009))) >>= fun row_here_3 => ((B2 D.fdiv (.ok rest_2) (.ok (.int 1009))) >>= fun rest_3 => (.ok (row_here_3, rest_3, mixed_3)))) (mPush row_here_2 (B2 D.mod (B1 (f1 D.toInt) (A1 (B2 D.fdiv (.ok mixed_3) (.ok (.int 7))) A0)) (.ok (.int 1009))) >>= fun row_here_4 => (.ok (row_here_4, rest_2, mixed_3)))))
def g_law_row : D → D → M (D) := fun cell_1 many_1 => ((nLst A0) >>= fun row_here_1 => ((B1 (f1 D.abs) (A1 (.ok cell_1) A0)) >>= fun rest_1 => ((B2 D.mod (B1 (f1 D.toInt) (A1 (B2 D.add (B2 D.mul (.ok rest_1) (.ok (.int 48271))) (.ok (.int 69621))) A0)) (.ok (.int 2147483647))) >>= fun mixed_1 => (((B1 D.range1 (A1 (.ok many_1) A0)) >>= fun ds => loopF (m_law_row_l1 cell_1) ds (row_here_1, rest_1, mixed_1)) >>= fun s => match s with | (row_here_5, rest_4, mixed_4) => (.ok (.lst row_here_5))))))
def m_law_row : List D → M (D) := a2 g_law_row
theorem e_law_row (cell_1 many_1 : D) : m_law_row [cell_1, many_1] = g_law_row cell_1 many_1 := a2_ g_law_row cell_1 many_1
theorem sc_law_row : FnScope ["_law_cell", "_law_many", "_law_row_here", "_law_rest", "_law_mixed", "_law_k"] ["_law_cell", "_law_many"] (d_law_row).scope := ⟨rfl, rfl, rfl, by decide +kernel, rfl, by decide +kernel, by decide +kernel⟩
theorem ok_law_row {P : Program} {w : World} {K : PySem.W.Frag} {mg : Str → Option Value} {base : Heap} (L : Lw P K mg) {fd : FuncData} (F : DefOk K d_law_row fd) : FnOk P w K mg base (L2.CX P w) 1 (He.fAd K d_law_row.at_) fd ["_law_cell", "_law_many"] (spD K [true, true] m_law_row) := by
  refine fn_def F sc_law_row rfl (fun cdv A outer s H E hr ds hl => ?_)
  match ds, hl with
  | [cell_1, many_1], _ =>
    exact db_G [.bor cell_1, .bor many_1, .un, .un, .un, .un] rfl <| db_step (fun row_here_1 => [.bor cell_1, .bor many_1, .own row_here_1, .un, .un, .un]) (ds_setN (dn_lst da_nil) (fun pe => ps_set (i := 2) sc_law_row.nd rfl (Or.inl rfl) pe)) (fun _ => rfl) fun row_here_1 => db_step (fun rest_1 => [.bor cell_1, .bor many_1, .own row_here_1, .val rest_1, .un, .un]) (ds_set (de_callB call_abs abs_op rfl (L.free (fa_0)) boot_abs_ (dra_cons (dr_bor (i := 0) rfl (pv 0)) dra_nil)) (fun pe => ps_set (i := 3) sc_law_row.nd rfl (Or.inl rfl) pe)) (fun _ => rfl) fun rest_1 => db_step (fun mixed_1 => [.bor cell_1, .bor many_1, .own row_here_1, .val rest_1, .val mixed_1, .un]) (ds_set (de_mod (DR.of (de_callTy int_R int_op rfl (L.free (fa_1)) boot_int_ (dra_cons (DR.of (de_add (DR.of (de_mul (dr_val (i := 3) rfl (pv 3)) (DR.of de_int))) (DR.of de_int))) dra_nil))) (DR.of de_int)) (fun pe => ps_set (i := 4) sc_law_row.nd rfl (Or.inl rfl) pe)) (fun _ => rfl) fun mixed_1 => db_any 5 <| db_step (fun (s : List D × D × D) => [.bor cell_1, .bor many_1, .own s.1, .val s.2.1, .val s.2.2, .any]) (ds_for1 (i := 5) (S := List D × D × D) (Γ := (fun (s : List D × D × D) => [.bor cell_1, .bor many_1, .own s.1, .val s.2.1, .val s.2.2, .any])) (f := (m_law_row_l1 cell_1)) (row_here_1, rest_1, mixed_1) rfl ctx_def (di_range1 rfl (L.free (fa_2)) (dra_cons (dr_bor (i := 1) rfl (pv 1)) dra_nil)) (pg_name (i := 5) sc_law_row.nd rfl (Or.inl rfl)) (fun s k_1 => match s with | (row_here_2, rest_2, mixed_2) => db_G [.bor cell_1, .bor many_1, .own row_here_2, .val rest_2, .val mixed_2, .val k_1] rfl <| db_step (fun mixed_3 => [.bor cell_1, .bor many_1, .own row_here_2, .val rest_2, .val mixed_3, .val k_1]) (ds_set (de_mod (DR.of (de_callTy int_R int_op rfl (L.free (fa_1)) boot_int_ (dra_cons (DR.of (de_add (DR.of (de_mul (dr_val (i := 4) rfl (pv 4)) (DR.of de_int))) (DR.of (de_mul (DR.of de_int) (DR.of (de_add (dr_val (i := 5) rfl (pv 5)) (DR.of de_int))))))) dra_nil))) (DR.of de_int)) (fun pe => ps_set (i := 4) sc_law_row.nd rfl (Or.inl rfl) pe)) (fun _ => rfl) fun mixed_3 => db_last (ds_if (dt_cmp op_ge cmp_ge (DR.of (de_callB call_abs abs_op rfl (L.free (fa_0)) boot_abs_ (dra_cons (dr_bor (i := 0) rfl (pv 0)) dra_nil))) (DR.of (de_pow (DR.of de_int) (DR.of de_int))) (nomark _)) (db_step (fun row_here_3 => [.bor cell_1, .bor many_1, .own row_here_3, .val rest_2, .val mixed_3, .val k_1]) (ds_pushO (i := 2) rfl (pv 2) (de_mod (DR.of (de_callTy int_R int_op rfl (L.free (fa_1)) boot_int_ (dra_cons (dr_val (i := 3) rfl (pv 3)) dra_nil))) (DR.of de_int))) (fun _ => rfl) fun row_here_3 => db_step (fun rest_3 => [.bor cell_1, .bor many_1, .own row_here_3, .val rest_3, .val mixed_3, .val k_1]) (ds_set (de_fdiv (dr_val (i := 3) rfl (pv 3)) (DR.of de_int)) (fun pe => ps_set (i := 3) sc_law_row.nd rfl (Or.inl rfl) pe)) (fun _ => rfl) fun rest_3 => db_any 5 <| db_nil rfl) (db_step (fun row_here_4 => [.bor cell_1, .bor many_1, .own row_here_4, .val rest_2, .val mixed_3, .val k_1]) (ds_pushO (i := 2) rfl (pv 2) (de_mod (DR.of (de_callTy int_R int_op rfl (L.free (fa_1)) boot_int_ (dra_cons (DR.of (de_fdiv (dr_val (i := 4) rfl (pv 4)) (DR.of de_int))) dra_nil))) (DR.of de_int))) (fun _ => rfl) fun row_here_4 => db_any 5 <| db_nil rfl)))) (fun _ => rfl) (fun s => match s with | (row_here_5, rest_4, mixed_4) => db_G [.bor cell_1, .bor many_1, .own row_here_5, .val rest_4, .val mixed_4, .any] rfl <| db_fzO 2 rfl <| db_last (ds_ret (de_val (i := 2) rfl (pv 2))))
def m_law_numbers_l1 : (List D) → D → M (List D) := fun numbers_here_3 number_1 => (mPush numbers_here_3 (.ok number_1) >>= fun numbers_here_4 => (.ok numbers_here_4))
def m_law_numbers_l2 (each_1 : D) : (List D) → D → M (List D) := fun numbers_here_2 cell_1 => (((B1 D.items (B1 m_law_row (A1 (.ok cell_1) (A1 (.ok each_1) A0)))) >>= fun ds => loopF m_law_numbers_l1 ds numbers_here_2) >>= fun numbers_here_5 => (.ok numbers_here_5))
def m_law_numbers_l3_c (many_1 : D) : (List D) → M Bool := fun numbers_here_7 => (B2 D.lt (B1 (f1 D.len) (A1 (.ok (.lst numbers_here_7)) A0)) (.ok many_1))
def m_law_numbers_l3 : (List D) → M (List D) := fun numbers_here_7 => (mPush numbers_here_7 (.ok (.int 0)) >>= fun numbers_here_8 => (.ok numbers_here_8))
def g_law_numbers : D → D → M (D) := fun script_1 many_1 => ((S3 (.ok script_1) oN (B1 D.bnd (.ok (.int 63)))) >>= fun cells_1 => ((B2 D.add (.ok (.int 1)) (B2 D.fdiv (.ok many_1) (B1 (f2 D.max2) (A1 (.ok (.int 1)) (A1 (B1 (f1 D.len) (A1 (.ok cells_1) A0)) A0))))) >>= fun each_1 => ((nLst A0) >>= fun numbers_here_1 => (((B1 D.items (.ok cells_1)) >>= fun ds => loopF (m_law_numbers_l2 each_1) ds numbers_here_1) >>= fun numbers_here_6 => ((whileF (m_law_numbers_l3_c many_1) m_law_numbers_l3 100000 numbers_here_6) >>= fun numbers_here_9 => (S3 (.ok (.lst numbers_here_9)) oN (B1 D.bnd (.ok many_1))))))))
def m_law_numbers : List D → M (D) := a2 g_law_numbers
theorem e_law_numbers (script_1 many_1 : D) : m_law_numbers [script_1, many_1] = g_law_numbers script_1 many_1 := a2_ g_law_numbers script_1 many_1
theorem sc_law_numbers : FnScope ["_law_script", "_law_many", "_law_cells", "_law_each", "_law_numbers_here", "_law_cell", "_law_number"] ["_law_script", "_law_many"] (d_law_numbers).scope := ⟨rfl, rfl, rfl, by decide +kernel, rfl, by decide +kernel, by decide +kernel⟩
theorem ok_law_numbers {P : Program} {w : World} {K : PySem.W.Frag} {mg : Str → Option Value} {base : Heap} (L : Lw P K mg) {fd : FuncData} (F : DefOk K d_law_numbers fd) : FnOk P w K mg base (L2.CX P w) 2 (He.fAd K d_law_numbers.at_) fd ["_law_script", "_law_many"] (spD K [true, true] m_law_numbers) := by
  obtain ⟨fd_law_row, F_law_row⟩ := L.c.def_ 0 (d := d_law_row) rfl
  have k_law_row := ok_law_row (P := P) (w := w) (base := base) L F_law_row
  have b_law_row : Binds K fd_law_row ["_law_cell", "_law_many"] [] := F_law_row.bindsN fun _ _ _ _ _ _ us hl => match us, hl with | [_, _], _ => rfl
  refine fn_def F sc_law_numbers rfl (fun cdv A outer s H E hr ds hl => ?_)
  match ds, hl with
  | [script_1, many_1], _ =>
    exact db_G [.bor script_1, .bor many_1, .un, .un, .un, .un, .un] rfl <| db_step (fun cells_1 => [.bor script_1, .bor many_1, .val cells_1, .un, .un, .un, .un]) (ds_set (de_sl (dr_bor (i := 0) rfl (pv 0)) do_none (do_some (DR.of de_int))) (fun pe => ps_set (i := 2) sc_law_numbers.nd rfl (Or.inl rfl) pe)) (fun _ => rfl) fun cells_1 => db_step (fun each_1 => [.bor script_1, .bor many_1, .val cells_1, .val each_1, .un, .un, .un]) (ds_set (de_add (DR.of de_int) (DR.of (de_fdiv (dr_bor (i := 1) rfl (pv 1)) (DR.of (de_callB (call_max2 (CtxOk.calm ctx_def)) max_op rfl (L.free (fa_4)) boot_max_ (dra_cons (DR.of de_int) (dra_cons (DR.of (de_callB lenR len_op rfl (L.free (fa_3)) boot_len_ (dra_cons (dr_val (i := 2) rfl (pv 2)) dra_nil))) dra_nil))))))) (fun pe => ps_set (i := 3) sc_law_numbers.nd rfl (Or.inl rfl) pe)) (fun _ => rfl) fun each_1 => db_step (fun numbers_here_1 => [.bor script_1, .bor many_1, .val cells_1, .val each_1, .own numbers_here_1, .un, .un]) (ds_setN (dn_lst da_nil) (fun pe => ps_set (i := 4) sc_law_numbers.nd rfl (Or.inl rfl) pe)) (fun _ => rfl) fun numbers_here_1 => db_any 5 <| db_any 6 <| db_step (fun (s : List D) => [.bor script_1, .bor many_1, .val cells_1, .val each_1, .own s, .any, .any]) (ds_for1 (i := 5) (S := List D) (Γ := (fun (s : List D) => [.bor script_1, .bor many_1, .val cells_1, .val each_1, .own s, .any, .any])) (f := (m_law_numbers_l2 each_1)) numbers_here_1 rfl ctx_def (di_seq (de_val (i := 2) rfl (pv 2))) (pg_name (i := 5) sc_law_numbers.nd rfl (Or.inl rfl)) (fun numbers_here_2 cell_1 => db_G [.bor script_1, .bor many_1, .val cells_1, .val each_1, .own numbers_here_2, .val cell_1, .any] rfl <| db_step (fun (s : List D) => [.bor script_1, .bor many_1, .val cells_1, .val each_1, .own s, .val cell_1, .any]) (ds_for1 (i := 6) (S := List D) (Γ := (fun (s : List D) => [.bor script_1, .bor many_1, .val cells_1, .val each_1, .own s, .val cell_1, .any])) (f := m_law_numbers_l1) numbers_here_2 rfl ctx_def (di_seq (de_call ctx_def k_law_row (hr.mono (by decide)) rfl (L.glo (fa_5)) F_law_row.kp b_law_row (dam_bor (dr_val (i := 5) rfl (pv 5)) (dam_bor (dr_val (i := 3) rfl (pv 3)) dam_nil)))) (pg_name (i := 6) sc_law_numbers.nd rfl (Or.inl rfl)) (fun numbers_here_3 number_1 => db_G [.bor script_1, .bor many_1, .val cells_1, .val each_1, .own numbers_here_3, .val cell_1, .val number_1] rfl <| db_step (fun numbers_here_4 => [.bor script_1, .bor many_1, .val cells_1, .val each_1, .own numbers_here_4, .val cell_1, .val number_1]) (ds_pushO (i := 4) rfl (pv 4) (de_val (i := 6) rfl (pv 6))) (fun _ => rfl) fun numbers_here_4 => db_any 6 <| db_nil rfl)) (fun _ => rfl) (fun numbers_here_5 => db_G [.bor script_1, .bor many_1, .val cells_1, .val each_1, .own numbers_here_5, .val cell_1, .any] rfl <| db_any 5 <| db_nil rfl))) (fun _ => rfl) (fun numbers_here_6 => db_G [.bor script_1, .bor many_1, .val cells_1, .val each_1, .own numbers_here_6, .any, .any] rfl <| db_step (fun (s : List D) => [.bor script_1, .bor many_1, .val cells_1, .val each_1, .own s, .any, .any]) (ds_whileF (S := List D) (Γ := (fun (s : List D) => [.bor script_1, .bor many_1, .val cells_1, .val each_1, .own s, .any, .any])) (mc := (m_law_numbers_l3_c many_1)) (f := m_law_numbers_l3) 100000 numbers_here_6 rfl (CtxOk.own ctx_def) (fun numbers_here_7 => dt_G [.bor script_1, .bor many_1, .val cells_1, .val each_1, .own numbers_here_7, .any, .any] rfl <| (dt_cmp (op_lt.or op_lt_str) cmp_lt (DR.of (de_callB lenR len_op rfl (L.free (fa_3)) boot_len_ (dra_cons (dr_own (i := 4) rfl (pv 4)) dra_nil))) (dr_bor (i := 1) rfl (pv 1)) (nomark _))) (fun numbers_here_7 => db_G [.bor script_1, .bor many_1, .val cells_1, .val each_1, .own numbers_here_7, .any, .any] rfl <| db_step (fun numbers_here_8 => [.bor script_1, .bor many_1, .val cells_1, .val each_1, .own numbers_here_8, .any, .any]) (ds_pushO (i := 4) rfl (pv 4) de_int) (fun _ => rfl) fun numbers_here_8 => db_nil rfl)) (fun _ => rfl) (fun numbers_here_9 => db_G [.bor script_1, .bor many_1, .val cells_1, .val each_1, .own numbers_here_9, .any, .any] rfl <| db_last (ds_ret (de_sl (dr_own (i := 4) rfl (pv 4)) do_none (do_some (dr_bor (i := 1) rfl (pv 1)))))))
def m_law_lines_l1 (numbers_here_1 : D) (names_1 : D) : (List D) → D → M (List D) := fun lines_here_5 k_2 => (mPush lines_here_5 (B2 D.add (B2 D.add (B2 D.add (.ok (.str "low ")) (B2 D.ix (.ok names_1) (B2 D.mod (B1 (f1 D.toInt) (A1 (B2 D.ix (.ok numbers_here_1) (B2 D.add (.ok (.int 14)) (.ok k_2))) A0)) (.ok (.int 5))))) (.ok (.str " "))) (B1 (f1 D.toStr) (A1 (B1 (f1 D.toInt) (A1 (B2 D.ix (.ok numbers_here_1) (B2 D.add (.ok (.int 18)) (.ok k_2))) A0)) A0))) >>= fun lines_here_6 => (.ok lines_here_6))
def g_law_lines : D → M (D) := fun numbers_here_1 => ((B1 D.mkLst (A1 (.ok (.str "r")) (A1 (.ok (.str "q9")) (A1 (.ok (.str "abcdefghijkl")) (A1 (.ok (.str "by")) (A1 (.ok (.str "low")) A0)))))) >>= fun names_1 => ((nLst (A1 (.ok (.str "none")) A0)) >>= fun lines_here_1 => ((mIf (B2 D.gt (B2 D.mod (B1 (f1 D.toInt) (A1 (B2 D.ix (.ok numbers_here_1) (.ok (.int 0))) A0)) (.ok (.int 3))) (.ok (.int 0))) ((nLst (A1 (B2 D.add (.ok (.str "arrives ")) (B1 (f1 D.toStr) (A1 (B2 D.ix (B1 D.mkLst (A1 (.ok (.int 0)) (A1 (.ok (.int 999999999)) (A1 (B1 (f1 D.toInt) (A1 (B2 D.ix (.ok numbers_here_1) (.ok (.int 1))) A0)) A0)))) (B2 D.mod (B1 (f1 D.toInt) (A1 (B2 D.ix (.ok numbers_here_1) (.ok (.int 2))) A0)) (.ok (.int 3)))) A0))) A0)) >>= fun lines_here_2 => (((.ok (.lst lines_here_2)) >>= fun x => (L1 ((B1 D.range1 (A1 (B2 D.mod (B1 (f1 D.toInt) (A1 (B2 D.ix (.ok numbers_here_1) (.ok (.int 3))) A0)) (.ok (.int 4))) A0)) >>= fun ds => compL (fElt noT (fun k_1 => (B2 D.add (.ok (.str "by ")) (B2 D.ix (.ok names_1) (B2 D.mod (B1 (f1 D.toInt) (A1 (B2 D.ix (.ok numbers_here_1) (B2 D.add (.ok (.int 10)) (.ok k_1))) A0)) (.ok (.int 5))))))) ds)) >>= fun y => D.addN x y) >>= fun lines_here_3 => (.ok lines_here_3))) (.ok lines_here_1) : M (List D)) >>= fun lines_here_4 => (((B1 D.range1 (A1 (B2 D.mod (B1 (f1 D.toInt) (A1 (B2 D.ix (.ok numbers_here_1) (.ok (.int 4))) A0)) (.ok (.int 4))) A0)) >>= fun ds => loopF (m_law_lines_l1 numbers_here_1 names_1) ds lines_here_4) >>= fun lines_here_7 => (.ok (.lst lines_here_7))))))
def m_law_lines : List D → M (D) := a1 g_law_lines
theorem e_law_lines (numbers_here_1 : D) : m_law_lines [numbers_here_1] = g_law_lines numbers_here_1 := a1_ g_law_lines numbers_here_1
theorem sc_law_lines : FnScope ["_law_numbers_here", "_law_names", "_law_lines_here", "_law_k"] ["_law_numbers_here"] (d_law_lines).scope := ⟨rfl, rfl, rfl, by decide +kernel, rfl, by decide +kernel, by decide +kernel⟩
theorem ok_law_lines {P : Program} {w : World} {K : PySem.W.Frag} {mg : Str → Option Value} {base : Heap} (L : Lw P K mg) {fd : FuncData} (F : DefOk K d_law_lines fd) : FnOk P w K mg base (L2.CX P w) 1 (He.fAd K d_law_lines.at_) fd ["_law_numbers_here"] (spD K [true] m_law_lines) := by
  refine fn_def F sc_law_lines rfl (fun cdv A outer s H E hr ds hl => ?_)
  match ds, hl with
  | [numbers_here_1], _ =>
    exact db_G [.bor numbers_here_1, .un, .un, .un] rfl <| db_step (fun names_1 => [.bor numbers_here_1, .val names_1, .un, .un]) (ds_set (de_lst (da_cons (de_str (by decide +kernel)) (da_cons (de_str (by decide +kernel)) (da_cons (de_str (by decide +kernel)) (da_cons (de_str (by decide +kernel)) (da_cons (de_str (by decide +kernel)) da_nil)))))) (fun pe => ps_set (i := 1) sc_law_lines.nd rfl (Or.inr rfl) pe)) (fun _ => rfl) fun names_1 => db_step (fun lines_here_1 => [.bor numbers_here_1, .val names_1, .own lines_here_1, .un]) (ds_setN (dn_lst (da_cons (de_str (by decide +kernel)) da_nil)) (fun pe => ps_set (i := 2) sc_law_lines.nd rfl (Or.inl rfl) pe)) (fun _ => rfl) fun lines_here_1 => db_step (fun (s : List D) => [.bor numbers_here_1, .val names_1, .own s, .un]) (ds_if (dt_cmp op_gt cmp_gt (DR.of (de_mod (DR.of (de_callTy int_R int_op rfl (L.free (fa_1)) boot_int_ (dra_cons (DR.of (de_ix hr.u70 (dr_bor (i := 0) rfl (pv 0)) (DR.of de_int))) dra_nil))) (DR.of de_int))) (DR.of de_int) (nomark _)) (db_step (fun lines_here_2 => [.bor numbers_here_1, .val names_1, .own lines_here_2, .un]) (ds_setN (dn_lst (da_cons (de_add (DR.of (de_str (by decide +kernel))) (DR.of (de_callTy call_str_int str_op rfl (L.free (fa_6)) boot_str_ (dra_cons (DR.of (de_ix hr.u70 (DR.of (de_lst (da_cons de_int (da_cons de_int (da_cons (de_callTy int_R int_op rfl (L.free (fa_1)) boot_int_ (dra_cons (DR.of (de_ix hr.u70 (dr_bor (i := 0) rfl (pv 0)) (DR.of de_int))) dra_nil)) da_nil))))) (DR.of (de_mod (DR.of (de_callTy int_R int_op rfl (L.free (fa_1)) boot_int_ (dra_cons (DR.of (de_ix hr.u70 (dr_bor (i := 0) rfl (pv 0)) (DR.of de_int))) dra_nil))) (DR.of de_int))))) dra_nil)))) da_nil)) (fun pe => ps_set (i := 2) sc_law_lines.nd rfl (Or.inl rfl) pe)) (fun _ => rfl) fun lines_here_2 => db_step (fun lines_here_3 => [.bor numbers_here_1, .val names_1, .own lines_here_3, .un]) (ds_setN (dn_addN (dr_own (i := 2) rfl (pv 2)) (DR.of (DNL.de (dn_lc1 (own := [("_law_k", 3)]) (i := 3) (me := fun k_1 => (B2 D.add (.ok (.str "by ")) (B2 D.ix (.ok names_1) (B2 D.mod (B1 (f1 D.toInt) (A1 (B2 D.ix (.ok numbers_here_1) (B2 D.add (.ok (.int 10)) (.ok k_1))) A0)) (.ok (.int 5)))))) (CtxOk.calm ctx_def) sc_law_lines.nd (DIR.of (di_range1 rfl (L.free (fa_2)) (dra_cons (DR.of (de_mod (DR.of (de_callTy int_R int_op rfl (L.free (fa_1)) boot_int_ (dra_cons (DR.of (de_ix hr.u70 (dr_bor (i := 0) rfl (pv 0)) (DR.of de_int))) dra_nil))) (DR.of de_int))) dra_nil))) (blkOk_by (by kernel_rfl)) rfl (fun _ _ _ _ _ => pg_name (i := 3) sc_law_lines.nd rfl (Or.inl rfl)) (fun _ _ _ _ _ k_1 => (de_add (DR.of (de_str (by decide +kernel))) (DR.of (de_ix hr.u70 (dr_val (i := 1) rfl (pv 1)) (DR.of (de_mod (DR.of (de_callTy int_R int_op rfl (L.free (fa_1)) boot_int_ (dra_cons (DR.of (de_ix hr.u70 (dr_bor (i := 0) rfl (pv 0)) (DR.of (de_add (DR.of de_int) (dr_val (i := 3) rfl (pv 3)))))) dra_nil))) (DR.of de_int))))))))))) (fun pe => ps_set (i := 2) sc_law_lines.nd rfl (Or.inl rfl) pe)) (fun _ => rfl) fun lines_here_3 => db_nil rfl) (db_nil rfl)) (fun _ => rfl) (fun lines_here_4 => db_G [.bor numbers_here_1, .val names_1, .own lines_here_4, .un] rfl <| db_any 3 <| db_step (fun (s : List D) => [.bor numbers_here_1, .val names_1, .own s, .any]) (ds_for1 (i := 3) (S := List D) (Γ := (fun (s : List D) => [.bor numbers_here_1, .val names_1, .own s, .any])) (f := (m_law_lines_l1 numbers_here_1 names_1)) lines_here_4 rfl ctx_def (di_range1 rfl (L.free (fa_2)) (dra_cons (DR.of (de_mod (DR.of (de_callTy int_R int_op rfl (L.free (fa_1)) boot_int_ (dra_cons (DR.of (de_ix hr.u70 (dr_bor (i := 0) rfl (pv 0)) (DR.of de_int))) dra_nil))) (DR.of de_int))) dra_nil)) (pg_name (i := 3) sc_law_lines.nd rfl (Or.inl rfl)) (fun lines_here_5 k_2 => db_G [.bor numbers_here_1, .val names_1, .own lines_here_5, .val k_2] rfl <| db_step (fun lines_here_6 => [.bor numbers_here_1, .val names_1, .own lines_here_6, .val k_2]) (ds_pushO (i := 2) rfl (pv 2) (de_add (DR.of (de_add (DR.of (de_add (DR.of (de_str (by decide +kernel))) (DR.of (de_ix hr.u70 (dr_val (i := 1) rfl (pv 1)) (DR.of (de_mod (DR.of (de_callTy int_R int_op rfl (L.free (fa_1)) boot_int_ (dra_cons (DR.of (de_ix hr.u70 (dr_bor (i := 0) rfl (pv 0)) (DR.of (de_add (DR.of de_int) (dr_val (i := 3) rfl (pv 3)))))) dra_nil))) (DR.of de_int))))))) (DR.of (de_str (by decide +kernel))))) (DR.of (de_callTy call_str_int str_op rfl (L.free (fa_6)) boot_str_ (dra_cons (DR.of (de_callTy int_R int_op rfl (L.free (fa_1)) boot_int_ (dra_cons (DR.of (de_ix hr.u70 (dr_bor (i := 0) rfl (pv 0)) (DR.of (de_add (DR.of de_int) (dr_val (i := 3) rfl (pv 3)))))) dra_nil))) dra_nil))))) (fun _ => rfl) fun lines_here_6 => db_any 3 <| db_nil rfl)) (fun _ => rfl) (fun lines_here_7 => db_G [.bor numbers_here_1, .val names_1, .own lines_here_7, .any] rfl <| db_fzO 2 rfl <| db_last (ds_ret (de_val (i := 2) rfl (pv 2)))))
def g_require : D → M (Option D) := fun holds_1 => (mIf (mNot (B1 D.tru (.ok holds_1))) (mExc0 "InvalidMap") (.ok none))
def m_require : List D → M D := fun ds => orNon (a1 g_require ds)
theorem sc_require : FnScope ["holds"] ["holds"] (d_require).scope := ⟨rfl, rfl, rfl, by decide +kernel, rfl, by decide +kernel, by decide +kernel⟩
theorem ok_require {P : Program} {w : World} {K : PySem.W.Frag} {mg : Str → Option Value} {base : Heap} (L : Lw P K mg) {fd : FuncData} (F : DefOk K d_require fd) : FnOk P w K mg base (L2.CX P w) 1 (He.fAd K d_require.at_) fd ["holds"] (spD K [true] m_require) := by
  refine fn_defN F sc_require rfl (fun cdv A outer s H E hr ds hl => ?_)
  match ds, hl with
  | [holds_1], _ =>
    exact db_G [.bor holds_1] rfl <| db_last (ds_if (dt_not (dt_val (dr_bor (i := 0) rfl (pv 0)))) (db_last (ds_raise0 (c := "InvalidMap") rfl takes_def (L.exc (fa_8)) (L.glo (fa_7)) rfl)) (db_end rfl))
def g_name_of : D → M (D) := fun road_1 => (B2 D.ix (.ok road_1) (.ok (.int 0)))
def m_name_of : List D → M (D) := a1 g_name_of
theorem sc_name_of : FnScope ["road"] ["road"] (d_name_of).scope := ⟨rfl, rfl, rfl, by decide +kernel, rfl, by decide +kernel, by decide +kernel⟩
theorem ok_name_of {P : Program} {w : World} {K : PySem.W.Frag} {mg : Str → Option Value} {base : Heap} (L : Lw P K mg) {fd : FuncData} (F : DefOk K d_name_of fd) : FnOk P w K mg base (L2.CX P w) 1 (He.fAd K d_name_of.at_) fd ["road"] (spD K [true] m_name_of) := by
  refine fn_def F sc_name_of rfl (fun cdv A outer s H E hr ds hl => ?_)
  match ds, hl with
  | [road_1], _ =>
    exact db_G [.bor road_1] rfl <| db_last (ds_ret (de_ix hr.u70 (dr_bor (i := 0) rfl (pv 0)) (DR.of de_int)))
def m_are_different_l1 (parts_1 : D) : (Unit) → D → D → M (Rs (Unit)) := fun _ number_1 part_1 => (mIf (B2 D.mem (.ok part_1) (S3 (.ok parts_1) oN (B1 D.bnd (.ok number_1)))) ((.ok (.bl false)) >>= fun d => .ok (.rt d)) (.ok (.go ())))
def g_are_different : D → M (D) := fun parts_1 => (((B1 D.enum1 (A1 (.ok parts_1) A0)) >>= fun ds => loopR (fun s => on2 ((m_are_different_l1 parts_1) s)) ds ()) >>= fun r => sFin r (fun _ => (.ok (.bl true))))
def m_are_different : List D → M (D) := a1 g_are_different
theorem sc_are_different : FnScope ["parts", "number", "part"] ["parts"] (d_are_different).scope := ⟨rfl, rfl, rfl, by decide +kernel, rfl, by decide +kernel, by decide +kernel⟩
theorem ok_are_different {P : Program} {w : World} {K : PySem.W.Frag} {mg : Str → Option Value} {base : Heap} (L : Lw P K mg) {fd : FuncData} (F : DefOk K d_are_different fd) : FnOk P w K mg base (L2.CX P w) 1 (He.fAd K d_are_different.at_) fd ["parts"] (spD K [false] m_are_different) := by
  refine fn_def F sc_are_different rfl (fun cdv A outer s H E hr ds hl => ?_)
  match ds, hl with
  | [parts_1], _ =>
    exact db_G [.val parts_1, .un, .un] rfl <| db_any 1 <| db_any 2 <| db_sumF (ds_for2R (i := 1) (j := 2) (S := Unit) (Γ := (fun (s : Unit) => [.val parts_1, .any, .any])) (f := (m_are_different_l1 parts_1)) () rfl ctx_def (di_enum1 rfl (L.free (fa_9)) (da_cons (de_val (i := 0) rfl (pv 0)) da_nil)) (pg_tup rfl (pgs_cons (pg_name (i := 1) sc_are_different.nd rfl (Or.inl rfl)) (pgs_cons (pg_name (i := 2) sc_are_different.nd rfl (Or.inl rfl)) pgs_nil))) (fun _ number_1 part_1 => db_G [.val parts_1, .val number_1, .val part_1] rfl <| db_last (ds_if (dt_cmp (op_inAll hr.u70) cmp_in (dr_val (i := 2) rfl (pv 2)) (DR.of (de_sl (dr_val (i := 0) rfl (pv 0)) do_none (do_some (dr_val (i := 1) rfl (pv 1))))) rfl) (db_map Rx.rt (db_last (ds_ret de_bl)) (fun _ => rfl)) (db_any 1 <| db_any 2 <| db_nil rfl)))) (fun _ => db_G [.val parts_1, .any, .any] rfl <| db_last (ds_ret de_bl))
def g_Map_road_names : D → M (D) := fun self_1 => (B1 (f1 D.toTup) (A1 (L1 ((B1 D.items (B1 (D.attrC ["Map", "Paper"] "roads") (.ok self_1))) >>= fun ds => compL (fElt noT (fun road_1 => (B2 D.ix (.ok road_1) (.ok (.int 0))))) ds)) A0))
def m_Map_road_names : List D → M (D) := a1 g_Map_road_names
theorem sc_Map_road_names : FnScope ["self", "road"] ["self"] (d_Map_road_names).scope := ⟨rfl, rfl, rfl, by decide +kernel, rfl, by decide +kernel, by decide +kernel⟩
theorem ok_Map_road_names {P : Program} {w : World} {K : PySem.W.Frag} {mg : Str → Option Value} {base : Heap} (L : Lw P K mg) {fd : FuncData} (F : DefOkG K d_Map_road_names fd) : FnOk P w K mg base (L2.CX P w) 1 (gAd K d_Map_road_names.at_) fd ["self"] (spD K [true] m_Map_road_names) := by
  refine fn_def F sc_Map_road_names rfl (fun cdv A outer s H E hr ds hl => ?_)
  match ds, hl with
  | [self_1], _ =>
    exact db_G [.bor self_1, .un] rfl <| db_last (ds_ret (de_callTy call_tuple_of tup_op rfl (L.free (fa_14)) boot_tuple_ (dra_cons (DR.of (DNL.de (dn_lc1 (own := [("road", 1)]) (i := 1) (me := fun road_1 => (B2 D.ix (.ok road_1) (.ok (.int 0)))) (CtxOk.calm ctx_def) sc_Map_road_names.nd (dir_seq (DR.of (de_attr (cs := ["Map", "Paper"]) (f := "roads") (by first | exact L.ats (f := "roads") ⟨L.cls (fa_12), L.noat (fa_13), ⟨L.cls (fa_10), L.noat (fa_11), True.intro⟩⟩) (dr_bor (i := 0) rfl (pv 0))))) (blkOk_by (by kernel_rfl)) rfl (fun _ _ _ _ _ => pg_name (i := 1) sc_Map_road_names.nd rfl (Or.inl rfl)) (fun _ _ _ _ _ road_1 => (de_ix hr.u70 (dr_val (i := 1) rfl (pv 1)) (DR.of de_int)))))) dra_nil)))
def g_is_name : D → M (D) := fun text_1 => (mIf (mOr (mNot (T3 D.le D.le (.ok (.int 1)) (B1 (f1 D.len) (A1 (.ok text_1) A0)) (.ok (.int 12)))) (B2 D.mem (B2 D.ix (.ok text_1) (.ok (.int 0))) (.ok (.str "0123456789")))) (.ok (.bl false)) (B1 (f1 D.all) (A1 (L1 ((B1 D.items (.ok text_1)) >>= fun ds => compL (fElt noT (fun char_1 => (C2 D.mem (.ok char_1) (.ok (.str "abcdefghijklmnopqrstuvwxyz0123456789"))))) ds)) A0)))
def m_is_name : List D → M (D) := a1 g_is_name
theorem e_is_name (text_1 : D) : m_is_name [text_1] = g_is_name text_1 := a1_ g_is_name text_1
theorem sc_is_name : FnScope ["text", "char"] ["text"] (d_is_name).scope := ⟨rfl, rfl, rfl, by decide +kernel, rfl, by decide +kernel, by decide +kernel⟩
theorem ok_is_name {P : Program} {w : World} {K : PySem.W.Frag} {mg : Str → Option Value} {base : Heap} (L : Lw P K mg) {fd : FuncData} (F : DefOk K d_is_name fd) : FnOk P w K mg base (L2.CX P w) 1 (He.fAd K d_is_name.at_) fd ["text"] (spD K [true] m_is_name) := by
  refine fn_def F sc_is_name rfl (fun cdv A outer s H E hr ds hl => ?_)
  match ds, hl with
  | [text_1], _ =>
    exact db_G [.bor text_1, .un] rfl <| db_ifr (DW.dt (dw_or (dt_not (dt_chain op_le op_le cmp_le cmp_le (DR.of de_int) (DR.of (de_callB lenR len_op rfl (L.free (fa_3)) boot_len_ (dra_cons (dr_bor (i := 0) rfl (pv 0)) dra_nil))) (DR.of (de_gintE rfl (L.int (fa_15)))))) (dw_or1 (dt_cmp (op_inAll hr.u70) cmp_in (DR.of (de_ix hr.u70 (dr_bor (i := 0) rfl (pv 0)) (DR.of de_int))) (DR.of (de_str (by decide +kernel))) rfl)))) (db_last (ds_ret de_bl)) (db_last (ds_ret (de_callB (cr_all (CtxOk.calm ctx_def)) all_op rfl (L.free (fa_17)) boot_all_ (dra_cons (DR.of (DNL.de (dn_lc1 (own := [("char", 1)]) (i := 1) (me := fun char_1 => (C2 D.mem (.ok char_1) (.ok (.str "abcdefghijklmnopqrstuvwxyz0123456789")))) (CtxOk.calm ctx_def) sc_is_name.nd (dir_seq (dr_bor (i := 0) rfl (pv 0))) (blkOk_by (by kernel_rfl)) rfl (fun _ _ _ _ _ => pg_name (i := 1) sc_is_name.nd rfl (Or.inl rfl)) (fun _ _ _ _ _ char_1 => (de_cmp (op_inAll hr.u70) cmp_in (dr_val (i := 1) rfl (pv 1)) (DR.of (de_gstrE rfl (L.str (fa_16)) (by decide +kernel))) rfl))))) dra_nil))))
def m_are_hours_l1 (day_1 : D) : (D) → D → D → M (Rs (D)) := fun before_2 opened_1 closed_1 => (mIf (mNot (T4 D.lt D.lt D.le (.ok before_2) (.ok opened_1) (.ok closed_1) (.ok day_1))) ((.ok (.bl false)) >>= fun d => .ok (.rt d)) ((.ok closed_1) >>= fun before_3 => (.ok (.go before_3))))
def g_are_hours : D → D → M (D) := fun hours_1 day_1 => (mIf (B2 D.gt (B1 (f1 D.len) (A1 (.ok hours_1) A0)) (.ok (.int 4))) (.ok (.bl false)) ((B1 D.neg (.ok (.int 1))) >>= fun before_1 => (((B1 D.items (.ok hours_1)) >>= fun ds => loopR (fun s => on2 ((m_are_hours_l1 day_1) s)) ds before_1) >>= fun r => sFin r (fun before_4 => (.ok (.bl true))))))
def m_are_hours : List D → M (D) := a2 g_are_hours
theorem sc_are_hours : FnScope ["hours", "day", "before", "opened", "closed"] ["hours", "day"] (d_are_hours).scope := ⟨rfl, rfl, rfl, by decide +kernel, rfl, by decide +kernel, by decide +kernel⟩
theorem ok_are_hours {P : Program} {w : World} {K : PySem.W.Frag} {mg : Str → Option Value} {base : Heap} (L : Lw P K mg) {fd : FuncData} (F : DefOk K d_are_hours fd) : FnOk P w K mg base (L2.CX P w) 1 (He.fAd K d_are_hours.at_) fd ["hours", "day"] (spD K [false, true] m_are_hours) := by
  refine fn_def F sc_are_hours rfl (fun cdv A outer s H E hr ds hl => ?_)
  match ds, hl with
  | [hours_1, day_1], _ =>
    exact db_G [.val hours_1, .bor day_1, .un, .un, .un] rfl <| db_ifr (dt_cmp op_gt cmp_gt (DR.of (de_callB lenR len_op rfl (L.free (fa_3)) boot_len_ (dra_cons (dr_val (i := 0) rfl (pv 0)) dra_nil))) (DR.of (de_gintE rfl (L.int (fa_18)))) (nomark _)) (db_last (ds_ret de_bl)) (db_step (fun before_1 => [.val hours_1, .bor day_1, .val before_1, .un, .un]) (ds_set (de_neg (DR.of de_int)) (fun pe => ps_set (i := 2) sc_are_hours.nd rfl (Or.inl rfl) pe)) (fun _ => rfl) fun before_1 => db_any 3 <| db_any 4 <| db_sumF (ds_for2R (i := 3) (j := 4) (S := D) (Γ := (fun (s : D) => [.val hours_1, .bor day_1, .val s, .any, .any])) (f := (m_are_hours_l1 day_1)) before_1 rfl ctx_def (di_seq (de_val (i := 0) rfl (pv 0))) (pg_tup rfl (pgs_cons (pg_name (i := 3) sc_are_hours.nd rfl (Or.inl rfl)) (pgs_cons (pg_name (i := 4) sc_are_hours.nd rfl (Or.inl rfl)) pgs_nil))) (fun before_2 opened_1 closed_1 => db_G [.val hours_1, .bor day_1, .val before_2, .val opened_1, .val closed_1] rfl <| db_ifRt (dt_not (dt_chain3 (op_lt.or op_lt_str) (op_lt.or op_lt_str) op_le cmp_lt cmp_lt cmp_le (dr_val (i := 2) rfl (pv 2)) (dr_val (i := 3) rfl (pv 3)) (dr_val (i := 4) rfl (pv 4)) (dr_bor (i := 1) rfl (pv 1)))) (db_last (ds_ret de_bl)) (db_step (fun before_3 => [.val hours_1, .bor day_1, .val before_3, .val opened_1, .val closed_1]) (ds_set (de_val (i := 4) rfl (pv 4)) (fun pe => ps_set (i := 2) sc_are_hours.nd rfl (Or.inl rfl) pe)) (fun _ => rfl) fun before_3 => db_any 3 <| db_any 4 <| db_nil rfl))) (fun before_4 => db_G [.val hours_1, .bor day_1, .val before_4, .any, .any] rfl <| db_last (ds_ret de_bl)))
def g_Map_checked : D → D → M (D) := fun self_1 road_1 => ((B1 m_require (A1 (C2 D.eq (B1 (f1 D.len) (A1 (.ok road_1) A0)) (.ok (.int 6))) A0)) >>= fun _ => ((.ok road_1) >>= un6 fun name_1 start_1 end_1 minutes_1 kinds_1 hours_1 => ((B1 m_require (A1 (vAnd (B1 m_is_name (A1 (.ok name_1) A0)) (vAnd (C2 D.mem (.ok start_1) (B1 (D.attrC ["Map"] "places") (.ok self_1))) (vAnd (C2 D.mem (.ok end_1) (B1 (D.attrC ["Map"] "places") (.ok self_1))) (C3 D.le D.le (.ok (.int 1)) (.ok minutes_1) (.ok (.int 1000)))))) A0)) >>= fun _ => ((B1 m_require (A1 (vAnd (B1 m_are_different (A1 (.ok kinds_1) A0)) (B1 (f1 D.all) (A1 (L1 ((B1 D.items (.ok kinds_1)) >>= fun ds => compL (fElt noT (fun kind_1 => (C2 D.mem (.ok kind_1) (B1 (D.attrC ["Map"] "kinds") (.ok self_1))))) ds)) A0))) A0)) >>= fun _ => ((B1 (f1 D.toTup) (A1 (L1 ((B1 D.items (B1 (D.attrC ["Map"] "kinds") (.ok self_1))) >>= fun ds => compL (fElt (fun kind_2 => (B2 D.mem (.ok kind_2) (.ok kinds_1))) (fun kind_2 => (.ok kind_2))) ds)) A0)) >>= fun ordered_1 => (mIf (B2 D.isN (.ok hours_1) (.ok .non)) (B1 D.mkTup (A1 (.ok name_1) (A1 (.ok start_1) (A1 (.ok end_1) (A1 (.ok minutes_1) (A1 (.ok ordered_1) (A1 (.ok .non) A0))))))) ((B1 m_require (A1 (vAnd (B1 (f1 D.all) (A1 (L1 ((B1 D.items (.ok hours_1)) >>= fun ds => compL (fElt noT (fun pair_1 => (C2 D.eq (B1 (f1 D.len) (A1 (.ok pair_1) A0)) (.ok (.int 2))))) ds)) A0)) (B1 m_are_hours (A1 (.ok hours_1) (A1 (B1 (D.attrC ["Map"] "day") (.ok self_1)) A0)))) A0)) >>= fun _ => (B1 D.mkTup (A1 (.ok name_1) (A1 (.ok start_1) (A1 (.ok end_1) (A1 (.ok minutes_1) (A1 (.ok ordered_1) (A1 (B1 (f1 D.toTup) (A1 (L1 ((B1 D.items (.ok hours_1)) >>= fun ds => compL (fElt noT (fun pair_2 => (B1 (f1 D.toTup) (A1 (.ok pair_2) A0)))) ds)) A0)) A0))))))))))))))
def m_Map_checked : List D → M (D) := a2 g_Map_checked
theorem sc_Map_checked : FnScope ["self", "road", "name", "start", "end", "minutes", "kinds", "hours", "ordered", "kind", "pair"] ["self", "road"] (d_Map_checked).scope := ⟨rfl, rfl, rfl, by decide +kernel, rfl, by decide +kernel, by decide +kernel⟩
theorem ok_Map_checked {P : Program} {w : World} {K : PySem.W.Frag} {mg : Str → Option Value} {base : Heap} (L : Lw P K mg) {fd : FuncData} (F : DefOk K d_Map_checked fd) : FnOk P w K mg base (L2.CX P w) 2 (He.fAd K d_Map_checked.at_) fd ["self", "road"] (spD K [true, false] m_Map_checked) := by
  obtain ⟨fd_require, F_require⟩ := L.c.def_ 3 (d := d_require) rfl
  have k_require := ok_require (P := P) (w := w) (base := base) L F_require
  have b_require : Binds K fd_require ["holds"] [] := F_require.bindsN fun _ _ _ _ _ _ us hl => match us, hl with | [_], _ => rfl
  obtain ⟨fd_is_name, F_is_name⟩ := L.c.def_ 6 (d := d_is_name) rfl
  have k_is_name := ok_is_name (P := P) (w := w) (base := base) L F_is_name
  have b_is_name : Binds K fd_is_name ["text"] [] := F_is_name.bindsN fun _ _ _ _ _ _ us hl => match us, hl with | [_], _ => rfl
  obtain ⟨fd_are_different, F_are_different⟩ := L.c.def_ 5 (d := d_are_different) rfl
  have k_are_different := ok_are_different (P := P) (w := w) (base := base) L F_are_different
  have b_are_different : Binds K fd_are_different ["parts"] [] := F_are_different.bindsN fun _ _ _ _ _ _ us hl => match us, hl with | [_], _ => rfl
  obtain ⟨fd_are_hours, F_are_hours⟩ := L.c.def_ 7 (d := d_are_hours) rfl
  have k_are_hours := ok_are_hours (P := P) (w := w) (base := base) L F_are_hours
  have b_are_hours : Binds K fd_are_hours ["hours", "day"] [] := F_are_hours.bindsN fun _ _ _ _ _ _ us hl => match us, hl with | [_, _], _ => rfl
  refine fn_def F sc_Map_checked rfl (fun cdv A outer s H E hr ds hl => ?_)
  match ds, hl with
  | [self_1, road_1], _ =>
    exact db_G [.bor self_1, .val road_1, .un, .un, .un, .un, .un, .un, .un, .un, .un] rfl <| db_step (fun _ => [.bor self_1, .val road_1, .un, .un, .un, .un, .un, .un, .un, .un, .un]) (ds_expr (de_call ctx_def k_require (hr.mono (by decide)) rfl (L.glo (fa_20)) F_require.kp b_require (dam_bor (DR.of (de_cmp (op_eqD hr.u64) cmp_eq (DR.of (de_callB lenR len_op rfl (L.free (fa_3)) boot_len_ (dra_cons (dr_val (i := 1) rfl (pv 1)) dra_nil))) (DR.of (de_gintE rfl (L.int (fa_19)))) (nomark _))) dam_nil)) (fun pe => ps_expr pe)) (fun _ => rfl) fun _ => db_un6' [2, 3, 4, 5, 6, 7] (fun name_1 start_1 end_1 minutes_1 kinds_1 hours_1 => [.bor self_1, .val road_1, .val name_1, .val start_1, .val end_1, .val minutes_1, .val kinds_1, .val hours_1, .un, .un, .un]) (de_val (i := 1) rfl (pv 1)) rfl (pg_seq rfl (pgs_cons (pg_name (i := 2) sc_Map_checked.nd rfl (Or.inl rfl)) (pgs_cons (pg_name (i := 3) sc_Map_checked.nd rfl (Or.inl rfl)) (pgs_cons (pg_name (i := 4) sc_Map_checked.nd rfl (Or.inl rfl)) (pgs_cons (pg_name (i := 5) sc_Map_checked.nd rfl (Or.inl rfl)) (pgs_cons (pg_name (i := 6) sc_Map_checked.nd rfl (Or.inr rfl)) (pgs_cons (pg_name (i := 7) sc_Map_checked.nd rfl (Or.inl rfl)) pgs_nil))))))) rfl rfl rfl (fun _ _ _ _ _ _ => rfl) fun name_1 start_1 end_1 minutes_1 kinds_1 hours_1 => db_step (fun _ => [.bor self_1, .val road_1, .val name_1, .val start_1, .val end_1, .val minutes_1, .val kinds_1, .val hours_1, .un, .un, .un]) (ds_expr (de_call ctx_def k_require (hr.mono (by decide)) rfl (L.glo (fa_20)) F_require.kp b_require (dam_bor (DR.of (de_and (de_call ctx_def k_is_name (hr.mono (by decide)) rfl (L.glo (fa_23)) F_is_name.kp b_is_name (dam_bor (dr_val (i := 2) rfl (pv 2)) dam_nil)) (de_and (de_cmp (op_inAll hr.u70) cmp_in (dr_val (i := 3) rfl (pv 3)) (DR.of (de_attr (cs := ["Map"]) (f := "places") (by first | exact L.ats (f := "places") ⟨L.cls (fa_12), L.noat (fa_22), True.intro⟩) (dr_bor (i := 0) rfl (pv 0)))) rfl) (de_and (de_cmp (op_inAll hr.u70) cmp_in (dr_val (i := 4) rfl (pv 4)) (DR.of (de_attr (cs := ["Map"]) (f := "places") (by first | exact L.ats (f := "places") ⟨L.cls (fa_12), L.noat (fa_22), True.intro⟩) (dr_bor (i := 0) rfl (pv 0)))) rfl) (de_one (de_chain op_le op_le cmp_le cmp_le (DR.of de_int) (dr_val (i := 5) rfl (pv 5)) (DR.of (de_gintE rfl (L.int (fa_21)))))))))) dam_nil)) (fun pe => ps_expr pe)) (fun _ => rfl) fun _ => db_step (fun _ => [.bor self_1, .val road_1, .val name_1, .val start_1, .val end_1, .val minutes_1, .val kinds_1, .val hours_1, .un, .un, .un]) (ds_expr (de_call ctx_def k_require (hr.mono (by decide)) rfl (L.glo (fa_20)) F_require.kp b_require (dam_bor (DR.of (de_and (de_call ctx_def k_are_different (hr.mono (by decide)) rfl (L.glo (fa_25)) F_are_different.kp b_are_different (dam_frz (de_val (i := 6) rfl (pv 6)) dam_nil)) (de_one (de_callB (cr_all (CtxOk.calm ctx_def)) all_op rfl (L.free (fa_17)) boot_all_ (dra_cons (DR.of (DNL.de (dn_lc1 (own := [("kind", 9)]) (i := 9) (me := fun kind_1 => (C2 D.mem (.ok kind_1) (B1 (D.attrC ["Map"] "kinds") (.ok self_1)))) (CtxOk.calm ctx_def) sc_Map_checked.nd (dir_seq (dr_val (i := 6) rfl (pv 6))) (blkOk_by (by kernel_rfl)) rfl (fun _ _ _ _ _ => pg_name (i := 9) sc_Map_checked.nd rfl (Or.inl rfl)) (fun _ _ _ _ _ kind_1 => (de_cmp (op_inAll hr.u70) cmp_in (dr_val (i := 9) rfl (pv 9)) (DR.of (de_attr (cs := ["Map"]) (f := "kinds") (by first | exact L.ats (f := "kinds") ⟨L.cls (fa_12), L.noat (fa_24), True.intro⟩) (dr_bor (i := 0) rfl (pv 0)))) rfl))))) dra_nil))))) dam_nil)) (fun pe => ps_expr pe)) (fun _ => rfl) fun _ => db_step (fun ordered_1 => [.bor self_1, .val road_1, .val name_1, .val start_1, .val end_1, .val minutes_1, .val kinds_1, .val hours_1, .val ordered_1, .un, .un]) (ds_set (de_callTy call_tuple_of tup_op rfl (L.free (fa_14)) boot_tuple_ (dra_cons (DR.of (DNL.de (dn_lc2 (own := [("kind", 9)]) (i := 9) (mt := fun kind_2 => (B2 D.mem (.ok kind_2) (.ok kinds_1))) (me := fun kind_2 => (.ok kind_2)) (CtxOk.calm ctx_def) sc_Map_checked.nd (dir_seq (DR.of (de_attr (cs := ["Map"]) (f := "kinds") (by first | exact L.ats (f := "kinds") ⟨L.cls (fa_12), L.noat (fa_24), True.intro⟩) (dr_bor (i := 0) rfl (pv 0))))) (blkOk_by (by kernel_rfl)) rfl (fun _ _ _ _ _ => pg_name (i := 9) sc_Map_checked.nd rfl (Or.inl rfl)) (fun _ _ _ _ _ kind_2 => (dt_cmp (op_inAll hr.u70) cmp_in (dr_val (i := 9) rfl (pv 9)) (dr_val (i := 6) rfl (pv 6)) rfl)) (fun _ _ _ _ _ kind_2 => (de_val (i := 9) rfl (pv 9)))))) dra_nil)) (fun pe => ps_set (i := 8) sc_Map_checked.nd rfl (Or.inl rfl) pe)) (fun _ => rfl) fun ordered_1 => db_ifr (dt_cmp op_isN cmp_isN (dr_val (i := 7) rfl (pv 7)) (DR.of de_non) (nomark _)) (db_last (ds_ret (de_tup (da_cons (de_val (i := 2) rfl (pv 2)) (da_cons (de_val (i := 3) rfl (pv 3)) (da_cons (de_val (i := 4) rfl (pv 4)) (da_cons (de_val (i := 5) rfl (pv 5)) (da_cons (de_val (i := 8) rfl (pv 8)) (da_cons de_non da_nil))))))))) (db_step (fun _ => [.bor self_1, .val road_1, .val name_1, .val start_1, .val end_1, .val minutes_1, .val kinds_1, .val hours_1, .val ordered_1, .un, .un]) (ds_expr (de_call ctx_def k_require (hr.mono (by decide)) rfl (L.glo (fa_20)) F_require.kp b_require (dam_bor (DR.of (de_and (de_callB (cr_all (CtxOk.calm ctx_def)) all_op rfl (L.free (fa_17)) boot_all_ (dra_cons (DR.of (DNL.de (dn_lc1 (own := [("pair", 10)]) (i := 10) (me := fun pair_1 => (C2 D.eq (B1 (f1 D.len) (A1 (.ok pair_1) A0)) (.ok (.int 2)))) (CtxOk.calm ctx_def) sc_Map_checked.nd (dir_seq (dr_val (i := 7) rfl (pv 7))) (blkOk_by (by kernel_rfl)) rfl (fun _ _ _ _ _ => pg_name (i := 10) sc_Map_checked.nd rfl (Or.inl rfl)) (fun _ _ _ _ _ pair_1 => (de_cmp (op_eqD hr.u64) cmp_eq (DR.of (de_callB lenR len_op rfl (L.free (fa_3)) boot_len_ (dra_cons (dr_val (i := 10) rfl (pv 10)) dra_nil))) (DR.of de_int) (nomark _)))))) dra_nil)) (de_one (de_call ctx_def k_are_hours (hr.mono (by decide)) rfl (L.glo (fa_27)) F_are_hours.kp b_are_hours (dam_frz (de_val (i := 7) rfl (pv 7)) (dam_bor (DR.of (de_attr (cs := ["Map"]) (f := "day") (by first | exact L.ats (f := "day") ⟨L.cls (fa_12), L.noat (fa_26), True.intro⟩) (dr_bor (i := 0) rfl (pv 0)))) dam_nil)))))) dam_nil)) (fun pe => ps_expr pe)) (fun _ => rfl) fun _ => db_last (ds_ret (de_tup (da_cons (de_val (i := 2) rfl (pv 2)) (da_cons (de_val (i := 3) rfl (pv 3)) (da_cons (de_val (i := 4) rfl (pv 4)) (da_cons (de_val (i := 5) rfl (pv 5)) (da_cons (de_val (i := 8) rfl (pv 8)) (da_cons (de_callTy call_tuple_of tup_op rfl (L.free (fa_14)) boot_tuple_ (dra_cons (DR.of (DNL.de (dn_lc1 (own := [("pair", 10)]) (i := 10) (me := fun pair_2 => (B1 (f1 D.toTup) (A1 (.ok pair_2) A0))) (CtxOk.calm ctx_def) sc_Map_checked.nd (dir_seq (dr_val (i := 7) rfl (pv 7))) (blkOk_by (by kernel_rfl)) rfl (fun _ _ _ _ _ => pg_name (i := 10) sc_Map_checked.nd rfl (Or.inl rfl)) (fun _ _ _ _ _ pair_2 => (de_callTy call_tuple_of tup_op rfl (L.free (fa_14)) boot_tuple_ (dra_cons (dr_val (i := 10) rfl (pv 10)) dra_nil)))))) dra_nil)) da_nil)))))))))
def m_Map_road_l1 (name_1 : D) : (Unit) → D → M (Rs (Unit)) := fun _ road_1 => (mIf (B2 D.eq (B2 D.ix (.ok road_1) (.ok (.int 0))) (.ok name_1)) ((.ok road_1) >>= fun d => .ok (.rt d)) (.ok (.go ())))
def g_Map_road : D → D → M (D) := fun self_1 name_1 => (((B1 D.items (B1 (D.attrC ["Map", "Paper"] "roads") (.ok self_1))) >>= fun ds => loopR (m_Map_road_l1 name_1) ds ()) >>= fun r => sFin r (fun _ => (mExc1 "UnknownName" "name" (.ok name_1))))
def m_Map_road : List D → M (D) := a2 g_Map_road
theorem sc_Map_road : FnScope ["self", "name", "road"] ["self", "name"] (d_Map_road).scope := ⟨rfl, rfl, rfl, by decide +kernel, rfl, by decide +kernel, by decide +kernel⟩
theorem ok_Map_road {P : Program} {w : World} {K : PySem.W.Frag} {mg : Str → Option Value} {base : Heap} (L : Lw P K mg) {fd : FuncData} (F : DefOk K d_Map_road fd) : FnOk P w K mg base (L2.CX P w) 2 (He.fAd K d_Map_road.at_) fd ["self", "name"] (spD K [true, false] m_Map_road) := by
  refine fn_def F sc_Map_road rfl (fun cdv A outer s H E hr ds hl => ?_)
  match ds, hl with
  | [self_1, name_1], _ =>
    exact db_G [.bor self_1, .val name_1, .un] rfl <| db_any 2 <| db_sumF (ds_for1R (i := 2) (S := Unit) (Γ := (fun (s : Unit) => [.bor self_1, .val name_1, .any])) (f := (m_Map_road_l1 name_1)) () rfl ctx_def (di_seq (de_attr (cs := ["Map", "Paper"]) (f := "roads") (by first | exact L.ats (f := "roads") ⟨L.cls (fa_12), L.noat (fa_13), ⟨L.cls (fa_10), L.noat (fa_11), True.intro⟩⟩) (dr_bor (i := 0) rfl (pv 0)))) (pg_name (i := 2) sc_Map_road.nd rfl (Or.inl rfl)) (fun _ road_1 => db_G [.bor self_1, .val name_1, .val road_1] rfl <| db_last (ds_if (dt_cmp (op_eqD hr.u64) cmp_eq (DR.of (de_ix hr.u70 (dr_val (i := 2) rfl (pv 2)) (DR.of de_int))) (dr_val (i := 1) rfl (pv 1)) (nomark _)) (db_map Rx.rt (db_last (ds_ret (de_val (i := 2) rfl (pv 2)))) (fun _ => rfl)) (db_any 2 <| db_nil rfl)))) (fun _ => db_G [.bor self_1, .val name_1, .any] rfl <| db_last (ds_raise1 (c := "UnknownName") (f := "name") rfl takes_def (sup_UnknownName L) (hr.mono (by decide)) (L.glo (fa_28)) rfl (de_val (i := 1) rfl (pv 1))))
def g_Map_checked_bar : D → D → M (D) := fun self_1 bar_1 => ((B1 m_require (A1 (vAnd (C2 D.eq (B1 (f1 D.len) (A1 (.ok bar_1) A0)) (.ok (.int 2))) (vAnd (C2 D.mem (B2 D.ix (.ok bar_1) (.ok (.int 0))) (mProp "Map" m_Map_road_names (.ok self_1))) (C2 D.mem (B2 D.ix (.ok bar_1) (.ok (.int 1))) (mProp "Map" m_Map_road_names (.ok self_1))))) A0)) >>= fun _ => ((B1 m_require (A1 (C2 D.eq (B2 D.ix (mMeth "Map" "road" m_Map_road (.ok self_1) (A1 (B2 D.ix (.ok bar_1) (.ok (.int 0))) A0)) (.ok (.int 2))) (B2 D.ix (mMeth "Map" "road" m_Map_road (.ok self_1) (A1 (B2 D.ix (.ok bar_1) (.ok (.int 1))) A0)) (.ok (.int 1)))) A0)) >>= fun _ => (B1 (f1 D.toTup) (A1 (.ok bar_1) A0))))
def m_Map_checked_bar : List D → M (D) := a2 g_Map_checked_bar
theorem sc_Map_checked_bar : FnScope ["self", "bar"] ["self", "bar"] (d_Map_checked_bar).scope := ⟨rfl, rfl, rfl, by decide +kernel, rfl, by decide +kernel, by decide +kernel⟩
theorem ok_Map_checked_bar {P : Program} {w : World} {K : PySem.W.Frag} {mg : Str → Option Value} {base : Heap} (L : Lw P K mg) {fd : FuncData} (F : DefOk K d_Map_checked_bar fd) : FnOk P w K mg base (L2.CX P w) 3 (He.fAd K d_Map_checked_bar.at_) fd ["self", "bar"] (spD K [true, true] m_Map_checked_bar) := by
  obtain ⟨fd_require, F_require⟩ := L.c.def_ 3 (d := d_require) rfl
  have k_require := ok_require (P := P) (w := w) (base := base) L F_require
  have b_require : Binds K fd_require ["holds"] [] := F_require.bindsN fun _ _ _ _ _ _ us hl => match us, hl with | [_], _ => rfl
  obtain ⟨fd_Map_road_names, F_Map_road_names⟩ := L.s.get 0 (d := d_Map_road_names) rfl
  have k_Map_road_names := ok_Map_road_names (P := P) (w := w) (base := base) L F_Map_road_names
  have b_Map_road_names : Binds K fd_Map_road_names ["self"] [] := F_Map_road_names.bindsN fun _ _ _ _ _ _ us hl => match us, hl with | [_], _ => rfl
  obtain ⟨fd_Map_road, F_Map_road⟩ := L.c.def_ 9 (d := d_Map_road) rfl
  have k_Map_road := ok_Map_road (P := P) (w := w) (base := base) L F_Map_road
  have b_Map_road : Binds K fd_Map_road ["self", "name"] [] := F_Map_road.bindsN fun _ _ _ _ _ _ us hl => match us, hl with | [_, _], _ => rfl
  refine fn_def F sc_Map_checked_bar rfl (fun cdv A outer s H E hr ds hl => ?_)
  match ds, hl with
  | [self_1, bar_1], _ =>
    exact db_G [.bor self_1, .bor bar_1] rfl <| db_step (fun _ => [.bor self_1, .bor bar_1]) (ds_expr (de_call ctx_def k_require (hr.mono (by decide)) rfl (L.glo (fa_20)) F_require.kp b_require (dam_bor (DR.of (de_and (de_cmp (op_eqD hr.u64) cmp_eq (DR.of (de_callB lenR len_op rfl (L.free (fa_3)) boot_len_ (dra_cons (dr_bor (i := 1) rfl (pv 1)) dra_nil))) (DR.of de_int) (nomark _)) (de_and (de_cmp (op_inAll hr.u70) cmp_in (DR.of (de_ix hr.u70 (dr_bor (i := 1) rfl (pv 1)) (DR.of de_int))) (DR.of (de_propX (c := "Map") (f := "road_names") (L.cls (fa_12)) (L.prop (c := "Map") (f := "road_names") (by decide)) k_Map_road_names (hr.mono (by decide)) b_Map_road_names (dr_bor (i := 0) rfl (pv 0)))) rfl) (de_one (de_cmp (op_inAll hr.u70) cmp_in (DR.of (de_ix hr.u70 (dr_bor (i := 1) rfl (pv 1)) (DR.of de_int))) (DR.of (de_propX (c := "Map") (f := "road_names") (L.cls (fa_12)) (L.prop (c := "Map") (f := "road_names") (by decide)) k_Map_road_names (hr.mono (by decide)) b_Map_road_names (dr_bor (i := 0) rfl (pv 0)))) rfl))))) dam_nil)) (fun pe => ps_expr pe)) (fun _ => rfl) fun _ => db_step (fun _ => [.bor self_1, .bor bar_1]) (ds_expr (de_call ctx_def k_require (hr.mono (by decide)) rfl (L.glo (fa_20)) F_require.kp b_require (dam_bor (DR.of (de_cmp (op_eqD hr.u64) cmp_eq (DR.of (de_ix hr.u70 (DR.of (de_meth (c := "Map") (mn := "road") ctx_def (L.cls (fa_12)) (L.meth (fa_29)) k_Map_road (hr.mono (by decide)) b_Map_road (dr_bor (i := 0) rfl (pv 0)) (dam_frz (de_ix hr.u70 (dr_bor (i := 1) rfl (pv 1)) (DR.of de_int)) dam_nil))) (DR.of de_int))) (DR.of (de_ix hr.u70 (DR.of (de_meth (c := "Map") (mn := "road") ctx_def (L.cls (fa_12)) (L.meth (fa_29)) k_Map_road (hr.mono (by decide)) b_Map_road (dr_bor (i := 0) rfl (pv 0)) (dam_frz (de_ix hr.u70 (dr_bor (i := 1) rfl (pv 1)) (DR.of de_int)) dam_nil))) (DR.of de_int))) (nomark _))) dam_nil)) (fun pe => ps_expr pe)) (fun _ => rfl) fun _ => db_last (ds_ret (de_callTy call_tuple_of tup_op rfl (L.free (fa_14)) boot_tuple_ (dra_cons (dr_bor (i := 1) rfl (pv 1)) dra_nil)))
def g_Map_init : D → D → D → D → D → M (List (String × D)) := fun day_1 kinds_1 places_1 roads_1 bars_1 => ((B1 m_require (A1 (C3 D.le D.le (.ok (.int 1)) (.ok day_1) (.ok (.int 1440))) A0)) >>= fun _ => ((B1 m_require (A1 (vAnd (C2 D.le (B1 (f1 D.len) (A1 (.ok places_1) A0)) (.ok (.int 30))) (vAnd (B1 m_are_different (A1 (.ok places_1) A0)) (B1 (f1 D.all) (A1 (L1 ((B1 D.items (.ok places_1)) >>= fun ds => compL (fElt noT (fun place_1 => (B1 m_is_name (A1 (.ok place_1) A0)))) ds)) A0)))) A0)) >>= fun _ => ((B1 m_require (A1 (vAnd (C3 D.le D.le (.ok (.int 1)) (B1 (f1 D.len) (A1 (.ok kinds_1) A0)) (.ok (.int 4))) (vAnd (B1 m_are_different (A1 (.ok kinds_1) A0)) (B1 (f1 D.all) (A1 (L1 ((B1 D.items (.ok kinds_1)) >>= fun ds => compL (fElt noT (fun kind_1 => (B1 m_is_name (A1 (.ok kind_1) A0)))) ds)) A0)))) A0)) >>= fun _ => (mField "day" [] (.ok day_1) >>= fun flds_1 => (mField "places" flds_1 (B1 (f1 D.toTup) (A1 (B1 (f1 D.sorted) (A1 (.ok places_1) A0)) A0)) >>= fun flds_2 => (mField "kinds" flds_2 (B1 (f1 D.toTup) (A1 (B1 (f1 D.sorted) (A1 (.ok kinds_1) A0)) A0)) >>= fun flds_3 => ((B1 m_require (A1 (C2 D.le (B1 (f1 D.len) (A1 (.ok roads_1) A0)) (.ok (.int 60))) A0)) >>= fun _ => (mField "roads" flds_3 (B1 (f1 D.toTup) (A1 (B1 D.sortedK0 (L1 ((B1 D.items (.ok roads_1)) >>= fun ds => compL (fElt noT (fun road_1 => (mMeth "Map" "checked" m_Map_checked (.ok (.ins "Map" flds_3)) (A1 (.ok road_1) A0)))) ds))) A0)) >>= fun flds_4 => ((B1 m_require (A1 (B1 m_are_different (A1 (mProp "Map" m_Map_road_names (.ok (.ins "Map" flds_4))) A0)) A0)) >>= fun _ => ((B1 m_require (A1 (C2 D.le (B1 (f1 D.len) (A1 (.ok bars_1) A0)) (.ok (.int 40))) A0)) >>= fun _ => (mField "bars" flds_4 (B1 (f1 D.toTup) (A1 (B1 (f1 D.sorted) (A1 (L1 ((B1 D.items (.ok bars_1)) >>= fun ds => compL (fElt noT (fun bar_1 => (mMeth "Map" "checked_bar" m_Map_checked_bar (.ok (.ins "Map" flds_4)) (A1 (.ok bar_1) A0)))) ds)) A0)) A0)) >>= fun flds_5 => ((B1 m_require (A1 (B1 m_are_different (A1 (B1 (D.attrC ["Map"] "bars") (.ok (.ins "Map" flds_5))) A0)) A0)) >>= fun _ => (.ok flds_5)))))))))))))
def m_Map_init : List D → M (List (String × D)) := a5 g_Map_init
theorem sc_Map_init : FnScope ["self", "day", "kinds", "places", "roads", "bars", "road", "bar", "place", "kind"] ["self", "day", "kinds", "places", "roads", "bars"] (d_Map_init).scope := ⟨rfl, rfl, rfl, by decide +kernel, rfl, by decide +kernel, by decide +kernel⟩
theorem ok_Map_init {P : Program} {w : World} {K : PySem.W.Frag} {mg : Str → Option Value} {base : Heap} (L : Lw P K mg) {fd : FuncData} (F : DefOk K d_Map_init fd) : FnOk P w K mg base (L2.CX P w) 4 (He.fAd K d_Map_init.at_) fd ["self", "day", "kinds", "places", "roads", "bars"] (spI K "Map" [false, false, false, true, true] m_Map_init) := by
  obtain ⟨fd_require, F_require⟩ := L.c.def_ 3 (d := d_require) rfl
  have k_require := ok_require (P := P) (w := w) (base := base) L F_require
  have b_require : Binds K fd_require ["holds"] [] := F_require.bindsN fun _ _ _ _ _ _ us hl => match us, hl with | [_], _ => rfl
  obtain ⟨fd_is_name, F_is_name⟩ := L.c.def_ 6 (d := d_is_name) rfl
  have k_is_name := ok_is_name (P := P) (w := w) (base := base) L F_is_name
  have b_is_name : Binds K fd_is_name ["text"] [] := F_is_name.bindsN fun _ _ _ _ _ _ us hl => match us, hl with | [_], _ => rfl
  obtain ⟨fd_are_different, F_are_different⟩ := L.c.def_ 5 (d := d_are_different) rfl
  have k_are_different := ok_are_different (P := P) (w := w) (base := base) L F_are_different
  have b_are_different : Binds K fd_are_different ["parts"] [] := F_are_different.bindsN fun _ _ _ _ _ _ us hl => match us, hl with | [_], _ => rfl
  obtain ⟨fd_name_of, F_name_of⟩ := L.c.def_ 4 (d := d_name_of) rfl
  have k_name_of := ok_name_of (P := P) (w := w) (base := base) L F_name_of
  have b_name_of : Binds K fd_name_of ["road"] [] := F_name_of.bindsN fun _ _ _ _ _ _ us hl => match us, hl with | [_], _ => rfl
  obtain ⟨fd_Map_checked, F_Map_checked⟩ := L.c.def_ 8 (d := d_Map_checked) rfl
  have k_Map_checked := ok_Map_checked (P := P) (w := w) (base := base) L F_Map_checked
  have b_Map_checked : Binds K fd_Map_checked ["self", "road"] [] := F_Map_checked.bindsN fun _ _ _ _ _ _ us hl => match us, hl with | [_, _], _ => rfl
  obtain ⟨fd_Map_road_names, F_Map_road_names⟩ := L.s.get 0 (d := d_Map_road_names) rfl
  have k_Map_road_names := ok_Map_road_names (P := P) (w := w) (base := base) L F_Map_road_names
  have b_Map_road_names : Binds K fd_Map_road_names ["self"] [] := F_Map_road_names.bindsN fun _ _ _ _ _ _ us hl => match us, hl with | [_], _ => rfl
  obtain ⟨fd_Map_checked_bar, F_Map_checked_bar⟩ := L.c.def_ 10 (d := d_Map_checked_bar) rfl
  have k_Map_checked_bar := ok_Map_checked_bar (P := P) (w := w) (base := base) L F_Map_checked_bar
  have b_Map_checked_bar : Binds K fd_Map_checked_bar ["self", "bar"] [] := F_Map_checked_bar.bindsN fun _ _ _ _ _ _ us hl => match us, hl with | [_, _], _ => rfl
  refine fn_init (c := "Map") F sc_Map_init rfl (by decide) (fun cdv A outer s H E hr sf ds hl => ?_)
  match ds, hl with
  | [day_1, kinds_1, places_1, roads_1, bars_1], _ =>
    exact db_G [.obj sf "Map" [], .val day_1, .val kinds_1, .val places_1, .bor roads_1, .bor bars_1, .un, .un, .un, .un] rfl <| db_step (fun _ => [.obj sf "Map" [], .val day_1, .val kinds_1, .val places_1, .bor roads_1, .bor bars_1, .un, .un, .un, .un]) (ds_expr (de_call ctx_def k_require (hr.mono (by decide)) rfl (L.glo (fa_20)) F_require.kp b_require (dam_bor (DR.of (de_chain op_le op_le cmp_le cmp_le (DR.of de_int) (dr_val (i := 1) rfl (pv 1)) (DR.of (de_gintE rfl (L.int (fa_30)))))) dam_nil)) (fun pe => ps_expr pe)) (fun _ => rfl) fun _ => db_step (fun _ => [.obj sf "Map" [], .val day_1, .val kinds_1, .val places_1, .bor roads_1, .bor bars_1, .un, .un, .un, .un]) (ds_expr (de_call ctx_def k_require (hr.mono (by decide)) rfl (L.glo (fa_20)) F_require.kp b_require (dam_bor (DR.of (de_and (de_cmp op_le cmp_le (DR.of (de_callB lenR len_op rfl (L.free (fa_3)) boot_len_ (dra_cons (dr_val (i := 3) rfl (pv 3)) dra_nil))) (DR.of (de_gintE rfl (L.int (fa_31)))) (nomark _)) (de_and (de_call ctx_def k_are_different (hr.mono (by decide)) rfl (L.glo (fa_25)) F_are_different.kp b_are_different (dam_frz (de_val (i := 3) rfl (pv 3)) dam_nil)) (de_one (de_callB (cr_all (CtxOk.calm ctx_def)) all_op rfl (L.free (fa_17)) boot_all_ (dra_cons (DR.of (DNL.de (dn_lc1 (own := [("place", 8)]) (i := 8) (me := fun place_1 => (B1 m_is_name (A1 (.ok place_1) A0))) (CtxOk.calm ctx_def) sc_Map_init.nd (dir_seq (dr_val (i := 3) rfl (pv 3))) (blkOk_by (by kernel_rfl)) rfl (fun _ _ _ _ _ => pg_name (i := 8) sc_Map_init.nd rfl (Or.inl rfl)) (fun _ _ _ _ _ place_1 => (de_call (CtxOk.blk ctx_def) k_is_name (hr.mono (by decide)) rfl (L.glo (fa_23)) F_is_name.kp b_is_name (dam_bor (dr_val (i := 8) rfl (pv 8)) dam_nil)))))) dra_nil)))))) dam_nil)) (fun pe => ps_expr pe)) (fun _ => rfl) fun _ => db_step (fun _ => [.obj sf "Map" [], .val day_1, .val kinds_1, .val places_1, .bor roads_1, .bor bars_1, .un, .un, .un, .un]) (ds_expr (de_call ctx_def k_require (hr.mono (by decide)) rfl (L.glo (fa_20)) F_require.kp b_require (dam_bor (DR.of (de_and (de_chain op_le op_le cmp_le cmp_le (DR.of de_int) (DR.of (de_callB lenR len_op rfl (L.free (fa_3)) boot_len_ (dra_cons (dr_val (i := 2) rfl (pv 2)) dra_nil))) (DR.of (de_gintE rfl (L.int (fa_32))))) (de_and (de_call ctx_def k_are_different (hr.mono (by decide)) rfl (L.glo (fa_25)) F_are_different.kp b_are_different (dam_frz (de_val (i := 2) rfl (pv 2)) dam_nil)) (de_one (de_callB (cr_all (CtxOk.calm ctx_def)) all_op rfl (L.free (fa_17)) boot_all_ (dra_cons (DR.of (DNL.de (dn_lc1 (own := [("kind", 9)]) (i := 9) (me := fun kind_1 => (B1 m_is_name (A1 (.ok kind_1) A0))) (CtxOk.calm ctx_def) sc_Map_init.nd (dir_seq (dr_val (i := 2) rfl (pv 2))) (blkOk_by (by kernel_rfl)) rfl (fun _ _ _ _ _ => pg_name (i := 9) sc_Map_init.nd rfl (Or.inl rfl)) (fun _ _ _ _ _ kind_1 => (de_call (CtxOk.blk ctx_def) k_is_name (hr.mono (by decide)) rfl (L.glo (fa_23)) F_is_name.kp b_is_name (dam_bor (dr_val (i := 9) rfl (pv 9)) dam_nil)))))) dra_nil)))))) dam_nil)) (fun pe => ps_expr pe)) (fun _ => rfl) fun _ => db_step (fun flds_1 => [.obj sf "Map" flds_1, .val day_1, .val kinds_1, .val places_1, .bor roads_1, .bor bars_1, .un, .un, .un, .un]) (ds_fieldO (f := "day") (i := 0) rfl (pv 0) ⟨L.cls (fa_12), L.noat (fa_26)⟩ (de_val (i := 1) rfl (pv 1)) rfl) (fun _ => rfl) fun flds_1 => db_step (fun flds_2 => [.obj sf "Map" flds_2, .val day_1, .val kinds_1, .val places_1, .bor roads_1, .bor bars_1, .un, .un, .un, .un]) (ds_fieldO (f := "places") (i := 0) rfl (pv 0) ⟨L.cls (fa_12), L.noat (fa_22)⟩ (de_callTy call_tuple_of tup_op rfl (L.free (fa_14)) boot_tuple_ (dra_cons (DR.of (de_callB (cr_sortD hr.u70) sorted_op rfl (L.free (fa_33)) boot_sorted_ (dra_cons (dr_val (i := 3) rfl (pv 3)) dra_nil))) dra_nil)) rfl) (fun _ => rfl) fun flds_2 => db_step (fun flds_3 => [.obj sf "Map" flds_3, .val day_1, .val kinds_1, .val places_1, .bor roads_1, .bor bars_1, .un, .un, .un, .un]) (ds_fieldO (f := "kinds") (i := 0) rfl (pv 0) ⟨L.cls (fa_12), L.noat (fa_24)⟩ (de_callTy call_tuple_of tup_op rfl (L.free (fa_14)) boot_tuple_ (dra_cons (DR.of (de_callB (cr_sortD hr.u70) sorted_op rfl (L.free (fa_33)) boot_sorted_ (dra_cons (dr_val (i := 2) rfl (pv 2)) dra_nil))) dra_nil)) rfl) (fun _ => rfl) fun flds_3 => db_step (fun _ => [.obj sf "Map" flds_3, .val day_1, .val kinds_1, .val places_1, .bor roads_1, .bor bars_1, .un, .un, .un, .un]) (ds_expr (de_call ctx_def k_require (hr.mono (by decide)) rfl (L.glo (fa_20)) F_require.kp b_require (dam_bor (DR.of (de_cmp op_le cmp_le (DR.of (de_callB lenR len_op rfl (L.free (fa_3)) boot_len_ (dra_cons (dr_bor (i := 4) rfl (pv 4)) dra_nil))) (DR.of (de_gintE rfl (L.int (fa_34)))) (nomark _))) dam_nil)) (fun pe => ps_expr pe)) (fun _ => rfl) fun _ => db_step (fun flds_4 => [.obj sf "Map" flds_4, .val day_1, .val kinds_1, .val places_1, .bor roads_1, .bor bars_1, .un, .un, .un, .un]) (ds_fieldO (f := "roads") (i := 0) rfl (pv 0) ⟨L.cls (fa_12), L.noat (fa_13)⟩ (de_callTy call_tuple_of tup_op rfl (L.free (fa_14)) boot_tuple_ (dra_cons (DR.of (de_sortK0 (cr_sortK0 F_name_of sc_name_of (by decide +kernel) (by decide) b_name_of hr.depth hr.u70) rfl (L.free (fa_33)) (pe_cls_ rfl (L.glo (fa_36))) (DR.of (DNL.de (dn_lc1 (own := [("road", 6)]) (i := 6) (me := fun road_1 => (mMeth "Map" "checked" m_Map_checked (.ok (.ins "Map" flds_3)) (A1 (.ok road_1) A0))) (CtxOk.calm ctx_def) sc_Map_init.nd (dir_seq (dr_bor (i := 4) rfl (pv 4))) (blkOk_by (by kernel_rfl)) rfl (fun _ _ _ _ _ => pg_name (i := 6) sc_Map_init.nd rfl (Or.inl rfl)) (fun _ _ _ _ _ road_1 => (de_meth (c := "Map") (mn := "checked") (CtxOk.blk ctx_def) (L.cls (fa_12)) (L.meth (fa_35)) k_Map_checked (hr.mono (by decide)) b_Map_checked (dr_obj (i := 0) rfl (pv 0)) (dam_frz (de_val (i := 6) rfl (pv 6)) dam_nil)))))))) dra_nil)) rfl) (fun _ => rfl) fun flds_4 => db_step (fun _ => [.obj sf "Map" flds_4, .val day_1, .val kinds_1, .val places_1, .bor roads_1, .bor bars_1, .un, .un, .un, .un]) (ds_expr (de_call ctx_def k_require (hr.mono (by decide)) rfl (L.glo (fa_20)) F_require.kp b_require (dam_bor (DR.of (de_call ctx_def k_are_different (hr.mono (by decide)) rfl (L.glo (fa_25)) F_are_different.kp b_are_different (dam_frz (de_propX (c := "Map") (f := "road_names") (L.cls (fa_12)) (L.prop (c := "Map") (f := "road_names") (by decide)) k_Map_road_names (hr.mono (by decide)) b_Map_road_names (dr_obj (i := 0) rfl (pv 0))) dam_nil))) dam_nil)) (fun pe => ps_expr pe)) (fun _ => rfl) fun _ => db_step (fun _ => [.obj sf "Map" flds_4, .val day_1, .val kinds_1, .val places_1, .bor roads_1, .bor bars_1, .un, .un, .un, .un]) (ds_expr (de_call ctx_def k_require (hr.mono (by decide)) rfl (L.glo (fa_20)) F_require.kp b_require (dam_bor (DR.of (de_cmp op_le cmp_le (DR.of (de_callB lenR len_op rfl (L.free (fa_3)) boot_len_ (dra_cons (dr_bor (i := 5) rfl (pv 5)) dra_nil))) (DR.of (de_gintE rfl (L.int (fa_37)))) (nomark _))) dam_nil)) (fun pe => ps_expr pe)) (fun _ => rfl) fun _ => db_step (fun flds_5 => [.obj sf "Map" flds_5, .val day_1, .val kinds_1, .val places_1, .bor roads_1, .bor bars_1, .un, .un, .un, .un]) (ds_fieldO (f := "bars") (i := 0) rfl (pv 0) ⟨L.cls (fa_12), L.noat (fa_39)⟩ (de_callTy call_tuple_of tup_op rfl (L.free (fa_14)) boot_tuple_ (dra_cons (DR.of (de_callB (cr_sortD hr.u70) sorted_op rfl (L.free (fa_33)) boot_sorted_ (dra_cons (DR.of (DNL.de (dn_lc1 (own := [("bar", 7)]) (i := 7) (me := fun bar_1 => (mMeth "Map" "checked_bar" m_Map_checked_bar (.ok (.ins "Map" flds_4)) (A1 (.ok bar_1) A0))) (CtxOk.calm ctx_def) sc_Map_init.nd (dir_seq (dr_bor (i := 5) rfl (pv 5))) (blkOk_by (by kernel_rfl)) rfl (fun _ _ _ _ _ => pg_name (i := 7) sc_Map_init.nd rfl (Or.inl rfl)) (fun _ _ _ _ _ bar_1 => (de_meth (c := "Map") (mn := "checked_bar") (CtxOk.blk ctx_def) (L.cls (fa_12)) (L.meth (fa_38)) k_Map_checked_bar (hr.mono (by decide)) b_Map_checked_bar (dr_obj (i := 0) rfl (pv 0)) (dam_bor (dr_val (i := 7) rfl (pv 7)) dam_nil)))))) dra_nil))) dra_nil)) rfl) (fun _ => rfl) fun flds_5 => db_step (fun _ => [.obj sf "Map" flds_5, .val day_1, .val kinds_1, .val places_1, .bor roads_1, .bor bars_1, .un, .un, .un, .un]) (ds_expr (de_call ctx_def k_require (hr.mono (by decide)) rfl (L.glo (fa_20)) F_require.kp b_require (dam_bor (DR.of (de_call ctx_def k_are_different (hr.mono (by decide)) rfl (L.glo (fa_25)) F_are_different.kp b_are_different (dam_frz (de_attr (cs := ["Map"]) (f := "bars") (by first | exact L.ats (f := "bars") ⟨L.cls (fa_12), L.noat (fa_39), True.intro⟩) (dr_obj (i := 0) rfl (pv 0))) dam_nil))) dam_nil)) (fun pe => ps_expr pe)) (fun _ => rfl) fun _ => db_any 1 <| db_any 2 <| db_any 3 <| db_any 4 <| db_any 5 <| db_any 6 <| db_any 7 <| db_any 8 <| db_any 9 <| db_nil rfl
def g_check_kind : D → D → M (Option D) := fun chart_1 kind_1 => (mIf (B2 D.nmem (.ok kind_1) (B1 (D.attrC ["Map"] "kinds") (.ok chart_1))) (mExc1 "UnknownName" "name" (.ok kind_1)) (.ok none))
def m_check_kind : List D → M D := fun ds => orNon (a2 g_check_kind ds)
theorem sc_check_kind : FnScope ["chart", "kind"] ["chart", "kind"] (d_check_kind).scope := ⟨rfl, rfl, rfl, by decide +kernel, rfl, by decide +kernel, by decide +kernel⟩
theorem ok_check_kind {P : Program} {w : World} {K : PySem.W.Frag} {mg : Str → Option Value} {base : Heap} (L : Lw P K mg) {fd : FuncData} (F : DefOk K d_check_kind fd) : FnOk P w K mg base (L2.CX P w) 2 (He.fAd K d_check_kind.at_) fd ["chart", "kind"] (spD K [true, false] m_check_kind) := by
  refine fn_defN F sc_check_kind rfl (fun cdv A outer s H E hr ds hl => ?_)
  match ds, hl with
  | [chart_1, kind_1], _ =>
    exact db_G [.bor chart_1, .val kind_1] rfl <| db_last (ds_if (dt_cmp (rNinAll_op hr.u70) cmp_nin (dr_val (i := 1) rfl (pv 1)) (DR.of (de_attr (cs := ["Map"]) (f := "kinds") (by first | exact L.ats (f := "kinds") ⟨L.cls (fa_12), L.noat (fa_24), True.intro⟩) (dr_bor (i := 0) rfl (pv 0)))) rfl) (db_last (ds_raise1 (c := "UnknownName") (f := "name") rfl takes_def (sup_UnknownName L) (hr.mono (by decide)) (L.glo (fa_28)) rfl (de_val (i := 1) rfl (pv 1)))) (db_end rfl))
def g_Map_check_place : D → D → M (Option D) := fun self_1 place_1 => (mIf (B2 D.nmem (.ok place_1) (B1 (D.attrC ["Map"] "places") (.ok self_1))) (mExc1 "UnknownName" "name" (.ok place_1)) (.ok none))
def m_Map_check_place : List D → M D := fun ds => orNon (a2 g_Map_check_place ds)
theorem sc_Map_check_place : FnScope ["self", "place"] ["self", "place"] (d_Map_check_place).scope := ⟨rfl, rfl, rfl, by decide +kernel, rfl, by decide +kernel, by decide +kernel⟩
theorem ok_Map_check_place {P : Program} {w : World} {K : PySem.W.Frag} {mg : Str → Option Value} {base : Heap} (L : Lw P K mg) {fd : FuncData} (F : DefOk K d_Map_check_place fd) : FnOk P w K mg base (L2.CX P w) 2 (He.fAd K d_Map_check_place.at_) fd ["self", "place"] (spD K [true, false] m_Map_check_place) := by
  refine fn_defN F sc_Map_check_place rfl (fun cdv A outer s H E hr ds hl => ?_)
  match ds, hl with
  | [self_1, place_1], _ =>
    exact db_G [.bor self_1, .val place_1] rfl <| db_last (ds_if (dt_cmp (rNinAll_op hr.u70) cmp_nin (dr_val (i := 1) rfl (pv 1)) (DR.of (de_attr (cs := ["Map"]) (f := "places") (by first | exact L.ats (f := "places") ⟨L.cls (fa_12), L.noat (fa_22), True.intro⟩) (dr_bor (i := 0) rfl (pv 0)))) rfl) (db_last (ds_raise1 (c := "UnknownName") (f := "name") rfl takes_def (sup_UnknownName L) (hr.mono (by decide)) (L.glo (fa_28)) rfl (de_val (i := 1) rfl (pv 1)))) (db_end rfl))
def g_check_trip : D → D → D → M (Option D) := fun chart_1 kind_1 start_1 => ((B1 m_check_kind (A1 (.ok chart_1) (A1 (.ok kind_1) A0))) >>= fun _ => ((mMeth "Map" "check_place" m_Map_check_place (.ok chart_1) (A1 (.ok start_1) A0)) >>= fun _ => (.ok none)))
def m_check_trip : List D → M D := fun ds => orNon (a3 g_check_trip ds)
theorem sc_check_trip : FnScope ["chart", "kind", "start"] ["chart", "kind", "start"] (d_check_trip).scope := ⟨rfl, rfl, rfl, by decide +kernel, rfl, by decide +kernel, by decide +kernel⟩
theorem ok_check_trip {P : Program} {w : World} {K : PySem.W.Frag} {mg : Str → Option Value} {base : Heap} (L : Lw P K mg) {fd : FuncData} (F : DefOk K d_check_trip fd) : FnOk P w K mg base (L2.CX P w) 3 (He.fAd K d_check_trip.at_) fd ["chart", "kind", "start"] (spD K [true, false, false] m_check_trip) := by
  obtain ⟨fd_check_kind, F_check_kind⟩ := L.c.def_ 12 (d := d_check_kind) rfl
  have k_check_kind := ok_check_kind (P := P) (w := w) (base := base) L F_check_kind
  have b_check_kind : Binds K fd_check_kind ["chart", "kind"] [] := F_check_kind.bindsN fun _ _ _ _ _ _ us hl => match us, hl with | [_, _], _ => rfl
  obtain ⟨fd_Map_check_place, F_Map_check_place⟩ := L.c.def_ 13 (d := d_Map_check_place) rfl
  have k_Map_check_place := ok_Map_check_place (P := P) (w := w) (base := base) L F_Map_check_place
  have b_Map_check_place : Binds K fd_Map_check_place ["self", "place"] [] := F_Map_check_place.bindsN fun _ _ _ _ _ _ us hl => match us, hl with | [_, _], _ => rfl
  refine fn_defN F sc_check_trip rfl (fun cdv A outer s H E hr ds hl => ?_)
  match ds, hl with
  | [chart_1, kind_1, start_1], _ =>
    exact db_G [.bor chart_1, .val kind_1, .val start_1] rfl <| db_step (fun _ => [.bor chart_1, .val kind_1, .val start_1]) (ds_expr (de_call ctx_def k_check_kind (hr.mono (by decide)) rfl (L.glo (fa_40)) F_check_kind.kp b_check_kind (dam_bor (dr_bor (i := 0) rfl (pv 0)) (dam_frz (de_val (i := 1) rfl (pv 1)) dam_nil))) (fun pe => ps_expr pe)) (fun _ => rfl) fun _ => db_step (fun _ => [.bor chart_1, .val kind_1, .val start_1]) (ds_expr (de_meth (c := "Map") (mn := "check_place") ctx_def (L.cls (fa_12)) (L.meth (fa_41)) k_Map_check_place (hr.mono (by decide)) b_Map_check_place (dr_bor (i := 0) rfl (pv 0)) (dam_frz (de_val (i := 2) rfl (pv 2)) dam_nil)) (fun pe => ps_expr pe)) (fun _ => rfl) fun _ => db_end rfl
def m_least_labels_l1 : (List (D × D)) → D → D → M (List (D × D)) := fun least_2 name_1 number_1 => (mPut least_2 (B1 (f2 D.min2) (A1 (.ok number_1) (A1 (mGet2 (.ok (.dct least_2)) (.ok name_1) (.ok number_1)) A0))) (.ok name_1) >>= fun least_3 => (.ok least_3))
def g_least_labels : D → M (D) := fun lows_1 => ((.ok [] : M (List (D × D))) >>= fun least_1 => (((B1 D.items (.ok lows_1)) >>= fun ds => loopF (fun s => on2 (m_least_labels_l1 s)) ds least_1) >>= fun least_4 => (.ok (.dct least_4))))
def m_least_labels : List D → M (D) := a1 g_least_labels
theorem sc_least_labels : FnScope ["lows", "least", "name", "number"] ["lows"] (d_least_labels).scope := ⟨rfl, rfl, rfl, by decide +kernel, rfl, by decide +kernel, by decide +kernel⟩
theorem ok_least_labels {P : Program} {w : World} {K : PySem.W.Frag} {mg : Str → Option Value} {base : Heap} (L : Lw P K mg) {fd : FuncData} (F : DefOk K d_least_labels fd) : FnOk P w K mg base (L2.CX P w) 1 (He.fAd K d_least_labels.at_) fd ["lows"] (spD K [false] m_least_labels) := by
  refine fn_def F sc_least_labels rfl (fun cdv A outer s H E hr ds hl => ?_)
  match ds, hl with
  | [lows_1], _ =>
    exact db_G [.val lows_1, .un, .un, .un] rfl <| db_step (fun least_1 => [.val lows_1, .ownd least_1, .un, .un]) (ds_newD (i := 1) (fun pe => ps_set (i := 1) sc_least_labels.nd rfl (Or.inl rfl) pe)) (fun _ => rfl) fun least_1 => db_any 2 <| db_any 3 <| db_step (fun (s : List (D × D)) => [.val lows_1, .ownd s, .any, .any]) (ds_for2 (i := 2) (j := 3) (S := List (D × D)) (Γ := (fun (s : List (D × D)) => [.val lows_1, .ownd s, .any, .any])) (f := m_least_labels_l1) least_1 rfl ctx_def (di_seq (de_val (i := 0) rfl (pv 0))) (pg_tup rfl (pgs_cons (pg_name (i := 2) sc_least_labels.nd rfl (Or.inl rfl)) (pgs_cons (pg_name (i := 3) sc_least_labels.nd rfl (Or.inl rfl)) pgs_nil))) (fun least_2 name_1 number_1 => db_G [.val lows_1, .ownd least_2, .val name_1, .val number_1] rfl <| db_step (fun least_3 => [.val lows_1, .ownd least_3, .val name_1, .val number_1]) (ds_put (i := 1) hr.u70 rfl (pv 1) (de_callB (call_min2 (CtxOk.calm ctx_def)) min_op rfl (L.free (fa_42)) boot_min_ (dra_cons (dr_val (i := 3) rfl (pv 3)) (dra_cons (DR.of (de_get2 hr.u70 (dr_ownd (i := 1) rfl (pv 1)) (dr_val (i := 2) rfl (pv 2)) (de_val (i := 3) rfl (pv 3)) ⟨rfl, rfl, rfl, rfl⟩)) dra_nil))) (dr_val (i := 2) rfl (pv 2)) rfl) (fun _ => rfl) fun least_3 => db_any 2 <| db_any 3 <| db_nil rfl)) (fun _ => rfl) (fun least_4 => db_G [.val lows_1, .ownd least_4, .any, .any] rfl <| db_fzD (i := 1) rfl <| db_G [.val lows_1, .val (.dct least_4), .any, .any] rfl <| db_last (ds_ret (de_val (i := 1) rfl (pv 1))))
def g_Map_roads_from : D → D → M (D) := fun self_1 place_1 => ((mMeth "Map" "check_place" m_Map_check_place (.ok self_1) (A1 (.ok place_1) A0)) >>= fun _ => (L1 ((B1 D.items (B1 (D.attrC ["Map", "Paper"] "roads") (.ok self_1))) >>= fun ds => compL (fElt (fun road_1 => (B2 D.eq (B2 D.ix (.ok road_1) (.ok (.int 1))) (.ok place_1))) (fun road_1 => (B2 D.ix (.ok road_1) (.ok (.int 0))))) ds)))
def m_Map_roads_from : List D → M (D) := a2 g_Map_roads_from
theorem sc_Map_roads_from : FnScope ["self", "place", "road"] ["self", "place"] (d_Map_roads_from).scope := ⟨rfl, rfl, rfl, by decide +kernel, rfl, by decide +kernel, by decide +kernel⟩
theorem ok_Map_roads_from {P : Program} {w : World} {K : PySem.W.Frag} {mg : Str → Option Value} {base : Heap} (L : Lw P K mg) {fd : FuncData} (F : DefOk K d_Map_roads_from fd) : FnOk P w K mg base (L2.CX P w) 3 (He.fAd K d_Map_roads_from.at_) fd ["self", "place"] (spD K [true, false] m_Map_roads_from) := by
  obtain ⟨fd_Map_check_place, F_Map_check_place⟩ := L.c.def_ 13 (d := d_Map_check_place) rfl
  have k_Map_check_place := ok_Map_check_place (P := P) (w := w) (base := base) L F_Map_check_place
  have b_Map_check_place : Binds K fd_Map_check_place ["self", "place"] [] := F_Map_check_place.bindsN fun _ _ _ _ _ _ us hl => match us, hl with | [_, _], _ => rfl
  refine fn_def F sc_Map_roads_from rfl (fun cdv A outer s H E hr ds hl => ?_)
  match ds, hl with
  | [self_1, place_1], _ =>
    exact db_G [.bor self_1, .val place_1, .un] rfl <| db_step (fun _ => [.bor self_1, .val place_1, .un]) (ds_expr (de_meth (c := "Map") (mn := "check_place") ctx_def (L.cls (fa_12)) (L.meth (fa_41)) k_Map_check_place (hr.mono (by decide)) b_Map_check_place (dr_bor (i := 0) rfl (pv 0)) (dam_frz (de_val (i := 1) rfl (pv 1)) dam_nil)) (fun pe => ps_expr pe)) (fun _ => rfl) fun _ => db_last (ds_ret (DNL.de (dn_lc2 (own := [("road", 2)]) (i := 2) (mt := fun road_1 => (B2 D.eq (B2 D.ix (.ok road_1) (.ok (.int 1))) (.ok place_1))) (me := fun road_1 => (B2 D.ix (.ok road_1) (.ok (.int 0)))) (CtxOk.calm ctx_def) sc_Map_roads_from.nd (dir_seq (DR.of (de_attr (cs := ["Map", "Paper"]) (f := "roads") (by first | exact L.ats (f := "roads") ⟨L.cls (fa_12), L.noat (fa_13), ⟨L.cls (fa_10), L.noat (fa_11), True.intro⟩⟩) (dr_bor (i := 0) rfl (pv 0))))) (blkOk_by (by kernel_rfl)) rfl (fun _ _ _ _ _ => pg_name (i := 2) sc_Map_roads_from.nd rfl (Or.inl rfl)) (fun _ _ _ _ _ road_1 => (dt_cmp (op_eqD hr.u64) cmp_eq (DR.of (de_ix hr.u70 (dr_val (i := 2) rfl (pv 2)) (DR.of de_int))) (dr_val (i := 1) rfl (pv 1)) (nomark _))) (fun _ _ _ _ _ road_1 => (de_ix hr.u70 (dr_val (i := 2) rfl (pv 2)) (DR.of de_int))))))
def g_Map_followers : D → D → M (D) := fun self_1 name_1 => ((B2 D.ix (mMeth "Map" "road" m_Map_road (.ok self_1) (A1 (.ok name_1) A0)) (.ok (.int 2))) >>= fun end_1 => (L1 ((B1 D.items (mMeth "Map" "roads_from" m_Map_roads_from (.ok self_1) (A1 (.ok end_1) A0))) >>= fun ds => compL (fElt (fun other_1 => (B2 D.nmem (B1 D.mkTup (A1 (.ok name_1) (A1 (.ok other_1) A0))) (B1 (D.attrC ["Map"] "bars") (.ok self_1)))) (fun other_1 => (.ok other_1))) ds)))
def m_Map_followers : List D → M (D) := a2 g_Map_followers
theorem sc_Map_followers : FnScope ["self", "name", "end", "other"] ["self", "name"] (d_Map_followers).scope := ⟨rfl, rfl, rfl, by decide +kernel, rfl, by decide +kernel, by decide +kernel⟩
theorem ok_Map_followers {P : Program} {w : World} {K : PySem.W.Frag} {mg : Str → Option Value} {base : Heap} (L : Lw P K mg) {fd : FuncData} (F : DefOk K d_Map_followers fd) : FnOk P w K mg base (L2.CX P w) 4 (He.fAd K d_Map_followers.at_) fd ["self", "name"] (spD K [true, false] m_Map_followers) := by
  obtain ⟨fd_Map_road, F_Map_road⟩ := L.c.def_ 9 (d := d_Map_road) rfl
  have k_Map_road := ok_Map_road (P := P) (w := w) (base := base) L F_Map_road
  have b_Map_road : Binds K fd_Map_road ["self", "name"] [] := F_Map_road.bindsN fun _ _ _ _ _ _ us hl => match us, hl with | [_, _], _ => rfl
  obtain ⟨fd_Map_roads_from, F_Map_roads_from⟩ := L.c.def_ 16 (d := d_Map_roads_from) rfl
  have k_Map_roads_from := ok_Map_roads_from (P := P) (w := w) (base := base) L F_Map_roads_from
  have b_Map_roads_from : Binds K fd_Map_roads_from ["self", "place"] [] := F_Map_roads_from.bindsN fun _ _ _ _ _ _ us hl => match us, hl with | [_, _], _ => rfl
  refine fn_def F sc_Map_followers rfl (fun cdv A outer s H E hr ds hl => ?_)
  match ds, hl with
  | [self_1, name_1], _ =>
    exact db_G [.bor self_1, .val name_1, .un, .un] rfl <| db_step (fun end_1 => [.bor self_1, .val name_1, .val end_1, .un]) (ds_set (de_ix hr.u70 (DR.of (de_meth (c := "Map") (mn := "road") ctx_def (L.cls (fa_12)) (L.meth (fa_29)) k_Map_road (hr.mono (by decide)) b_Map_road (dr_bor (i := 0) rfl (pv 0)) (dam_frz (de_val (i := 1) rfl (pv 1)) dam_nil))) (DR.of de_int)) (fun pe => ps_set (i := 2) sc_Map_followers.nd rfl (Or.inl rfl) pe)) (fun _ => rfl) fun end_1 => db_last (ds_ret (DNL.de (dn_lc2 (own := [("other", 3)]) (i := 3) (mt := fun other_1 => (B2 D.nmem (B1 D.mkTup (A1 (.ok name_1) (A1 (.ok other_1) A0))) (B1 (D.attrC ["Map"] "bars") (.ok self_1)))) (me := fun other_1 => (.ok other_1)) (CtxOk.calm ctx_def) sc_Map_followers.nd (dir_seq (DR.of (de_meth (c := "Map") (mn := "roads_from") ctx_def (L.cls (fa_12)) (L.meth (fa_43)) k_Map_roads_from (hr.mono (by decide)) b_Map_roads_from (dr_bor (i := 0) rfl (pv 0)) (dam_frz (de_val (i := 2) rfl (pv 2)) dam_nil)))) (blkOk_by (by kernel_rfl)) rfl (fun _ _ _ _ _ => pg_name (i := 3) sc_Map_followers.nd rfl (Or.inl rfl)) (fun _ _ _ _ _ other_1 => (dt_cmp (rNinAll_op hr.u70) cmp_nin (DR.of (de_tup (da_cons (de_val (i := 1) rfl (pv 1)) (da_cons (de_val (i := 3) rfl (pv 3)) da_nil)))) (DR.of (de_attr (cs := ["Map"]) (f := "bars") (by first | exact L.ats (f := "bars") ⟨L.cls (fa_12), L.noat (fa_39), True.intro⟩) (dr_bor (i := 0) rfl (pv 0)))) rfl)) (fun _ _ _ _ _ other_1 => (de_val (i := 3) rfl (pv 3))))))
def m_enter_l1 (moment_1 : D) (minute_1 : D) : (Unit) → D → D → M (Rs (Unit)) := fun _ opened_1 closed_1 => (mIf (B2 D.lt (.ok minute_1) (.ok closed_1)) ((B2 D.add (B2 D.sub (.ok moment_1) (.ok minute_1)) (B1 (f2 D.max2) (A1 (.ok minute_1) (A1 (.ok opened_1) A0)))) >>= fun d => .ok (.rt d)) (.ok (.go ())))
def g_enter : D → D → D → M (D) := fun chart_1 name_1 moment_1 => ((B2 D.ix (mMeth "Map" "road" m_Map_road (.ok chart_1) (A1 (.ok name_1) A0)) (.ok (.int 5))) >>= fun hours_1 => (mIf (B2 D.isN (.ok hours_1) (.ok .non)) (.ok moment_1) (mIf (mNot (B1 D.tru (.ok hours_1))) (.ok .non) ((B2 D.mod (.ok moment_1) (B1 (D.attrC ["Map"] "day") (.ok chart_1))) >>= fun minute_1 => (((B1 D.items (.ok hours_1)) >>= fun ds => loopR (fun s => on2 ((m_enter_l1 moment_1 minute_1) s)) ds ()) >>= fun r => sFin r (fun _ => (B2 D.add (B2 D.add (B2 D.sub (.ok moment_1) (.ok minute_1)) (B1 (D.attrC ["Map"] "day") (.ok chart_1))) (B2 D.ix (B2 D.ix (.ok hours_1) (.ok (.int 0))) (.ok (.int 0))))))))))
def m_enter : List D → M (D) := a3 g_enter
theorem sc_enter : FnScope ["chart", "name", "moment", "hours", "minute", "opened", "closed"] ["chart", "name", "moment"] (d_enter).scope := ⟨rfl, rfl, rfl, by decide +kernel, rfl, by decide +kernel, by decide +kernel⟩
theorem ok_enter {P : Program} {w : World} {K : PySem.W.Frag} {mg : Str → Option Value} {base : Heap} (L : Lw P K mg) {fd : FuncData} (F : DefOk K d_enter fd) : FnOk P w K mg base (L2.CX P w) 3 (He.fAd K d_enter.at_) fd ["chart", "name", "moment"] (spD K [true, false, false] m_enter) := by
  obtain ⟨fd_Map_road, F_Map_road⟩ := L.c.def_ 9 (d := d_Map_road) rfl
  have k_Map_road := ok_Map_road (P := P) (w := w) (base := base) L F_Map_road
  have b_Map_road : Binds K fd_Map_road ["self", "name"] [] := F_Map_road.bindsN fun _ _ _ _ _ _ us hl => match us, hl with | [_, _], _ => rfl
  refine fn_def F sc_enter rfl (fun cdv A outer s H E hr ds hl => ?_)
  match ds, hl with
  | [chart_1, name_1, moment_1], _ =>
    exact db_G [.bor chart_1, .val name_1, .val moment_1, .un, .un, .un, .un] rfl <| db_step (fun hours_1 => [.bor chart_1, .val name_1, .val moment_1, .val hours_1, .un, .un, .un]) (ds_set (de_ix hr.u70 (DR.of (de_meth (c := "Map") (mn := "road") ctx_def (L.cls (fa_12)) (L.meth (fa_29)) k_Map_road (hr.mono (by decide)) b_Map_road (dr_bor (i := 0) rfl (pv 0)) (dam_frz (de_val (i := 1) rfl (pv 1)) dam_nil))) (DR.of de_int)) (fun pe => ps_set (i := 3) sc_enter.nd rfl (Or.inl rfl) pe)) (fun _ => rfl) fun hours_1 => db_ifr (dt_cmp op_isN cmp_isN (dr_val (i := 3) rfl (pv 3)) (DR.of de_non) (nomark _)) (db_last (ds_ret (de_val (i := 2) rfl (pv 2)))) (db_ifr (dt_not (dt_val (dr_val (i := 3) rfl (pv 3)))) (db_last (ds_ret de_non)) (db_step (fun minute_1 => [.bor chart_1, .val name_1, .val moment_1, .val hours_1, .val minute_1, .un, .un]) (ds_set (de_mod (dr_val (i := 2) rfl (pv 2)) (DR.of (de_attr (cs := ["Map"]) (f := "day") (by first | exact L.ats (f := "day") ⟨L.cls (fa_12), L.noat (fa_26), True.intro⟩) (dr_bor (i := 0) rfl (pv 0))))) (fun pe => ps_set (i := 4) sc_enter.nd rfl (Or.inl rfl) pe)) (fun _ => rfl) fun minute_1 => db_any 5 <| db_any 6 <| db_sumF (ds_for2R (i := 5) (j := 6) (S := Unit) (Γ := (fun (s : Unit) => [.bor chart_1, .val name_1, .val moment_1, .val hours_1, .val minute_1, .any, .any])) (f := (m_enter_l1 moment_1 minute_1)) () rfl ctx_def (di_seq (de_val (i := 3) rfl (pv 3))) (pg_tup rfl (pgs_cons (pg_name (i := 5) sc_enter.nd rfl (Or.inl rfl)) (pgs_cons (pg_name (i := 6) sc_enter.nd rfl (Or.inl rfl)) pgs_nil))) (fun _ opened_1 closed_1 => db_G [.bor chart_1, .val name_1, .val moment_1, .val hours_1, .val minute_1, .val opened_1, .val closed_1] rfl <| db_last (ds_if (dt_cmp (op_lt.or op_lt_str) cmp_lt (dr_val (i := 4) rfl (pv 4)) (dr_val (i := 6) rfl (pv 6)) (nomark _)) (db_map Rx.rt (db_last (ds_ret (de_add (DR.of (de_sub (dr_val (i := 2) rfl (pv 2)) (dr_val (i := 4) rfl (pv 4)))) (DR.of (de_callB (call_max2 (CtxOk.calm ctx_def)) max_op rfl (L.free (fa_4)) boot_max_ (dra_cons (dr_val (i := 4) rfl (pv 4)) (dra_cons (dr_val (i := 5) rfl (pv 5)) dra_nil))))))) (fun _ => rfl)) (db_any 5 <| db_any 6 <| db_nil rfl)))) (fun _ => db_G [.bor chart_1, .val name_1, .val moment_1, .val hours_1, .val minute_1, .any, .any] rfl <| db_last (ds_ret (de_add (DR.of (de_add (DR.of (de_sub (dr_val (i := 2) rfl (pv 2)) (dr_val (i := 4) rfl (pv 4)))) (DR.of (de_attr (cs := ["Map"]) (f := "day") (by first | exact L.ats (f := "day") ⟨L.cls (fa_12), L.noat (fa_26), True.intro⟩) (dr_bor (i := 0) rfl (pv 0)))))) (DR.of (de_ix hr.u70 (DR.of (de_ix hr.u70 (dr_val (i := 3) rfl (pv 3)) (DR.of de_int))) (DR.of de_int))))))))
def g_arrive : D → D → D → M (D) := fun chart_1 name_1 moment_1 => ((B1 m_enter (A1 (.ok chart_1) (A1 (.ok name_1) (A1 (.ok moment_1) A0)))) >>= fun entered_1 => (mIf (B2 D.isN (.ok entered_1) (.ok .non)) (.ok .non) (B2 D.add (.ok entered_1) (B2 D.ix (mMeth "Map" "road" m_Map_road (.ok chart_1) (A1 (.ok name_1) A0)) (.ok (.int 3))))))
def m_arrive : List D → M (D) := a3 g_arrive
theorem sc_arrive : FnScope ["chart", "name", "moment", "entered"] ["chart", "name", "moment"] (d_arrive).scope := ⟨rfl, rfl, rfl, by decide +kernel, rfl, by decide +kernel, by decide +kernel⟩
theorem ok_arrive {P : Program} {w : World} {K : PySem.W.Frag} {mg : Str → Option Value} {base : Heap} (L : Lw P K mg) {fd : FuncData} (F : DefOk K d_arrive fd) : FnOk P w K mg base (L2.CX P w) 4 (He.fAd K d_arrive.at_) fd ["chart", "name", "moment"] (spD K [true, false, false] m_arrive) := by
  obtain ⟨fd_enter, F_enter⟩ := L.c.def_ 18 (d := d_enter) rfl
  have k_enter := ok_enter (P := P) (w := w) (base := base) L F_enter
  have b_enter : Binds K fd_enter ["chart", "name", "moment"] [] := F_enter.bindsN fun _ _ _ _ _ _ us hl => match us, hl with | [_, _, _], _ => rfl
  obtain ⟨fd_Map_road, F_Map_road⟩ := L.c.def_ 9 (d := d_Map_road) rfl
  have k_Map_road := ok_Map_road (P := P) (w := w) (base := base) L F_Map_road
  have b_Map_road : Binds K fd_Map_road ["self", "name"] [] := F_Map_road.bindsN fun _ _ _ _ _ _ us hl => match us, hl with | [_, _], _ => rfl
  refine fn_def F sc_arrive rfl (fun cdv A outer s H E hr ds hl => ?_)
  match ds, hl with
  | [chart_1, name_1, moment_1], _ =>
    exact db_G [.bor chart_1, .val name_1, .val moment_1, .un] rfl <| db_step (fun entered_1 => [.bor chart_1, .val name_1, .val moment_1, .val entered_1]) (ds_set (de_call ctx_def k_enter (hr.mono (by decide)) rfl (L.glo (fa_44)) F_enter.kp b_enter (dam_bor (dr_bor (i := 0) rfl (pv 0)) (dam_frz (de_val (i := 1) rfl (pv 1)) (dam_frz (de_val (i := 2) rfl (pv 2)) dam_nil)))) (fun pe => ps_set (i := 3) sc_arrive.nd rfl (Or.inl rfl) pe)) (fun _ => rfl) fun entered_1 => db_ifr (dt_cmp op_isN cmp_isN (dr_val (i := 3) rfl (pv 3)) (DR.of de_non) (nomark _)) (db_last (ds_ret de_non)) (db_last (ds_ret (de_add (dr_val (i := 3) rfl (pv 3)) (DR.of (de_ix hr.u70 (DR.of (de_meth (c := "Map") (mn := "road") ctx_def (L.cls (fa_12)) (L.meth (fa_29)) k_Map_road (hr.mono (by decide)) b_Map_road (dr_bor (i := 0) rfl (pv 0)) (dam_frz (de_val (i := 1) rfl (pv 1)) dam_nil))) (DR.of de_int))))))
def g_Map_check_kind : D → D → M (Option D) := fun self_1 kind_1 => (mIf (B2 D.nmem (.ok kind_1) (B1 (D.attrC ["Map"] "kinds") (.ok self_1))) (mExc1 "UnknownName" "name" (.ok kind_1)) (.ok none))
def m_Map_check_kind : List D → M D := fun ds => orNon (a2 g_Map_check_kind ds)
theorem sc_Map_check_kind : FnScope ["self", "kind"] ["self", "kind"] (d_Map_check_kind).scope := ⟨rfl, rfl, rfl, by decide +kernel, rfl, by decide +kernel, by decide +kernel⟩
theorem ok_Map_check_kind {P : Program} {w : World} {K : PySem.W.Frag} {mg : Str → Option Value} {base : Heap} (L : Lw P K mg) {fd : FuncData} (F : DefOk K d_Map_check_kind fd) : FnOk P w K mg base (L2.CX P w) 2 (He.fAd K d_Map_check_kind.at_) fd ["self", "kind"] (spD K [true, false] m_Map_check_kind) := by
  refine fn_defN F sc_Map_check_kind rfl (fun cdv A outer s H E hr ds hl => ?_)
  match ds, hl with
  | [self_1, kind_1], _ =>
    exact db_G [.bor self_1, .val kind_1] rfl <| db_last (ds_if (dt_cmp (rNinAll_op hr.u70) cmp_nin (dr_val (i := 1) rfl (pv 1)) (DR.of (de_attr (cs := ["Map"]) (f := "kinds") (by first | exact L.ats (f := "kinds") ⟨L.cls (fa_12), L.noat (fa_24), True.intro⟩) (dr_bor (i := 0) rfl (pv 0)))) rfl) (db_last (ds_raise1 (c := "UnknownName") (f := "name") rfl takes_def (sup_UnknownName L) (hr.mono (by decide)) (L.glo (fa_28)) rfl (de_val (i := 1) rfl (pv 1)))) (db_end rfl))
def g_Map_may_use : D → D → D → M (D) := fun self_1 kind_1 name_1 => ((mMeth "Map" "check_kind" m_Map_check_kind (.ok self_1) (A1 (.ok kind_1) A0)) >>= fun _ => (C2 D.mem (.ok kind_1) (B2 D.ix (mMeth "Map" "road" m_Map_road (.ok self_1) (A1 (.ok name_1) A0)) (.ok (.int 4)))))
def m_Map_may_use : List D → M (D) := a3 g_Map_may_use
theorem sc_Map_may_use : FnScope ["self", "kind", "name"] ["self", "kind", "name"] (d_Map_may_use).scope := ⟨rfl, rfl, rfl, by decide +kernel, rfl, by decide +kernel, by decide +kernel⟩
theorem ok_Map_may_use {P : Program} {w : World} {K : PySem.W.Frag} {mg : Str → Option Value} {base : Heap} (L : Lw P K mg) {fd : FuncData} (F : DefOk K d_Map_may_use fd) : FnOk P w K mg base (L2.CX P w) 3 (He.fAd K d_Map_may_use.at_) fd ["self", "kind", "name"] (spD K [true, false, false] m_Map_may_use) := by
  obtain ⟨fd_Map_check_kind, F_Map_check_kind⟩ := L.c.def_ 20 (d := d_Map_check_kind) rfl
  have k_Map_check_kind := ok_Map_check_kind (P := P) (w := w) (base := base) L F_Map_check_kind
  have b_Map_check_kind : Binds K fd_Map_check_kind ["self", "kind"] [] := F_Map_check_kind.bindsN fun _ _ _ _ _ _ us hl => match us, hl with | [_, _], _ => rfl
  obtain ⟨fd_Map_road, F_Map_road⟩ := L.c.def_ 9 (d := d_Map_road) rfl
  have k_Map_road := ok_Map_road (P := P) (w := w) (base := base) L F_Map_road
  have b_Map_road : Binds K fd_Map_road ["self", "name"] [] := F_Map_road.bindsN fun _ _ _ _ _ _ us hl => match us, hl with | [_, _], _ => rfl
  refine fn_def F sc_Map_may_use rfl (fun cdv A outer s H E hr ds hl => ?_)
  match ds, hl with
  | [self_1, kind_1, name_1], _ =>
    exact db_G [.bor self_1, .val kind_1, .val name_1] rfl <| db_step (fun _ => [.bor self_1, .val kind_1, .val name_1]) (ds_expr (de_meth (c := "Map") (mn := "check_kind") ctx_def (L.cls (fa_12)) (L.meth (fa_45)) k_Map_check_kind (hr.mono (by decide)) b_Map_check_kind (dr_bor (i := 0) rfl (pv 0)) (dam_frz (de_val (i := 1) rfl (pv 1)) dam_nil)) (fun pe => ps_expr pe)) (fun _ => rfl) fun _ => db_last (ds_ret (de_cmp (op_inAll hr.u70) cmp_in (dr_val (i := 1) rfl (pv 1)) (DR.of (de_ix hr.u70 (DR.of (de_meth (c := "Map") (mn := "road") ctx_def (L.cls (fa_12)) (L.meth (fa_29)) k_Map_road (hr.mono (by decide)) b_Map_road (dr_bor (i := 0) rfl (pv 0)) (dam_frz (de_val (i := 2) rfl (pv 2)) dam_nil))) (DR.of de_int))) rfl))
def g_arrival_over : D → D → D → D → M (D) := fun chart_1 kind_1 name_1 moment_1 => (mIf (mNot (B1 D.tru (mMeth "Map" "may_use" m_Map_may_use (.ok chart_1) (A1 (.ok kind_1) (A1 (.ok name_1) A0))))) (.ok .non) (B1 m_arrive (A1 (.ok chart_1) (A1 (.ok name_1) (A1 (.ok moment_1) A0)))))
def m_arrival_over : List D → M (D) := a4 g_arrival_over
theorem sc_arrival_over : FnScope ["chart", "kind", "name", "moment"] ["chart", "kind", "name", "moment"] (d_arrival_over).scope := ⟨rfl, rfl, rfl, by decide +kernel, rfl, by decide +kernel, by decide +kernel⟩
theorem ok_arrival_over {P : Program} {w : World} {K : PySem.W.Frag} {mg : Str → Option Value} {base : Heap} (L : Lw P K mg) {fd : FuncData} (F : DefOk K d_arrival_over fd) : FnOk P w K mg base (L2.CX P w) 5 (He.fAd K d_arrival_over.at_) fd ["chart", "kind", "name", "moment"] (spD K [true, false, false, false] m_arrival_over) := by
  obtain ⟨fd_Map_may_use, F_Map_may_use⟩ := L.c.def_ 21 (d := d_Map_may_use) rfl
  have k_Map_may_use := ok_Map_may_use (P := P) (w := w) (base := base) L F_Map_may_use
  have b_Map_may_use : Binds K fd_Map_may_use ["self", "kind", "name"] [] := F_Map_may_use.bindsN fun _ _ _ _ _ _ us hl => match us, hl with | [_, _, _], _ => rfl
  obtain ⟨fd_arrive, F_arrive⟩ := L.c.def_ 19 (d := d_arrive) rfl
  have k_arrive := ok_arrive (P := P) (w := w) (base := base) L F_arrive
  have b_arrive : Binds K fd_arrive ["chart", "name", "moment"] [] := F_arrive.bindsN fun _ _ _ _ _ _ us hl => match us, hl with | [_, _, _], _ => rfl
  refine fn_def F sc_arrival_over rfl (fun cdv A outer s H E hr ds hl => ?_)
  match ds, hl with
  | [chart_1, kind_1, name_1, moment_1], _ =>
    exact db_G [.bor chart_1, .val kind_1, .val name_1, .val moment_1] rfl <| db_ifr (dt_not (dt_val (DR.of (de_meth (c := "Map") (mn := "may_use") ctx_def (L.cls (fa_12)) (L.meth (fa_46)) k_Map_may_use (hr.mono (by decide)) b_Map_may_use (dr_bor (i := 0) rfl (pv 0)) (dam_frz (de_val (i := 1) rfl (pv 1)) (dam_frz (de_val (i := 2) rfl (pv 2)) dam_nil)))))) (db_last (ds_ret de_non)) (db_last (ds_ret (de_call ctx_def k_arrive (hr.mono (by decide)) rfl (L.glo (fa_47)) F_arrive.kp b_arrive (dam_bor (dr_bor (i := 0) rfl (pv 0)) (dam_frz (de_val (i := 2) rfl (pv 2)) (dam_frz (de_val (i := 3) rfl (pv 3)) dam_nil))))))
def g_is_low : D → D → D → D → D → M (D) := fun chart_1 kind_1 name_1 moment_1 least_1 => ((B1 m_arrival_over (A1 (.ok chart_1) (A1 (.ok kind_1) (A1 (.ok name_1) (A1 (.ok moment_1) A0))))) >>= fun arrival_1 => (mIf (B2 D.isN (.ok arrival_1) (.ok .non)) (.ok (.bl true)) (vAnd (C2 D.mem (.ok name_1) (.ok least_1)) (C2 D.le (B2 D.ix (.ok least_1) (.ok name_1)) (.ok arrival_1)))))
def m_is_low : List D → M (D) := a5 g_is_low
theorem sc_is_low : FnScope ["chart", "kind", "name", "moment", "least", "arrival"] ["chart", "kind", "name", "moment", "least"] (d_is_low).scope := ⟨rfl, rfl, rfl, by decide +kernel, rfl, by decide +kernel, by decide +kernel⟩
theorem ok_is_low {P : Program} {w : World} {K : PySem.W.Frag} {mg : Str → Option Value} {base : Heap} (L : Lw P K mg) {fd : FuncData} (F : DefOk K d_is_low fd) : FnOk P w K mg base (L2.CX P w) 6 (He.fAd K d_is_low.at_) fd ["chart", "kind", "name", "moment", "least"] (spD K [true, false, false, false, true] m_is_low) := by
  obtain ⟨fd_arrival_over, F_arrival_over⟩ := L.c.def_ 22 (d := d_arrival_over) rfl
  have k_arrival_over := ok_arrival_over (P := P) (w := w) (base := base) L F_arrival_over
  have b_arrival_over : Binds K fd_arrival_over ["chart", "kind", "name", "moment"] [] := F_arrival_over.bindsN fun _ _ _ _ _ _ us hl => match us, hl with | [_, _, _, _], _ => rfl
  refine fn_def F sc_is_low rfl (fun cdv A outer s H E hr ds hl => ?_)
  match ds, hl with
  | [chart_1, kind_1, name_1, moment_1, least_1], _ =>
    exact db_G [.bor chart_1, .val kind_1, .val name_1, .val moment_1, .bor least_1, .un] rfl <| db_step (fun arrival_1 => [.bor chart_1, .val kind_1, .val name_1, .val moment_1, .bor least_1, .val arrival_1]) (ds_set (de_call ctx_def k_arrival_over (hr.mono (by decide)) rfl (L.glo (fa_48)) F_arrival_over.kp b_arrival_over (dam_bor (dr_bor (i := 0) rfl (pv 0)) (dam_frz (de_val (i := 1) rfl (pv 1)) (dam_frz (de_val (i := 2) rfl (pv 2)) (dam_frz (de_val (i := 3) rfl (pv 3)) dam_nil))))) (fun pe => ps_set (i := 5) sc_is_low.nd rfl (Or.inl rfl) pe)) (fun _ => rfl) fun arrival_1 => db_ifr (dt_cmp op_isN cmp_isN (dr_val (i := 5) rfl (pv 5)) (DR.of de_non) (nomark _)) (db_last (ds_ret de_bl)) (db_last (ds_ret (de_and (de_cmp (op_inAll hr.u70) cmp_in (dr_val (i := 2) rfl (pv 2)) (dr_bor (i := 4) rfl (pv 4)) rfl) (de_one (de_cmp op_le cmp_le (DR.of (de_ix hr.u70 (dr_bor (i := 4) rfl (pv 4)) (dr_val (i := 2) rfl (pv 2)))) (dr_val (i := 5) rfl (pv 5)) (nomark _))))))
def m_are_low_l1 (chart_1 : D) (kind_1 : D) (moment_1 : D) (least_1 : D) : (Unit) → D → M (Rs (Unit)) := fun _ name_1 => (mIf (mNot (B1 D.tru (B1 m_is_low (A1 (.ok chart_1) (A1 (.ok kind_1) (A1 (.ok name_1) (A1 (.ok moment_1) (A1 (.ok least_1) A0)))))))) ((.ok (.bl false)) >>= fun d => .ok (.rt d)) (.ok (.go ())))
def m_are_low_l2 (chart_1 : D) (kind_1 : D) (least_1 : D) (number_1 : D) : (Unit) → D → M (Rs (Unit)) := fun _ other_1 => (mIf (mNot (B1 D.tru (B1 m_is_low (A1 (.ok chart_1) (A1 (.ok kind_1) (A1 (.ok other_1) (A1 (.ok number_1) (A1 (.ok least_1) A0)))))))) ((.ok (.bl false)) >>= fun d => .ok (.rt d)) (.ok (.go ())))
def m_are_low_l3 (chart_1 : D) (kind_1 : D) (least_1 : D) : (Unit) → D → D → M (Rs (Unit)) := fun _ name_2 number_1 => (((B1 D.items (mMeth "Map" "followers" m_Map_followers (.ok chart_1) (A1 (.ok name_2) A0))) >>= fun ds => loopR (m_are_low_l2 chart_1 kind_1 least_1 number_1) ds ()) >>= fun r => sThn r (fun _ => (.ok (.go ()))))
def g_are_low : D → D → D → D → D → M (D) := fun chart_1 kind_1 start_1 moment_1 least_1 => (((B1 D.items (mMeth "Map" "roads_from" m_Map_roads_from (.ok chart_1) (A1 (.ok start_1) A0))) >>= fun ds => loopR (m_are_low_l1 chart_1 kind_1 moment_1 least_1) ds ()) >>= fun r => sFin r (fun _ => ((D.itemsK least_1 >>= fun ds => loopR (fun s q => killX (on2 ((m_are_low_l3 chart_1 kind_1 least_1) s) q)) ds ()) >>= fun r => sFin r (fun _ => (.ok (.bl true))))))
def m_are_low : List D → M (D) := a5 g_are_low
theorem sc_are_low : FnScope ["chart", "kind", "start", "moment", "least", "name", "number", "other"] ["chart", "kind", "start", "moment", "least"] (d_are_low).scope := ⟨rfl, rfl, rfl, by decide +kernel, rfl, by decide +kernel, by decide +kernel⟩
theorem ok_are_low {P : Program} {w : World} {K : PySem.W.Frag} {mg : Str → Option Value} {base : Heap} (L : Lw P K mg) {fd : FuncData} (F : DefOk K d_are_low fd) : FnOk P w K mg base (L2.CX P w) 7 (He.fAd K d_are_low.at_) fd ["chart", "kind", "start", "moment", "least"] (spD K [true, false, false, false, true] m_are_low) := by
  obtain ⟨fd_Map_roads_from, F_Map_roads_from⟩ := L.c.def_ 16 (d := d_Map_roads_from) rfl
  have k_Map_roads_from := ok_Map_roads_from (P := P) (w := w) (base := base) L F_Map_roads_from
  have b_Map_roads_from : Binds K fd_Map_roads_from ["self", "place"] [] := F_Map_roads_from.bindsN fun _ _ _ _ _ _ us hl => match us, hl with | [_, _], _ => rfl
  obtain ⟨fd_is_low, F_is_low⟩ := L.c.def_ 23 (d := d_is_low) rfl
  have k_is_low := ok_is_low (P := P) (w := w) (base := base) L F_is_low
  have b_is_low : Binds K fd_is_low ["chart", "kind", "name", "moment", "least"] [] := F_is_low.bindsN fun _ _ _ _ _ _ us hl => match us, hl with | [_, _, _, _, _], _ => rfl
  obtain ⟨fd_Map_followers, F_Map_followers⟩ := L.c.def_ 17 (d := d_Map_followers) rfl
  have k_Map_followers := ok_Map_followers (P := P) (w := w) (base := base) L F_Map_followers
  have b_Map_followers : Binds K fd_Map_followers ["self", "name"] [] := F_Map_followers.bindsN fun _ _ _ _ _ _ us hl => match us, hl with | [_, _], _ => rfl
  refine fn_def F sc_are_low rfl (fun cdv A outer s H E hr ds hl => ?_)
  match ds, hl with
  | [chart_1, kind_1, start_1, moment_1, least_1], _ =>
    exact db_G [.bor chart_1, .val kind_1, .val start_1, .val moment_1, .bor least_1, .un, .un, .un] rfl <| db_any 5 <| db_sumF (ds_for1R (i := 5) (S := Unit) (Γ := (fun (s : Unit) => [.bor chart_1, .val kind_1, .val start_1, .val moment_1, .bor least_1, .any, .un, .un])) (f := (m_are_low_l1 chart_1 kind_1 moment_1 least_1)) () rfl ctx_def (di_seq (de_meth (c := "Map") (mn := "roads_from") ctx_def (L.cls (fa_12)) (L.meth (fa_43)) k_Map_roads_from (hr.mono (by decide)) b_Map_roads_from (dr_bor (i := 0) rfl (pv 0)) (dam_frz (de_val (i := 2) rfl (pv 2)) dam_nil))) (pg_name (i := 5) sc_are_low.nd rfl (Or.inl rfl)) (fun _ name_1 => db_G [.bor chart_1, .val kind_1, .val start_1, .val moment_1, .bor least_1, .val name_1, .un, .un] rfl <| db_last (ds_if (dt_not (dt_val (DR.of (de_call ctx_def k_is_low (hr.mono (by decide)) rfl (L.glo (fa_49)) F_is_low.kp b_is_low (dam_bor (dr_bor (i := 0) rfl (pv 0)) (dam_frz (de_val (i := 1) rfl (pv 1)) (dam_frz (de_val (i := 5) rfl (pv 5)) (dam_frz (de_val (i := 3) rfl (pv 3)) (dam_bor (dr_bor (i := 4) rfl (pv 4)) dam_nil))))))))) (db_map Rx.rt (db_last (ds_ret de_bl)) (fun _ => rfl)) (db_any 5 <| db_nil rfl)))) (fun _ => db_G [.bor chart_1, .val kind_1, .val start_1, .val moment_1, .bor least_1, .any, .un, .un] rfl <| db_any 6 <| db_any 7 <| db_sumF (ds_forK2 (i := 5) (j := 6) (i0 := 4) (S := Unit) (Γ := (fun (s : Unit) => [.bor chart_1, .val kind_1, .val start_1, .val moment_1, .bor least_1, .any, .any, .any])) (f := (m_are_low_l3 chart_1 kind_1 least_1)) () rfl ctx_def (fun _ => rfl) (Or.inr rfl) (pv 4) (pg_tup rfl (pgs_cons (pg_name (i := 5) sc_are_low.nd rfl (Or.inl rfl)) (pgs_cons (pg_name (i := 6) sc_are_low.nd rfl (Or.inl rfl)) pgs_nil))) (fun _ name_2 number_1 => db_G [.bor chart_1, .val kind_1, .val start_1, .val moment_1, .bor least_1, .val name_2, .val number_1, .any] rfl <| db_sumX (ds_for1R (i := 7) (S := Unit) (Γ := (fun (s : Unit) => [.bor chart_1, .val kind_1, .val start_1, .val moment_1, .bor least_1, .val name_2, .val number_1, .any])) (f := (m_are_low_l2 chart_1 kind_1 least_1 number_1)) () rfl ctx_def (di_seq (de_meth (c := "Map") (mn := "followers") ctx_def (L.cls (fa_12)) (L.meth (fa_50)) k_Map_followers (hr.mono (by decide)) b_Map_followers (dr_bor (i := 0) rfl (pv 0)) (dam_frz (de_val (i := 5) rfl (pv 5)) dam_nil))) (pg_name (i := 7) sc_are_low.nd rfl (Or.inl rfl)) (fun _ other_1 => db_G [.bor chart_1, .val kind_1, .val start_1, .val moment_1, .bor least_1, .val name_2, .val number_1, .val other_1] rfl <| db_last (ds_if (dt_not (dt_val (DR.of (de_call ctx_def k_is_low (hr.mono (by decide)) rfl (L.glo (fa_49)) F_is_low.kp b_is_low (dam_bor (dr_bor (i := 0) rfl (pv 0)) (dam_frz (de_val (i := 1) rfl (pv 1)) (dam_frz (de_val (i := 7) rfl (pv 7)) (dam_frz (de_val (i := 6) rfl (pv 6)) (dam_bor (dr_bor (i := 4) rfl (pv 4)) dam_nil))))))))) (db_map Rx.rt (db_last (ds_ret de_bl)) (fun _ => rfl)) (db_any 7 <| db_nil rfl)))) (fun _ => db_G [.bor chart_1, .val kind_1, .val start_1, .val moment_1, .bor least_1, .val name_2, .val number_1, .any] rfl <| db_any 5 <| db_any 6 <| db_nil rfl))) (fun _ => db_G [.bor chart_1, .val kind_1, .val start_1, .val moment_1, .bor least_1, .any, .any, .any] rfl <| db_last (ds_ret de_bl)))
def g_Map_is_barred : D → D → D → M (D) := fun self_1 first_1 second_1 => ((mMeth "Map" "road" m_Map_road (.ok self_1) (A1 (.ok first_1) A0)) >>= fun _ => ((mMeth "Map" "road" m_Map_road (.ok self_1) (A1 (.ok second_1) A0)) >>= fun _ => (C2 D.mem (B1 D.mkTup (A1 (.ok first_1) (A1 (.ok second_1) A0))) (B1 (D.attrC ["Map"] "bars") (.ok self_1)))))
def m_Map_is_barred : List D → M (D) := a3 g_Map_is_barred
theorem sc_Map_is_barred : FnScope ["self", "first", "second"] ["self", "first", "second"] (d_Map_is_barred).scope := ⟨rfl, rfl, rfl, by decide +kernel, rfl, by decide +kernel, by decide +kernel⟩
theorem ok_Map_is_barred {P : Program} {w : World} {K : PySem.W.Frag} {mg : Str → Option Value} {base : Heap} (L : Lw P K mg) {fd : FuncData} (F : DefOk K d_Map_is_barred fd) : FnOk P w K mg base (L2.CX P w) 3 (He.fAd K d_Map_is_barred.at_) fd ["self", "first", "second"] (spD K [true, false, false] m_Map_is_barred) := by
  obtain ⟨fd_Map_road, F_Map_road⟩ := L.c.def_ 9 (d := d_Map_road) rfl
  have k_Map_road := ok_Map_road (P := P) (w := w) (base := base) L F_Map_road
  have b_Map_road : Binds K fd_Map_road ["self", "name"] [] := F_Map_road.bindsN fun _ _ _ _ _ _ us hl => match us, hl with | [_, _], _ => rfl
  refine fn_def F sc_Map_is_barred rfl (fun cdv A outer s H E hr ds hl => ?_)
  match ds, hl with
  | [self_1, first_1, second_1], _ =>
    exact db_G [.bor self_1, .val first_1, .val second_1] rfl <| db_step (fun _ => [.bor self_1, .val first_1, .val second_1]) (ds_expr (de_meth (c := "Map") (mn := "road") ctx_def (L.cls (fa_12)) (L.meth (fa_29)) k_Map_road (hr.mono (by decide)) b_Map_road (dr_bor (i := 0) rfl (pv 0)) (dam_frz (de_val (i := 1) rfl (pv 1)) dam_nil)) (fun pe => ps_expr pe)) (fun _ => rfl) fun _ => db_step (fun _ => [.bor self_1, .val first_1, .val second_1]) (ds_expr (de_meth (c := "Map") (mn := "road") ctx_def (L.cls (fa_12)) (L.meth (fa_29)) k_Map_road (hr.mono (by decide)) b_Map_road (dr_bor (i := 0) rfl (pv 0)) (dam_frz (de_val (i := 2) rfl (pv 2)) dam_nil)) (fun pe => ps_expr pe)) (fun _ => rfl) fun _ => db_last (ds_ret (de_cmp (op_inAll hr.u70) cmp_in (DR.of (de_tup (da_cons (de_val (i := 1) rfl (pv 1)) (da_cons (de_val (i := 2) rfl (pv 2)) da_nil)))) (DR.of (de_attr (cs := ["Map"]) (f := "bars") (by first | exact L.ats (f := "bars") ⟨L.cls (fa_12), L.noat (fa_39), True.intro⟩) (dr_bor (i := 0) rfl (pv 0)))) rfl))
def g_is_drivable : D → D → D → D → D → M (D) := fun chart_1 kind_1 place_1 before_1 name_1 => ((mMeth "Map" "road" m_Map_road (.ok chart_1) (A1 (.ok name_1) A0)) >>= fun road_1 => (mIf (mOr (B2 D.ne (B2 D.ix (.ok road_1) (.ok (.int 1))) (.ok place_1)) (mOr (B2 D.nmem (.ok kind_1) (B2 D.ix (.ok road_1) (.ok (.int 4)))) (B2 D.eq (B2 D.ix (.ok road_1) (.ok (.int 5))) (B1 D.mkTup A0)))) (.ok (.bl false)) (vOr (C2 D.isN (.ok before_1) (.ok .non)) (vNot (mMeth "Map" "is_barred" m_Map_is_barred (.ok chart_1) (A1 (.ok before_1) (A1 (.ok name_1) A0)))))))
def m_is_drivable : List D → M (D) := a5 g_is_drivable
theorem sc_is_drivable : FnScope ["chart", "kind", "place", "before", "name", "road"] ["chart", "kind", "place", "before", "name"] (d_is_drivable).scope := ⟨rfl, rfl, rfl, by decide +kernel, rfl, by decide +kernel, by decide +kernel⟩
theorem ok_is_drivable {P : Program} {w : World} {K : PySem.W.Frag} {mg : Str → Option Value} {base : Heap} (L : Lw P K mg) {fd : FuncData} (F : DefOk K d_is_drivable fd) : FnOk P w K mg base (L2.CX P w) 4 (He.fAd K d_is_drivable.at_) fd ["chart", "kind", "place", "before", "name"] (spD K [true, true, true, false, false] m_is_drivable) := by
  obtain ⟨fd_Map_road, F_Map_road⟩ := L.c.def_ 9 (d := d_Map_road) rfl
  have k_Map_road := ok_Map_road (P := P) (w := w) (base := base) L F_Map_road
  have b_Map_road : Binds K fd_Map_road ["self", "name"] [] := F_Map_road.bindsN fun _ _ _ _ _ _ us hl => match us, hl with | [_, _], _ => rfl
  obtain ⟨fd_Map_is_barred, F_Map_is_barred⟩ := L.c.def_ 25 (d := d_Map_is_barred) rfl
  have k_Map_is_barred := ok_Map_is_barred (P := P) (w := w) (base := base) L F_Map_is_barred
  have b_Map_is_barred : Binds K fd_Map_is_barred ["self", "first", "second"] [] := F_Map_is_barred.bindsN fun _ _ _ _ _ _ us hl => match us, hl with | [_, _, _], _ => rfl
  refine fn_def F sc_is_drivable rfl (fun cdv A outer s H E hr ds hl => ?_)
  match ds, hl with
  | [chart_1, kind_1, place_1, before_1, name_1], _ =>
    exact db_G [.bor chart_1, .bor kind_1, .bor place_1, .val before_1, .val name_1, .un] rfl <| db_step (fun road_1 => [.bor chart_1, .bor kind_1, .bor place_1, .val before_1, .val name_1, .val road_1]) (ds_set (de_meth (c := "Map") (mn := "road") ctx_def (L.cls (fa_12)) (L.meth (fa_29)) k_Map_road (hr.mono (by decide)) b_Map_road (dr_bor (i := 0) rfl (pv 0)) (dam_frz (de_val (i := 4) rfl (pv 4)) dam_nil)) (fun pe => ps_set (i := 5) sc_is_drivable.nd rfl (Or.inl rfl) pe)) (fun _ => rfl) fun road_1 => db_ifr (DW.dt (dw_or (dt_cmp (op_neD hr.u64) cmp_ne (DR.of (de_ix hr.u70 (dr_val (i := 5) rfl (pv 5)) (DR.of de_int))) (dr_bor (i := 2) rfl (pv 2)) (nomark _)) (dw_or (dt_cmp (rNinAll_op hr.u70) cmp_nin (dr_bor (i := 1) rfl (pv 1)) (DR.of (de_ix hr.u70 (dr_val (i := 5) rfl (pv 5)) (DR.of de_int))) rfl) (dw_or1 (dt_cmp (op_eqD hr.u64) cmp_eq (DR.of (de_ix hr.u70 (dr_val (i := 5) rfl (pv 5)) (DR.of de_int))) (DR.of (de_tup da_nil)) (nomark _)))))) (db_last (ds_ret de_bl)) (db_last (ds_ret (de_or (de_cmp op_isN cmp_isN (dr_val (i := 3) rfl (pv 3)) (DR.of de_non) (nomark _)) (de_one (de_not (DR.of (de_meth (c := "Map") (mn := "is_barred") ctx_def (L.cls (fa_12)) (L.meth (fa_51)) k_Map_is_barred (hr.mono (by decide)) b_Map_is_barred (dr_bor (i := 0) rfl (pv 0)) (dam_frz (de_val (i := 3) rfl (pv 3)) (dam_frz (de_val (i := 4) rfl (pv 4)) dam_nil)))))))))
def m_run_l1 (chart_1 : D) : (Unit) → D → M (Unit) := fun _ name_1 => ((mMeth "Map" "road" m_Map_road (.ok chart_1) (A1 (.ok name_1) A0)) >>= fun _ => (.ok ()))
def m_run_l2 (chart_1 : D) (kind_1 : D) : (D × List D × D × D) → D → D → M (D × List D × D × D) := fun s number_1 name_2 => match s with | (moment_2, stages_2, place_2, before_2) => (mIf (mNot (B1 D.tru (B1 m_is_drivable (A1 (.ok chart_1) (A1 (.ok kind_1) (A1 (.ok place_2) (A1 (.ok before_2) (A1 (.ok name_2) A0)))))))) (mRs (mExc1 "InvalidRoute" "number" (.ok number_1))) ((B1 m_enter (A1 (.ok chart_1) (A1 (.ok name_2) (A1 (.ok moment_2) A0)))) >>= fun entered_1 => ((B2 D.add (.ok entered_1) (B2 D.ix (mMeth "Map" "road" m_Map_road (.ok chart_1) (A1 (.ok name_2) A0)) (.ok (.int 3)))) >>= fun moment_3 => (mPush stages_2 (B1 D.mkTup (A1 (.ok name_2) (A1 (.ok entered_1) (A1 (.ok moment_3) A0)))) >>= fun stages_3 => ((B2 D.ix (mMeth "Map" "road" m_Map_road (.ok chart_1) (A1 (.ok name_2) A0)) (.ok (.int 2))) >>= fun place_3 => ((.ok name_2) >>= fun before_3 => (.ok (moment_3, stages_3, place_3, before_3))))))))
def g_run : D → D → D → D → D → M (D) := fun chart_1 kind_1 route_1 start_1 moment_1 => ((B1 m_check_trip (A1 (.ok chart_1) (A1 (.ok kind_1) (A1 (.ok start_1) A0)))) >>= fun _ => (((B1 D.items (.ok route_1)) >>= fun ds => loopF (m_run_l1 chart_1) ds ()) >>= fun _ => ((nLst A0) >>= fun stages_1 => ((.ok start_1) >>= fun place_1 => ((.ok .non) >>= fun before_1 => (((B1 D.enum1 (A1 (.ok route_1) A0)) >>= fun ds => loopF (fun s => on2 ((m_run_l2 chart_1 kind_1) s)) ds (moment_1, stages_1, place_1, before_1)) >>= fun s => match s with | (moment_4, stages_4, place_4, before_4) => (.ok (.lst stages_4))))))))
def m_run : List D → M (D) := a5 g_run
theorem sc_run : FnScope ["chart", "kind", "route", "start", "moment", "name", "stages", "place", "before", "number", "entered"] ["chart", "kind", "route", "start", "moment"] (d_run).scope := ⟨rfl, rfl, rfl, by decide +kernel, rfl, by decide +kernel, by decide +kernel⟩
theorem ok_run {P : Program} {w : World} {K : PySem.W.Frag} {mg : Str → Option Value} {base : Heap} (L : Lw P K mg) {fd : FuncData} (F : DefOk K d_run fd) : FnOk P w K mg base (L2.CX P w) 5 (He.fAd K d_run.at_) fd ["chart", "kind", "route", "start", "moment"] (spD K [true, false, false, false, false] m_run) := by
  obtain ⟨fd_check_trip, F_check_trip⟩ := L.c.def_ 14 (d := d_check_trip) rfl
  have k_check_trip := ok_check_trip (P := P) (w := w) (base := base) L F_check_trip
  have b_check_trip : Binds K fd_check_trip ["chart", "kind", "start"] [] := F_check_trip.bindsN fun _ _ _ _ _ _ us hl => match us, hl with | [_, _, _], _ => rfl
  obtain ⟨fd_Map_road, F_Map_road⟩ := L.c.def_ 9 (d := d_Map_road) rfl
  have k_Map_road := ok_Map_road (P := P) (w := w) (base := base) L F_Map_road
  have b_Map_road : Binds K fd_Map_road ["self", "name"] [] := F_Map_road.bindsN fun _ _ _ _ _ _ us hl => match us, hl with | [_, _], _ => rfl
  obtain ⟨fd_is_drivable, F_is_drivable⟩ := L.c.def_ 26 (d := d_is_drivable) rfl
  have k_is_drivable := ok_is_drivable (P := P) (w := w) (base := base) L F_is_drivable
  have b_is_drivable : Binds K fd_is_drivable ["chart", "kind", "place", "before", "name"] [] := F_is_drivable.bindsN fun _ _ _ _ _ _ us hl => match us, hl with | [_, _, _, _, _], _ => rfl
  obtain ⟨fd_enter, F_enter⟩ := L.c.def_ 18 (d := d_enter) rfl
  have k_enter := ok_enter (P := P) (w := w) (base := base) L F_enter
  have b_enter : Binds K fd_enter ["chart", "name", "moment"] [] := F_enter.bindsN fun _ _ _ _ _ _ us hl => match us, hl with | [_, _, _], _ => rfl
  refine fn_def F sc_run rfl (fun cdv A outer s H E hr ds hl => ?_)
  match ds, hl with
  | [chart_1, kind_1, route_1, start_1, moment_1], _ =>
    exact db_G [.bor chart_1, .val kind_1, .val route_1, .val start_1, .val moment_1, .un, .un, .un, .un, .un, .un] rfl <| db_step (fun _ => [.bor chart_1, .val kind_1, .val route_1, .val start_1, .val moment_1, .un, .un, .un, .un, .un, .un]) (ds_expr (de_call ctx_def k_check_trip (hr.mono (by decide)) rfl (L.glo (fa_52)) F_check_trip.kp b_check_trip (dam_bor (dr_bor (i := 0) rfl (pv 0)) (dam_frz (de_val (i := 1) rfl (pv 1)) (dam_frz (de_val (i := 3) rfl (pv 3)) dam_nil)))) (fun pe => ps_expr pe)) (fun _ => rfl) fun _ => db_any 5 <| db_step (fun (s : Unit) => [.bor chart_1, .val kind_1, .val route_1, .val start_1, .val moment_1, .any, .un, .un, .un, .un, .un]) (ds_for1 (i := 5) (S := Unit) (Γ := (fun (s : Unit) => [.bor chart_1, .val kind_1, .val route_1, .val start_1, .val moment_1, .any, .un, .un, .un, .un, .un])) (f := (m_run_l1 chart_1)) () rfl ctx_def (di_seq (de_val (i := 2) rfl (pv 2))) (pg_name (i := 5) sc_run.nd rfl (Or.inl rfl)) (fun _ name_1 => db_G [.bor chart_1, .val kind_1, .val route_1, .val start_1, .val moment_1, .val name_1, .un, .un, .un, .un, .un] rfl <| db_step (fun _ => [.bor chart_1, .val kind_1, .val route_1, .val start_1, .val moment_1, .val name_1, .un, .un, .un, .un, .un]) (ds_expr (de_meth (c := "Map") (mn := "road") ctx_def (L.cls (fa_12)) (L.meth (fa_29)) k_Map_road (hr.mono (by decide)) b_Map_road (dr_bor (i := 0) rfl (pv 0)) (dam_frz (de_val (i := 5) rfl (pv 5)) dam_nil)) (fun pe => ps_expr pe)) (fun _ => rfl) fun _ => db_any 5 <| db_nil rfl)) (fun _ => rfl) (fun _ => db_G [.bor chart_1, .val kind_1, .val route_1, .val start_1, .val moment_1, .any, .un, .un, .un, .un, .un] rfl <| db_step (fun stages_1 => [.bor chart_1, .val kind_1, .val route_1, .val start_1, .val moment_1, .any, .own stages_1, .un, .un, .un, .un]) (ds_setN (dn_lst da_nil) (fun pe => ps_set (i := 6) sc_run.nd rfl (Or.inl rfl) pe)) (fun _ => rfl) fun stages_1 => db_step (fun place_1 => [.bor chart_1, .val kind_1, .val route_1, .val start_1, .val moment_1, .any, .own stages_1, .val place_1, .un, .un, .un]) (ds_set (de_val (i := 3) rfl (pv 3)) (fun pe => ps_set (i := 7) sc_run.nd rfl (Or.inl rfl) pe)) (fun _ => rfl) fun place_1 => db_step (fun before_1 => [.bor chart_1, .val kind_1, .val route_1, .val start_1, .val moment_1, .any, .own stages_1, .val place_1, .val before_1, .un, .un]) (ds_set de_non (fun pe => ps_set (i := 8) sc_run.nd rfl (Or.inl rfl) pe)) (fun _ => rfl) fun before_1 => db_any 9 <| db_any 10 <| db_step (fun (s : D × List D × D × D) => [.bor chart_1, .val kind_1, .val route_1, .val start_1, .val s.1, .any, .own s.2.1, .val s.2.2.1, .val s.2.2.2, .any, .any]) (ds_for2 (i := 9) (j := 5) (S := D × List D × D × D) (Γ := (fun (s : D × List D × D × D) => [.bor chart_1, .val kind_1, .val route_1, .val start_1, .val s.1, .any, .own s.2.1, .val s.2.2.1, .val s.2.2.2, .any, .any])) (f := (m_run_l2 chart_1 kind_1)) (moment_1, stages_1, place_1, before_1) rfl ctx_def (di_enum1 rfl (L.free (fa_9)) (da_cons (de_val (i := 2) rfl (pv 2)) da_nil)) (pg_tup rfl (pgs_cons (pg_name (i := 9) sc_run.nd rfl (Or.inl rfl)) (pgs_cons (pg_name (i := 5) sc_run.nd rfl (Or.inl rfl)) pgs_nil))) (fun s number_1 name_2 => match s with | (moment_2, stages_2, place_2, before_2) => db_G [.bor chart_1, .val kind_1, .val route_1, .val start_1, .val moment_2, .val name_2, .own stages_2, .val place_2, .val before_2, .val number_1, .any] rfl <| db_ifRs (dt_not (dt_val (DR.of (de_call ctx_def k_is_drivable (hr.mono (by decide)) rfl (L.glo (fa_53)) F_is_drivable.kp b_is_drivable (dam_bor (dr_bor (i := 0) rfl (pv 0)) (dam_bor (dr_val (i := 1) rfl (pv 1)) (dam_bor (dr_val (i := 7) rfl (pv 7)) (dam_frz (de_val (i := 8) rfl (pv 8)) (dam_frz (de_val (i := 5) rfl (pv 5)) dam_nil))))))))) (db_last (ds_raise1 (c := "InvalidRoute") (f := "number") rfl takes_def (sup_InvalidRoute L) (hr.mono (by decide)) (L.glo (fa_54)) rfl (de_val (i := 9) rfl (pv 9)))) (db_step (fun entered_1 => [.bor chart_1, .val kind_1, .val route_1, .val start_1, .val moment_2, .val name_2, .own stages_2, .val place_2, .val before_2, .val number_1, .val entered_1]) (ds_set (de_call ctx_def k_enter (hr.mono (by decide)) rfl (L.glo (fa_44)) F_enter.kp b_enter (dam_bor (dr_bor (i := 0) rfl (pv 0)) (dam_frz (de_val (i := 5) rfl (pv 5)) (dam_frz (de_val (i := 4) rfl (pv 4)) dam_nil)))) (fun pe => ps_set (i := 10) sc_run.nd rfl (Or.inl rfl) pe)) (fun _ => rfl) fun entered_1 => db_step (fun moment_3 => [.bor chart_1, .val kind_1, .val route_1, .val start_1, .val moment_3, .val name_2, .own stages_2, .val place_2, .val before_2, .val number_1, .val entered_1]) (ds_set (de_add (dr_val (i := 10) rfl (pv 10)) (DR.of (de_ix hr.u70 (DR.of (de_meth (c := "Map") (mn := "road") ctx_def (L.cls (fa_12)) (L.meth (fa_29)) k_Map_road (hr.mono (by decide)) b_Map_road (dr_bor (i := 0) rfl (pv 0)) (dam_frz (de_val (i := 5) rfl (pv 5)) dam_nil))) (DR.of de_int)))) (fun pe => ps_set (i := 4) sc_run.nd rfl (Or.inl rfl) pe)) (fun _ => rfl) fun moment_3 => db_step (fun stages_3 => [.bor chart_1, .val kind_1, .val route_1, .val start_1, .val moment_3, .val name_2, .own stages_3, .val place_2, .val before_2, .val number_1, .val entered_1]) (ds_pushO (i := 6) rfl (pv 6) (de_tup (da_cons (de_val (i := 5) rfl (pv 5)) (da_cons (de_val (i := 10) rfl (pv 10)) (da_cons (de_val (i := 4) rfl (pv 4)) da_nil))))) (fun _ => rfl) fun stages_3 => db_step (fun place_3 => [.bor chart_1, .val kind_1, .val route_1, .val start_1, .val moment_3, .val name_2, .own stages_3, .val place_3, .val before_2, .val number_1, .val entered_1]) (ds_set (de_ix hr.u70 (DR.of (de_meth (c := "Map") (mn := "road") ctx_def (L.cls (fa_12)) (L.meth (fa_29)) k_Map_road (hr.mono (by decide)) b_Map_road (dr_bor (i := 0) rfl (pv 0)) (dam_frz (de_val (i := 5) rfl (pv 5)) dam_nil))) (DR.of de_int)) (fun pe => ps_set (i := 7) sc_run.nd rfl (Or.inl rfl) pe)) (fun _ => rfl) fun place_3 => db_step (fun before_3 => [.bor chart_1, .val kind_1, .val route_1, .val start_1, .val moment_3, .val name_2, .own stages_3, .val place_3, .val before_3, .val number_1, .val entered_1]) (ds_set (de_val (i := 5) rfl (pv 5)) (fun pe => ps_set (i := 8) sc_run.nd rfl (Or.inl rfl) pe)) (fun _ => rfl) fun before_3 => db_any 5 <| db_any 9 <| db_any 10 <| db_nil rfl))) (fun _ => rfl) (fun s => match s with | (moment_4, stages_4, place_4, before_4) => db_G [.bor chart_1, .val kind_1, .val route_1, .val start_1, .val moment_4, .any, .own stages_4, .val place_4, .val before_4, .any, .any] rfl <| db_fzO 6 rfl <| db_last (ds_ret (de_val (i := 6) rfl (pv 6)))))
def g_end_of : D → D → D → M (D) := fun chart_1 route_1 start_1 => (mIf (mNot (B1 D.tru (.ok route_1))) (.ok start_1) (B2 D.ix (mMeth "Map" "road" m_Map_road (.ok chart_1) (A1 (B2 D.ix (.ok route_1) (B1 D.neg (.ok (.int 1)))) A0)) (.ok (.int 2))))
def m_end_of : List D → M (D) := a3 g_end_of
theorem sc_end_of : FnScope ["chart", "route", "start"] ["chart", "route", "start"] (d_end_of).scope := ⟨rfl, rfl, rfl, by decide +kernel, rfl, by decide +kernel, by decide +kernel⟩
theorem ok_end_of {P : Program} {w : World} {K : PySem.W.Frag} {mg : Str → Option Value} {base : Heap} (L : Lw P K mg) {fd : FuncData} (F : DefOk K d_end_of fd) : FnOk P w K mg base (L2.CX P w) 3 (He.fAd K d_end_of.at_) fd ["chart", "route", "start"] (spD K [true, true, false] m_end_of) := by
  obtain ⟨fd_Map_road, F_Map_road⟩ := L.c.def_ 9 (d := d_Map_road) rfl
  have k_Map_road := ok_Map_road (P := P) (w := w) (base := base) L F_Map_road
  have b_Map_road : Binds K fd_Map_road ["self", "name"] [] := F_Map_road.bindsN fun _ _ _ _ _ _ us hl => match us, hl with | [_, _], _ => rfl
  refine fn_def F sc_end_of rfl (fun cdv A outer s H E hr ds hl => ?_)
  match ds, hl with
  | [chart_1, route_1, start_1], _ =>
    exact db_G [.bor chart_1, .bor route_1, .val start_1] rfl <| db_ifr (dt_not (dt_val (dr_bor (i := 1) rfl (pv 1)))) (db_last (ds_ret (de_val (i := 2) rfl (pv 2)))) (db_last (ds_ret (de_ix hr.u70 (DR.of (de_meth (c := "Map") (mn := "road") ctx_def (L.cls (fa_12)) (L.meth (fa_29)) k_Map_road (hr.mono (by decide)) b_Map_road (dr_bor (i := 0) rfl (pv 0)) (dam_frz (de_ix hr.u70 (dr_bor (i := 1) rfl (pv 1)) (DR.of (de_neg (DR.of de_int)))) dam_nil))) (DR.of de_int))))
def g_route_arrives : D → D → D → D → D → D → M (D) := fun chart_1 kind_1 start_1 goal_1 moment_1 told_1 => ((mTryN exU [(["InvalidRoute"], fun x1 => (.ok (.bl false)))] (((B1 m_run (A1 (.ok chart_1) (A1 (.ok kind_1) (A1 (B1 (D.attrC ["Map", "Paper"] "roads") (.ok told_1)) (A1 (.ok start_1) (A1 (.ok moment_1) A0)))))) >>= fun stages_1 => (.ok (.inl stages_1))) : M ((D) ⊕ D))) >>= fun r => sFin r (fun stages_2 => (vAnd (C2 D.eq (B1 m_end_of (A1 (.ok chart_1) (A1 (B1 (D.attrC ["Map", "Paper"] "roads") (.ok told_1)) (A1 (.ok start_1) A0)))) (.ok goal_1)) (vAnd (C2 D.gt (B1 (f1 D.len) (A1 (.ok stages_2) A0)) (.ok (.int 0))) (C2 D.eq (B2 D.ix (B2 D.ix (.ok stages_2) (B1 D.neg (.ok (.int 1)))) (.ok (.int 2))) (B1 (D.attrC ["Paper"] "arrival") (.ok told_1)))))))
def m_route_arrives : List D → M (D) := a6 g_route_arrives
theorem sc_route_arrives : FnScope ["chart", "kind", "start", "goal", "moment", "told", "stages"] ["chart", "kind", "start", "goal", "moment", "told"] (d_route_arrives).scope := ⟨rfl, rfl, rfl, by decide +kernel, rfl, by decide +kernel, by decide +kernel⟩
theorem ok_route_arrives {P : Program} {w : World} {K : PySem.W.Frag} {mg : Str → Option Value} {base : Heap} (L : Lw P K mg) {fd : FuncData} (F : DefOk K d_route_arrives fd) : FnOk P w K mg base (L2.CX P w) 6 (He.fAd K d_route_arrives.at_) fd ["chart", "kind", "start", "goal", "moment", "told"] (spD K [true, false, false, true, false, true] m_route_arrives) := by
  obtain ⟨fd_run, F_run⟩ := L.c.def_ 27 (d := d_run) rfl
  have k_run := ok_run (P := P) (w := w) (base := base) L F_run
  have b_run : Binds K fd_run ["chart", "kind", "route", "start", "moment"] [] := F_run.bindsN fun _ _ _ _ _ _ us hl => match us, hl with | [_, _, _, _, _], _ => rfl
  obtain ⟨fd_end_of, F_end_of⟩ := L.c.def_ 28 (d := d_end_of) rfl
  have k_end_of := ok_end_of (P := P) (w := w) (base := base) L F_end_of
  have b_end_of : Binds K fd_end_of ["chart", "route", "start"] [] := F_end_of.bindsN fun _ _ _ _ _ _ us hl => match us, hl with | [_, _, _], _ => rfl
  refine fn_def F sc_route_arrives rfl (fun cdv A outer s H E hr ds hl => ?_)
  match ds, hl with
  | [chart_1, kind_1, start_1, goal_1, moment_1, told_1], _ =>
    exact db_G [.bor chart_1, .val kind_1, .val start_1, .bor goal_1, .val moment_1, .bor told_1, .un] rfl <| db_sumF (ds_try (S := D) (Γ := (fun (s : D) => [.bor chart_1, .val kind_1, .val start_1, .bor goal_1, .val moment_1, .bor told_1, .val s])) (Gt := [.bor chart_1, .val kind_1, .val start_1, .bor goal_1, .val moment_1, .bor told_1, .any]) (Fs := exF) rfl rfl rfl sc_route_arrives.nd takes_def (fun W pn xe cxT => dbx_step (fun stages_1 => [.bor chart_1, .val kind_1, .val start_1, .bor goal_1, .val moment_1, .bor told_1, .val stages_1]) (dsx_set (Wk.same (Wk.same (Wk.same (Wk.same (Wk.same (Wk.same (Wk.any Wk.nil))))))) (de_call cxT k_run (hr.mono (by decide)) rfl (L.glo (fa_55)) F_run.kp b_run (dam_bor (dr_bor (i := 0) rfl (pv 0)) (dam_frz (de_val (i := 1) rfl (pv 1)) (dam_frz (de_attr (cs := ["Map", "Paper"]) (f := "roads") (by first | exact L.ats (f := "roads") ⟨L.cls (fa_12), L.noat (fa_13), ⟨L.cls (fa_10), L.noat (fa_11), True.intro⟩⟩) (dr_bor (i := 5) rfl (pv 5))) (dam_frz (de_val (i := 2) rfl (pv 2)) (dam_frz (de_val (i := 4) rfl (pv 4)) dam_nil)))))) (fun pe => ps_set (i := 6) sc_route_arrives.nd rfl (Or.inl rfl) pe)) (fun _ => rfl) fun stages_1 => dbx_nil rfl) (.cons (t := "InvalidRoute") ⟨rfl, by decide, .inl (L.glo (fa_54))⟩ (L.xp (by decide)) (fun x1 hx a oe d pn hz hf => db_G [.bor chart_1, .val kind_1, .val start_1, .bor goal_1, .val moment_1, .bor told_1, .any] rfl <| db_last (ds_ret de_bl)) .nil)) (fun stages_2 => db_G [.bor chart_1, .val kind_1, .val start_1, .bor goal_1, .val moment_1, .bor told_1, .val stages_2] rfl <| db_last (ds_ret (de_and (de_cmp (op_eqD hr.u64) cmp_eq (DR.of (de_call ctx_def k_end_of (hr.mono (by decide)) rfl (L.glo (fa_57)) F_end_of.kp b_end_of (dam_bor (dr_bor (i := 0) rfl (pv 0)) (dam_bor (DR.of (de_attr (cs := ["Map", "Paper"]) (f := "roads") (by first | exact L.ats (f := "roads") ⟨L.cls (fa_12), L.noat (fa_13), ⟨L.cls (fa_10), L.noat (fa_11), True.intro⟩⟩) (dr_bor (i := 5) rfl (pv 5)))) (dam_frz (de_val (i := 2) rfl (pv 2)) dam_nil))))) (dr_bor (i := 3) rfl (pv 3)) (nomark _)) (de_and (de_cmp op_gt cmp_gt (DR.of (de_callB lenR len_op rfl (L.free (fa_3)) boot_len_ (dra_cons (dr_val (i := 6) rfl (pv 6)) dra_nil))) (DR.of de_int) (nomark _)) (de_one (de_cmp (op_eqD hr.u64) cmp_eq (DR.of (de_ix hr.u70 (DR.of (de_ix hr.u70 (dr_val (i := 6) rfl (pv 6)) (DR.of (de_neg (DR.of de_int))))) (DR.of de_int))) (DR.of (de_attr (cs := ["Paper"]) (f := "arrival") (by first | exact L.ats (f := "arrival") ⟨L.cls (fa_10), L.noat (fa_56), True.intro⟩) (dr_bor (i := 5) rfl (pv 5)))) (nomark _)))))))
def g_Map_roads_to : D → D → M (D) := fun self_1 place_1 => ((mMeth "Map" "check_place" m_Map_check_place (.ok self_1) (A1 (.ok place_1) A0)) >>= fun _ => (L1 ((B1 D.items (B1 (D.attrC ["Map", "Paper"] "roads") (.ok self_1))) >>= fun ds => compL (fElt (fun road_1 => (B2 D.eq (B2 D.ix (.ok road_1) (.ok (.int 2))) (.ok place_1))) (fun road_1 => (B2 D.ix (.ok road_1) (.ok (.int 0))))) ds)))
def m_Map_roads_to : List D → M (D) := a2 g_Map_roads_to
theorem sc_Map_roads_to : FnScope ["self", "place", "road"] ["self", "place"] (d_Map_roads_to).scope := ⟨rfl, rfl, rfl, by decide +kernel, rfl, by decide +kernel, by decide +kernel⟩
theorem ok_Map_roads_to {P : Program} {w : World} {K : PySem.W.Frag} {mg : Str → Option Value} {base : Heap} (L : Lw P K mg) {fd : FuncData} (F : DefOk K d_Map_roads_to fd) : FnOk P w K mg base (L2.CX P w) 3 (He.fAd K d_Map_roads_to.at_) fd ["self", "place"] (spD K [true, false] m_Map_roads_to) := by
  obtain ⟨fd_Map_check_place, F_Map_check_place⟩ := L.c.def_ 13 (d := d_Map_check_place) rfl
  have k_Map_check_place := ok_Map_check_place (P := P) (w := w) (base := base) L F_Map_check_place
  have b_Map_check_place : Binds K fd_Map_check_place ["self", "place"] [] := F_Map_check_place.bindsN fun _ _ _ _ _ _ us hl => match us, hl with | [_, _], _ => rfl
  refine fn_def F sc_Map_roads_to rfl (fun cdv A outer s H E hr ds hl => ?_)
  match ds, hl with
  | [self_1, place_1], _ =>
    exact db_G [.bor self_1, .val place_1, .un] rfl <| db_step (fun _ => [.bor self_1, .val place_1, .un]) (ds_expr (de_meth (c := "Map") (mn := "check_place") ctx_def (L.cls (fa_12)) (L.meth (fa_41)) k_Map_check_place (hr.mono (by decide)) b_Map_check_place (dr_bor (i := 0) rfl (pv 0)) (dam_frz (de_val (i := 1) rfl (pv 1)) dam_nil)) (fun pe => ps_expr pe)) (fun _ => rfl) fun _ => db_last (ds_ret (DNL.de (dn_lc2 (own := [("road", 2)]) (i := 2) (mt := fun road_1 => (B2 D.eq (B2 D.ix (.ok road_1) (.ok (.int 2))) (.ok place_1))) (me := fun road_1 => (B2 D.ix (.ok road_1) (.ok (.int 0)))) (CtxOk.calm ctx_def) sc_Map_roads_to.nd (dir_seq (DR.of (de_attr (cs := ["Map", "Paper"]) (f := "roads") (by first | exact L.ats (f := "roads") ⟨L.cls (fa_12), L.noat (fa_13), ⟨L.cls (fa_10), L.noat (fa_11), True.intro⟩⟩) (dr_bor (i := 0) rfl (pv 0))))) (blkOk_by (by kernel_rfl)) rfl (fun _ _ _ _ _ => pg_name (i := 2) sc_Map_roads_to.nd rfl (Or.inl rfl)) (fun _ _ _ _ _ road_1 => (dt_cmp (op_eqD hr.u64) cmp_eq (DR.of (de_ix hr.u70 (dr_val (i := 2) rfl (pv 2)) (DR.of de_int))) (dr_val (i := 1) rfl (pv 1)) (nomark _))) (fun _ _ _ _ _ road_1 => (de_ix hr.u70 (dr_val (i := 2) rfl (pv 2)) (DR.of de_int))))))
def m_check_paper_l1 (chart_1 : D) : (Unit) → D → M (Unit) := fun _ name_2 => ((mMeth "Map" "road" m_Map_road (.ok chart_1) (A1 (.ok name_2) A0)) >>= fun _ => (.ok ()))
def g_check_paper : D → D → D → D → D → D → M (D) := fun chart_1 kind_1 start_1 goal_1 moment_1 told_1 => ((B1 m_check_trip (A1 (.ok chart_1) (A1 (.ok kind_1) (A1 (.ok start_1) A0)))) >>= fun _ => ((mMeth "Map" "check_place" m_Map_check_place (.ok chart_1) (A1 (.ok goal_1) A0)) >>= fun _ => ((mIf (B2 D.isN (B1 (D.attrC ["Map", "Paper"] "roads") (.ok told_1)) (.ok .non)) (B1 D.mkLst A0) (B1 (f1 D.toList) (A1 (B1 (D.attrC ["Map", "Paper"] "roads") (.ok told_1)) A0))) >>= fun roads_1 => (((B1 D.items (B2 D.add (.ok roads_1) (L1 ((B1 D.items (B1 (D.attrC ["Paper"] "lows") (.ok told_1))) >>= fun ds => compL (fElt noT (on2 (fun name_1 x_1 => (.ok name_1)))) ds)))) >>= fun ds => loopF (m_check_paper_l1 chart_1) ds ()) >>= fun _ => (mIf (B2 D.eq (.ok start_1) (.ok goal_1)) (vAnd (C2 D.eq (B1 (D.attrC ["Map", "Paper"] "roads") (.ok told_1)) (B1 D.mkTup A0)) (C2 D.eq (B1 (D.attrC ["Paper"] "arrival") (.ok told_1)) (.ok moment_1))) (mIf (B2 D.ne (C2 D.isN (B1 (D.attrC ["Map", "Paper"] "roads") (.ok told_1)) (.ok .non)) (C2 D.isN (B1 (D.attrC ["Paper"] "arrival") (.ok told_1)) (.ok .non))) (.ok (.bl false)) ((B1 m_least_labels (A1 (B1 (D.attrC ["Paper"] "lows") (.ok told_1)) A0)) >>= fun least_1 => ((L1 ((B1 D.items (mMeth "Map" "roads_to" m_Map_roads_to (.ok chart_1) (A1 (.ok goal_1) A0))) >>= fun ds => compL (fElt (fun name_3 => (B2 D.mem (.ok name_3) (.ok least_1))) (fun name_3 => (B2 D.ix (.ok least_1) (.ok name_3)))) ds)) >>= fun ends_1 => (mIf (mNot (B1 D.tru (B1 m_are_low (A1 (.ok chart_1) (A1 (.ok kind_1) (A1 (.ok start_1) (A1 (.ok moment_1) (A1 (.ok least_1) A0)))))))) (.ok (.bl false)) (mIf (B2 D.isN (B1 (D.attrC ["Map", "Paper"] "roads") (.ok told_1)) (.ok .non)) (vNot (.ok ends_1)) (vAnd (B1 m_route_arrives (A1 (.ok chart_1) (A1 (.ok kind_1) (A1 (.ok start_1) (A1 (.ok goal_1) (A1 (.ok moment_1) (A1 (.ok told_1) A0))))))) (C2 D.ge (B1 (f1 D.minL) (A1 (.ok ends_1) A0)) (B1 (D.attrC ["Paper"] "arrival") (.ok told_1))))))))))))))
def m_check_paper : List D → M (D) := a6 g_check_paper
theorem e_check_paper (chart_1 kind_1 start_1 goal_1 moment_1 told_1 : D) : m_check_paper [chart_1, kind_1, start_1, goal_1, moment_1, told_1] = g_check_paper chart_1 kind_1 start_1 goal_1 moment_1 told_1 := a6_ g_check_paper chart_1 kind_1 start_1 goal_1 moment_1 told_1
theorem sc_check_paper : FnScope ["chart", "kind", "start", "goal", "moment", "told", "roads", "name", "least", "ends", "_"] ["chart", "kind", "start", "goal", "moment", "told"] (d_check_paper).scope := ⟨rfl, rfl, rfl, by decide +kernel, rfl, by decide +kernel, by decide +kernel⟩
theorem ok_check_paper {P : Program} {w : World} {K : PySem.W.Frag} {mg : Str → Option Value} {base : Heap} (L : Lw P K mg) {fd : FuncData} (F : DefOk K d_check_paper fd) : FnOk P w K mg base (L2.CX P w) 8 (He.fAd K d_check_paper.at_) fd ["chart", "kind", "start", "goal", "moment", "told"] (spD K [true, false, false, false, false, true] m_check_paper) := by
  obtain ⟨fd_check_trip, F_check_trip⟩ := L.c.def_ 14 (d := d_check_trip) rfl
  have k_check_trip := ok_check_trip (P := P) (w := w) (base := base) L F_check_trip
  have b_check_trip : Binds K fd_check_trip ["chart", "kind", "start"] [] := F_check_trip.bindsN fun _ _ _ _ _ _ us hl => match us, hl with | [_, _, _], _ => rfl
  obtain ⟨fd_Map_check_place, F_Map_check_place⟩ := L.c.def_ 13 (d := d_Map_check_place) rfl
  have k_Map_check_place := ok_Map_check_place (P := P) (w := w) (base := base) L F_Map_check_place
  have b_Map_check_place : Binds K fd_Map_check_place ["self", "place"] [] := F_Map_check_place.bindsN fun _ _ _ _ _ _ us hl => match us, hl with | [_, _], _ => rfl
  obtain ⟨fd_Map_road, F_Map_road⟩ := L.c.def_ 9 (d := d_Map_road) rfl
  have k_Map_road := ok_Map_road (P := P) (w := w) (base := base) L F_Map_road
  have b_Map_road : Binds K fd_Map_road ["self", "name"] [] := F_Map_road.bindsN fun _ _ _ _ _ _ us hl => match us, hl with | [_, _], _ => rfl
  obtain ⟨fd_least_labels, F_least_labels⟩ := L.c.def_ 15 (d := d_least_labels) rfl
  have k_least_labels := ok_least_labels (P := P) (w := w) (base := base) L F_least_labels
  have b_least_labels : Binds K fd_least_labels ["lows"] [] := F_least_labels.bindsN fun _ _ _ _ _ _ us hl => match us, hl with | [_], _ => rfl
  obtain ⟨fd_Map_roads_to, F_Map_roads_to⟩ := L.c.def_ 30 (d := d_Map_roads_to) rfl
  have k_Map_roads_to := ok_Map_roads_to (P := P) (w := w) (base := base) L F_Map_roads_to
  have b_Map_roads_to : Binds K fd_Map_roads_to ["self", "place"] [] := F_Map_roads_to.bindsN fun _ _ _ _ _ _ us hl => match us, hl with | [_, _], _ => rfl
  obtain ⟨fd_are_low, F_are_low⟩ := L.c.def_ 24 (d := d_are_low) rfl
  have k_are_low := ok_are_low (P := P) (w := w) (base := base) L F_are_low
  have b_are_low : Binds K fd_are_low ["chart", "kind", "start", "moment", "least"] [] := F_are_low.bindsN fun _ _ _ _ _ _ us hl => match us, hl with | [_, _, _, _, _], _ => rfl
  obtain ⟨fd_route_arrives, F_route_arrives⟩ := L.c.def_ 29 (d := d_route_arrives) rfl
  have k_route_arrives := ok_route_arrives (P := P) (w := w) (base := base) L F_route_arrives
  have b_route_arrives : Binds K fd_route_arrives ["chart", "kind", "start", "goal", "moment", "told"] [] := F_route_arrives.bindsN fun _ _ _ _ _ _ us hl => match us, hl with | [_, _, _, _, _, _], _ => rfl
  refine fn_def F sc_check_paper rfl (fun cdv A outer s H E hr ds hl => ?_)
  match ds, hl with
  | [chart_1, kind_1, start_1, goal_1, moment_1, told_1], _ =>
    exact db_G [.bor chart_1, .val kind_1, .val start_1, .val goal_1, .val moment_1, .bor told_1, .un, .un, .un, .un, .un] rfl <| db_step (fun _ => [.bor chart_1, .val kind_1, .val start_1, .val goal_1, .val moment_1, .bor told_1, .un, .un, .un, .un, .un]) (ds_expr (de_call ctx_def k_check_trip (hr.mono (by decide)) rfl (L.glo (fa_52)) F_check_trip.kp b_check_trip (dam_bor (dr_bor (i := 0) rfl (pv 0)) (dam_frz (de_val (i := 1) rfl (pv 1)) (dam_frz (de_val (i := 2) rfl (pv 2)) dam_nil)))) (fun pe => ps_expr pe)) (fun _ => rfl) fun _ => db_step (fun _ => [.bor chart_1, .val kind_1, .val start_1, .val goal_1, .val moment_1, .bor told_1, .un, .un, .un, .un, .un]) (ds_expr (de_meth (c := "Map") (mn := "check_place") ctx_def (L.cls (fa_12)) (L.meth (fa_41)) k_Map_check_place (hr.mono (by decide)) b_Map_check_place (dr_bor (i := 0) rfl (pv 0)) (dam_frz (de_val (i := 3) rfl (pv 3)) dam_nil)) (fun pe => ps_expr pe)) (fun _ => rfl) fun _ => db_step (fun roads_1 => [.bor chart_1, .val kind_1, .val start_1, .val goal_1, .val moment_1, .bor told_1, .val roads_1, .un, .un, .un, .un]) (ds_set (de_if (dt_cmp op_isN cmp_isN (DR.of (de_attr (cs := ["Map", "Paper"]) (f := "roads") (by first | exact L.ats (f := "roads") ⟨L.cls (fa_12), L.noat (fa_13), ⟨L.cls (fa_10), L.noat (fa_11), True.intro⟩⟩) (dr_bor (i := 5) rfl (pv 5)))) (DR.of de_non) (nomark _)) (de_lst da_nil) (de_callTy call_list_of list_op rfl (L.free (fa_58)) boot_list_ (dra_cons (DR.of (de_attr (cs := ["Map", "Paper"]) (f := "roads") (by first | exact L.ats (f := "roads") ⟨L.cls (fa_12), L.noat (fa_13), ⟨L.cls (fa_10), L.noat (fa_11), True.intro⟩⟩) (dr_bor (i := 5) rfl (pv 5)))) dra_nil))) (fun pe => ps_set (i := 6) sc_check_paper.nd rfl (Or.inl rfl) pe)) (fun _ => rfl) fun roads_1 => db_any 7 <| db_step (fun (s : Unit) => [.bor chart_1, .val kind_1, .val start_1, .val goal_1, .val moment_1, .bor told_1, .val roads_1, .any, .un, .un, .un]) (ds_for1 (i := 7) (S := Unit) (Γ := (fun (s : Unit) => [.bor chart_1, .val kind_1, .val start_1, .val goal_1, .val moment_1, .bor told_1, .val roads_1, .any, .un, .un, .un])) (f := (m_check_paper_l1 chart_1)) () rfl ctx_def (di_seq (de_add (dr_val (i := 6) rfl (pv 6)) (DR.of (DNL.de (dn_lcT (own := [("name", 7), ("_", 10)]) (i := 7) (j := 10) (me := fun name_1 x_1 => (.ok name_1)) (CtxOk.calm ctx_def) sc_check_paper.nd (dir_seq (DR.of (de_attr (cs := ["Paper"]) (f := "lows") (by first | exact L.ats (f := "lows") ⟨L.cls (fa_10), L.noat (fa_59), True.intro⟩) (dr_bor (i := 5) rfl (pv 5))))) (blkOk_by (by kernel_rfl)) rfl (fun _ _ _ _ _ => pg_tup rfl (pgs_cons (pg_name (i := 7) sc_check_paper.nd rfl (Or.inl rfl)) (pgs_cons (pg_name (i := 10) sc_check_paper.nd rfl (Or.inl rfl)) pgs_nil))) (fun _ _ _ _ _ name_1 x_1 => (de_val (i := 7) rfl (pv 7)))))))) (pg_name (i := 7) sc_check_paper.nd rfl (Or.inl rfl)) (fun _ name_2 => db_G [.bor chart_1, .val kind_1, .val start_1, .val goal_1, .val moment_1, .bor told_1, .val roads_1, .val name_2, .un, .un, .un] rfl <| db_step (fun _ => [.bor chart_1, .val kind_1, .val start_1, .val goal_1, .val moment_1, .bor told_1, .val roads_1, .val name_2, .un, .un, .un]) (ds_expr (de_meth (c := "Map") (mn := "road") ctx_def (L.cls (fa_12)) (L.meth (fa_29)) k_Map_road (hr.mono (by decide)) b_Map_road (dr_bor (i := 0) rfl (pv 0)) (dam_frz (de_val (i := 7) rfl (pv 7)) dam_nil)) (fun pe => ps_expr pe)) (fun _ => rfl) fun _ => db_any 7 <| db_nil rfl)) (fun _ => rfl) (fun _ => db_G [.bor chart_1, .val kind_1, .val start_1, .val goal_1, .val moment_1, .bor told_1, .val roads_1, .any, .un, .un, .un] rfl <| db_ifr (dt_cmp (op_eqD hr.u64) cmp_eq (dr_val (i := 2) rfl (pv 2)) (dr_val (i := 3) rfl (pv 3)) (nomark _)) (db_last (ds_ret (de_and (de_cmp (op_eqD hr.u64) cmp_eq (DR.of (de_attr (cs := ["Map", "Paper"]) (f := "roads") (by first | exact L.ats (f := "roads") ⟨L.cls (fa_12), L.noat (fa_13), ⟨L.cls (fa_10), L.noat (fa_11), True.intro⟩⟩) (dr_bor (i := 5) rfl (pv 5)))) (DR.of (de_tup da_nil)) (nomark _)) (de_one (de_cmp (op_eqD hr.u64) cmp_eq (DR.of (de_attr (cs := ["Paper"]) (f := "arrival") (by first | exact L.ats (f := "arrival") ⟨L.cls (fa_10), L.noat (fa_56), True.intro⟩) (dr_bor (i := 5) rfl (pv 5)))) (dr_val (i := 4) rfl (pv 4)) (nomark _)))))) (db_ifr (dt_cmp (op_neD hr.u64) cmp_ne (DR.of (de_cmp op_isN cmp_isN (DR.of (de_attr (cs := ["Map", "Paper"]) (f := "roads") (by first | exact L.ats (f := "roads") ⟨L.cls (fa_12), L.noat (fa_13), ⟨L.cls (fa_10), L.noat (fa_11), True.intro⟩⟩) (dr_bor (i := 5) rfl (pv 5)))) (DR.of de_non) (nomark _))) (DR.of (de_cmp op_isN cmp_isN (DR.of (de_attr (cs := ["Paper"]) (f := "arrival") (by first | exact L.ats (f := "arrival") ⟨L.cls (fa_10), L.noat (fa_56), True.intro⟩) (dr_bor (i := 5) rfl (pv 5)))) (DR.of de_non) (nomark _))) (nomark _)) (db_last (ds_ret de_bl)) (db_step (fun least_1 => [.bor chart_1, .val kind_1, .val start_1, .val goal_1, .val moment_1, .bor told_1, .val roads_1, .any, .val least_1, .un, .un]) (ds_set (de_call ctx_def k_least_labels (hr.mono (by decide)) rfl (L.glo (fa_60)) F_least_labels.kp b_least_labels (dam_frz (de_attr (cs := ["Paper"]) (f := "lows") (by first | exact L.ats (f := "lows") ⟨L.cls (fa_10), L.noat (fa_59), True.intro⟩) (dr_bor (i := 5) rfl (pv 5))) dam_nil)) (fun pe => ps_set (i := 8) sc_check_paper.nd rfl (Or.inr rfl) pe)) (fun _ => rfl) fun least_1 => db_step (fun ends_1 => [.bor chart_1, .val kind_1, .val start_1, .val goal_1, .val moment_1, .bor told_1, .val roads_1, .any, .val least_1, .val ends_1, .un]) (ds_setLc (i := 9) (dn_lc2 (own := [("name", 7)]) (i := 7) (mt := fun name_3 => (B2 D.mem (.ok name_3) (.ok least_1))) (me := fun name_3 => (B2 D.ix (.ok least_1) (.ok name_3))) (CtxOk.calm ctx_def) sc_check_paper.nd (dir_seq (DR.of (de_meth (c := "Map") (mn := "roads_to") ctx_def (L.cls (fa_12)) (L.meth (fa_61)) k_Map_roads_to (hr.mono (by decide)) b_Map_roads_to (dr_bor (i := 0) rfl (pv 0)) (dam_frz (de_val (i := 3) rfl (pv 3)) dam_nil)))) (blkOk_by (by kernel_rfl)) rfl (fun _ _ _ _ _ => pg_name (i := 7) sc_check_paper.nd rfl (Or.inl rfl)) (fun _ _ _ _ _ name_3 => (dt_cmp (op_inAll hr.u70) cmp_in (dr_val (i := 7) rfl (pv 7)) (dr_val (i := 8) rfl (pv 8)) rfl)) (fun _ _ _ _ _ name_3 => (de_ix hr.u70 (dr_val (i := 8) rfl (pv 8)) (dr_val (i := 7) rfl (pv 7))))) rfl rfl rfl) (fun _ => rfl) fun ends_1 => db_ifr (dt_not (dt_val (DR.of (de_call ctx_def k_are_low (hr.mono (by decide)) rfl (L.glo (fa_62)) F_are_low.kp b_are_low (dam_bor (dr_bor (i := 0) rfl (pv 0)) (dam_frz (de_val (i := 1) rfl (pv 1)) (dam_frz (de_val (i := 2) rfl (pv 2)) (dam_frz (de_val (i := 4) rfl (pv 4)) (dam_bor (dr_val (i := 8) rfl (pv 8)) dam_nil))))))))) (db_last (ds_ret de_bl)) (db_ifr (dt_cmp op_isN cmp_isN (DR.of (de_attr (cs := ["Map", "Paper"]) (f := "roads") (by first | exact L.ats (f := "roads") ⟨L.cls (fa_12), L.noat (fa_13), ⟨L.cls (fa_10), L.noat (fa_11), True.intro⟩⟩) (dr_bor (i := 5) rfl (pv 5)))) (DR.of de_non) (nomark _)) (db_last (ds_ret (de_not (dr_val (i := 9) rfl (pv 9))))) (db_last (ds_ret (de_and (de_call ctx_def k_route_arrives (hr.mono (by decide)) rfl (L.glo (fa_63)) F_route_arrives.kp b_route_arrives (dam_bor (dr_bor (i := 0) rfl (pv 0)) (dam_frz (de_val (i := 1) rfl (pv 1)) (dam_frz (de_val (i := 2) rfl (pv 2)) (dam_bor (dr_val (i := 3) rfl (pv 3)) (dam_frz (de_val (i := 4) rfl (pv 4)) (dam_bor (dr_bor (i := 5) rfl (pv 5)) dam_nil))))))) (de_one (de_cmp op_ge cmp_ge (DR.of (de_callB (cr_minL hr.u70 (CtxOk.calm ctx_def)) minL_op rfl (L.free (fa_42)) boot_min_ (dra_cons (dr_val (i := 9) rfl (pv 9)) dra_nil))) (DR.of (de_attr (cs := ["Paper"]) (f := "arrival") (by first | exact L.ats (f := "arrival") ⟨L.cls (fa_10), L.noat (fa_56), True.intro⟩) (dr_bor (i := 5) rfl (pv 5)))) (nomark _))))))))))
def g_Paper_init : D → D → D → M (List (String × D)) := fun roads_1 arrival_1 lows_1 => (mField "roads" [] (mIf (B2 D.isN (.ok roads_1) (.ok .non)) (.ok .non) (B1 (f1 D.toTup) (A1 (.ok roads_1) A0))) >>= fun flds_1 => (mField "arrival" flds_1 (.ok arrival_1) >>= fun flds_2 => (mField "lows" flds_2 (L1 ((B1 D.items (.ok lows_1)) >>= fun ds => compL (fElt noT (fun label_1 => (B1 (f1 D.toTup) (A1 (.ok label_1) A0)))) ds)) >>= fun flds_3 => (.ok flds_3))))
def m_Paper_init : List D → M (List (String × D)) := a3 g_Paper_init
theorem e_Paper_init (roads_1 arrival_1 lows_1 : D) : m_Paper_init [roads_1, arrival_1, lows_1] = g_Paper_init roads_1 arrival_1 lows_1 := a3_ g_Paper_init roads_1 arrival_1 lows_1
theorem sc_Paper_init : FnScope ["self", "roads", "arrival", "lows", "label"] ["self", "roads", "arrival", "lows"] (d_Paper_init).scope := ⟨rfl, rfl, rfl, by decide +kernel, rfl, by decide +kernel, by decide +kernel⟩
theorem ok_Paper_init {P : Program} {w : World} {K : PySem.W.Frag} {mg : Str → Option Value} {base : Heap} (L : Lw P K mg) {fd : FuncData} (F : DefOk K d_Paper_init fd) : FnOk P w K mg base (L2.CX P w) 1 (He.fAd K d_Paper_init.at_) fd ["self", "roads", "arrival", "lows"] (spI K "Paper" [true, false, true] m_Paper_init) := by
  refine fn_init (c := "Paper") F sc_Paper_init rfl (by decide) (fun cdv A outer s H E hr sf ds hl => ?_)
  match ds, hl with
  | [roads_1, arrival_1, lows_1], _ =>
    exact db_G [.obj sf "Paper" [], .bor roads_1, .val arrival_1, .bor lows_1, .un] rfl <| db_step (fun flds_1 => [.obj sf "Paper" flds_1, .bor roads_1, .val arrival_1, .bor lows_1, .un]) (ds_fieldO (f := "roads") (i := 0) rfl (pv 0) ⟨L.cls (fa_10), L.noat (fa_11)⟩ (de_if (dt_cmp op_isN cmp_isN (dr_bor (i := 1) rfl (pv 1)) (DR.of de_non) (nomark _)) de_non (de_callTy call_tuple_of tup_op rfl (L.free (fa_14)) boot_tuple_ (dra_cons (dr_bor (i := 1) rfl (pv 1)) dra_nil))) rfl) (fun _ => rfl) fun flds_1 => db_step (fun flds_2 => [.obj sf "Paper" flds_2, .bor roads_1, .val arrival_1, .bor lows_1, .un]) (ds_fieldO (f := "arrival") (i := 0) rfl (pv 0) ⟨L.cls (fa_10), L.noat (fa_56)⟩ (de_val (i := 2) rfl (pv 2)) rfl) (fun _ => rfl) fun flds_2 => db_step (fun flds_3 => [.obj sf "Paper" flds_3, .bor roads_1, .val arrival_1, .bor lows_1, .un]) (ds_fieldO (f := "lows") (i := 0) rfl (pv 0) ⟨L.cls (fa_10), L.noat (fa_59)⟩ (DNL.de (dn_lc1 (own := [("label", 4)]) (i := 4) (me := fun label_1 => (B1 (f1 D.toTup) (A1 (.ok label_1) A0))) (CtxOk.calm ctx_def) sc_Paper_init.nd (dir_seq (dr_bor (i := 3) rfl (pv 3))) (blkOk_by (by kernel_rfl)) rfl (fun _ _ _ _ _ => pg_name (i := 4) sc_Paper_init.nd rfl (Or.inl rfl)) (fun _ _ _ _ _ label_1 => (de_callTy call_tuple_of tup_op rfl (L.free (fa_14)) boot_tuple_ (dra_cons (dr_val (i := 4) rfl (pv 4)) dra_nil))))) rfl) (fun _ => rfl) fun flds_3 => db_any 1 <| db_any 2 <| db_any 3 <| db_any 4 <| db_nil rfl
def g_read_number : D → D → M (D) := fun word_1 line_1 => (mIf (mOr (mNot (T3 D.le D.le (.ok (.int 1)) (B1 (f1 D.len) (A1 (.ok word_1) A0)) (.ok (.int 9)))) (mNot (B1 D.tru (B1 (f1 D.all) (A1 (L1 ((B1 D.items (.ok word_1)) >>= fun ds => compL (fElt noT (fun char_1 => (C2 D.mem (.ok char_1) (.ok (.str "0123456789"))))) ds)) A0))))) (mRs (mExc1 "InvalidPaper" "line" (.ok line_1))) (mIf (mAnd (B2 D.eq (B2 D.ix (.ok word_1) (.ok (.int 0))) (.ok (.str "0"))) (B2 D.gt (B1 (f1 D.len) (A1 (.ok word_1) A0)) (.ok (.int 1)))) (mRs (mExc1 "InvalidPaper" "line" (.ok line_1))) (B1 (f1 D.toInt) (A1 (.ok word_1) A0))))
def m_read_number : List D → M (D) := a2 g_read_number
theorem e_read_number (word_1 line_1 : D) : m_read_number [word_1, line_1] = g_read_number word_1 line_1 := a2_ g_read_number word_1 line_1
theorem sc_read_number : FnScope ["word", "line", "char"] ["word", "line"] (d_read_number).scope := ⟨rfl, rfl, rfl, by decide +kernel, rfl, by decide +kernel, by decide +kernel⟩
theorem ok_read_number {P : Program} {w : World} {K : PySem.W.Frag} {mg : Str → Option Value} {base : Heap} (L : Lw P K mg) {fd : FuncData} (F : DefOk K d_read_number fd) : FnOk P w K mg base (L2.CX P w) 2 (He.fAd K d_read_number.at_) fd ["word", "line"] (spD K [true, false] m_read_number) := by
  refine fn_def F sc_read_number rfl (fun cdv A outer s H E hr ds hl => ?_)
  match ds, hl with
  | [word_1, line_1], _ =>
    exact db_G [.bor word_1, .val line_1, .un] rfl <| db_ifRs (DW.dt (dw_or (dt_not (dt_chain op_le op_le cmp_le cmp_le (DR.of de_int) (DR.of (de_callB lenR len_op rfl (L.free (fa_3)) boot_len_ (dra_cons (dr_bor (i := 0) rfl (pv 0)) dra_nil))) (DR.of (de_gintE rfl (L.int (fa_65)))))) (dw_or1 (dt_not (dt_val (DR.of (de_callB (cr_all (CtxOk.calm ctx_def)) all_op rfl (L.free (fa_17)) boot_all_ (dra_cons (DR.of (DNL.de (dn_lc1 (own := [("char", 2)]) (i := 2) (me := fun char_1 => (C2 D.mem (.ok char_1) (.ok (.str "0123456789")))) (CtxOk.calm ctx_def) sc_read_number.nd (dir_seq (dr_bor (i := 0) rfl (pv 0))) (blkOk_by (by kernel_rfl)) rfl (fun _ _ _ _ _ => pg_name (i := 2) sc_read_number.nd rfl (Or.inl rfl)) (fun _ _ _ _ _ char_1 => (de_cmp (op_inAll hr.u70) cmp_in (dr_val (i := 2) rfl (pv 2)) (DR.of (de_gstrE rfl (L.str (fa_64)) (by decide +kernel))) rfl))))) dra_nil)))))))) (db_last (ds_raise1 (c := "InvalidPaper") (f := "line") rfl takes_def (sup_InvalidPaper L) (hr.mono (by decide)) (L.glo (fa_66)) rfl (de_val (i := 1) rfl (pv 1)))) (db_ifRs (DW.dt (dw_and (dt_cmp (op_eqD hr.u64) cmp_eq (DR.of (de_ix hr.u70 (dr_bor (i := 0) rfl (pv 0)) (DR.of de_int))) (DR.of (de_str (by decide +kernel))) (nomark _)) (dw_and1 (dt_cmp op_gt cmp_gt (DR.of (de_callB lenR len_op rfl (L.free (fa_3)) boot_len_ (dra_cons (dr_bor (i := 0) rfl (pv 0)) dra_nil))) (DR.of de_int) (nomark _))))) (db_last (ds_raise1 (c := "InvalidPaper") (f := "line") rfl takes_def (sup_InvalidPaper L) (hr.mono (by decide)) (L.glo (fa_66)) rfl (de_val (i := 1) rfl (pv 1)))) (db_last (ds_ret (de_callTy int_R int_op rfl (L.free (fa_1)) boot_int_ (dra_cons (dr_bor (i := 0) rfl (pv 0)) dra_nil)))))
def m_parse_paper_l1 : (Sl × List D) → D → D → M (Sl × List D) := fun s line_2 words_1 => match s with | (roads_4, lows_2) => (mIf (mAnd (B2 D.notN (roads_4).rd (.ok .non)) (mAnd (B2 D.eq (B1 (f1 D.len) (A1 (.ok (.lst lows_2)) A0)) (.ok (.int 0))) (mAnd (B2 D.eq (B1 (f1 D.len) (A1 (.ok words_1) A0)) (.ok (.int 2))) (mAnd (B2 D.eq (B2 D.ix (.ok words_1) (.ok (.int 0))) (.ok (.str "by"))) (B1 D.tru (B1 m_is_name (A1 (B2 D.ix (.ok words_1) (.ok (.int 1))) A0))))))) ((roads_4).push (B2 D.ix (.ok words_1) (.ok (.int 1))) >>= fun roads_5 => (.ok (roads_5, lows_2))) (mIf (mAnd (B2 D.eq (B1 (f1 D.len) (A1 (.ok words_1) A0)) (.ok (.int 3))) (mAnd (B2 D.eq (B2 D.ix (.ok words_1) (.ok (.int 0))) (.ok (.str "low"))) (B1 D.tru (B1 m_is_name (A1 (B2 D.ix (.ok words_1) (.ok (.int 1))) A0))))) (mPush lows_2 (B1 D.mkTup (A1 (B2 D.ix (.ok words_1) (.ok (.int 1))) (A1 (B1 m_read_number (A1 (B2 D.ix (.ok words_1) (.ok (.int 2))) (A1 (.ok line_2) A0))) A0))) >>= fun lows_3 => (.ok (roads_4, lows_3))) (mExc1 "InvalidPaper" "line" (.ok line_2))))
def g_parse_paper : D → M (D) := fun text_1 => ((L1 ((B1 D.items (meth D.isStr (.ok text_1) (A1 (.ok (.str "\n")) A0) (m1 D.split))) >>= fun ds => compL (fElt noT (fun line_1 => (meth D.isStr (.ok line_1) (A1 (.ok (.str " ")) A0) (m1 D.split)))) ds)) >>= fun lines_1 => ((.ok .non) >>= fun roads_1 => ((.ok .non) >>= fun arrival_1 => ((mIf (mAnd (B2 D.eq (B1 (f1 D.len) (A1 (B2 D.ix (.ok lines_1) (.ok (.int 0))) A0)) (.ok (.int 2))) (B2 D.eq (B2 D.ix (B2 D.ix (.ok lines_1) (.ok (.int 0))) (.ok (.int 0))) (.ok (.str "arrives")))) ((B1 m_read_number (A1 (B2 D.ix (B2 D.ix (.ok lines_1) (.ok (.int 0))) (.ok (.int 1))) (A1 (.ok (.int 1)) A0))) >>= fun arrival_2 => ((nLst A0) >>= fun roads_2 => (.ok ((Sl.own roads_2), arrival_2)))) (mIf (B2 D.ne (B2 D.ix (.ok lines_1) (.ok (.int 0))) (B1 D.mkLst (A1 (.ok (.str "none")) A0))) (mExc1 "InvalidPaper" "line" (.ok (.int 1))) (.ok ((Sl.val roads_1), arrival_1))) : M (Sl × D)) >>= fun s => match s with | (roads_3, arrival_3) => ((nLst A0) >>= fun lows_1 => (((B1 D.enum2 (A1 (S3 (.ok lines_1) (B1 D.bnd (.ok (.int 1))) oN) (A1 (.ok (.int 2)) A0))) >>= fun ds => loopF (fun s => on2 (m_parse_paper_l1 s)) ds (roads_3, lows_1)) >>= fun s => match s with | (roads_6, lows_4) => (mkIns "Paper" m_Paper_init (A1 (roads_6).rd (A1 (.ok arrival_3) (A1 (.ok (.lst lows_4)) A0))))))))))
def m_parse_paper : List D → M (D) := a1 g_parse_paper
theorem e_parse_paper (text_1 : D) : m_parse_paper [text_1] = g_parse_paper text_1 := a1_ g_parse_paper text_1
theorem sc_parse_paper : FnScope ["text", "lines", "roads", "arrival", "lows", "line", "words"] ["text"] (d_parse_paper).scope := ⟨rfl, rfl, rfl, by decide +kernel, rfl, by decide +kernel, by decide +kernel⟩
theorem ok_parse_paper {P : Program} {w : World} {K : PySem.W.Frag} {mg : Str → Option Value} {base : Heap} (L : Lw P K mg) {fd : FuncData} (F : DefOk K d_parse_paper fd) : FnOk P w K mg base (L2.CX P w) 3 (He.fAd K d_parse_paper.at_) fd ["text"] (spD K [true] m_parse_paper) := by
  obtain ⟨fd_read_number, F_read_number⟩ := L.c.def_ 33 (d := d_read_number) rfl
  have k_read_number := ok_read_number (P := P) (w := w) (base := base) L F_read_number
  have b_read_number : Binds K fd_read_number ["word", "line"] [] := F_read_number.bindsN fun _ _ _ _ _ _ us hl => match us, hl with | [_, _], _ => rfl
  obtain ⟨fd_is_name, F_is_name⟩ := L.c.def_ 6 (d := d_is_name) rfl
  have k_is_name := ok_is_name (P := P) (w := w) (base := base) L F_is_name
  have b_is_name : Binds K fd_is_name ["text"] [] := F_is_name.bindsN fun _ _ _ _ _ _ us hl => match us, hl with | [_], _ => rfl
  obtain ⟨fd_Paper_init, F_Paper_init⟩ := L.c.def_ 32 (d := d_Paper_init) rfl
  have k_Paper_init := ok_Paper_init (P := P) (w := w) (base := base) L F_Paper_init
  have b_Paper_init : Binds K fd_Paper_init ["self", "roads", "arrival", "lows"] [] := F_Paper_init.bindsN fun _ _ _ _ _ _ us hl => match us, hl with | [_, _, _, _], _ => rfl
  refine fn_def F sc_parse_paper rfl (fun cdv A outer s H E hr ds hl => ?_)
  match ds, hl with
  | [text_1], _ =>
    exact db_G [.bor text_1, .un, .un, .un, .un, .un, .un] rfl <| db_step (fun lines_1 => [.bor text_1, .val lines_1, .un, .un, .un, .un, .un]) (ds_setLc (i := 1) (dn_lc1 (own := [("line", 5)]) (i := 5) (me := fun line_1 => (meth D.isStr (.ok line_1) (A1 (.ok (.str " ")) A0) (m1 D.split))) (CtxOk.calm ctx_def) sc_parse_paper.nd (dir_seq (DR.of (de_split (dr_bor (i := 0) rfl (pv 0)) (dra_cons (DR.of (de_str (by decide +kernel))) dra_nil)))) (blkOk_by (by kernel_rfl)) rfl (fun _ _ _ _ _ => pg_name (i := 5) sc_parse_paper.nd rfl (Or.inl rfl)) (fun _ _ _ _ _ line_1 => (de_split (dr_val (i := 5) rfl (pv 5)) (dra_cons (DR.of (de_str (by decide +kernel))) dra_nil)))) rfl rfl rfl) (fun _ => rfl) fun lines_1 => db_step (fun roads_1 => [.bor text_1, .val lines_1, .val roads_1, .un, .un, .un, .un]) (ds_set de_non (fun pe => ps_set (i := 2) sc_parse_paper.nd rfl (Or.inl rfl) pe)) (fun _ => rfl) fun roads_1 => db_step (fun arrival_1 => [.bor text_1, .val lines_1, .val roads_1, .val arrival_1, .un, .un, .un]) (ds_set de_non (fun pe => ps_set (i := 3) sc_parse_paper.nd rfl (Or.inl rfl) pe)) (fun _ => rfl) fun arrival_1 => db_step (fun (s : Sl × D) => [.bor text_1, .val lines_1, s.1, .val s.2, .un, .un, .un]) (ds_if (DW.dt (dw_and (dt_cmp (op_eqD hr.u64) cmp_eq (DR.of (de_callB lenR len_op rfl (L.free (fa_3)) boot_len_ (dra_cons (DR.of (de_ix hr.u70 (dr_val (i := 1) rfl (pv 1)) (DR.of de_int))) dra_nil))) (DR.of de_int) (nomark _)) (dw_and1 (dt_cmp (op_eqD hr.u64) cmp_eq (DR.of (de_ix hr.u70 (DR.of (de_ix hr.u70 (dr_val (i := 1) rfl (pv 1)) (DR.of de_int))) (DR.of de_int))) (DR.of (de_str (by decide +kernel))) (nomark _))))) (db_step (fun arrival_2 => [.bor text_1, .val lines_1, .val roads_1, .val arrival_2, .un, .un, .un]) (ds_set (de_call ctx_def k_read_number (hr.mono (by decide)) rfl (L.glo (fa_67)) F_read_number.kp b_read_number (dam_bor (DR.of (de_ix hr.u70 (DR.of (de_ix hr.u70 (dr_val (i := 1) rfl (pv 1)) (DR.of de_int))) (DR.of de_int))) (dam_frz de_int dam_nil))) (fun pe => ps_set (i := 3) sc_parse_paper.nd rfl (Or.inl rfl) pe)) (fun _ => rfl) fun arrival_2 => db_step (fun roads_2 => [.bor text_1, .val lines_1, .own roads_2, .val arrival_2, .un, .un, .un]) (ds_setN (dn_lst da_nil) (fun pe => ps_set (i := 2) sc_parse_paper.nd rfl (Or.inl rfl) pe)) (fun _ => rfl) fun roads_2 => db_nil rfl) (db_last (ds_if (dt_cmp (op_neD hr.u64) cmp_ne (DR.of (de_ix hr.u70 (dr_val (i := 1) rfl (pv 1)) (DR.of de_int))) (DR.of (de_lst (da_cons (de_str (by decide +kernel)) da_nil))) (nomark _)) (db_last (ds_raise1 (c := "InvalidPaper") (f := "line") rfl takes_def (sup_InvalidPaper L) (hr.mono (by decide)) (L.glo (fa_66)) rfl de_int)) (db_nil rfl)))) (fun _ => rfl) (fun s => match s with | (roads_3, arrival_3) => db_G [.bor text_1, .val lines_1, roads_3, .val arrival_3, .un, .un, .un] rfl <| db_step (fun lows_1 => [.bor text_1, .val lines_1, roads_3, .val arrival_3, .own lows_1, .un, .un]) (ds_setN (dn_lst da_nil) (fun pe => ps_set (i := 4) sc_parse_paper.nd rfl (Or.inl rfl) pe)) (fun _ => rfl) fun lows_1 => db_any 5 <| db_any 6 <| db_step (fun (s : Sl × List D) => [.bor text_1, .val lines_1, s.1, .val arrival_3, .own s.2, .any, .any]) (ds_for2 (i := 5) (j := 6) (S := Sl × List D) (Γ := (fun (s : Sl × List D) => [.bor text_1, .val lines_1, s.1, .val arrival_3, .own s.2, .any, .any])) (f := m_parse_paper_l1) (roads_3, lows_1) rfl ctx_def (di_enum2 rfl (L.free (fa_9)) (da_cons (de_sl (dr_val (i := 1) rfl (pv 1)) (do_some (DR.of de_int)) do_none) (da_cons de_int da_nil))) (pg_tup rfl (pgs_cons (pg_name (i := 5) sc_parse_paper.nd rfl (Or.inl rfl)) (pgs_cons (pg_name (i := 6) sc_parse_paper.nd rfl (Or.inl rfl)) pgs_nil))) (fun s line_2 words_1 => match s with | (roads_4, lows_2) => db_G [.bor text_1, .val lines_1, roads_4, .val arrival_3, .own lows_2, .val line_2, .val words_1] rfl <| db_last (ds_if (DW.dt (dw_and (dt_cmp op_notN cmp_notN (dr_var (i := 2) (s := roads_4) rfl (pv 2)) (DR.of de_non) (nomark _)) (dw_and (dt_cmp (op_eqD hr.u64) cmp_eq (DR.of (de_callB lenR len_op rfl (L.free (fa_3)) boot_len_ (dra_cons (dr_own (i := 4) rfl (pv 4)) dra_nil))) (DR.of de_int) (nomark _)) (dw_and (dt_cmp (op_eqD hr.u64) cmp_eq (DR.of (de_callB lenR len_op rfl (L.free (fa_3)) boot_len_ (dra_cons (dr_val (i := 6) rfl (pv 6)) dra_nil))) (DR.of de_int) (nomark _)) (dw_and (dt_cmp (op_eqD hr.u64) cmp_eq (DR.of (de_ix hr.u70 (dr_val (i := 6) rfl (pv 6)) (DR.of de_int))) (DR.of (de_str (by decide +kernel))) (nomark _)) (dw_and1 (dt_val (DR.of (de_call ctx_def k_is_name (hr.mono (by decide)) rfl (L.glo (fa_23)) F_is_name.kp b_is_name (dam_bor (DR.of (de_ix hr.u70 (dr_val (i := 6) rfl (pv 6)) (DR.of de_int))) dam_nil)))))))))) (db_step (fun roads_5 => [.bor text_1, .val lines_1, roads_5, .val arrival_3, .own lows_2, .val line_2, .val words_1]) (ds_push (i := 2) (s := roads_4) rfl (pv 2) (de_ix hr.u70 (dr_val (i := 6) rfl (pv 6)) (DR.of de_int))) (fun _ => rfl) fun roads_5 => db_any 5 <| db_any 6 <| db_nil rfl) (db_last (ds_if (DW.dt (dw_and (dt_cmp (op_eqD hr.u64) cmp_eq (DR.of (de_callB lenR len_op rfl (L.free (fa_3)) boot_len_ (dra_cons (dr_val (i := 6) rfl (pv 6)) dra_nil))) (DR.of de_int) (nomark _)) (dw_and (dt_cmp (op_eqD hr.u64) cmp_eq (DR.of (de_ix hr.u70 (dr_val (i := 6) rfl (pv 6)) (DR.of de_int))) (DR.of (de_str (by decide +kernel))) (nomark _)) (dw_and1 (dt_val (DR.of (de_call ctx_def k_is_name (hr.mono (by decide)) rfl (L.glo (fa_23)) F_is_name.kp b_is_name (dam_bor (DR.of (de_ix hr.u70 (dr_val (i := 6) rfl (pv 6)) (DR.of de_int))) dam_nil)))))))) (db_step (fun lows_3 => [.bor text_1, .val lines_1, roads_4, .val arrival_3, .own lows_3, .val line_2, .val words_1]) (ds_pushO (i := 4) rfl (pv 4) (de_tup (da_cons (de_ix hr.u70 (dr_val (i := 6) rfl (pv 6)) (DR.of de_int)) (da_cons (de_call ctx_def k_read_number (hr.mono (by decide)) rfl (L.glo (fa_67)) F_read_number.kp b_read_number (dam_bor (DR.of (de_ix hr.u70 (dr_val (i := 6) rfl (pv 6)) (DR.of de_int))) (dam_frz (de_val (i := 5) rfl (pv 5)) dam_nil))) da_nil)))) (fun _ => rfl) fun lows_3 => db_any 5 <| db_any 6 <| db_nil rfl) (db_last (ds_raise1 (c := "InvalidPaper") (f := "line") rfl takes_def (sup_InvalidPaper L) (hr.mono (by decide)) (L.glo (fa_66)) rfl (de_val (i := 5) rfl (pv 5))))))))) (fun _ => rfl) (fun s => match s with | (roads_6, lows_4) => db_G [.bor text_1, .val lines_1, roads_6, .val arrival_3, .own lows_4, .any, .any] rfl <| db_last (ds_ret (de_make (c := "Paper") ctx_def (L.mkr (fa_68)) k_Paper_init (hr.mono (by decide)) rfl (L.glo (fa_69)) b_Paper_init (dam_bor (dr_var (i := 2) (s := roads_6) rfl (pv 2)) (dam_frz (de_val (i := 3) rfl (pv 3)) (dam_bor (dr_own (i := 4) rfl (pv 4)) dam_nil)))))))
def g_check_text : D → D → D → D → D → D → M (D) := fun chart_1 kind_1 start_1 goal_1 moment_1 text_1 => (B1 m_check_paper (A1 (.ok chart_1) (A1 (.ok kind_1) (A1 (.ok start_1) (A1 (.ok goal_1) (A1 (.ok moment_1) (A1 (B1 m_parse_paper (A1 (.ok text_1) A0)) A0)))))))
def m_check_text : List D → M (D) := a6 g_check_text
theorem e_check_text (chart_1 kind_1 start_1 goal_1 moment_1 text_1 : D) : m_check_text [chart_1, kind_1, start_1, goal_1, moment_1, text_1] = g_check_text chart_1 kind_1 start_1 goal_1 moment_1 text_1 := a6_ g_check_text chart_1 kind_1 start_1 goal_1 moment_1 text_1
theorem sc_check_text : FnScope ["chart", "kind", "start", "goal", "moment", "text"] ["chart", "kind", "start", "goal", "moment", "text"] (d_check_text).scope := ⟨rfl, rfl, rfl, by decide +kernel, rfl, by decide +kernel, by decide +kernel⟩
theorem ok_check_text {P : Program} {w : World} {K : PySem.W.Frag} {mg : Str → Option Value} {base : Heap} (L : Lw P K mg) {fd : FuncData} (F : DefOk K d_check_text fd) : FnOk P w K mg base (L2.CX P w) 9 (He.fAd K d_check_text.at_) fd ["chart", "kind", "start", "goal", "moment", "text"] (spD K [true, false, false, false, false, true] m_check_text) := by
  obtain ⟨fd_check_paper, F_check_paper⟩ := L.c.def_ 31 (d := d_check_paper) rfl
  have k_check_paper := ok_check_paper (P := P) (w := w) (base := base) L F_check_paper
  have b_check_paper : Binds K fd_check_paper ["chart", "kind", "start", "goal", "moment", "told"] [] := F_check_paper.bindsN fun _ _ _ _ _ _ us hl => match us, hl with | [_, _, _, _, _, _], _ => rfl
  obtain ⟨fd_parse_paper, F_parse_paper⟩ := L.c.def_ 34 (d := d_parse_paper) rfl
  have k_parse_paper := ok_parse_paper (P := P) (w := w) (base := base) L F_parse_paper
  have b_parse_paper : Binds K fd_parse_paper ["text"] [] := F_parse_paper.bindsN fun _ _ _ _ _ _ us hl => match us, hl with | [_], _ => rfl
  refine fn_def F sc_check_text rfl (fun cdv A outer s H E hr ds hl => ?_)
  match ds, hl with
  | [chart_1, kind_1, start_1, goal_1, moment_1, text_1], _ =>
    exact db_G [.bor chart_1, .val kind_1, .val start_1, .val goal_1, .val moment_1, .bor text_1] rfl <| db_last (ds_ret (de_call ctx_def k_check_paper (hr.mono (by decide)) rfl (L.glo (fa_71)) F_check_paper.kp b_check_paper (dam_bor (dr_bor (i := 0) rfl (pv 0)) (dam_frz (de_val (i := 1) rfl (pv 1)) (dam_frz (de_val (i := 2) rfl (pv 2)) (dam_frz (de_val (i := 3) rfl (pv 3)) (dam_frz (de_val (i := 4) rfl (pv 4)) (dam_bor (DR.of (de_call ctx_def k_parse_paper (hr.mono (by decide)) rfl (L.glo (fa_70)) F_parse_paper.kp b_parse_paper (dam_bor (dr_bor (i := 5) rfl (pv 5)) dam_nil))) dam_nil))))))))
def g_law_told : D → D → M (D) := fun text_1 checks_1 => ((mkInsK "Map" m_Map_init (fun ws => pick ws 0 ++ (pick ws 1 ++ (pick ws 2 ++ ([(D.tup [])] ++ ([(D.tup [])] ++ ([])))))) (A1 (.ok (.int 60)) (A1 (B1 D.mkLst (A1 (.ok (.str "a")) A0)) (A1 (B1 D.mkLst (A1 (.ok (.str "p")) A0)) A0)))) >>= fun chart_1 => ((mTryN exU [(["InvalidPaper"], fun x2 => (mIf (mAnd (B1 D.tru (x2.isA ["InvalidMap", "UnknownName", "InvalidRoute", "InvalidPaper"])) (mAnd (B1 D.tru (x2.isA ["InvalidMap", "UnknownName", "InvalidRoute", "InvalidPaper"])) (mNot (B1 D.tru (x2.isA []))))) (x2.get "line") (B1 D.neg (.ok (.int 1))))), (["UnknownName"], fun x1 => (B1 (f1 D.toInt) (A1 (C2 D.ne (x1.get "name") (.ok (.str "zz"))) A0)))] ((mIf (B1 D.tru (.ok checks_1)) ((B1 m_check_text (A1 (.ok chart_1) (A1 (.ok (.str "zz")) (A1 (.ok (.str "zz")) (A1 (.ok (.str "zz")) (A1 (.ok (.int 0)) (A1 (.ok text_1) A0))))))) >>= fun _ => (.ok (.inl ()))) ((B1 m_parse_paper (A1 (.ok text_1) A0)) >>= fun _ => (.ok (.inl ())))) : M ((Unit) ⊕ D))) >>= fun r => sFin r (fun _ => (.ok (.int 0)))))
def m_law_told : List D → M (D) := a2 g_law_told
theorem e_law_told (text_1 checks_1 : D) : m_law_told [text_1, checks_1] = g_law_told text_1 checks_1 := a2_ g_law_told text_1 checks_1
theorem sc_law_told : FnScope ["_law_text", "_law_checks", "_law_chart", "e"] ["_law_text", "_law_checks"] (d_law_told).scope := ⟨rfl, rfl, rfl, by decide +kernel, rfl, by decide +kernel, by decide +kernel⟩
theorem ok_law_told {P : Program} {w : World} {K : PySem.W.Frag} {mg : Str → Option Value} {base : Heap} (L : Lw P K mg) {fd : FuncData} (F : DefOk K d_law_told fd) : FnOk P w K mg base (L2.CX P w) 10 (He.fAd K d_law_told.at_) fd ["_law_text", "_law_checks"] (spD K [true, true] m_law_told) := by
  obtain ⟨fd_Map_init, F_Map_init⟩ := L.c.def_ 11 (d := d_Map_init) rfl
  have k_Map_init := ok_Map_init (P := P) (w := w) (base := base) L F_Map_init
  obtain ⟨fd_check_text, F_check_text⟩ := L.c.def_ 35 (d := d_check_text) rfl
  have k_check_text := ok_check_text (P := P) (w := w) (base := base) L F_check_text
  have b_check_text : Binds K fd_check_text ["chart", "kind", "start", "goal", "moment", "text"] [] := F_check_text.bindsN fun _ _ _ _ _ _ us hl => match us, hl with | [_, _, _, _, _, _], _ => rfl
  obtain ⟨fd_parse_paper, F_parse_paper⟩ := L.c.def_ 34 (d := d_parse_paper) rfl
  have k_parse_paper := ok_parse_paper (P := P) (w := w) (base := base) L F_parse_paper
  have b_parse_paper : Binds K fd_parse_paper ["text"] [] := F_parse_paper.bindsN fun _ _ _ _ _ _ us hl => match us, hl with | [_], _ => rfl
  obtain ⟨mv_kb0, kb0⟩ := F_Map_init.kbinds0 (ps := ["self", "day", "kinds", "places", "roads", "bars"]) 1 ["day", "kinds", "places"] [("roads", .ref (kwdAt ("Map", some "__init__") "roads" K)), ("bars", .ref (kwdAt ("Map", some "__init__") "bars" K))] (fun us mv ws => us ++ (pick ws 0 ++ (pick ws 1 ++ (pick ws 2 ++ (pick mv 0 ++ (pick mv 1 ++ [])))))) (fun z => by cases z) (fun q hq => by
        rcases List.mem_cons.mp hq with rfl | hq
        · exact List.Mem.tail _ (List.Mem.head _)
        rcases List.mem_cons.mp hq with rfl | hq
        · exact List.Mem.tail _ (List.Mem.tail _ (List.Mem.head _))
        cases hq) (fun r1 r2 r3 => r1.append ((vals_pick r3 0).append ((vals_pick r3 1).append ((vals_pick r3 2).append ((vals_pick r2 0).append ((vals_pick r2 1).append (.nil)))))))
    (fun D doc pm an cdv ct us mv ws h1 h2 h3 => match us, mv, ws, h1, h2, h3 with | [_], [_, _], [_, _, _], _, _, _ => ⟨_, _, _, _, _, _, rfl, rfl, ⟨_, _, _, _, _, _, rfl, rfl, (by show _ = _; rfl)⟩⟩)
  refine fn_def F sc_law_told rfl (fun cdv A outer s H E hr ds hl => ?_)
  match ds, hl with
  | [text_1, checks_1], _ =>
    exact db_G [.bor text_1, .bor checks_1, .un, .un] rfl <| db_step (fun chart_1 => [.bor text_1, .bor checks_1, .val chart_1, .un]) (ds_set (de_makeK (c := "Map") (bc := [false, false, false]) (gd := fun ws => pick ws 0 ++ (pick ws 1 ++ (pick ws 2 ++ ([(D.tup [])] ++ ([(D.tup [])] ++ ([])))))) ctx_def (L.mkr (fa_72)) k_Map_init (hr.mono (by decide)) rfl (L.glo (fa_73)) kb0 (fun _ _ _ => rfl) rfl (fun F H vs ds h => (rpa_pick 0 rfl h (rpa_pick 1 rfl h (rpa_pick 2 rfl h (rpa_dfl (L.tup0 (p := ("Map", some "__init__")) (x := "roads") (by decide) _) (rpa_dfl (L.tup0 (p := ("Map", some "__init__")) (x := "bars") (by decide) _) .nil)))))) (dak_frz de_int (dak_frz (de_lst (da_cons (de_str (by decide +kernel)) da_nil)) (dak_frz (de_lst (da_cons (de_str (by decide +kernel)) da_nil)) dak_nil)))) (fun pe => ps_set (i := 2) sc_law_told.nd rfl (Or.inl rfl) pe)) (fun _ => rfl) fun chart_1 => db_sumF (ds_try (S := Unit) (Γ := (fun (s : Unit) => [.bor text_1, .bor checks_1, .val chart_1, .un])) (Gt := [.bor text_1, .bor checks_1, .val chart_1, .un]) (Fs := exF) rfl rfl rfl sc_law_told.nd takes_def (fun W pn xe cxT => dbx_last (dsx_if (Wk.same (Wk.same (Wk.same (Wk.same Wk.nil)))) (dt_val (dr_bor (i := 1) rfl (pv 1))) (dbx_step (fun _ => [.bor text_1, .bor checks_1, .val chart_1, .un]) (dsx_expr (Wk.same (Wk.same (Wk.same (Wk.same Wk.nil)))) (de_call cxT k_check_text (hr.mono (by decide)) rfl (L.glo (fa_74)) F_check_text.kp b_check_text (dam_bor (dr_val (i := 2) rfl (pv 2)) (dam_frz (de_str (by decide +kernel)) (dam_frz (de_str (by decide +kernel)) (dam_frz (de_str (by decide +kernel)) (dam_frz de_int (dam_bor (dr_bor (i := 0) rfl (pv 0)) dam_nil))))))) (fun pe => ps_expr pe)) (fun _ => rfl) fun _ => dbx_nil rfl) (dbx_step (fun _ => [.bor text_1, .bor checks_1, .val chart_1, .un]) (dsx_expr (Wk.same (Wk.same (Wk.same (Wk.same Wk.nil)))) (de_call cxT k_parse_paper (hr.mono (by decide)) rfl (L.glo (fa_70)) F_parse_paper.kp b_parse_paper (dam_bor (dr_bor (i := 0) rfl (pv 0)) dam_nil)) (fun pe => ps_expr pe)) (fun _ => rfl) fun _ => dbx_nil rfl))) (.consA (t := "InvalidPaper") (i := 3) ⟨rfl, by decide, .inl (L.glo (fa_66))⟩ (L.xp (by decide)) rfl rfl (fun x2 hx a oe d pn hz hf => db_G [.bor text_1, .bor checks_1, .val chart_1, .exn a d x2.args] rfl <| db_ifr (DW.dt (dw_and (dt_val (DR.of (de_isE (x := x2) (t := some "WaypapersError") (cs := ["InvalidMap", "UnknownName", "InvalidRoute", "InvalidPaper"]) hx (L.xc hx) (L.xp (by decide)) hz hf rfl rfl (L.free (fa_76)) boot_isinstance_ (pv 3) (pe_cls_ rfl (L.glo (fa_78))) (fun _ h => h)))) (dw_and (dt_val (DR.of (de_isE (x := x2) (t := none) (cs := ["InvalidMap", "UnknownName", "InvalidRoute", "InvalidPaper"]) hx (L.xc hx) (L.xp (by decide)) hz hf rfl rfl (L.free (fa_76)) boot_isinstance_ (pv 3) (pe_ty_ rfl (L.free (fa_77)) boot_ValueError_) (fun _ h => h)))) (dw_and1 (dt_not (dt_val (DR.of (de_isE (x := x2) (t := some "InvalidNotation") (cs := []) hx (L.xc hx) (L.xp (by decide)) hz hf rfl rfl (L.free (fa_76)) boot_isinstance_ (pv 3) (pe_cls_ rfl (L.glo (fa_75))) (fun _ h => h))))))))) (db_last (ds_ret (de_xfld (x := x2) (f := "line") (L.xc hx) (by decide) hz hf rfl (pv 3)))) (db_last (ds_ret (de_neg (DR.of de_int))))) (.consA (t := "UnknownName") (i := 3) ⟨rfl, by decide, .inl (L.glo (fa_28))⟩ (L.xp (by decide)) rfl rfl (fun x1 hx a oe d pn hz hf => db_G [.bor text_1, .bor checks_1, .val chart_1, .exn a d x1.args] rfl <| db_last (ds_ret (de_callTy int_R int_op rfl (L.free (fa_1)) boot_int_ (dra_cons (DR.of (de_cmp (op_neD hr.u64) cmp_ne (DR.of (de_xfld (x := x1) (f := "name") (L.xc hx) (by decide) hz hf rfl (pv 3))) (DR.of (de_str (by decide +kernel))) (nomark _))) dra_nil)))) .nil))) (fun _ => db_G [.bor text_1, .bor checks_1, .val chart_1, .un] rfl <| db_last (ds_ret de_int))
def g_law_broken : D → D → D → M (D) := fun line_1 fault_1 number_1 => ((meth D.isStr (.ok line_1) (.ok [.str " "]) (m1 D.split)) >>= fun words_1 => ((B2 D.ix (B1 D.mkLst (A1 (.ok (.str "")) (A1 (.ok (.str "0a")) (A1 (.ok (.str "A")) (A1 (.ok (.str "abcdefghijklm")) (A1 (.ok (.str "a_b")) (A1 (.ok (.str "-")) A0))))))) (B2 D.mod (.ok number_1) (.ok (.int 6)))) >>= fun name_1 => ((B2 D.ix (B1 D.mkLst (A1 (.ok (.str "")) (A1 (.ok (.str "00")) (A1 (.ok (.str "-1")) (A1 (.ok (.str "1000000000")) (A1 (.ok (.str "a")) (A1 (.ok (.str "1.")) (A1 (.ok (.str "07")) (A1 (.ok (.str "+1")) A0))))))))) (B2 D.mod (.ok number_1) (.ok (.int 8)))) >>= fun bad_1 => (mIf (B2 D.eq (.ok fault_1) (.ok (.int 1))) (B2 D.add (.ok (.str " ")) (.ok line_1)) (mIf (mAnd (B2 D.eq (.ok fault_1) (.ok (.int 2))) (B2 D.gt (B1 (f1 D.len) (A1 (.ok words_1) A0)) (.ok (.int 1)))) ((.ok line_1) >>= fun x => D.rep1 " " "  " x) (mIf (B2 D.eq (.ok fault_1) (.ok (.int 3))) (B2 D.add (.ok line_1) (.ok (.str " 1"))) (mIf (mAnd (B2 D.eq (.ok fault_1) (.ok (.int 4))) (B2 D.gt (B1 (f1 D.len) (A1 (.ok words_1) A0)) (.ok (.int 1)))) (meth D.isStr (.ok (.str " ")) (A1 (S3 (.ok words_1) oN (B1 D.bnd (B2 D.sub (B1 (f1 D.len) (A1 (.ok words_1) A0)) (.ok (.int 1))))) A0) (m1 D.join)) (mIf (B2 D.eq (.ok fault_1) (.ok (.int 5))) (B2 D.add (B1 D.upper (S3 (.ok line_1) oN (B1 D.bnd (.ok (.int 1))))) (S3 (.ok line_1) (B1 D.bnd (.ok (.int 1))) oN)) (mIf (B2 D.eq (.ok fault_1) (.ok (.int 6))) (.ok (.str "")) (mIf (mAnd (B2 D.eq (.ok fault_1) (.ok (.int 7))) (B2 D.mem (B2 D.ix (.ok words_1) (.ok (.int 0))) (B1 D.mkLst (A1 (.ok (.str "by")) (A1 (.ok (.str "low")) A0))))) (meth D.isStr (.ok (.str " ")) (A1 (B2 D.add (B1 D.mkLst (A1 (B2 D.ix (.ok words_1) (.ok (.int 0))) (A1 (.ok name_1) A0))) (S3 (.ok words_1) (B1 D.bnd (.ok (.int 2))) oN)) A0) (m1 D.join)) (mIf (mAnd (B2 D.eq (.ok fault_1) (.ok (.int 8))) (B2 D.mem (B2 D.ix (.ok words_1) (.ok (.int 0))) (B1 D.mkLst (A1 (.ok (.str "arrives")) (A1 (.ok (.str "low")) A0))))) (meth D.isStr (.ok (.str " ")) (A1 (B2 D.add (S3 (.ok words_1) oN (B1 D.bnd (B2 D.sub (B1 (f1 D.len) (A1 (.ok words_1) A0)) (.ok (.int 1))))) (B1 D.mkLst (A1 (.ok bad_1) A0))) A0) (m1 D.join)) (mIf (B2 D.eq (.ok fault_1) (.ok (.int 9))) (B2 D.add (B2 D.add (B2 D.ix (.ok words_1) (.ok (.int 0))) (.ok (.str "s"))) (S3 (.ok line_1) (B1 D.bnd (B1 (f1 D.len) (A1 (B2 D.ix (.ok words_1) (.ok (.int 0))) A0))) oN)) (B2 D.add (.ok line_1) (.ok (.str " ")))))))))))))))
def m_law_broken : List D → M (D) := a3 g_law_broken
theorem e_law_broken (line_1 fault_1 number_1 : D) : m_law_broken [line_1, fault_1, number_1] = g_law_broken line_1 fault_1 number_1 := a3_ g_law_broken line_1 fault_1 number_1
theorem sc_law_broken : FnScope ["_law_line", "_law_fault", "_law_number", "_law_words", "_law_name", "_law_bad"] ["_law_line", "_law_fault", "_law_number"] (d_law_broken).scope := ⟨rfl, rfl, rfl, by decide +kernel, rfl, by decide +kernel, by decide +kernel⟩
theorem ok_law_broken {P : Program} {w : World} {K : PySem.W.Frag} {mg : Str → Option Value} {base : Heap} (L : Lw P K mg) {fd : FuncData} (F : DefOk K d_law_broken fd) : FnOk P w K mg base (L2.CX P w) 1 (He.fAd K d_law_broken.at_) fd ["_law_line", "_law_fault", "_law_number"] (spD K [true, true, true] m_law_broken) := by
  refine fn_def F sc_law_broken rfl (fun cdv A outer s H E hr ds hl => ?_)
  match ds, hl with
  | [line_1, fault_1, number_1], _ =>
    exact db_G [.bor line_1, .bor fault_1, .bor number_1, .un, .un, .un] rfl <| db_step1 (fun words_1 => [.bor line_1, .bor fault_1, .bor number_1, .val words_1, .un, .un]) (ds1_split (i := 3) sc_law_broken.nd rfl (Or.inl rfl) (dr_bor (i := 0) rfl (pv 0)) (by decide +kernel)) (fun _ => rfl) fun words_1 => dbk_step (fun name_1 => [.bor line_1, .bor fault_1, .bor number_1, .val words_1, .val name_1, .un]) (ds_set (de_ix hr.u70 (DR.of (de_lst (da_cons (de_str (by decide +kernel)) (da_cons (de_str (by decide +kernel)) (da_cons (de_str (by decide +kernel)) (da_cons (de_str (by decide +kernel)) (da_cons (de_str (by decide +kernel)) (da_cons (de_str (by decide +kernel)) da_nil)))))))) (DR.of (de_mod (dr_bor (i := 2) rfl (pv 2)) (DR.of de_int)))) (fun pe => ps_set (i := 4) sc_law_broken.nd rfl (Or.inl rfl) pe)) (fun _ => rfl) fun name_1 => dbk_step (fun bad_1 => [.bor line_1, .bor fault_1, .bor number_1, .val words_1, .val name_1, .val bad_1]) (ds_set (de_ix hr.u70 (DR.of (de_lst (da_cons (de_str (by decide +kernel)) (da_cons (de_str (by decide +kernel)) (da_cons (de_str (by decide +kernel)) (da_cons (de_str (by decide +kernel)) (da_cons (de_str (by decide +kernel)) (da_cons (de_str (by decide +kernel)) (da_cons (de_str (by decide +kernel)) (da_cons (de_str (by decide +kernel)) da_nil)))))))))) (DR.of (de_mod (dr_bor (i := 2) rfl (pv 2)) (DR.of de_int)))) (fun pe => ps_set (i := 5) sc_law_broken.nd rfl (Or.inl rfl) pe)) (fun _ => rfl) fun bad_1 => dbk_ifr (dt_cmp (op_eqD hr.u64) cmp_eq (dr_bor (i := 1) rfl (pv 1)) (DR.of de_int) (nomark _)) (dbk_last (ds_ret (de_add (DR.of (de_str (by decide +kernel))) (dr_bor (i := 0) rfl (pv 0))))) (dbk_ifr (DW.dt (dw_and (dt_cmp (op_eqD hr.u64) cmp_eq (dr_bor (i := 1) rfl (pv 1)) (DR.of de_int) (nomark _)) (dw_and1 (dt_cmp op_gt cmp_gt (DR.of (de_callB lenR len_op rfl (L.free (fa_3)) boot_len_ (dra_cons (dr_val (i := 3) rfl (pv 3)) dra_nil))) (DR.of de_int) (nomark _))))) (dbk_retRep1 (dr_bor (i := 0) rfl (pv 0)) (by decide +kernel)) (dbk_ifr (dt_cmp (op_eqD hr.u64) cmp_eq (dr_bor (i := 1) rfl (pv 1)) (DR.of de_int) (nomark _)) (dbk_last (ds_ret (de_add (dr_bor (i := 0) rfl (pv 0)) (DR.of (de_str (by decide +kernel)))))) (dbk_ifr (DW.dt (dw_and (dt_cmp (op_eqD hr.u64) cmp_eq (dr_bor (i := 1) rfl (pv 1)) (DR.of de_int) (nomark _)) (dw_and1 (dt_cmp op_gt cmp_gt (DR.of (de_callB lenR len_op rfl (L.free (fa_3)) boot_len_ (dra_cons (dr_val (i := 3) rfl (pv 3)) dra_nil))) (DR.of de_int) (nomark _))))) (dbk_last (ds_ret (de_join (DR.of (de_str (by decide +kernel))) (dra_cons (DR.of (de_sl (dr_val (i := 3) rfl (pv 3)) do_none (do_some (DR.of (de_sub (DR.of (de_callB lenR len_op rfl (L.free (fa_3)) boot_len_ (dra_cons (dr_val (i := 3) rfl (pv 3)) dra_nil))) (DR.of de_int)))))) dra_nil)))) (dbk_ifr (dt_cmp (op_eqD hr.u64) cmp_eq (dr_bor (i := 1) rfl (pv 1)) (DR.of de_int) (nomark _)) (dbk_last (ds_ret (de_add (DR.of (de_upper (DR.of (de_sl (dr_bor (i := 0) rfl (pv 0)) do_none (do_some (DR.of de_int)))))) (DR.of (de_sl (dr_bor (i := 0) rfl (pv 0)) (do_some (DR.of de_int)) do_none))))) (dbk_ifr (dt_cmp (op_eqD hr.u64) cmp_eq (dr_bor (i := 1) rfl (pv 1)) (DR.of de_int) (nomark _)) (dbk_last (ds_ret (de_str (by decide +kernel)))) (dbk_ifr (DW.dt (dw_and (dt_cmp (op_eqD hr.u64) cmp_eq (dr_bor (i := 1) rfl (pv 1)) (DR.of de_int) (nomark _)) (dw_and1 (dt_cmp (op_inAll hr.u70) cmp_in (DR.of (de_ix hr.u70 (dr_val (i := 3) rfl (pv 3)) (DR.of de_int))) (DR.of (de_lst (da_cons (de_str (by decide +kernel)) (da_cons (de_str (by decide +kernel)) da_nil)))) rfl)))) (dbk_last (ds_ret (de_join (DR.of (de_str (by decide +kernel))) (dra_cons (DR.of (de_add (DR.of (de_lst (da_cons (de_ix hr.u70 (dr_val (i := 3) rfl (pv 3)) (DR.of de_int)) (da_cons (de_val (i := 4) rfl (pv 4)) da_nil)))) (DR.of (de_sl (dr_val (i := 3) rfl (pv 3)) (do_some (DR.of de_int)) do_none)))) dra_nil)))) (dbk_ifr (DW.dt (dw_and (dt_cmp (op_eqD hr.u64) cmp_eq (dr_bor (i := 1) rfl (pv 1)) (DR.of de_int) (nomark _)) (dw_and1 (dt_cmp (op_inAll hr.u70) cmp_in (DR.of (de_ix hr.u70 (dr_val (i := 3) rfl (pv 3)) (DR.of de_int))) (DR.of (de_lst (da_cons (de_str (by decide +kernel)) (da_cons (de_str (by decide +kernel)) da_nil)))) rfl)))) (dbk_last (ds_ret (de_join (DR.of (de_str (by decide +kernel))) (dra_cons (DR.of (de_add (DR.of (de_sl (dr_val (i := 3) rfl (pv 3)) do_none (do_some (DR.of (de_sub (DR.of (de_callB lenR len_op rfl (L.free (fa_3)) boot_len_ (dra_cons (dr_val (i := 3) rfl (pv 3)) dra_nil))) (DR.of de_int)))))) (DR.of (de_lst (da_cons (de_val (i := 5) rfl (pv 5)) da_nil))))) dra_nil)))) (dbk_ifr (dt_cmp (op_eqD hr.u64) cmp_eq (dr_bor (i := 1) rfl (pv 1)) (DR.of de_int) (nomark _)) (dbk_last (ds_ret (de_add (DR.of (de_add (DR.of (de_ix hr.u70 (dr_val (i := 3) rfl (pv 3)) (DR.of de_int))) (DR.of (de_str (by decide +kernel))))) (DR.of (de_sl (dr_bor (i := 0) rfl (pv 0)) (do_some (DR.of (de_callB lenR len_op rfl (L.free (fa_3)) boot_len_ (dra_cons (DR.of (de_ix hr.u70 (dr_val (i := 3) rfl (pv 3)) (DR.of de_int))) dra_nil)))) do_none))))) (dbk_last (ds_ret (de_add (dr_bor (i := 0) rfl (pv 0)) (DR.of (de_str (by decide +kernel))))))))))))))
def m_law_l1 (due_7 : D) (bad_9 : D) : (Unit) → D → M (Rs (Unit)) := fun _ checks_1 => (mIf (mOr (B2 D.ne (B1 m_law_told (A1 (meth D.isStr (.ok (.str "\n")) (A1 (.ok bad_9) A0) (m1 D.join)) (A1 (.ok checks_1) A0))) (.ok due_7)) (B2 D.ne (B1 m_law_told (A1 (.ok (.str "")) (A1 (.ok checks_1) A0))) (.ok (.int 1)))) ((.ok (.bl false)) >>= fun d => .ok (.rt d)) (.ok (.go ())))
def g_law : D → M (D) := fun script_1 => ((B1 m_law_numbers (A1 (.ok script_1) (A1 (.ok (.int 30)) A0))) >>= fun numbers_here_1 => ((B1 m_law_lines (A1 (.ok numbers_here_1) A0)) >>= fun lines_here_1 => (mIf (mOr (B2 D.ne (B1 m_law_told (A1 (meth D.isStr (.ok (.str "\n")) (A1 (.ok lines_here_1) A0) (m1 D.join)) (A1 (.ok (.bl false)) A0))) (.ok (.int 0))) (B2 D.ne (B1 m_law_told (A1 (meth D.isStr (.ok (.str "\n")) (A1 (.ok lines_here_1) A0) (m1 D.join)) (A1 (.ok (.bl true)) A0))) (.ok (.int 0)))) (.ok (.bl false)) ((B2 D.mod (B1 (f1 D.toInt) (A1 (B2 D.ix (.ok numbers_here_1) (.ok (.int 22))) A0)) (.ok (.int 13))) >>= fun choice_1 => ((B2 D.mod (B1 (f1 D.toInt) (A1 (B2 D.ix (.ok numbers_here_1) (.ok (.int 23))) A0)) (B1 (f1 D.len) (A1 (.ok lines_here_1) A0))) >>= fun at_1 => ((B1 (f1 D.toInt) (A1 (B2 D.ix (.ok numbers_here_1) (.ok (.int 24))) A0)) >>= fun number_1 => ((B2 D.add (B2 D.add (S3 (.ok lines_here_1) oN (B1 D.bnd (.ok at_1))) (B1 D.mkLst (A1 (B1 m_law_broken (A1 (B2 D.ix (.ok lines_here_1) (.ok at_1)) (A1 (.ok choice_1) (A1 (.ok number_1) A0)))) A0))) (S3 (.ok lines_here_1) (B1 D.bnd (B2 D.add (.ok at_1) (.ok (.int 1)))) oN)) >>= fun bad_1 => ((B2 D.add (.ok at_1) (.ok (.int 1))) >>= fun due_1 => ((mIf (B2 D.eq (.ok choice_1) (.ok (.int 10))) ((B2 D.add (.ok lines_here_1) (B1 D.mkLst (A1 (.ok (.str "low r 1")) (A1 (.ok (.str "by r")) A0)))) >>= fun bad_2 => ((B2 D.add (B1 (f1 D.len) (A1 (.ok lines_here_1) A0)) (.ok (.int 2))) >>= fun due_2 => (.ok (bad_2, due_2)))) (.ok (bad_1, due_1)) : M (D × D)) >>= fun s => match s with | (bad_3, due_3) => ((mIf (B2 D.eq (.ok choice_1) (.ok (.int 11))) ((B2 D.add (B1 D.mkLst (A1 (.ok (.str "none")) (A1 (.ok (.str "by r")) A0))) (S3 (.ok lines_here_1) (B1 D.bnd (.ok (.int 1))) oN)) >>= fun bad_4 => ((.ok (.int 2)) >>= fun due_4 => (.ok (bad_4, due_4)))) (.ok (bad_3, due_3)) : M (D × D)) >>= fun s => match s with | (bad_5, due_5) => ((mIf (B2 D.eq (.ok choice_1) (.ok (.int 12))) ((B2 D.add (B2 D.add (S3 (.ok lines_here_1) oN (B1 D.bnd (B2 D.add (.ok at_1) (.ok (.int 1))))) (B1 D.mkLst (A1 (B2 D.ix (B1 D.mkLst (A1 (.ok (.str "none")) (A1 (.ok (.str "arrives 7")) (A1 (.ok (.str "by")) (A1 (.ok (.str "low r")) A0))))) (B2 D.mod (.ok number_1) (.ok (.int 4)))) A0))) (S3 (.ok lines_here_1) (B1 D.bnd (B2 D.add (.ok at_1) (.ok (.int 1)))) oN)) >>= fun bad_6 => ((B2 D.add (.ok at_1) (.ok (.int 2))) >>= fun due_6 => (.ok (bad_6, due_6)))) (.ok (bad_5, due_5)) : M (D × D)) >>= fun s => match s with | (bad_7, due_7) => ((mIf (B2 D.eq (B2 D.mod (B1 (f1 D.toInt) (A1 (B2 D.ix (.ok numbers_here_1) (.ok (.int 25))) A0)) (.ok (.int 3))) (.ok (.int 1))) ((B2 D.add (.ok bad_7) (B1 D.mkLst (A1 (B2 D.ix (B1 D.mkLst (A1 (.ok (.str "")) (A1 (.ok (.str "by")) (A1 (.ok (.str "none")) A0)))) (B2 D.mod (B2 D.fdiv (B1 (f1 D.toInt) (A1 (B2 D.ix (.ok numbers_here_1) (.ok (.int 25))) A0)) (.ok (.int 3))) (.ok (.int 3)))) A0))) >>= fun bad_8 => (.ok bad_8)) (.ok bad_7) : M (D)) >>= fun bad_9 => (((B1 D.items (B1 D.mkLst (A1 (.ok (.bl false)) (A1 (.ok (.bl true)) A0)))) >>= fun ds => loopR (m_law_l1 due_7 bad_9) ds ()) >>= fun r => sFin r (fun _ => (C2 D.eq (B1 m_law_told (A1 (meth D.isStr (.ok (.str "\n")) (A1 (.ok lines_here_1) A0) (m1 D.join)) (A1 (.ok (.bl false)) A0))) (.ok (.int 0)))))))))))))))))
def m_law : List D → M (D) := a1 g_law
theorem e_law (script_1 : D) : m_law [script_1] = g_law script_1 := a1_ g_law script_1
theorem sc_law : FnScope ["_law_script", "_law_numbers_here", "_law_lines_here", "_law_choice", "_law_at", "_law_number", "_law_bad", "_law_due", "_law_checks"] ["_law_script"] (d_law).scope := ⟨rfl, rfl, rfl, by decide +kernel, rfl, by decide +kernel, by decide +kernel⟩
theorem ok_law {P : Program} {w : World} {K : PySem.W.Frag} {mg : Str → Option Value} {base : Heap} (L : Lw P K mg) {fd : FuncData} (F : DefOk K d_law fd) : FnOk P w K mg base (L2.CX P w) 11 (He.fAd K d_law.at_) fd ["_law_script"] (spD K [true] m_law) := by
  obtain ⟨fd_law_numbers, F_law_numbers⟩ := L.c.def_ 1 (d := d_law_numbers) rfl
  have k_law_numbers := ok_law_numbers (P := P) (w := w) (base := base) L F_law_numbers
  have b_law_numbers : Binds K fd_law_numbers ["_law_script", "_law_many"] [] := F_law_numbers.bindsN fun _ _ _ _ _ _ us hl => match us, hl with | [_, _], _ => rfl
  obtain ⟨fd_law_lines, F_law_lines⟩ := L.c.def_ 2 (d := d_law_lines) rfl
  have k_law_lines := ok_law_lines (P := P) (w := w) (base := base) L F_law_lines
  have b_law_lines : Binds K fd_law_lines ["_law_numbers_here"] [] := F_law_lines.bindsN fun _ _ _ _ _ _ us hl => match us, hl with | [_], _ => rfl
  obtain ⟨fd_law_told, F_law_told⟩ := L.c.def_ 36 (d := d_law_told) rfl
  have k_law_told := ok_law_told (P := P) (w := w) (base := base) L F_law_told
  have b_law_told : Binds K fd_law_told ["_law_text", "_law_checks"] [] := F_law_told.bindsN fun _ _ _ _ _ _ us hl => match us, hl with | [_, _], _ => rfl
  obtain ⟨fd_law_broken, F_law_broken⟩ := L.c.def_ 37 (d := d_law_broken) rfl
  have k_law_broken := ok_law_broken (P := P) (w := w) (base := base) L F_law_broken
  have b_law_broken : Binds K fd_law_broken ["_law_line", "_law_fault", "_law_number"] [] := F_law_broken.bindsN fun _ _ _ _ _ _ us hl => match us, hl with | [_, _, _], _ => rfl
  refine fn_def F sc_law rfl (fun cdv A outer s H E hr ds hl => ?_)
  match ds, hl with
  | [script_1], _ =>
    exact db_G [.bor script_1, .un, .un, .un, .un, .un, .un, .un, .un] rfl <| db_step (fun numbers_here_1 => [.bor script_1, .val numbers_here_1, .un, .un, .un, .un, .un, .un, .un]) (ds_set (de_call ctx_def k_law_numbers (hr.mono (by decide)) rfl (L.glo (fa_79)) F_law_numbers.kp b_law_numbers (dam_bor (dr_bor (i := 0) rfl (pv 0)) (dam_bor (DR.of de_int) dam_nil))) (fun pe => ps_set (i := 1) sc_law.nd rfl (Or.inl rfl) pe)) (fun _ => rfl) fun numbers_here_1 => db_step (fun lines_here_1 => [.bor script_1, .val numbers_here_1, .val lines_here_1, .un, .un, .un, .un, .un, .un]) (ds_set (de_call ctx_def k_law_lines (hr.mono (by decide)) rfl (L.glo (fa_80)) F_law_lines.kp b_law_lines (dam_bor (dr_val (i := 1) rfl (pv 1)) dam_nil)) (fun pe => ps_set (i := 2) sc_law.nd rfl (Or.inl rfl) pe)) (fun _ => rfl) fun lines_here_1 => db_ifr (DW.dt (dw_or (dt_cmp (op_neD hr.u64) cmp_ne (DR.of (de_call ctx_def k_law_told (hr.mono (by decide)) rfl (L.glo (fa_81)) F_law_told.kp b_law_told (dam_bor (DR.of (de_join (DR.of (de_str (by decide +kernel))) (dra_cons (dr_val (i := 2) rfl (pv 2)) dra_nil))) (dam_bor (DR.of de_bl) dam_nil)))) (DR.of de_int) (nomark _)) (dw_or1 (dt_cmp (op_neD hr.u64) cmp_ne (DR.of (de_call ctx_def k_law_told (hr.mono (by decide)) rfl (L.glo (fa_81)) F_law_told.kp b_law_told (dam_bor (DR.of (de_join (DR.of (de_str (by decide +kernel))) (dra_cons (dr_val (i := 2) rfl (pv 2)) dra_nil))) (dam_bor (DR.of de_bl) dam_nil)))) (DR.of de_int) (nomark _))))) (db_last (ds_ret de_bl)) (db_step (fun choice_1 => [.bor script_1, .val numbers_here_1, .val lines_here_1, .val choice_1, .un, .un, .un, .un, .un]) (ds_set (de_mod (DR.of (de_callTy int_R int_op rfl (L.free (fa_1)) boot_int_ (dra_cons (DR.of (de_ix hr.u70 (dr_val (i := 1) rfl (pv 1)) (DR.of de_int))) dra_nil))) (DR.of de_int)) (fun pe => ps_set (i := 3) sc_law.nd rfl (Or.inl rfl) pe)) (fun _ => rfl) fun choice_1 => db_step (fun at_1 => [.bor script_1, .val numbers_here_1, .val lines_here_1, .val choice_1, .val at_1, .un, .un, .un, .un]) (ds_set (de_mod (DR.of (de_callTy int_R int_op rfl (L.free (fa_1)) boot_int_ (dra_cons (DR.of (de_ix hr.u70 (dr_val (i := 1) rfl (pv 1)) (DR.of de_int))) dra_nil))) (DR.of (de_callB lenR len_op rfl (L.free (fa_3)) boot_len_ (dra_cons (dr_val (i := 2) rfl (pv 2)) dra_nil)))) (fun pe => ps_set (i := 4) sc_law.nd rfl (Or.inl rfl) pe)) (fun _ => rfl) fun at_1 => db_step (fun number_1 => [.bor script_1, .val numbers_here_1, .val lines_here_1, .val choice_1, .val at_1, .val number_1, .un, .un, .un]) (ds_set (de_callTy int_R int_op rfl (L.free (fa_1)) boot_int_ (dra_cons (DR.of (de_ix hr.u70 (dr_val (i := 1) rfl (pv 1)) (DR.of de_int))) dra_nil)) (fun pe => ps_set (i := 5) sc_law.nd rfl (Or.inl rfl) pe)) (fun _ => rfl) fun number_1 => db_step (fun bad_1 => [.bor script_1, .val numbers_here_1, .val lines_here_1, .val choice_1, .val at_1, .val number_1, .val bad_1, .un, .un]) (ds_set (de_add (DR.of (de_add (DR.of (de_sl (dr_val (i := 2) rfl (pv 2)) do_none (do_some (dr_val (i := 4) rfl (pv 4))))) (DR.of (de_lst (da_cons (de_call ctx_def k_law_broken (hr.mono (by decide)) rfl (L.glo (fa_82)) F_law_broken.kp b_law_broken (dam_bor (DR.of (de_ix hr.u70 (dr_val (i := 2) rfl (pv 2)) (dr_val (i := 4) rfl (pv 4)))) (dam_bor (dr_val (i := 3) rfl (pv 3)) (dam_bor (dr_val (i := 5) rfl (pv 5)) dam_nil)))) da_nil))))) (DR.of (de_sl (dr_val (i := 2) rfl (pv 2)) (do_some (DR.of (de_add (dr_val (i := 4) rfl (pv 4)) (DR.of de_int)))) do_none))) (fun pe => ps_set (i := 6) sc_law.nd rfl (Or.inl rfl) pe)) (fun _ => rfl) fun bad_1 => db_step (fun due_1 => [.bor script_1, .val numbers_here_1, .val lines_here_1, .val choice_1, .val at_1, .val number_1, .val bad_1, .val due_1, .un]) (ds_set (de_add (dr_val (i := 4) rfl (pv 4)) (DR.of de_int)) (fun pe => ps_set (i := 7) sc_law.nd rfl (Or.inl rfl) pe)) (fun _ => rfl) fun due_1 => db_step (fun (s : D × D) => [.bor script_1, .val numbers_here_1, .val lines_here_1, .val choice_1, .val at_1, .val number_1, .val s.1, .val s.2, .un]) (ds_if (dt_cmp (op_eqD hr.u64) cmp_eq (dr_val (i := 3) rfl (pv 3)) (DR.of de_int) (nomark _)) (db_step (fun bad_2 => [.bor script_1, .val numbers_here_1, .val lines_here_1, .val choice_1, .val at_1, .val number_1, .val bad_2, .val due_1, .un]) (ds_set (de_add (dr_val (i := 2) rfl (pv 2)) (DR.of (de_lst (da_cons (de_str (by decide +kernel)) (da_cons (de_str (by decide +kernel)) da_nil))))) (fun pe => ps_set (i := 6) sc_law.nd rfl (Or.inl rfl) pe)) (fun _ => rfl) fun bad_2 => db_step (fun due_2 => [.bor script_1, .val numbers_here_1, .val lines_here_1, .val choice_1, .val at_1, .val number_1, .val bad_2, .val due_2, .un]) (ds_set (de_add (DR.of (de_callB lenR len_op rfl (L.free (fa_3)) boot_len_ (dra_cons (dr_val (i := 2) rfl (pv 2)) dra_nil))) (DR.of de_int)) (fun pe => ps_set (i := 7) sc_law.nd rfl (Or.inl rfl) pe)) (fun _ => rfl) fun due_2 => db_nil rfl) (db_nil rfl)) (fun _ => rfl) (fun s => match s with | (bad_3, due_3) => db_G [.bor script_1, .val numbers_here_1, .val lines_here_1, .val choice_1, .val at_1, .val number_1, .val bad_3, .val due_3, .un] rfl <| db_step (fun (s : D × D) => [.bor script_1, .val numbers_here_1, .val lines_here_1, .val choice_1, .val at_1, .val number_1, .val s.1, .val s.2, .un]) (ds_if (dt_cmp (op_eqD hr.u64) cmp_eq (dr_val (i := 3) rfl (pv 3)) (DR.of de_int) (nomark _)) (db_step (fun bad_4 => [.bor script_1, .val numbers_here_1, .val lines_here_1, .val choice_1, .val at_1, .val number_1, .val bad_4, .val due_3, .un]) (ds_set (de_add (DR.of (de_lst (da_cons (de_str (by decide +kernel)) (da_cons (de_str (by decide +kernel)) da_nil)))) (DR.of (de_sl (dr_val (i := 2) rfl (pv 2)) (do_some (DR.of de_int)) do_none))) (fun pe => ps_set (i := 6) sc_law.nd rfl (Or.inl rfl) pe)) (fun _ => rfl) fun bad_4 => db_step (fun due_4 => [.bor script_1, .val numbers_here_1, .val lines_here_1, .val choice_1, .val at_1, .val number_1, .val bad_4, .val due_4, .un]) (ds_set de_int (fun pe => ps_set (i := 7) sc_law.nd rfl (Or.inl rfl) pe)) (fun _ => rfl) fun due_4 => db_nil rfl) (db_nil rfl)) (fun _ => rfl) (fun s => match s with | (bad_5, due_5) => db_G [.bor script_1, .val numbers_here_1, .val lines_here_1, .val choice_1, .val at_1, .val number_1, .val bad_5, .val due_5, .un] rfl <| db_step (fun (s : D × D) => [.bor script_1, .val numbers_here_1, .val lines_here_1, .val choice_1, .val at_1, .val number_1, .val s.1, .val s.2, .un]) (ds_if (dt_cmp (op_eqD hr.u64) cmp_eq (dr_val (i := 3) rfl (pv 3)) (DR.of de_int) (nomark _)) (db_step (fun bad_6 => [.bor script_1, .val numbers_here_1, .val lines_here_1, .val choice_1, .val at_1, .val number_1, .val bad_6, .val due_5, .un]) (ds_set (de_add (DR.of (de_add (DR.of (de_sl (dr_val (i := 2) rfl (pv 2)) do_none (do_some (DR.of (de_add (dr_val (i := 4) rfl (pv 4)) (DR.of de_int)))))) (DR.of (de_lst (da_cons (de_ix hr.u70 (DR.of (de_lst (da_cons (de_str (by decide +kernel)) (da_cons (de_str (by decide +kernel)) (da_cons (de_str (by decide +kernel)) (da_cons (de_str (by decide +kernel)) da_nil)))))) (DR.of (de_mod (dr_val (i := 5) rfl (pv 5)) (DR.of de_int)))) da_nil))))) (DR.of (de_sl (dr_val (i := 2) rfl (pv 2)) (do_some (DR.of (de_add (dr_val (i := 4) rfl (pv 4)) (DR.of de_int)))) do_none))) (fun pe => ps_set (i := 6) sc_law.nd rfl (Or.inl rfl) pe)) (fun _ => rfl) fun bad_6 => db_step (fun due_6 => [.bor script_1, .val numbers_here_1, .val lines_here_1, .val choice_1, .val at_1, .val number_1, .val bad_6, .val due_6, .un]) (ds_set (de_add (dr_val (i := 4) rfl (pv 4)) (DR.of de_int)) (fun pe => ps_set (i := 7) sc_law.nd rfl (Or.inl rfl) pe)) (fun _ => rfl) fun due_6 => db_nil rfl) (db_nil rfl)) (fun _ => rfl) (fun s => match s with | (bad_7, due_7) => db_G [.bor script_1, .val numbers_here_1, .val lines_here_1, .val choice_1, .val at_1, .val number_1, .val bad_7, .val due_7, .un] rfl <| db_step (fun (s : D) => [.bor script_1, .val numbers_here_1, .val lines_here_1, .val choice_1, .val at_1, .val number_1, .val s, .val due_7, .un]) (ds_if (dt_cmp (op_eqD hr.u64) cmp_eq (DR.of (de_mod (DR.of (de_callTy int_R int_op rfl (L.free (fa_1)) boot_int_ (dra_cons (DR.of (de_ix hr.u70 (dr_val (i := 1) rfl (pv 1)) (DR.of de_int))) dra_nil))) (DR.of de_int))) (DR.of de_int) (nomark _)) (db_step (fun bad_8 => [.bor script_1, .val numbers_here_1, .val lines_here_1, .val choice_1, .val at_1, .val number_1, .val bad_8, .val due_7, .un]) (ds_set (de_add (dr_val (i := 6) rfl (pv 6)) (DR.of (de_lst (da_cons (de_ix hr.u70 (DR.of (de_lst (da_cons (de_str (by decide +kernel)) (da_cons (de_str (by decide +kernel)) (da_cons (de_str (by decide +kernel)) da_nil))))) (DR.of (de_mod (DR.of (de_fdiv (DR.of (de_callTy int_R int_op rfl (L.free (fa_1)) boot_int_ (dra_cons (DR.of (de_ix hr.u70 (dr_val (i := 1) rfl (pv 1)) (DR.of de_int))) dra_nil))) (DR.of de_int))) (DR.of de_int)))) da_nil)))) (fun pe => ps_set (i := 6) sc_law.nd rfl (Or.inl rfl) pe)) (fun _ => rfl) fun bad_8 => db_nil rfl) (db_nil rfl)) (fun _ => rfl) (fun bad_9 => db_G [.bor script_1, .val numbers_here_1, .val lines_here_1, .val choice_1, .val at_1, .val number_1, .val bad_9, .val due_7, .un] rfl <| db_any 8 <| db_sumF (ds_for1R (i := 8) (S := Unit) (Γ := (fun (s : Unit) => [.bor script_1, .val numbers_here_1, .val lines_here_1, .val choice_1, .val at_1, .val number_1, .val bad_9, .val due_7, .any])) (f := (m_law_l1 due_7 bad_9)) () rfl ctx_def (di_seq (de_lst (da_cons de_bl (da_cons de_bl da_nil)))) (pg_name (i := 8) sc_law.nd rfl (Or.inl rfl)) (fun _ checks_1 => db_G [.bor script_1, .val numbers_here_1, .val lines_here_1, .val choice_1, .val at_1, .val number_1, .val bad_9, .val due_7, .val checks_1] rfl <| db_last (ds_if (DW.dt (dw_or (dt_cmp (op_neD hr.u64) cmp_ne (DR.of (de_call ctx_def k_law_told (hr.mono (by decide)) rfl (L.glo (fa_81)) F_law_told.kp b_law_told (dam_bor (DR.of (de_join (DR.of (de_str (by decide +kernel))) (dra_cons (dr_val (i := 6) rfl (pv 6)) dra_nil))) (dam_bor (dr_val (i := 8) rfl (pv 8)) dam_nil)))) (dr_val (i := 7) rfl (pv 7)) (nomark _)) (dw_or1 (dt_cmp (op_neD hr.u64) cmp_ne (DR.of (de_call ctx_def k_law_told (hr.mono (by decide)) rfl (L.glo (fa_81)) F_law_told.kp b_law_told (dam_bor (DR.of (de_str (by decide +kernel))) (dam_bor (dr_val (i := 8) rfl (pv 8)) dam_nil)))) (DR.of de_int) (nomark _))))) (db_map Rx.rt (db_last (ds_ret de_bl)) (fun _ => rfl)) (db_any 8 <| db_nil rfl)))) (fun _ => db_G [.bor script_1, .val numbers_here_1, .val lines_here_1, .val choice_1, .val at_1, .val number_1, .val bad_9, .val due_7, .any] rfl <| db_last (ds_ret (de_cmp (op_eqD hr.u64) cmp_eq (DR.of (de_call ctx_def k_law_told (hr.mono (by decide)) rfl (L.glo (fa_81)) F_law_told.kp b_law_told (dam_bor (DR.of (de_join (DR.of (de_str (by decide +kernel))) (dra_cons (dr_val (i := 2) rfl (pv 2)) dra_nil))) (dam_bor (DR.of de_bl) dam_nil)))) (DR.of de_int) (nomark _)))))))))
end LawWalk

set_option Elab.async false
set_option linter.all false
set_option maxRecDepth 100000
set_option maxHeartbeats 4000000
namespace LawMath
open PySem DL LawWalk
def nums (l : List Int) : List D := l.map D.int
theorem nums_len (l : List Int) : (nums l).length = l.length := by simp [nums]
theorem nums_app (l m : List Int) : nums (l ++ m) = nums l ++ nums m := by simp [nums]
def Sm (l : List Int) : Prop := ∀ x ∈ l, 0 ≤ x ∧ x < 1009
theorem Sm.app {l m : List Int} (h : Sm l) (h2 : Sm m) : Sm (l ++ m) := fun x hx => by
  rcases List.mem_append.mp hx with h1 | h1
  · exact h x h1
  · exact h2 x h1
theorem Sm.one {x : Int} (h : 0 ≤ x ∧ x < 1009) : Sm [x] := fun y hy => by
  rw [List.mem_singleton.mp hy]
  exact h
theorem row_ok (c n : Int) (h0 : 0 ≤ n) (h1 : n < 100000) : ∃ l : List Int, m_law_row [.int c, .int n] = .ok (.lst (nums l)) ∧ l.length = n.toNat ∧ Sm l := by
  rw [e_law_row]
  unfold g_law_row
  have hr : smallI n = true := small_of (by omega) (by omega)
  obtain ⟨s', e, hI⟩ := loopF_inv (f := m_law_row_l1 (.int c)) (fun k s => ∃ (l : List Int) (r m : Int), s = (nums l, .int r, .int m) ∧ l.length = k ∧ Sm l ∧ 0 ≤ m) (rangeL 0 n.toNat) 0 ([], .int (if c < 0 then -c else c), .int (((if c < 0 then -c else c) * 48271 + 69621) % 2147483647))
    ⟨[], _, _, rfl, rfl, (fun x hx => by cases hx), by omega⟩ (fun i d s hd hi => by
      obtain ⟨l, r, m, rfl, hl, hs, hm⟩ := hi
      obtain ⟨rfl, hin⟩ := rangeL_get hd
      have hlt : l.length < sizeLine := by
        rw [PySem.sizeLine_eq]
        omega
      unfold m_law_row_l1
      by_cases hc : (10 : Int) ^ 18 ≤ (if c < 0 then -c else c)
      · refine ⟨(nums (l ++ [r % 1009]), .int (r / 1009), .int ((m * 16807 + 271 * (0 + (i : Int) + 3)) % 2147483629)), ?_, _, _, _, rfl, by simp [hl], hs.app (.one (by omega)), by omega⟩
        have hc' : decide ((10 : Int) ^ 18 ≤ (if c < 0 then -c else c)) = true := decide_eq_true hc
        simp at hc'
        simp [hlt, nums_app, nums, hc']
      · refine ⟨(nums (l ++ [(m * 16807 + 271 * (0 + (i : Int) + 3)) % 2147483629 / 7 % 1009]), .int r, .int ((m * 16807 + 271 * (0 + (i : Int) + 3)) % 2147483629)), ?_, _, _, _, rfl, by simp [hl], hs.app (.one (by omega)), by omega⟩
        have hc' : ¬ ((10 : Int) ^ 18 ≤ (if c < 0 then -c else c)) := hc
        simp at hc'
        simp [hlt, nums_app, nums, Int.not_le.mpr hc'])
  obtain ⟨l, r, m, rfl, hl, hs, _⟩ := hI
  refine ⟨l, ?_, by rw [hl, rangeL_len]; omega, hs⟩
  simp [hr, e]
theorem push1_ok (l : List D) (d : D) (h : l.length < 16777216) : m_law_numbers_l1 l d = .ok (l ++ [d]) := by
  unfold m_law_numbers_l1
  have : l.length < sizeLine := by rw [PySem.sizeLine_eq]; exact h
  simp [this]
theorem push3_ok (l : List D) (h : l.length < 16777216) : m_law_numbers_l3 l = .ok (l ++ [.int 0]) := by
  unfold m_law_numbers_l3
  have : l.length < sizeLine := by rw [PySem.sizeLine_eq]; exact h
  simp [this]
theorem pushAll (ds l : List D) (h : l.length + ds.length ≤ 16777216) : loopF m_law_numbers_l1 ds l = .ok (l ++ ds) := by
  obtain ⟨s', e, hI⟩ := loopF_inv (f := m_law_numbers_l1) (fun k s => s = l ++ ds.take k) ds 0 l (by simp) (fun i d s hd hi => by
    subst hi
    have hi := (List.getElem?_eq_some_iff.mp hd).1
    refine ⟨_, push1_ok _ _ (by rw [List.length_append, List.length_take]; omega), ?_⟩
    rw [List.append_assoc]
    congr 1
    have : 0 + i + 1 = i + 1 := by omega
    rw [this, Nat.zero_add, List.take_add_one, hd]
    rfl)
  rw [e, hI]
  simp
theorem numbers_ok (l : List Int) (h : l.length ≤ 63) (n : Int) (h0 : 0 ≤ n) (h1 : n ≤ 1000) : ∃ ns : List Int, m_law_numbers [.scr l, .int n] = .ok (.lst (nums ns)) ∧ ns.length = n.toNat ∧ Sm ns := by
  rw [e_law_numbers]
  have hc : (cutL l none (some 63)).length ≤ 63 := by
    rw [cut_take l (by omega), List.length_take]
    omega
  generalize hcs : cutL l none (some 63) = cs at hc
  have hm : ∀ c : Nat, (0 : Int) < (if (1 : Int) < (c : Int) then (c : Int) else 1) ∧ (c ≤ 63 → (if (1 : Int) < (c : Int) then (c : Int) else 1) < 1073741824) := fun c => by
    split <;> omega
  obtain ⟨hm1, hm2⟩ := hm cs.length
  have hm2 := hm2 hc
  generalize hmm : (if (1 : Int) < (cs.length : Int) then (cs.length : Int) else 1) = mm at hm1 hm2
  have hq0 : 0 ≤ n / mm := Int.ediv_nonneg h0 (by omega)
  have hq1 : n / mm ≤ n := Int.ediv_le_self _ h0
  generalize hq : n / mm = q at hq0 hq1
  obtain ⟨s1, e1, l1, rfl, hl1, hs1⟩ := loopF_inv (f := m_law_numbers_l2 (.int (1 + q))) (fun k s => ∃ ns : List Int, s = nums ns ∧ ns.length = k * (1 + q).toNat ∧ Sm ns) (nums cs) 0 [] ⟨[], rfl, by simp, fun x hx => by cases hx⟩ (fun i d s hd hi => by
    obtain ⟨ns, rfl, hl, hs⟩ := hi
    have hi := (List.getElem?_eq_some_iff.mp hd).1
    rw [nums_len] at hi
    have hd' : ∃ c, d = .int c := by
      unfold nums at hd
      rw [List.getElem?_map] at hd
      cases e : cs[i]? with
      | none => rw [e] at hd; cases hd
      | some c =>
        rw [e] at hd
        cases hd
        exact ⟨c, rfl⟩
    obtain ⟨c, rfl⟩ := hd'
    obtain ⟨r, er, hr, hrs⟩ := row_ok c (1 + q) (by omega) (by omega)
    have hb : i * (1 + q).toNat ≤ 63 * 1001 := Nat.mul_le_mul (by omega) (by omega)
    refine ⟨nums (ns ++ r), ?_, ns ++ r, rfl, ?_, hs.app hrs⟩
    · unfold m_law_numbers_l2
      simp only [B1, A1, A0, okb]
      rw [er]
      simp only [okb, items_l]
      rw [pushAll _ _ (by
        rw [nums_len, nums_len, hl, hr]
        have : (0 + i) * (1 + q).toNat = i * (1 + q).toNat := by rw [Nat.zero_add]
        omega), nums_app]
      rfl
    · rw [List.length_append, hl, hr, Nat.zero_add, Nat.succ_mul])
  have hb : cs.length * (1 + q).toNat ≤ 63 * 1001 := Nat.mul_le_mul (by omega) (by omega)
  rw [nums_len, Nat.zero_add] at hl1
  obtain ⟨s2, e2, ⟨l2, rfl, hl2, hs2⟩, hf⟩ := whileF_inv (c := m_law_numbers_l3_c (.int n)) (f := m_law_numbers_l3) (fun s => ∃ ns : List Int, s = nums ns ∧ ns.length ≤ 100000 ∧ Sm ns) (fun s => n.toNat - s.length) (fun s hs => by
    obtain ⟨ns, rfl, hl, hs⟩ := hs
    refine ⟨decide ((ns.length : Int) < n), ?_, fun hb => ?_⟩
    · unfold m_law_numbers_l3_c
      simp [nums_len]
    · have hb := of_decide_eq_true hb
      refine ⟨nums (ns ++ [0]), ?_, ⟨_, rfl, by simp; omega, hs.app (.one (by omega))⟩, ?_⟩
      · rw [push3_ok _ (by rw [nums_len]; omega), nums_app]
        rfl
      · rw [nums_len, nums_len, List.length_append, List.length_singleton]
        omega) 100000 (nums l1) ⟨l1, rfl, by omega, hs1⟩ (by rw [nums_len]; omega)
  have hge : n ≤ (l2.length : Int) := by
    unfold m_law_numbers_l3_c at hf
    simp [nums_len] at hf
    exact hf
  refine ⟨l2.take n.toNat, ?_, by rw [List.length_take]; omega, fun x hx => hs2 x (List.mem_of_mem_take hx)⟩
  have hcl : (cs.map D.int) = nums cs := rfl
  unfold g_law_numbers
  simp [hcs, hmm, hm1, hm2, hq]
  rw [hcl, e1]
  simp [e2, cut_take _ h0]
  simp [nums]
end LawMath

set_option Elab.async false
set_option linter.all false
set_option maxRecDepth 100000
set_option maxHeartbeats 4000000
namespace LawMath
open PySem DL LawWalk
def letS : Str := "abcdefghijklmnopqrstuvwxyz0123456789"
def lets : List Nat := tl letS
def digs : List Nat := tl "0123456789"
theorem lets_eq : lets = [97, 98, 99, 100, 101, 102, 103, 104, 105, 106, 107, 108, 109, 110, 111, 112, 113, 114, 115, 116, 117, 118, 119, 120, 121, 122, 48, 49, 50, 51, 52, 53, 54, 55, 56, 57] := by decide +kernel
theorem digs_eq : digs = [48, 49, 50, 51, 52, 53, 54, 55, 56, 57] := by decide +kernel
def isNm (l : List Nat) : Bool := match l with
  | [] => false
  | c :: r => decide (r.length < 12) && (!decide (c ∈ digs) && (c :: r).all fun c => decide (c ∈ lets))
def Nm (x : Str) : Prop := isNm (tl x) = true
theorem is_name_eq (l : List Nat) (h : l.length ≤ 16777216) : m_is_name [.str (mk l)] = .ok (.bl (isNm l)) := by
  rw [e_is_name]
  unfold g_is_name
  have hs' : ("abcdefghijklmnopqrstuvwxyz0123456789" : Str) = letS := rfl
  rw [hs']
  cases l with
  | nil => simp [len_mk, isNm]
  | cons c r =>
    have hs : r.length + 1 ≤ sizeLine := by rw [PySem.sizeLine_eq]; exact h
    have hc : compL (fElt noT fun char_1 => bD (D.mem char_1 (.str letS))) (D.str (mk [c]) :: r.map fun c => D.str (mk [c])) = .ok (D.bl (decide (c ∈ lets)) :: r.map fun c => D.bl (decide (c ∈ lets))) := compL_mapA (l := c :: r) (k := fun c => D.str (mk [c])) (g := fun c => D.bl (decide (c ∈ lets))) h fun a _ => by
      simp [mem_char', lets]
    have ha : D.all (.lst (D.bl (decide (c ∈ lets)) :: r.map fun c => D.bl (decide (c ∈ lets)))) = .ok (.bl ((c :: r).all fun c => decide (c ∈ lets))) := all_map (c :: r)
    have hi : D.ix (.str (mk (c :: r))) (.int 0) = .ok (.str (mk [c])) := ix_str (n := 0) (by rw [len_mk]; exact h) rfl rfl
    have h1 : (1 : Int) ≤ (r.length : Int) + 1 := by omega
    have hx : ((r.length : Int) + 1 ≤ 12) ↔ r.length < 12 := by omega
    by_cases h12 : r.length < 12
    · by_cases hd : c ∈ digs
      · have hd' : c ∈ tl "0123456789" := hd
        simp [len_mk, hs, h1, hx, h12, hi, mem_char', isNm, hd, hd']
      · have hd' : ¬ c ∈ tl "0123456789" := hd
        have hi2 : D.items (.str (mk (c :: r))) = .ok ((c :: r).map fun c => D.str (mk [c])) := items_mk _
        simp [len_mk, hs, h1, hx, h12, hi, mem_char', isNm, hd, hd', hi2, hc, ha]
    · simp [len_mk, hs, h1, hx, h12, isNm]
end LawMath

set_option Elab.async false
set_option linter.all false
set_option maxRecDepth 100000
set_option maxHeartbeats 4000000
namespace LawMath
open PySem DL LawWalk L2
structure Rd where
  nm : Str
  st : Str
  en : Str
  mi : Int
  ks : List Str
  hs : Option (List (Int × Int))
  deriving DecidableEq
def prI (p : Int × Int) : D := .tup [.int p.1, .int p.2]
def tupD {α : Type} (e : α → D) (l : List α) : D := .tup (l.map e)
def hsD : Option (List (Int × Int)) → D := optD (tupD prI)
def Rd.d (r : Rd) : D := .tup [.str r.nm, .str r.st, .str r.en, .int r.mi, tupD D.str r.ks, hsD r.hs]
structure Ch where
  day : Int
  pl : List Str
  ki : List Str
  ro : List Rd
  ba : List (Str × Str)
def Ch.f3 (c : Ch) : List (String × D) := [("day", .int c.day), ("places", tupD D.str c.pl), ("kinds", tupD D.str c.ki)]
def Ch.f4 (c : Ch) : List (String × D) := [("day", .int c.day), ("places", tupD D.str c.pl), ("kinds", tupD D.str c.ki), ("roads", tupD Rd.d c.ro)]
def Ch.f5 (c : Ch) : List (String × D) := [("day", .int c.day), ("places", tupD D.str c.pl), ("kinds", tupD D.str c.ki), ("roads", tupD Rd.d c.ro), ("bars", tupD prS c.ba)]
def Ch.d (c : Ch) : D := .ins "Map" c.f5
theorem e_s : En 15 D.str := en_str
section
variable {cs : List String} {c : Ch}
end
section
variable {r : Rd}
theorem r1 : D.ix r.d (.int 1) = .ok (.str r.st) := ix_natT (n := 1) rfl rfl
theorem r2 : D.ix r.d (.int 2) = .ok (.str r.en) := ix_natT (n := 2) rfl rfl
theorem r3 : D.ix r.d (.int 3) = .ok (.int r.mi) := ix_natT (n := 3) rfl rfl
theorem r4 : D.ix r.d (.int 4) = .ok (tupD D.str r.ks) := ix_natT (n := 4) rfl rfl
theorem r5 : D.ix r.d (.int 5) = .ok (hsD r.hs) := ix_natT (n := 5) rfl rfl
end
theorem nm_le {x : Str} (h : Nm x) : (tl x).length ≤ 12 := by
  unfold Nm isNm at h
  cases e : tl x with
  | nil => simp
  | cons c r =>
    rw [e] at h
    simp at h
    simp
    omega
theorem nm_ok {x : Str} (h : Nm x) : m_is_name [.str x] = .ok (.bl true) := by
  have := is_name_eq (tl x) (by have := nm_le h; omega)
  rw [mk_tl] at this
  rw [this, h]
def hOk (day : Int) : Int → List (Int × Int) → Prop
  | _, [] => True
  | b, p :: t => b < p.1 ∧ p.1 < p.2 ∧ p.2 ≤ day ∧ hOk day p.2 t
end LawMath

set_option Elab.async false
set_option linter.all false
set_option maxRecDepth 100000
set_option maxHeartbeats 4000000
namespace LawMath
open PySem DL LawWalk L2
def lt (i : Int) : Nat := lets.getD i.toNat 0
def Al (l : List Nat) : Prop := ∀ c ∈ l, c ∈ lets
end LawMath

set_option Elab.async false
set_option linter.all false
set_option maxRecDepth 100000
set_option maxHeartbeats 4000000
namespace LawMath
open PySem DL LawWalk L2
def Rd.norm (ki : List Str) (r : Rd) : Rd := { r with ks := ki.filter fun k => decide (k ∈ r.ks) }
structure RdOk (c : Ch) (r : Rd) : Prop where
  nm : Nm r.nm
  st : r.st ∈ c.pl
  en : r.en ∈ c.pl
  mi : 1 ≤ r.mi ∧ r.mi ≤ 1000
  nd : r.ks.Nodup
  ks : ∀ k ∈ r.ks, k ∈ c.ki
  kl : r.ks.length ≤ 1000
  hs : ∀ l, r.hs = some l → hOk c.day (-1) l ∧ l.length ≤ 4
end LawMath

set_option Elab.async false
set_option linter.all false
set_option maxRecDepth 100000
set_option maxHeartbeats 4000000
namespace LawMath
open PySem DL LawWalk L2
def leR (a b : Rd) : Bool := leS a.nm b.nm
def sortR (l : List Rd) : List Rd := l.mergeSort leR
structure PartsOk (day : Int) (ki pl : List Str) (ro : List Rd) (ba : List (Str × Str)) : Prop where
  day1 : 1 ≤ day
  day2 : day ≤ 1440
  pl1 : pl.length ≤ 30
  pln : pl.Nodup
  plN : ∀ x ∈ pl, Nm x
  ki0 : 1 ≤ ki.length
  ki1 : ki.length ≤ 4
  kin : ki.Nodup
  kiN : ∀ x ∈ ki, Nm x
  ro1 : ro.length ≤ 60
  ron : (ro.map (·.nm)).Nodup
  rok : ∀ r ∈ ro, RdOk ⟨day, pl, ki, [], []⟩ r
  ba1 : ba.length ≤ 40
  ban : ba.Nodup
  bak : ∀ b ∈ ba, ∃ r ∈ ro, ∃ q ∈ ro, r.nm = b.1 ∧ q.nm = b.2 ∧ r.en = q.st
def mkCh (day : Int) (ki pl : List Str) (ro : List Rd) (ba : List (Str × Str)) : Ch := ⟨day, sortS pl, sortS ki, sortR (ro.map (Rd.norm (sortS ki))), sortP ba⟩
end LawMath

set_option Elab.async false
set_option linter.all false
set_option maxRecDepth 100000
set_option maxHeartbeats 4000000
namespace LawMath
open PySem DL LawWalk L2
def lowDT (q : Str × Nat) : D := .tup [.str q.1, .int q.2]
def roadsDT : Option (List Str × Nat) → D
  | none => .non
  | some (r, _) => .lst (r.map D.str)
def arrDT : Option (List Str × Nat) → D
  | none => .non
  | some (_, a) => .int a
structure OkT (r : Option (List Str × Nat)) (ls : List (Str × Nat)) : Prop where
  rd : ∀ x a, r = some (x, a) → x.length ≤ 70 ∧ (∀ y ∈ x, Nm y) ∧ a ≤ 999999999
  ll : ls.length ≤ 70
  ln : ∀ q ∈ ls, Nm q.1 ∧ q.2 ≤ 999999999
def numT (n : Nat) : Str := mk (TL.numL n)
def lnT (ws : List Str) : Str := Str.join " " ws
def headW : Option (List Str × Nat) → List (List Str)
  | none => [["none"]]
  | some (rs, a) => ["arrives", numT a] :: rs.map fun x => ["by", x]
def lowW (q : Str × Nat) : List Str := ["low", q.1, numT q.2]
def linesW (r : Option (List Str × Nat)) (ls : List (Str × Nat)) : List (List Str) := headW r ++ ls.map lowW
def textT (r : Option (List Str × Nat)) (ls : List (Str × Nat)) : Str := Str.join "\n" ((linesW r ls).map lnT)
theorem tl_sp : tl " " = [32] := by decide +kernel
theorem tl_nl : tl "\n" = [10] := by decide +kernel
theorem ln_two (a b : Str) : lnT [a, b] = a ++ " " ++ b := by
  apply TL.ext_tl
  unfold lnT
  rw [TL.tl_join, TL.tl_append, TL.tl_append]
  show TL.tl a ++ (TL.tl " " ++ TL.tl b) = _
  rw [List.append_assoc]
theorem ln_three (a b c : Str) : lnT [a, b, c] = a ++ " " ++ b ++ " " ++ c := by
  apply TL.ext_tl
  unfold lnT
  rw [TL.tl_join, TL.tl_append, TL.tl_append, TL.tl_append, TL.tl_append]
  show TL.tl a ++ (TL.tl " " ++ (TL.tl b ++ (TL.tl " " ++ TL.tl c))) = _
  simp only [List.append_assoc]
theorem by_eq (x : Str) : ("by " : Str) ++ x = lnT ["by", x] := by
  rw [ln_two]
  congr 1
theorem arr_eq (x : Str) : ("arrives " : Str) ++ x = lnT ["arrives", x] := by
  rw [ln_two]
  congr 1
theorem low_eq (x y : Str) : ("low " : Str) ++ x ++ " " ++ y = lnT ["low", x, y] := by
  rw [ln_three]
  congr 1
theorem nm_lenT {x : Str} (h : Nm x) : 1 ≤ x.length ∧ x.length ≤ 12 := by
  unfold Nm isNm at h
  rw [TL.len_tl]
  cases e : TL.tl x with
  | nil =>
    have e : tl x = [] := e
    rw [e] at h
    cases h
  | cons c r =>
    have e : tl x = c :: r := e
    rw [e] at h
    have h := (and2 h).1
    have h := of_decide_eq_true h
    simp
    omega
theorem nm_alT {x : Str} (h : Nm x) : Al (tl x) := by
  unfold Nm isNm at h
  cases e : tl x with
  | nil =>
    rw [e] at h
    cases h
  | cons c r =>
    rw [e] at h
    have h := (and2 (and2 h).2).2
    intro y hy
    exact of_decide_eq_true (List.all_eq_true.mp h y hy)
theorem al_no {l : List Nat} (h : Al l) : 32 ∉ l ∧ 10 ∉ l := by
  refine ⟨fun q => ?_, fun q => ?_⟩ <;> have := h _ q <;> rw [lets_eq] at this <;> revert this <;> decide
theorem num_len {n : Nat} (h : n ≤ 999999999) : (numT n).length ≤ 9 := by
  unfold numT
  rw [len_mk]
  exact TL.numL_len (by decide) (by omega)
theorem num_no (n : Nat) : 32 ∉ tl (numT n) ∧ 10 ∉ tl (numT n) := ⟨TL.numL_free (by omega), TL.numL_free (by omega)⟩
theorem app_lenT (a b : Str) : (a ++ b).length = a.length + b.length := by rw [TL.len_tl, TL.tl_append, List.length_append, ← TL.len_tl, ← TL.len_tl]
theorem len_by : ("by " : Str).length = 3 := by decide +kernel
theorem len_arr : ("arrives " : Str).length = 8 := by decide +kernel
theorem len_low : ("low " : Str).length = 4 := by decide +kernel
theorem len_sp : (" " : Str).length = 1 := by decide +kernel
theorem len_nl : ("\n" : Str).length = 1 := by decide +kernel
theorem len_none : ("none" : Str).length = 4 := by decide +kernel
theorem ln_one (a : Str) : lnT [a] = a := by
  apply TL.ext_tl
  unfold lnT
  rw [TL.tl_join]
  rfl
theorem line_len {r : Option (List Str × Nat)} {ls : List (Str × Nat)} (ok : OkT r ls) : ∀ w ∈ linesW r ls, (lnT w).length ≤ 26 := by
  intro w hw
  unfold linesW at hw
  rcases List.mem_append.mp hw with h | h
  · cases r with
    | none =>
      rw [List.mem_singleton.mp h, ln_one, len_none]
      omega
    | some q =>
      obtain ⟨rs, a⟩ := q
      obtain ⟨h1, h2, h3⟩ := ok.rd rs a rfl
      rcases List.mem_cons.mp h with rfl | h
      · rw [← arr_eq, app_lenT, len_arr]
        have := num_len h3
        omega
      · obtain ⟨x, hx, rfl⟩ := List.mem_map.mp h
        rw [← by_eq, app_lenT, len_by]
        have := (nm_lenT (h2 x hx)).2
        omega
  · obtain ⟨q, hq, rfl⟩ := List.mem_map.mp h
    obtain ⟨h1, h2⟩ := ok.ln q hq
    show (lnT ["low", q.1, numT q.2]).length ≤ 26
    rw [← low_eq, app_lenT, app_lenT, app_lenT, len_low, len_sp]
    have := (nm_lenT h1).2
    have := num_len h2
    omega
theorem lines_count {r : Option (List Str × Nat)} {ls : List (Str × Nat)} (ok : OkT r ls) : (linesW r ls).length ≤ 141 ∧ linesW r ls ≠ [] := by
  have h8 := ok.ll
  unfold linesW
  cases r with
  | none => exact ⟨by simp [headW]; omega, by simp [headW]⟩
  | some q =>
    obtain ⟨rs, a⟩ := q
    obtain ⟨h1, h2, h3⟩ := ok.rd rs a rfl
    exact ⟨by simp [headW]; omega, by simp [headW]⟩
theorem sum_leT {l : List Nat} {k : Nat} (h : ∀ x ∈ l, x ≤ k) : l.sum ≤ l.length * k := by
  induction l with
  | nil => simp
  | cons a l ih =>
    have h1 := h a (List.mem_cons_self ..)
    have h2 := ih fun x hx => h x (List.mem_cons_of_mem _ hx)
    rw [List.sum_cons, List.length_cons, Nat.succ_mul]
    omega
def roadsTT : Option (List Str × Nat) → D
  | none => .non
  | some (r, _) => .tup (r.map D.str)
def fldsT (r : Option (List Str × Nat)) (ls : List (Str × Nat)) : List (String × D) := [("roads", roadsTT r), ("arrival", arrDT r), ("lows", .lst (ls.map lowDT))]
theorem pinitT {r : Option (List Str × Nat)} {ls : List (Str × Nat)} (ok : OkT r ls) : m_Paper_init [roadsDT r, arrDT r, .lst (ls.map lowDT)] = .ok (fldsT r ls) := by
  rw [e_Paper_init]
  have hl : compL (fElt noT fun l => l.toTup) (ls.map lowDT) = .ok (ls.map lowDT) := compL_mapA (by have := ok.ll; omega) fun q hq => rfl
  have k1 : (1 : Nat) < 1000 := by omega
  unfold g_Paper_init
  cases r with
  | none => simp -implicitDefEqProofs [roadsDT, roadsTT, arrDT, hl, putD, fldsT]
  | some q =>
    obtain ⟨rs, a⟩ := q
    simp -implicitDefEqProofs [roadsDT, roadsTT, arrDT, hl, putD, fldsT]
theorem numL_head : ∀ (n : Nat), 0 < n → (TL.numL n).head? ≠ some 48 := by
  intro n
  induction n using Nat.strongRecOn with
  | ind n ih =>
    intro h
    by_cases h10 : n < 10
    · rw [TL.numL_lt h10]
      simp
      omega
    · rw [TL.numL_step (by omega)]
      have h1 := ih (n / 10) (by omega) (by omega)
      have h2 := TL.numL_ne (n / 10)
      cases e : TL.numL (n / 10) with
      | nil => exact absurd e h2
      | cons c r =>
        rw [e] at h1
        exact h1
theorem read_okT {n : Nat} (h : n ≤ 999999999) (k : D) : m_read_number [.str (numT n), k] = .ok (.int n) := by
  rw [e_read_number]
  have hl := num_len h
  have hne := TL.numL_ne n
  have hi : D.toInt (.str (numT n)) = .ok (.int n) := toInt_num (by
    refine Nat.lt_of_le_of_lt h ?_
    decide +kernel)
  cases e : TL.numL n with
  | nil => exact absurd e hne
  | cons c r =>
    have en : numT n = mk (c :: r) := by unfold numT; rw [e]
    have hlen : (numT n).length = r.length + 1 := by rw [en, len_mk]; rfl
    have hs : r.length + 1 ≤ sizeLine := by rw [PySem.sizeLine_eq]; omega
    have h9 : (r.length : Int) + 1 ≤ 9 := by omega
    have h1 : (1 : Int) ≤ (r.length : Int) + 1 := by omega
    have hd : ∀ a ∈ c :: r, a ∈ digs := by
      intro a ha
      have := TL.numL_digits n a (by rw [e]; exact ha)
      rw [digs_eq]
      have : 48 ≤ a ∧ a ≤ 57 := this
      simp
      omega
    have hc : compL (fElt noT fun char_1 => bD (D.mem char_1 (.str "0123456789"))) (D.str (mk [c]) :: r.map fun c => D.str (mk [c])) = .ok (D.bl (decide (c ∈ digs)) :: r.map fun c => D.bl (decide (c ∈ digs))) := compL_mapA (l := c :: r) (k := fun c => D.str (mk [c])) (g := fun c => D.bl (decide (c ∈ digs))) (by rw [List.length_cons]; omega) fun a _ => by
      rw [mem_char']
      rfl
    have ha : D.all (.lst (D.bl (decide (c ∈ digs)) :: r.map fun c => D.bl (decide (c ∈ digs)))) = .ok (.bl true) := by
      refine (all_map (c :: r)).trans ?_
      congr 2
      exact List.all_eq_true.mpr fun a ha => decide_eq_true (hd a ha)
    have hx : D.ix (.str (mk (c :: r))) (.int 0) = .ok (.str (mk [c])) := ix_str (n := 0) (by rw [len_mk, List.length_cons]; omega) rfl rfl
    have hit : D.items (.str (mk (c :: r))) = .ok (D.str (mk [c]) :: r.map fun c => D.str (mk [c])) := items_mk _
    have h0 : ("0" : Str) = mk [48] := TL.ext_tl (by decide +kernel)
    have hz : ¬ (c = 48 ∧ 1 < (r.length : Int) + 1) := fun ⟨z, z2⟩ => by
      by_cases hn : n = 0
      · subst hn
        rw [TL.numL_lt (by omega)] at e
        cases e
        simp at z2
      · refine numL_head n (by omega) ?_
        rw [e, z]
        rfl
    rw [en] at hi
    obtain ⟨v, hv⟩ : ∃ v : Bool, decide (mk [c] = mk [48]) = v := ⟨_, rfl⟩
    have hv2 : v = true → ¬ 1 < (r.length : Int) + 1 := fun z z2 => hz ⟨by
      rw [← hv] at z
      have := of_decide_eq_true z
      simpa using this, z2⟩
    have hit' : ∀ z : Bool, D.tru (.bl z) = .ok z := fun _ => rfl
    have he : D.eq (.str (mk [c])) (.str (mk [48])) = .ok v := by rw [eq_ss, hv]
    unfold g_read_number
    rw [en]
    cases v with
    | true =>
      have hr := hv2 rfl
      simp -implicitDefEqProofs [len_mk, hs, h9, h1, hit, hc, ha, hx, h0, he, hr, hi]
    | false => simp -implicitDefEqProofs [len_mk, hs, h9, h1, hit, hc, ha, hx, h0, he, hi]
theorem al_str {x : Str} (h : Al (tl x)) : 32 ∉ tl x ∧ 10 ∉ tl x := al_no h
theorem w_none : 32 ∉ tl "none" ∧ 10 ∉ tl "none" := by decide +kernel
theorem w_arr : 32 ∉ tl "arrives" ∧ 10 ∉ tl "arrives" := by decide +kernel
theorem w_by : 32 ∉ tl "by" ∧ 10 ∉ tl "by" := by decide +kernel
theorem w_low : 32 ∉ tl "low" ∧ 10 ∉ tl "low" := by decide +kernel
theorem words_no {r : Option (List Str × Nat)} {ls : List (Str × Nat)} (ok : OkT r ls) : ∀ w ∈ linesW r ls, w ≠ [] ∧ ∀ x ∈ w, 32 ∉ tl x ∧ 10 ∉ tl x := by
  intro w hw
  unfold linesW at hw
  rcases List.mem_append.mp hw with h | h
  · cases r with
    | none =>
      rw [List.mem_singleton.mp h]
      refine ⟨by simp, fun x hx => ?_⟩
      rw [List.mem_singleton.mp hx]
      exact w_none
    | some q =>
      obtain ⟨rs, a⟩ := q
      obtain ⟨h1, h2, h3⟩ := ok.rd rs a rfl
      rcases List.mem_cons.mp h with rfl | h
      · refine ⟨by simp, fun x hx => ?_⟩
        rcases List.mem_cons.mp hx with rfl | hx
        · exact w_arr
        · rw [List.mem_singleton.mp hx]
          exact num_no a
      · obtain ⟨y, hy, rfl⟩ := List.mem_map.mp h
        refine ⟨by simp, fun x hx => ?_⟩
        rcases List.mem_cons.mp hx with rfl | hx
        · exact w_by
        · rw [List.mem_singleton.mp hx]
          exact al_str (nm_alT (h2 y hy))
  · obtain ⟨q, hq, rfl⟩ := List.mem_map.mp h
    obtain ⟨h1, h2⟩ := ok.ln q hq
    refine ⟨by simp [lowW], fun x hx => ?_⟩
    rcases List.mem_cons.mp hx with rfl | hx
    · exact w_low
    · rcases List.mem_cons.mp hx with rfl | hx
      · exact al_str (nm_alT h1)
      · rw [List.mem_singleton.mp hx]
        exact num_no q.2
theorem joinL_no {c : Nat} {S : List Nat} {l : List (List Nat)} (hS : c ∉ S) (h : ∀ p ∈ l, c ∉ p) : c ∉ TL.joinL S l := fun hc => by
  rcases joinL_mem hc with h1 | ⟨p, hp, h1⟩
  · exact hS h1
  · exact h p hp h1
theorem line_split {w : List Str} (h0 : w ≠ []) (h : ∀ x ∈ w, 32 ∉ tl x ∧ 10 ∉ tl x) : Txt.split (lnT w) " " = w := by
  unfold lnT
  rw [← TL.join_eq]
  exact TL.split_join (s := 32) (S := []) tl_sp (by decide +kernel) h0 fun p hp => (h p hp).1
theorem line_nl {w : List Str} (h : ∀ x ∈ w, 32 ∉ tl x ∧ 10 ∉ tl x) : 10 ∉ tl (lnT w) := by
  unfold lnT
  show 10 ∉ TL.tl (Str.join " " w)
  rw [TL.tl_join]
  refine joinL_no ?_ fun p hp => ?_
  · have := tl_sp
    rw [show TL.tl " " = [32] from this]
    decide
  · obtain ⟨x, hx, rfl⟩ := List.mem_map.mp hp
    exact (h x hx).2
theorem text_split {r : Option (List Str × Nat)} {ls : List (Str × Nat)} (ok : OkT r ls) : Txt.split (textT r ls) "\n" = (linesW r ls).map lnT := by
  unfold textT
  rw [← TL.join_eq]
  refine TL.split_join (s := 10) (S := []) tl_nl (by decide +kernel) (fun e => (lines_count ok).2 (List.map_eq_nil_iff.mp e)) fun p hp => ?_
  obtain ⟨w, hw, rfl⟩ := List.mem_map.mp hp
  exact line_nl (words_no ok w hw).2
theorem text_lenT {r : Option (List Str × Nat)} {ls : List (Str × Nat)} (ok : OkT r ls) : (textT r ls).length ≤ 4000 := by
  unfold textT
  rw [TL.len_tl, TL.tl_join]
  refine Nat.le_trans (joinL_len _ _) ?_
  have h1 := (lines_count ok).1
  have h2 : ((((linesW r ls).map lnT).map TL.tl).map fun p : List Nat => p.length).sum ≤ 141 * 26 := by
    refine Nat.le_trans (sum_leT (k := 26) fun x hx => ?_) ?_
    · obtain ⟨y, hy, rfl⟩ := List.mem_map.mp hx
      obtain ⟨z, hz, rfl⟩ := List.mem_map.mp hy
      obtain ⟨w, hw, rfl⟩ := List.mem_map.mp hz
      rw [← TL.len_tl]
      exact line_len ok w hw
    · rw [List.length_map, List.length_map, List.length_map]
      omega
  have h3 : (TL.tl "\n").length = 1 := by rw [show TL.tl "\n" = [10] from tl_nl]; rfl
  rw [h3, List.length_map, List.length_map]
  omega
def wrdD (w : List Str) : D := .lst (w.map D.str)
theorem linesT {r : Option (List Str × Nat)} {ls : List (Str × Nat)} (ok : OkT r ls) : compL (fElt noT fun line => meth D.isStr (.ok line) (.ok [.str " "]) (m1 D.split)) (((linesW r ls).map lnT).map D.str) = .ok ((linesW r ls).map wrdD) := by
  rw [List.map_map]
  refine compL_mapA (by have := (lines_count ok).1; omega) fun w hw => ?_
  obtain ⟨h0, h⟩ := words_no ok w hw
  have hl := line_len ok w hw
  show meth D.isStr (.ok (.str (lnT w))) (.ok [.str " "]) (m1 D.split) = _
  rw [meth_s, m1_1, split_ok (by rw [len_sp]; omega) (by omega), line_split h0 h]
  rfl
theorem enumL_app : ∀ (k : Int) (a b : List D), enumL k (a ++ b) = enumL k a ++ enumL (k + a.length) b
  | k, [], b => by simp [enumL]
  | k, d :: a, b => by
    show _ :: enumL (k + 1) (a ++ b) = _ :: (enumL (k + 1) a ++ _)
    rw [enumL_app]
    congr 3
    rw [List.length_cons]
    omega
theorem wr0 (a : Str) (r : List Str) : (wrdD (a :: r)).ix (.int 0) = .ok (.str a) := ix_nat (n := 0) rfl rfl
theorem wr1 (a b : Str) (r : List Str) : (wrdD (a :: b :: r)).ix (.int 1) = .ok (.str b) := ix_nat (n := 1) rfl rfl
theorem wr2 (a b c : Str) (r : List Str) : (wrdD (a :: b :: c :: r)).ix (.int 2) = .ok (.str c) := ix_nat (n := 2) rfl rfl
theorem wrl (w : List Str) : (wrdD w).len = .ok (.int w.length) := by
  unfold wrdD
  rw [len_l, List.length_map]
theorem by_turnT (rs : List D) (hl : rs.length < 1000) (k : D) {x : Str} (hx : Nm x) : m_parse_paper_l1 (.own rs, []) k (wrdD ["by", x]) = .ok (.own (rs ++ [.str x]), []) := by
  have h1 := wr0 "by" [x]
  have h2 := wr1 "by" x []
  have h3 := wrl ["by", x]
  generalize wrdD ["by", x] = w at h1 h2 h3
  have hl' : rs.length < sizeLine := by rw [PySem.sizeLine_eq]; omega
  have hs : Sl.rd (.own rs) = .ok (.lst rs) := rfl
  have hp : Sl.push (.own rs) (.ok (.str x)) = .ok (.own (rs ++ [.str x])) := by
    show (need (decide (rs.length < sizeLine)) >>= fun _ => (.ok (.own (rs ++ [.str x])) : M Sl)) = _
    rw [need_p hl']
    rfl
  unfold m_parse_paper_l1
  simp -implicitDefEqProofs [hs, eq_ii, h1, h2, h3, eq_ss, nm_ok hx, hp]
theorem low_turnT (s : Sl) {d : D} (hs : s.rd = .ok d) (l : List D) (hl : l.length < 1000) (k : D) {q : Str × Nat} (hx : Nm q.1) (hn : q.2 ≤ 999999999) : m_parse_paper_l1 (s, l) k (wrdD (lowW q)) = .ok (s, l ++ [lowDT q]) := by
  have h1 := wr0 "low" [q.1, numT q.2]
  have h2 := wr1 "low" q.1 [numT q.2]
  have h4 := wr2 "low" q.1 (numT q.2) []
  have h3 := wrl ["low", q.1, numT q.2]
  have hr := read_okT hn k
  show m_parse_paper_l1 (s, l) k (wrdD ["low", q.1, numT q.2]) = _
  generalize wrdD ["low", q.1, numT q.2] = w at h1 h2 h3 h4
  have hl' : l.length < sizeLine := by rw [PySem.sizeLine_eq]; omega
  have s2 : 2 ≤ sizeLine := by decide
  unfold m_parse_paper_l1
  cases hd : d.isNon with
  | true => simp -implicitDefEqProofs [hs, hd, eq_ii, h1, h2, h3, h4, eq_ss, nm_ok hx, hr, hl', lowDT, s2]
  | false =>
    by_cases h0 : (l.length : Int) = 0
    · have h0' : l = [] := by
        cases l with
        | nil => rfl
        | cons a l => simp at h0; omega
      subst h0'
      have s00 : 0 < sizeLine := by decide
      simp -implicitDefEqProofs [s00, hs, hd, eq_ii, h1, h2, h3, h4, eq_ss, nm_ok hx, hr, hl', lowDT, s2]
    · have h0' : ¬ l = [] := fun z => by subst z; exact h0 rfl
      simp -implicitDefEqProofs [hs, hd, eq_ii, h0', h1, h2, h3, h4, eq_ss, nm_ok hx, hr, hl', lowDT, s2]
theorem by_loop : ∀ (rs : List Str) (k : Int) (acc : List D), (∀ x ∈ rs, Nm x) → acc.length + rs.length < 1000 → loopF (fun s => on2 (m_parse_paper_l1 s)) (enumL k (rs.map fun x => wrdD ["by", x])) (.own acc, []) = .ok (.own (acc ++ rs.map D.str), [])
  | [], k, acc, _, _ => by simp [enumL, loopF_nil]
  | x :: rs, k, acc, h, hl => by
    have e : on2 (m_parse_paper_l1 (.own acc, [])) (.tup [.int k, wrdD ["by", x]]) = .ok (.own (acc ++ [.str x]), []) := by_turnT acc (by omega) _ (h x (List.mem_cons_self ..))
    show loopF _ (.tup [.int k, wrdD ["by", x]] :: enumL (k + 1) (rs.map fun x => wrdD ["by", x])) _ = _
    rw [loopF_cons, e, okb, by_loop rs (k + 1) (acc ++ [D.str x]) (fun y hy => h y (List.mem_cons_of_mem _ hy)) (by rw [List.length_append]; simp at hl ⊢; omega)]
    simp
theorem low_loop (s : Sl) {d : D} (hs : s.rd = .ok d) : ∀ (ls : List (Str × Nat)) (k : Int) (acc : List D), (∀ q ∈ ls, Nm q.1 ∧ q.2 ≤ 999999999) → acc.length + ls.length < 1000 → loopF (fun s => on2 (m_parse_paper_l1 s)) (enumL k (ls.map fun q => wrdD (lowW q))) (s, acc) = .ok (s, acc ++ ls.map lowDT)
  | [], k, acc, _, _ => by simp [enumL, loopF_nil]
  | q :: ls, k, acc, h, hl => by
    obtain ⟨h1, h2⟩ := h q (List.mem_cons_self ..)
    have e : on2 (m_parse_paper_l1 (s, acc)) (.tup [.int k, wrdD (lowW q)]) = .ok (s, acc ++ [lowDT q]) := low_turnT s hs acc (by omega) _ h1 h2
    show loopF _ (.tup [.int k, wrdD (lowW q)] :: enumL (k + 1) (ls.map fun q => wrdD (lowW q))) _ = _
    rw [loopF_cons, e, okb, low_loop s hs ls (k + 1) (acc ++ [lowDT q]) (fun y hy => h y (List.mem_cons_of_mem _ hy)) (by rw [List.length_append]; simp at hl ⊢; omega)]
    simp
def paperT (r : Option (List Str × Nat)) (ls : List (Str × Nat)) : D := .ins "Paper" (fldsT r ls)
theorem parse_okT {r : Option (List Str × Nat)} {ls : List (Str × Nat)} (ok : OkT r ls) : m_parse_paper [.str (textT r ls)] = .ok (paperT r ls) := by
  rw [e_parse_paper]
  have hsp : D.split (.str (textT r ls)) (.str "\n") = .ok (.lst (((linesW r ls).map lnT).map D.str)) := by
    rw [split_ok (by rw [len_nl]; omega) (by have := text_lenT ok; omega), text_split ok]
  have hli := linesT ok
  have hin := pinitT ok
  have hl8 := ok.ll
  have s0 : 0 ≤ sizeLine := by decide
  have s1 : 1 ≤ sizeLine := by decide
  generalize ((linesW r ls).map lnT).map D.str = tls at hsp hli
  unfold g_parse_paper
  cases r with
  | none =>
    have hw : (linesW none ls).map wrdD = wrdD ["none"] :: ls.map fun q => wrdD (lowW q) := by
      unfold linesW headW
      rw [List.map_append, List.map_map]
      rfl
    rw [hw] at hli
    have hlen : (ls.map fun q => wrdD (lowW q)).length = ls.length := List.length_map _
    have hloop := low_loop (.val .non) (d := .non) rfl ls 2 [] ok.ln (by simp; omega)
    generalize (ls.map fun q => wrdD (lowW q)) = lws at hli hloop hlen
    have hx0 : D.ix (.lst (wrdD ["none"] :: lws)) (.int 0) = .ok (wrdD ["none"]) := ix_nat (n := 0) rfl rfl
    have hwl := wrl ["none"]
    have hne : D.ne (wrdD ["none"]) (.lst [.str "none"]) = .ok false := ne_self (shp_lst (n := 19) fun d hd => by
      rw [List.mem_singleton.mp hd]
      exact shp_str)
    have hen : D.enum2 [.lst lws, .int 2] = .ok (enumL 2 lws) := rfl
    generalize wrdD ["none"] = wn at hli hx0 hwl hne
    have hv : (Sl.val D.non).rd = .ok .non := rfl
    simp only [roadsDT, arrDT] at hin
    simp -implicitDefEqProofs [hsp, hli, hx0, hwl, eq_ii, hne, s1, cut_drop, hen, hloop, hv, hin, paperT]
  | some q =>
    obtain ⟨rs, a⟩ := q
    obtain ⟨h1, h2, h3⟩ := ok.rd rs a rfl
    have hw : (linesW (some (rs, a)) ls).map wrdD = wrdD ["arrives", numT a] :: ((rs.map fun x => wrdD ["by", x]) ++ ls.map fun q => wrdD (lowW q)) := by
      unfold linesW headW
      rw [List.map_append, List.map_map, List.map_cons, List.map_map]
      rfl
    rw [hw] at hli
    have hl1 := by_loop rs 2 [] h2 (by simp; omega)
    have hl2 := low_loop (.own (rs.map D.str)) (d := .lst (rs.map D.str)) rfl ls (2 + ((rs.map fun x => wrdD ["by", x]).length : Int)) [] ok.ln (by simp; omega)
    have hloop : loopF (fun s => on2 (m_parse_paper_l1 s)) (enumL 2 ((rs.map fun x => wrdD ["by", x]) ++ ls.map fun q => wrdD (lowW q))) (.own [], []) = .ok (.own (rs.map D.str), ls.map lowDT) := by
      rw [enumL_app, loopF_app, hl1, okb, List.nil_append, hl2, List.nil_append]
    generalize ((rs.map fun x => wrdD ["by", x]) ++ ls.map fun q => wrdD (lowW q)) = lws at hli hloop
    have hx0 : D.ix (.lst (wrdD ["arrives", numT a] :: lws)) (.int 0) = .ok (wrdD ["arrives", numT a]) := ix_nat (n := 0) rfl rfl
    have hwl := wrl ["arrives", numT a]
    have hw0 := wr0 "arrives" [numT a]
    have hw1 := wr1 "arrives" (numT a) []
    have hrd := read_okT h3 (.int 1)
    have hen : D.enum2 [.lst lws, .int 2] = .ok (enumL 2 lws) := rfl
    generalize wrdD ["arrives", numT a] = wn at hli hx0 hwl hw0 hw1
    have hv : (Sl.own (rs.map D.str)).rd = .ok (.lst (rs.map D.str)) := rfl
    simp only [roadsDT, arrDT] at hin
    simp -implicitDefEqProofs [hsp, hli, hx0, hwl, eq_ii, eq_ss, hw0, hw1, hrd, s1, cut_drop, hen, hloop, hv, hin, paperT]
end LawMath

set_option Elab.async false
set_option linter.all false
set_option maxRecDepth 100000
set_option maxHeartbeats 4000000
namespace LawMath
open PySem DL LawWalk L2
theorem num_ix {ns : List Int} {i : Int} {j : Nat} (hi : i = (j : Int)) (h : j < ns.length) : D.ix (.lst (nums ns)) (.int i) = .ok (.int (ns.getD j 0)) :=
  ix_nat (n := j) (by
    unfold nums
    rw [List.getElem?_map, List.getElem?_eq_getElem h, List.getD_eq_getElem?_getD, List.getElem?_eq_getElem h]
    rfl) hi
theorem num_sm {ns : List Int} (hs : Sm ns) (j : Nat) : 0 ≤ ns.getD j 0 ∧ ns.getD j 0 < 1009 := by
  rw [List.getD_eq_getElem?_getD]
  cases e : ns[j]? with
  | none => simp
  | some x => exact hs x (List.mem_of_getElem? e)
end LawMath

set_option Elab.async false
set_option linter.all false
set_option maxRecDepth 100000
set_option maxHeartbeats 4000000
namespace LawMath
open PySem DL LawWalk L2
def ivp (k : Int) : Er := .exc ⟨"InvalidPaper", [("line", .int k)]⟩
theorem excp {α : Type} (k : Int) : (mExc1 "InvalidPaper" "line" (.ok (.int k)) : M α) = .error (ivp k) := rfl
theorem erp {α β : Type} (e : Er) (f : α → M β) : ((.error e : M α) >>= f) = .error e := rfl
def NoNum (x : Str) : Prop := ∀ k : Int, m_read_number [.str x, .int k] = .error (ivp k)
theorem isnm_b {x : Str} (h : (tl x).length ≤ 1000) : m_is_name [.str x] = .ok (.bl (isNm (tl x))) := by
  have e := is_name_eq (tl x) (by omega)
  have : mk (tl x) = x := TL.ext_tl (tl_mk _)
  rw [this] at e
  exact e
inductive Bad : List Str → Prop
  | hd {h : Str} {r : List Str} : h ≠ "none" → h ≠ "arrives" → h ≠ "by" → h ≠ "low" → Bad (h :: r)
  | none2 {x : Str} {r : List Str} : Bad ("none" :: x :: r)
  | arrL {r : List Str} : r.length ≠ 1 → Bad ("arrives" :: r)
  | arrN {x : Str} : NoNum x → Bad ["arrives", x]
  | byL {r : List Str} : r.length ≠ 1 → Bad ("by" :: r)
  | byN {x : Str} : isNm (tl x) = false → Bad ["by", x]
  | lowL {r : List Str} : r.length ≠ 2 → Bad ("low" :: r)
  | lowN {x y : Str} : isNm (tl x) = false → Bad ["low", x, y]
  | lowV {x y : Str} : Nm x → NoNum y → Bad ["low", x, y]
def Clean (w : List Str) : Prop := w ≠ [] ∧ (∀ x ∈ w, 32 ∉ tl x ∧ 10 ∉ tl x) ∧ (∀ x ∈ w, x.length ≤ 20) ∧ w.length ≤ 6
theorem Clean.len {w : List Str} (h : Clean w) : (lnT w).length ≤ 200 := by
  unfold lnT
  rw [TL.len_tl, TL.tl_join]
  refine Nat.le_trans (joinL_len _ _) ?_
  have h1 : ((w.map TL.tl).map fun p : List Nat => p.length).sum ≤ (w.map TL.tl).length * 20 := by
    refine Nat.le_trans (sum_leT (k := 20) fun x hx => ?_) (by rw [List.length_map]; omega)
    obtain ⟨y, hy, rfl⟩ := List.mem_map.mp hx
    obtain ⟨z, hz, rfl⟩ := List.mem_map.mp hy
    rw [← TL.len_tl]
    exact h.2.2.1 z hz
  have h3 : (TL.tl " ").length = 1 := by rw [show TL.tl " " = [32] from tl_sp]; rfl
  have h4 := h.2.2.2
  rw [List.length_map] at h1
  rw [h3, List.length_map]
  omega
def txtW (L : List (List Str)) : Str := Str.join "\n" (L.map lnT)
section
variable {L : List (List Str)} (h0 : L ≠ []) (hl : L.length ≤ 200) (hc : ∀ w ∈ L, Clean w)
include h0 hl hc
theorem txtW_len : (txtW L).length ≤ 50000 := by
  unfold txtW
  rw [TL.len_tl, TL.tl_join]
  refine Nat.le_trans (joinL_len _ _) ?_
  have h2 : (((L.map lnT).map TL.tl).map fun p : List Nat => p.length).sum ≤ 200 * 200 := by
    refine Nat.le_trans (sum_leT (k := 200) fun x hx => ?_) ?_
    · obtain ⟨y, hy, rfl⟩ := List.mem_map.mp hx
      obtain ⟨z, hz, rfl⟩ := List.mem_map.mp hy
      obtain ⟨w, hw, rfl⟩ := List.mem_map.mp hz
      rw [← TL.len_tl]
      exact (hc w hw).len
    · rw [List.length_map, List.length_map, List.length_map]
      exact Nat.mul_le_mul_right _ hl
  have h3 : (TL.tl "\n").length = 1 := by rw [show TL.tl "\n" = [10] from tl_nl]; rfl
  rw [h3, List.length_map, List.length_map]
  omega
theorem txtW_join : D.join (.str "\n") (.lst ((L.map lnT).map D.str)) = .ok (.str (txtW L)) := by
  refine join_ok ?_
  have h2 : ((L.map lnT).map (·.length)).sum ≤ 200 * 200 := by
    refine Nat.le_trans (sum_leT (k := 200) fun x hx => ?_) ?_
    · obtain ⟨z, hz, rfl⟩ := List.mem_map.mp hx
      obtain ⟨w, hw, rfl⟩ := List.mem_map.mp hz
      exact (hc w hw).len
    · rw [List.length_map, List.length_map]
      exact Nat.mul_le_mul_right _ hl
  rw [List.length_map, len_nl]
  omega
theorem txtW_words : (L1 ((B1 D.items (meth D.isStr (.ok (.str (txtW L))) (A1 (.ok (.str "\n")) A0) (m1 D.split))) >>= fun ds => compL (fElt noT (fun line_1 => (meth D.isStr (.ok line_1) (A1 (.ok (.str " ")) A0) (m1 D.split)))) ds) : M D) = .ok (.lst (L.map wrdD)) := by
  have hs : Txt.split (txtW L) "\n" = L.map lnT := by
    unfold txtW
    rw [← TL.join_eq]
    refine TL.split_join (s := 10) (S := []) tl_nl (by decide +kernel) (fun e => h0 (List.map_eq_nil_iff.mp e)) fun p hp => ?_
    obtain ⟨w, hw, rfl⟩ := List.mem_map.mp hp
    exact line_nl (hc w hw).2.1
  have tlen := txtW_len h0 hl hc
  have sp : D.split (.str (txtW L)) (.str "\n") = .ok (.lst ((L.map lnT).map D.str)) := by
    rw [split_ok (by rw [len_nl]; omega) (by omega), hs]
  have e0 : (B1 D.items (meth D.isStr (.ok (.str (txtW L))) (A1 (.ok (.str "\n")) A0) (m1 D.split)) : M (List D)) = .ok ((L.map lnT).map D.str) := by
    have ms : meth D.isStr (.ok (.str (txtW L))) (.ok [.str "\n"]) (m1 D.split) = D.split (.str (txtW L)) (.str "\n") := rfl
    simp -implicitDefEqProofs only [B1, A0, A1, okb, ms, sp, items_l]
  have c : compL (fElt noT (fun line_1 => (meth D.isStr (.ok line_1) (A1 (.ok (.str " ")) A0) (m1 D.split)))) ((L.map lnT).map D.str) = .ok (L.map wrdD) := by
    rw [List.map_map]
    refine compL_mapA (by omega) fun w hw => ?_
    have cl := hc w hw
    have h2 := cl.len
    show meth D.isStr (.ok (.str (lnT w))) (.ok [.str " "]) (m1 D.split) = _
    rw [meth_s, m1_1, split_ok (by rw [len_sp]; omega) (by omega), line_split cl.1 cl.2.1]
    rfl
  rw [e0, okb, c]
  rfl
end
theorem turn_gen {s : Sl} {d : D} (hs : s.rd = .ok d) (l : List D) (k : Int) {w : List Str} (h1 : (mAnd (B2 D.eq (B1 (f1 D.len) (A1 (.ok (wrdD w)) A0)) (.ok (.int 2))) (mAnd (B2 D.eq (B2 D.ix (.ok (wrdD w)) (.ok (.int 0))) (.ok (.str "by"))) (B1 D.tru (B1 m_is_name (A1 (B2 D.ix (.ok (wrdD w)) (.ok (.int 1))) A0)))) : M Bool) = .ok false)
    (h2 : (mIf (mAnd (B2 D.eq (B1 (f1 D.len) (A1 (.ok (wrdD w)) A0)) (.ok (.int 3))) (mAnd (B2 D.eq (B2 D.ix (.ok (wrdD w)) (.ok (.int 0))) (.ok (.str "low"))) (B1 D.tru (B1 m_is_name (A1 (B2 D.ix (.ok (wrdD w)) (.ok (.int 1))) A0))))) (mPush l (B1 D.mkTup (A1 (B2 D.ix (.ok (wrdD w)) (.ok (.int 1))) (A1 (B1 m_read_number (A1 (B2 D.ix (.ok (wrdD w)) (.ok (.int 2))) (A1 (.ok (.int k)) A0))) A0))) >>= fun lows_3 => (.ok (s, lows_3))) (mExc1 "InvalidPaper" "line" (.ok (.int k))) : M (Sl × List D)) = .error (ivp k)) : m_parse_paper_l1 (s, l) (.int k) (wrdD w) = .error (ivp k) := by
  have c : (mAnd (B2 D.notN s.rd (.ok .non)) (mAnd (B2 D.eq (B1 (f1 D.len) (A1 (.ok (.lst l)) A0)) (.ok (.int 0))) (mAnd (B2 D.eq (B1 (f1 D.len) (A1 (.ok (wrdD w)) A0)) (.ok (.int 2))) (mAnd (B2 D.eq (B2 D.ix (.ok (wrdD w)) (.ok (.int 0))) (.ok (.str "by"))) (B1 D.tru (B1 m_is_name (A1 (B2 D.ix (.ok (wrdD w)) (.ok (.int 1))) A0)))))) : M Bool) = .ok false := by
    rw [h1]
    have n : D.notN d .non = .ok (!d.isNon) := rfl
    have ll : D.len (.lst l) = .ok (.int (l.length : Nat)) := rfl
    have e : D.eq (.int (l.length : Nat)) (.int 0) = .ok (decide ((l.length : Int) = 0)) := eq_ii
    cases hd : d.isNon with
    | true =>
      rw [hd] at n
      simp -implicitDefEqProofs only [B2, mAnd, hs, okb, n, Bool.not_true, Bool.false_eq_true, if_false]
    | false =>
      rw [hd] at n
      cases he : decide ((l.length : Int) = 0) with
      | true =>
        rw [he] at e
        simp -implicitDefEqProofs only [B1, B2, A0, A1, mAnd, hs, okb, n, Bool.not_false, if_true, f1_1, ll, e]
      | false =>
        rw [he] at e
        simp -implicitDefEqProofs only [B1, B2, A0, A1, mAnd, hs, okb, n, Bool.not_false, if_true, f1_1, ll, e, Bool.false_eq_true, if_false]
  unfold m_parse_paper_l1
  dsimp only
  rw [c]
  exact h2
theorem len_eq (w : List Str) (n : Int) : (B2 D.eq (B1 (f1 D.len) (A1 (.ok (wrdD w)) A0)) (.ok (.int n)) : M Bool) = .ok (decide ((w.length : Int) = n)) := by
  have h := wrl w
  have e : D.eq (.int (w.length : Nat)) (.int n) = .ok (decide ((w.length : Int) = n)) := eq_ii
  simp -implicitDefEqProofs only [B1, B2, A0, A1, okb, f1_1, h, e]
theorem and_f {b : M Bool} : (mAnd (.ok false) b : M Bool) = .ok false := rfl
theorem and_bf {b : Bool} : (mAnd (.ok b) (.ok false) : M Bool) = .ok false := by cases b <;> rfl
theorem hd_eq (a y : Str) (r : List Str) : (B2 D.eq (B2 D.ix (.ok (wrdD (a :: r))) (.ok (.int 0))) (.ok (.str y)) : M Bool) = .ok (decide (a = y)) := by
  have h := wr0 a r
  have e : D.eq (.str a) (.str y) = .ok (decide (a = y)) := eq_ss
  simp -implicitDefEqProofs only [B2, okb, h, e]
theorem nm_eq (a b : Str) (r : List Str) (hb : (tl b).length ≤ 1000) : (B1 D.tru (B1 m_is_name (A1 (B2 D.ix (.ok (wrdD (a :: b :: r))) (.ok (.int 1))) A0)) : M Bool) = .ok (isNm (tl b)) := by
  have h := wr1 a b r
  have e := isnm_b hb
  simp -implicitDefEqProofs only [B1, B2, A0, A1, okb, h, e, tru_b]
theorem bad_turn {s : Sl} {d : D} (hs : s.rd = .ok d) (l : List D) (k : Int) {w : List Str} (hb : Bad w ∨ w = [("none" : Str)] ∨ ∃ r, w = ("arrives" : Str) :: r) (hc : ∀ x ∈ w, x.length ≤ 1000) : m_parse_paper_l1 (s, l) (.int k) (wrdD w) = .error (ivp k) := by
  have l1000 : ∀ {x : Str}, x.length ≤ 1000 → (tl x).length ≤ 1000 := fun h => by rw [TL.len_tl] at h; exact h
  -- a first word that is none of by, low
  have other : ∀ {h : Str} {r : List Str}, h ≠ "by" → h ≠ "low" → w = h :: r → m_parse_paper_l1 (s, l) (.int k) (wrdD w) = .error (ivp k) := fun {h r} n1 n2 e => by
    subst e
    refine turn_gen hs l k ?_ ?_
    · rw [hd_eq, decide_eq_false n1, and_f, len_eq]
      exact and_bf
    · rw [hd_eq, decide_eq_false n2, and_f, len_eq, and_bf]
      rfl
  have nb : ("none" : Str) ≠ "by" ∧ ("none" : Str) ≠ "low" := by decide +kernel
  have ab : ("arrives" : Str) ≠ "by" ∧ ("arrives" : Str) ≠ "low" := by decide +kernel
  have bl : ("by" : Str) ≠ "low" ∧ ("low" : Str) ≠ "by" := by decide +kernel
  rcases hb with hb | rfl | ⟨r, rfl⟩
  · cases hb with
    | hd a b c d => exact other c d rfl
    | none2 => exact other nb.1 nb.2 rfl
    | arrL _ => exact other ab.1 ab.2 rfl
    | arrN _ => exact other ab.1 ab.2 rfl
    | byL hr =>
      refine turn_gen hs l k ?_ ?_
      · rw [len_eq, decide_eq_false (by rw [List.length_cons]; omega)]
        rfl
      · rw [hd_eq, decide_eq_false bl.1, and_f, len_eq, and_bf]
        rfl
    | byN hx =>
      refine turn_gen hs l k ?_ ?_
      · rw [nm_eq _ _ _ (l1000 (hc _ (List.mem_cons_of_mem _ (List.mem_cons_self ..)))), hx, hd_eq, len_eq, and_bf, and_bf]
      · rw [len_eq]
        rfl
    | lowL hr =>
      refine turn_gen hs l k ?_ ?_
      · rw [hd_eq, decide_eq_false bl.2, and_f, len_eq]
        exact and_bf
      · rw [len_eq, decide_eq_false (by rw [List.length_cons]; omega)]
        rfl
    | lowN hx =>
      refine turn_gen hs l k ?_ ?_
      · rw [hd_eq, decide_eq_false bl.2, and_f, len_eq]
        exact and_bf
      · rw [nm_eq _ _ _ (l1000 (hc _ (List.mem_cons_of_mem _ (List.mem_cons_self ..)))), hx, hd_eq, len_eq, and_bf, and_bf]
        rfl
    | @lowV x y hx hy =>
      refine turn_gen hs l k ?_ ?_
      · rw [hd_eq, decide_eq_false bl.2, and_f, len_eq]
        exact and_bf
      · have hx' : isNm (tl x) = true := hx
        have w1 := wr1 "low" x [y]
        have w2 := wr2 "low" x y []
        have rn := hy k
        rw [nm_eq _ _ _ (l1000 (hc _ (List.mem_cons_of_mem _ (List.mem_cons_self ..)))), hx', hd_eq, decide_eq_true rfl, len_eq, decide_eq_true (by rfl)]
        generalize wrdD [("low" : Str), x, y] = W at *
        simp -implicitDefEqProofs only [B1, B2, A0, A1, mAnd, mIf, mPush, okb, if_true, w1, w2, rn, erp]
  · exact other nb.1 nb.2 rfl
  · exact other ab.1 ab.2 rfl
theorem by_turn_no {s : Sl} {d : D} (hs : s.rd = .ok d) (l : List D) (k : Int) {x : Str} (h : d.isNon = true ∨ l ≠ []) : m_parse_paper_l1 (s, l) (.int k) (wrdD [("by" : Str), x]) = .error (ivp k) := by
  have bl : ("by" : Str) ≠ "low" := by decide +kernel
  have c : ∀ R : M Bool, (mAnd (B2 D.notN s.rd (.ok .non)) (mAnd (B2 D.eq (B1 (f1 D.len) (A1 (.ok (.lst l)) A0)) (.ok (.int 0))) R) : M Bool) = .ok false := fun R => by
    have n : D.notN d .non = .ok (!d.isNon) := rfl
    have ll : D.len (.lst l) = .ok (.int (l.length : Nat)) := rfl
    have e : D.eq (.int (l.length : Nat)) (.int 0) = .ok (decide ((l.length : Int) = 0)) := eq_ii
    cases hd : d.isNon with
    | true =>
      rw [hd] at n
      simp -implicitDefEqProofs only [B2, mAnd, hs, okb, n, Bool.not_true, Bool.false_eq_true, if_false]
    | false =>
      rw [hd] at n
      have hl : l ≠ [] := by
        rcases h with h | h
        · rw [hd] at h; cases h
        · exact h
      have : 0 < l.length := List.length_pos_iff.mpr hl
      rw [decide_eq_false (by omega)] at e
      simp -implicitDefEqProofs only [B1, B2, A0, A1, mAnd, hs, okb, n, Bool.not_false, if_true, f1_1, ll, e, Bool.false_eq_true, if_false]
  unfold m_parse_paper_l1
  dsimp only
  rw [c, len_eq [("by" : Str), x] 3]
  rfl
theorem parse_first {w : List Str} {rest : List (List Str)} (hb : Bad w) (hl : (w :: rest).length ≤ 200) (hc : ∀ u ∈ w :: rest, Clean u) : m_parse_paper [.str (txtW (w :: rest))] = .error (ivp 1) := by
  have wd := txtW_words (L := w :: rest) (by simp) hl hc
  have x0 : (B2 D.ix (.ok (.lst ((w :: rest).map wrdD))) (.ok (.int 0)) : M D) = .ok (wrdD w) := (ix_nat (n := 0) rfl rfl : D.ix (.lst ((w :: rest).map wrdD)) (.int 0) = .ok (wrdD w))
  have ne : w ≠ [("none" : Str)] → (B2 D.ne (.ok (wrdD w)) (B1 D.mkLst (A1 (.ok (.str "none")) A0)) : M Bool) = .ok true := fun hne => by
    have mk : (B1 D.mkLst (A1 (.ok (.str "none")) A0) : M D) = .ok (wrdD [("none" : Str)]) := rfl
    have n := ((en_lst (n := 0) en_str).le (m := 15) (by omega)).ne w [("none" : Str)]
    rw [decide_eq_false hne] at n
    rw [mk]
    exact n
  have ex : (mExc1 "InvalidPaper" "line" (.ok (.int 1)) : M (Sl × D)) = .error (ivp 1) := excp 1
  rw [e_parse_paper]
  unfold g_parse_paper
  rw [wd, okb, okb, okb, x0]
  generalize (w :: rest).map wrdD = WL at *
  -- what is left tells the error of the first part
  have tail : ∀ {c : M Bool} {A : M (Sl × D)} {K : Sl × D → M D}, ((c = .ok false ∧ w ≠ [("none" : Str)]) ∨ (c = .ok true ∧ A = .error (ivp 1))) → ((mIf c A (mIf (B2 D.ne (.ok (wrdD w)) (B1 D.mkLst (A1 (.ok (.str "none")) A0))) (mExc1 "InvalidPaper" "line" (.ok (.int 1))) (.ok ((Sl.val .non), .non))) : M (Sl × D)) >>= K) = .error (ivp 1) := fun {c A K} h => by
    rcases h with ⟨rfl, h⟩ | ⟨rfl, rfl⟩
    · rw [ne h, ex]
      rfl
    · rfl
  refine tail ?_
  have na : ("none" : Str) ≠ "arrives" ∧ ("by" : Str) ≠ "arrives" ∧ ("low" : Str) ≠ "arrives" ∧ ("arrives" : Str) ≠ "none" ∧ ("by" : Str) ≠ "none" ∧ ("low" : Str) ≠ "none" := by decide +kernel
  have other : ∀ {h : Str} {r : List Str}, h ≠ "arrives" → h :: r ≠ [("none" : Str)] → w = h :: r → (mAnd (B2 D.eq (B1 (f1 D.len) (A1 (.ok (wrdD w)) A0)) (.ok (.int 2))) (B2 D.eq (B2 D.ix (.ok (wrdD w)) (.ok (.int 0))) (.ok (.str "arrives"))) : M Bool) = .ok false ∧ w ≠ [("none" : Str)] := fun {h r} n1 n2 e => by
    subst e
    refine ⟨?_, n2⟩
    rw [hd_eq, decide_eq_false n1, len_eq]
    exact and_bf
  cases hb with
  | hd a b c d => exact .inl (other b (fun e => a (List.cons.inj e).1) rfl)
  | none2 => exact .inl (other na.1 (fun e => by cases (List.cons.inj e).2) rfl)
  | arrL hr =>
    refine .inl ⟨?_, fun e => na.2.2.2.1 (List.cons.inj e).1⟩
    rw [len_eq, decide_eq_false (by rw [List.length_cons]; omega)]
    rfl
  | @arrN x hx =>
    refine .inr ⟨?_, ?_⟩
    · rw [len_eq, hd_eq, decide_eq_true rfl]
      rfl
    · have w1 := wr1 "arrives" x []
      have rn := hx 1
      generalize wrdD [("arrives" : Str), x] = W at *
      simp -implicitDefEqProofs only [B1, B2, A0, A1, okb, w1, rn, erp]
  | byL hr => exact .inl (other na.2.1 (fun e => na.2.2.2.2.1 (List.cons.inj e).1) rfl)
  | byN hx => exact .inl (other na.2.1 (fun e => na.2.2.2.2.1 (List.cons.inj e).1) rfl)
  | lowL hr => exact .inl (other na.2.2.1 (fun e => na.2.2.2.2.2 (List.cons.inj e).1) rfl)
  | lowN hx => exact .inl (other na.2.2.1 (fun e => na.2.2.2.2.2 (List.cons.inj e).1) rfl)
  | lowV _ hx => exact .inl (other na.2.2.1 (fun e => na.2.2.2.2.2 (List.cons.inj e).1) rfl)
def headS : Option Nat → List Str
  | none => ["none"]
  | some a => ["arrives", numT a]
def headSl : Option Nat → Sl
  | none => .val .non
  | some _ => .own []
theorem parse_later {q : Option Nat} (hq : ∀ a, q = some a → a ≤ 999999999) {pre post : List (List Str)} {w : List Str} {st : Sl × List D} (hl : (headS q :: (pre ++ w :: post)).length ≤ 200) (hc : ∀ u ∈ headS q :: (pre ++ w :: post), Clean u)
    (hloop : loopF (fun s => on2 (m_parse_paper_l1 s)) (enumL 2 (pre.map wrdD)) (headSl q, []) = .ok st) (ht : m_parse_paper_l1 st (.int (2 + (pre.length : Int))) (wrdD w) = .error (ivp (2 + (pre.length : Int)))) :
    m_parse_paper [.str (txtW (headS q :: (pre ++ w :: post)))] = .error (ivp (2 + (pre.length : Int))) := by
  have wd := txtW_words (L := headS q :: (pre ++ w :: post)) (by simp) hl hc
  have x0 : (B2 D.ix (.ok (.lst ((headS q :: (pre ++ w :: post)).map wrdD))) (.ok (.int 0)) : M D) = .ok (wrdD (headS q)) := (ix_nat (n := 0) rfl rfl : D.ix (.lst ((headS q :: (pre ++ w :: post)).map wrdD)) (.int 0) = .ok (wrdD (headS q)))
  have en : (B1 D.enum2 (A1 (S3 (.ok (.lst ((headS q :: (pre ++ w :: post)).map wrdD))) (B1 D.bnd (.ok (.int 1))) oN) (A1 (.ok (.int 2)) A0)) : M (List D)) = .ok (enumL 2 ((pre ++ w :: post).map wrdD)) := by
    have bn : D.bnd (.int 1) = .ok (some 1) := rfl
    have sl : D.sl (.lst ((headS q :: (pre ++ w :: post)).map wrdD)) (some 1) none = .ok (.lst ((pre ++ w :: post).map wrdD)) := by
      rw [sl_l, cut_drop _ (by omega)]
      rfl
    have e2 : D.enum2 [.lst ((pre ++ w :: post).map wrdD), .int 2] = .ok (enumL 2 ((pre ++ w :: post).map wrdD)) := rfl
    generalize (headS q :: (pre ++ w :: post)).map wrdD = WL at *
    simp -implicitDefEqProofs only [B1, A0, A1, S3, oN, okb, bn, sl, e2]
  have lo : loopF (fun s => on2 (m_parse_paper_l1 s)) (enumL 2 ((pre ++ w :: post).map wrdD)) (headSl q, []) = .error (ivp (2 + (pre.length : Int))) := by
    have t : on2 (m_parse_paper_l1 st) (.tup [.int (2 + ((pre.map wrdD).length : Int)), wrdD w]) = .error (ivp (2 + (pre.length : Int))) := by
      rw [List.length_map]
      exact ht
    rw [List.map_append, enumL_app, loopF_app, hloop, okb]
    show loopF _ (.tup [.int (2 + ((pre.map wrdD).length : Int)), wrdD w] :: enumL _ (post.map wrdD)) st = _
    rw [loopF_cons, t]
    rfl
  have z0 : (nLst A0 : M (List D)) = .ok [] := rfl
  rw [e_parse_paper]
  unfold g_parse_paper
  rw [wd, okb, okb, okb, x0, en]
  have fin : ∀ {A : M (Sl × D)} {a : D} {K : Sl × List D → D → M D}, A = .ok (headSl q, a) → (A >>= fun s => match s with | (roads_3, arrival_3) => ((nLst A0) >>= fun lows_1 => (((.ok (enumL 2 ((pre ++ w :: post).map wrdD)) : M (List D)) >>= fun ds => loopF (fun s => on2 (m_parse_paper_l1 s)) ds (roads_3, lows_1)) >>= fun s => K s arrival_3)) : M D) = .error (ivp (2 + (pre.length : Int))) := fun {A a K} h => by
    rw [h, okb]
    dsimp only
    rw [z0, okb, okb, lo]
    rfl
  cases q with
  | none =>
    have c1 : (mAnd (B2 D.eq (B1 (f1 D.len) (A1 (.ok (wrdD (headS none))) A0)) (.ok (.int 2))) (B2 D.eq (B2 D.ix (.ok (wrdD (headS none))) (.ok (.int 0))) (.ok (.str "arrives"))) : M Bool) = .ok false := by
      show (mAnd (B2 D.eq (B1 (f1 D.len) (A1 (.ok (wrdD [("none" : Str)])) A0)) (.ok (.int 2))) _ : M Bool) = _
      rw [len_eq]
      rfl
    have c2 : (B2 D.ne (.ok (wrdD (headS none))) (B1 D.mkLst (A1 (.ok (.str "none")) A0)) : M Bool) = .ok false := by
      have mk : (B1 D.mkLst (A1 (.ok (.str "none")) A0) : M D) = .ok (wrdD [("none" : Str)]) := rfl
      have n := ((en_lst (n := 0) en_str).le (m := 15) (by omega)).ne [("none" : Str)] [("none" : Str)]
      rw [decide_eq_true rfl] at n
      rw [mk]
      exact n
    rw [c1, c2]
    exact fin (a := .non) (K := fun s x => match s with | (roads_6, lows_4) => (mkIns "Paper" m_Paper_init (A1 (roads_6).rd (A1 (.ok x) (A1 (.ok (.lst lows_4)) A0))))) rfl
  | some a =>
    have c1 : (mAnd (B2 D.eq (B1 (f1 D.len) (A1 (.ok (wrdD (headS (some a)))) A0)) (.ok (.int 2))) (B2 D.eq (B2 D.ix (.ok (wrdD (headS (some a)))) (.ok (.int 0))) (.ok (.str "arrives"))) : M Bool) = .ok true := by
      show (mAnd (B2 D.eq (B1 (f1 D.len) (A1 (.ok (wrdD [("arrives" : Str), numT a])) A0)) (.ok (.int 2))) (B2 D.eq (B2 D.ix (.ok (wrdD [("arrives" : Str), numT a])) (.ok (.int 0))) (.ok (.str "arrives"))) : M Bool) = _
      rw [len_eq, hd_eq, decide_eq_true rfl]
      rfl
    have c2 : ((B1 m_read_number (A1 (B2 D.ix (.ok (wrdD (headS (some a)))) (.ok (.int 1))) (A1 (.ok (.int 1)) A0))) >>= fun arrival_2 => ((nLst A0) >>= fun roads_2 => (.ok ((Sl.own roads_2), arrival_2))) : M (Sl × D)) = .ok (Sl.own [], .int a) := by
      have w1 := wr1 "arrives" (numT a) []
      have rn := read_okT (hq a rfl) (.int 1)
      show ((B1 m_read_number (A1 (B2 D.ix (.ok (wrdD [("arrives" : Str), numT a])) (.ok (.int 1))) (A1 (.ok (.int 1)) A0))) >>= _ : M (Sl × D)) = _
      generalize wrdD [("arrives" : Str), numT a] = W at *
      rw [z0]
      simp -implicitDefEqProofs only [B1, B2, A0, A1, okb, w1, rn]
    rw [c1, c2]
    exact fin (a := .int a) (K := fun s x => match s with | (roads_6, lows_4) => (mkIns "Paper" m_Paper_init (A1 (roads_6).rd (A1 (.ok x) (A1 (.ok (.lst lows_4)) A0))))) rfl
end LawMath

set_option Elab.async false
set_option linter.all false
set_option maxRecDepth 100000
set_option maxHeartbeats 4000000
namespace LawMath
open PySem DL LawWalk L2
inductive Lin : List Str → Prop
  | none : Lin ["none"]
  | arr {a : Nat} : a ≤ 999999999 → Lin ["arrives", numT a]
  | byl {x : Str} : Nm x → Lin ["by", x]
  | low {x : Str} {a : Nat} : Nm x → a ≤ 999999999 → Lin ["low", x, numT a]
theorem tlL (w : List Str) : tl (lnT w) = TL.joinL [32] (w.map TL.tl) := by
  unfold lnT
  have := TL.tl_join " " w
  rw [show TL.tl " " = [32] from tl_sp] at this
  exact this
theorem tlA (a b : Str) : tl (a ++ b) = tl a ++ tl b := TL.tl_append a b
theorem extS {a b : Str} (h : tl a = tl b) : a = b := TL.ext_tl h
theorem tl_e : tl ("" : Str) = [] := by decide +kernel
theorem ln_nil (w : List Str) (h : w ≠ []) : lnT ("" :: w) = " " ++ lnT w := by
  refine extS ?_
  rw [tlA, tlL, tlL, tl_sp]
  cases w with
  | nil => exact absurd rfl h
  | cons x r =>
    show TL.tl "" ++ ([32] ++ TL.joinL [32] ((x :: r).map TL.tl)) = _
    rw [show TL.tl ("" : Str) = [] from tl_e]
    rfl
theorem ln_cons2 (a b : Str) (r : List Str) : lnT (a :: b :: r) = a ++ " " ++ lnT (b :: r) := by
  refine extS ?_
  rw [tlA, tlA, tlL, tlL, tl_sp, List.append_assoc]
  rfl
theorem joinL_snocT (S x : List Nat) : ∀ (l : List (List Nat)), l ≠ [] → TL.joinL S (l ++ [x]) = TL.joinL S l ++ (S ++ x)
  | [], h => absurd rfl h
  | [p], _ => rfl
  | p :: q :: l, _ => by
    show p ++ (S ++ TL.joinL S ((q :: l) ++ [x])) = (p ++ (S ++ TL.joinL S (q :: l))) ++ (S ++ x)
    rw [joinL_snocT S x (q :: l) (by simp)]
    simp [List.append_assoc]
theorem ln_snocT {w : List Str} (h : w ≠ []) (x : Str) : lnT (w ++ [x]) = lnT w ++ " " ++ x := by
  refine extS ?_
  rw [tlA, tlA, tlL, tlL, tl_sp, List.map_append]
  show TL.joinL [32] (w.map TL.tl ++ [TL.tl x]) = _
  rw [joinL_snocT _ _ _ (by simpa using h), List.append_assoc]
theorem rep1_one {a t : Str} (ha : 32 ∉ tl a) : rep1 (a ++ " " ++ t) " " "  " = a ++ "  " ++ t := by
  have sp : (" " : Str) = ⟨#[32]⟩ := by decide +kernel
  have xt : tl (a ++ " " ++ t) = tl a ++ (32 :: tl t) := by
    rw [tlA, tlA, tl_sp, List.append_assoc]
    rfl
  generalize hx : a ++ " " ++ t = x at xt
  have at_ : ∀ i, StrLaws.At x " " x.length i ↔ (tl x)[i]? = some 32 := fun i => by
    rw [sp]
    exact StrLaws.subAt_one x 32 i
  have hl := cuts1_le x " "
  rcases StrLaws.occ_head x " " 1 (by omega) with ⟨_, hn⟩ | ⟨i, r, e, hi, hk⟩
  · exfalso
    refine hn (tl a).length ((at_ _).mpr ?_)
    rw [xt, List.getElem?_append_right (Nat.le_refl _), Nat.sub_self]
    rfl
  · have e' : cuts1 x " " = i :: r := e
    have hr : r = [] := by
      rw [e', List.length_cons] at hl
      exact List.eq_nil_of_length_eq_zero (by omega)
    subst hr
    have ii : i = (tl a).length := by
      have h1 := (at_ i).mp hi
      rw [xt] at h1
      rcases Nat.lt_trichotomy i (tl a).length with h | h | h
      · rw [List.getElem?_append_left h] at h1
        exact absurd (List.mem_of_getElem? h1) ha
      · exact h
      · exact absurd ((at_ _).mpr (by rw [xt, List.getElem?_append_right (Nat.le_refl _), Nat.sub_self]; rfl)) (hk _ h)
    have w1 : (" " : Str).length = 1 := by decide +kernel
    have c : ((cuts1 x " ").isEmpty || ((" " : Str).length == 0 && ("  " : Str).length == 0)) = false := by
      rw [e', w1]
      rfl
    unfold rep1
    rw [c, if_neg Bool.false_ne_true, e', StrLaws.glued_eq_join, w1]
    have pb : Builtin.Str.partsBetween x [i] 1 = [Builtin.Str.strSub x 0 i, Builtin.Str.strSub x (i + 1) x.length] := rfl
    rw [pb]
    have s1 : tl (Builtin.Str.strSub x 0 i) = tl a := by
      show (Builtin.Str.strSub x 0 i).cps.toList = _
      rw [StrLaws.strSub_toList]
      show ((tl x).drop 0).take (i - 0) = _
      rw [xt, List.drop_zero, Nat.sub_zero, ii, List.take_left]
    have s2 : tl (Builtin.Str.strSub x (i + 1) x.length) = tl t := by
      show (Builtin.Str.strSub x (i + 1) x.length).cps.toList = _
      rw [StrLaws.strSub_toList]
      show ((tl x).drop (i + 1)).take (x.length - (i + 1)) = _
      have lx : x.length = (tl a).length + 1 + (tl t).length := by
        rw [TL.len_tl]
        show (tl x).length = _
        rw [xt, List.length_append, List.length_cons]
        omega
      rw [xt, lx, ii, List.drop_append, List.drop_eq_nil_of_le (by omega), List.nil_append, show (tl a).length + 1 - (tl a).length = 1 by omega]
      show (tl t).take _ = _
      rw [List.take_of_length_le (by omega)]
    refine extS ?_
    have j := TL.tl_join "  " [Builtin.Str.strSub x 0 i, Builtin.Str.strSub x (i + 1) x.length]
    show TL.tl (Str.join "  " _) = _
    rw [j, tlA, tlA]
    show TL.tl _ ++ (TL.tl "  " ++ TL.tl _) = _
    rw [show TL.tl (Builtin.Str.strSub x 0 i) = tl a from s1, show TL.tl (Builtin.Str.strSub x (i + 1) x.length) = tl t from s2, List.append_assoc]
theorem addT {a b : Str} (h : a.length + b.length ≤ 16777216) : D.add (.str a) (.str b) = .ok (.str (a ++ b)) := by
  rw [add_ss, need_p (by rw [PySem.sizeLine_eq]; exact h), okb]
def Wrd (x : Str) : Prop := (32 ∉ tl x ∧ 10 ∉ tl x) ∧ x.length ≤ 20
theorem wrd_num {a : Nat} (h : a ≤ 999999999) : Wrd (numT a) := ⟨num_no a, by have := num_len h; omega⟩
theorem wrd_nm {x : Str} (h : Nm x) : Wrd x := ⟨al_str (nm_alT h), by have := (nm_lenT h).2; omega⟩
theorem clean_of {w : List Str} (h0 : w ≠ []) (hl : w.length ≤ 6) (h : ∀ x ∈ w, Wrd x) : Clean w := ⟨h0, fun x hx => (h x hx).1, fun x hx => (h x hx).2, hl⟩
theorem Lin.clean {w : List Str} (h : Lin w) : (∀ x ∈ w, Wrd x) ∧ w ≠ [] ∧ w.length ≤ 3 := by
  have c1 : Wrd "none" := by refine ⟨w_none, ?_⟩; decide +kernel
  have c2 : Wrd "arrives" := by refine ⟨w_arr, ?_⟩; decide +kernel
  have c3 : Wrd "by" := by refine ⟨w_by, ?_⟩; decide +kernel
  have c4 : Wrd "low" := by refine ⟨w_low, ?_⟩; decide +kernel
  cases h with
  | none => exact ⟨fun x hx => by rw [List.mem_singleton.mp hx]; exact c1, by simp, by simp⟩
  | arr ha => exact ⟨fun x hx => by
      simp only [List.mem_cons, List.not_mem_nil, or_false] at hx
      rcases hx with rfl | rfl
      · exact c2
      · exact wrd_num ha, by simp, by simp⟩
  | byl hx => exact ⟨fun y hy => by
      simp only [List.mem_cons, List.not_mem_nil, or_false] at hy
      rcases hy with rfl | rfl
      · exact c3
      · exact wrd_nm hx, by simp, by simp⟩
  | low hx ha => exact ⟨fun y hy => by
      simp only [List.mem_cons, List.not_mem_nil, or_false] at hy
      rcases hy with rfl | rfl | rfl
      · exact c4
      · exact wrd_nm hx
      · exact wrd_num ha, by simp, by simp⟩
theorem nonum_all : ∀ x ∈ [("" : Str), "00", "-1", "1000000000", "a", "1.", "07", "+1"], NoNum x := by
  intro x hx
  simp only [List.mem_cons, List.not_mem_nil, or_false] at hx
  rcases hx with rfl | rfl | rfl | rfl | rfl | rfl | rfl | rfl <;> intro k <;> rw [e_read_number] <;> rfl
end LawMath

set_option Elab.async false
set_option linter.all false
set_option maxRecDepth 100000
set_option maxHeartbeats 4000000
namespace LawMath
open PySem DL LawWalk L2
theorem hd_tail (r : List Str) : ∃ rest : List Nat, ∀ b : Str, tl (lnT (b :: r)) = tl b ++ rest := by
  cases r with
  | nil => exact ⟨[], fun b => by rw [tlL, List.append_nil]; rfl⟩
  | cons x r => exact ⟨[32] ++ TL.joinL [32] ((x :: r).map TL.tl), fun b => by rw [tlL]; rfl⟩
theorem wrd_lit {x : Str} (h : (decide (32 ∉ tl x) && (decide (10 ∉ tl x) && decide (x.length ≤ 20))) = true) : Wrd x := by
  simp only [Bool.and_eq_true, decide_eq_true_eq] at h
  exact ⟨⟨h.1, h.2.1⟩, h.2.2⟩
theorem bad_e (r : List Str) : Bad ("" :: r) := .hd (by decide +kernel) (by decide +kernel) (by decide +kernel) (by decide +kernel)
theorem bad2 {a b : Str} {r : List Str} (h : Lin (a :: b :: r)) : Bad (a :: "" :: b :: r) := by
  cases h with
  | arr _ => exact .arrL (by show 2 ≠ 1; omega)
  | byl _ => exact .byL (by show 2 ≠ 1; omega)
  | low _ _ => exact .lowL (by show 3 ≠ 2; omega)
theorem bad3 {w : List Str} (h : Lin w) (x : Str) : Bad (w ++ [x]) := by
  cases h with
  | none => exact .none2
  | arr _ => exact .arrL (by show 2 ≠ 1; omega)
  | byl _ => exact .byL (by show 2 ≠ 1; omega)
  | low _ _ => exact .lowL (by show 3 ≠ 2; omega)
theorem bad4 {w : List Str} (h : Lin w) (hl : 1 < w.length) : Bad (w.take (w.length - 1)) := by
  cases h with
  | none => exact absurd hl (by decide)
  | arr _ => exact .arrL (r := []) (by show 0 ≠ 1; omega)
  | byl _ => exact .byL (r := []) (by show 0 ≠ 1; omega)
  | @low x a _ _ => exact .lowL (r := [x]) (by show 1 ≠ 2; omega)
theorem bad7 {a : Str} {r : List Str} (h : Lin (a :: r)) (ha : a ∈ [("by" : Str), "low"]) {x : Str} (hx : isNm (tl x) = false) : Bad (a :: x :: r.drop 1) := by
  cases h with
  | none => exact absurd ha (by decide +kernel)
  | arr _ => exact absurd ha (by decide +kernel)
  | byl _ => exact .byN hx
  | low _ _ => exact .lowN hx
theorem bad8 {w : List Str} (h : Lin w) (ha : w.headD "" ∈ [("arrives" : Str), "low"]) {x : Str} (hx : NoNum x) : Bad (w.take (w.length - 1) ++ [x]) := by
  cases h with
  | none => exact absurd ha (by show ("none" : Str) ∉ _; decide +kernel)
  | arr _ => exact .arrN hx
  | byl _ => exact absurd ha (by show ("by" : Str) ∉ _; decide +kernel)
  | low hn _ => exact .lowV hn hx
theorem bad9 {a : Str} {r : List Str} (h : Lin (a :: r)) : Bad ((a ++ "s") :: r) ∧ Wrd (a ++ "s") := by
  cases h with
  | none => exact ⟨.hd (by decide +kernel) (by decide +kernel) (by decide +kernel) (by decide +kernel), wrd_lit (by decide +kernel)⟩
  | arr _ => exact ⟨.hd (by decide +kernel) (by decide +kernel) (by decide +kernel) (by decide +kernel), wrd_lit (by decide +kernel)⟩
  | byl _ => exact ⟨.hd (by decide +kernel) (by decide +kernel) (by decide +kernel) (by decide +kernel), wrd_lit (by decide +kernel)⟩
  | low _ _ => exact ⟨.hd (by decide +kernel) (by decide +kernel) (by decide +kernel) (by decide +kernel), wrd_lit (by decide +kernel)⟩
theorem bad5 {a : Str} {r : List Str} (h : Lin (a :: r)) : ∃ (c : Nat) (cs : List Nat), tl a = c :: cs ∧ c < 128 ∧ Bad (mk (PyProof.Rows.up1 c :: cs) :: r) ∧ Wrd (mk (PyProof.Rows.up1 c :: cs)) := by
  cases h with
  | none => exact ⟨110, [111, 110, 101], by decide +kernel, by decide, .hd (by decide +kernel) (by decide +kernel) (by decide +kernel) (by decide +kernel), wrd_lit (by decide +kernel)⟩
  | arr _ => exact ⟨97, [114, 114, 105, 118, 101, 115], by decide +kernel, by decide, .hd (by decide +kernel) (by decide +kernel) (by decide +kernel) (by decide +kernel), wrd_lit (by decide +kernel)⟩
  | byl _ => exact ⟨98, [121], by decide +kernel, by decide, .hd (by decide +kernel) (by decide +kernel) (by decide +kernel) (by decide +kernel), wrd_lit (by decide +kernel)⟩
  | low _ _ => exact ⟨108, [111, 119], by decide +kernel, by decide, .hd (by decide +kernel) (by decide +kernel) (by decide +kernel) (by decide +kernel), wrd_lit (by decide +kernel)⟩
theorem ix6 {n : Int} : ∃ y : Str, D.ix (.lst [.str "", .str "0a", .str "A", .str "abcdefghijklm", .str "a_b", .str "-"]) (.int (n % 6)) = .ok (.str y) ∧ isNm (tl y) = false ∧ Wrd y := by
  have j : n % 6 = 0 ∨ n % 6 = 1 ∨ n % 6 = 2 ∨ n % 6 = 3 ∨ n % 6 = 4 ∨ n % 6 = 5 := by omega
  rcases j with j | j | j | j | j | j <;> rw [j]
  · exact ⟨"", ix_nat (n := 0) rfl rfl, by decide +kernel, wrd_lit (by decide +kernel)⟩
  · exact ⟨"0a", ix_nat (n := 1) rfl rfl, by decide +kernel, wrd_lit (by decide +kernel)⟩
  · exact ⟨"A", ix_nat (n := 2) rfl rfl, by decide +kernel, wrd_lit (by decide +kernel)⟩
  · exact ⟨"abcdefghijklm", ix_nat (n := 3) rfl rfl, by decide +kernel, wrd_lit (by decide +kernel)⟩
  · exact ⟨"a_b", ix_nat (n := 4) rfl rfl, by decide +kernel, wrd_lit (by decide +kernel)⟩
  · exact ⟨"-", ix_nat (n := 5) rfl rfl, by decide +kernel, wrd_lit (by decide +kernel)⟩
theorem ix8 {n : Int} : ∃ y : Str, D.ix (.lst [.str "", .str "00", .str "-1", .str "1000000000", .str "a", .str "1.", .str "07", .str "+1"]) (.int (n % 8)) = .ok (.str y) ∧ NoNum y ∧ Wrd y := by
  have N := nonum_all
  have j : n % 8 = 0 ∨ n % 8 = 1 ∨ n % 8 = 2 ∨ n % 8 = 3 ∨ n % 8 = 4 ∨ n % 8 = 5 ∨ n % 8 = 6 ∨ n % 8 = 7 := by omega
  rcases j with j | j | j | j | j | j | j | j <;> rw [j]
  · exact ⟨"", ix_nat (n := 0) rfl rfl, N _ (by simp), wrd_lit (by decide +kernel)⟩
  · exact ⟨"00", ix_nat (n := 1) rfl rfl, N _ (by simp), wrd_lit (by decide +kernel)⟩
  · exact ⟨"-1", ix_nat (n := 2) rfl rfl, N _ (by simp), wrd_lit (by decide +kernel)⟩
  · exact ⟨"1000000000", ix_nat (n := 3) rfl rfl, N _ (by simp), wrd_lit (by decide +kernel)⟩
  · exact ⟨"a", ix_nat (n := 4) rfl rfl, N _ (by simp), wrd_lit (by decide +kernel)⟩
  · exact ⟨"1.", ix_nat (n := 5) rfl rfl, N _ (by simp), wrd_lit (by decide +kernel)⟩
  · exact ⟨"07", ix_nat (n := 6) rfl rfl, N _ (by simp), wrd_lit (by decide +kernel)⟩
  · exact ⟨"+1", ix_nat (n := 7) rfl rfl, N _ (by simp), wrd_lit (by decide +kernel)⟩
theorem mf {α : Type} {x y : M α} : (mIf (.ok false) x y : M α) = y := rfl
theorem mt {α : Type} {x y : M α} : (mIf (.ok true) x y : M α) = x := rfl
theorem joinW {w : List Str} (h : Clean w) : (meth D.isStr (.ok (.str " ")) (A1 (.ok (wrdD w)) A0) (m1 D.join) : M D) = .ok (.str (lnT w)) := by
  have j : D.join (.str " ") (.lst (w.map D.str)) = .ok (.str (lnT w)) := by
    refine join_ok ?_
    have h1 : (w.map (·.length)).sum ≤ w.length * 20 := by
      refine Nat.le_trans (sum_leT (k := 20) fun x hx => ?_) (by rw [List.length_map]; omega)
      obtain ⟨z, hz, rfl⟩ := List.mem_map.mp hx
      exact h.2.2.1 z hz
    have := h.2.2.2
    rw [len_sp]
    omega
  exact j
theorem broken_ok {w : List Str} (h : Lin w) (c n : Int) : ∃ w', m_law_broken [.str (lnT w), .int c, .int n] = .ok (.str (lnT w')) ∧ Clean w' ∧ Bad w' := by
  obtain ⟨hw, h0, h3⟩ := h.clean
  have cw : Clean w := clean_of h0 (by omega) hw
  have ll := cw.len
  have e0 : (meth D.isStr (.ok (.str (lnT w))) (.ok [.str " "]) (m1 D.split) : M D) = .ok (wrdD w) := by
    rw [meth_s, m1_1, split_ok (by rw [len_sp]; omega) (by omega), line_split h0 fun x hx => (hw x hx).1]
    rfl
  obtain ⟨nb, enb, nnb, wnb⟩ := ix6 (n := n)
  obtain ⟨bd, ebd, nbd, wbd⟩ := ix8 (n := n)
  have m6 : D.mod (.int n) (.int 6) = .ok (.int (n % 6)) := mod_ok (by omega)
  have m8 : D.mod (.int n) (.int 8) = .ok (.int (n % 8)) := mod_ok (by omega)
  have e1 : (B2 D.ix (B1 D.mkLst (A1 (.ok (.str "")) (A1 (.ok (.str "0a")) (A1 (.ok (.str "A")) (A1 (.ok (.str "abcdefghijklm")) (A1 (.ok (.str "a_b")) (A1 (.ok (.str "-")) A0))))))) (B2 D.mod (.ok (.int n)) (.ok (.int 6))) : M D) = .ok (.str nb) := by
    have mk : (B1 D.mkLst (A1 (.ok (.str "")) (A1 (.ok (.str "0a")) (A1 (.ok (.str "A")) (A1 (.ok (.str "abcdefghijklm")) (A1 (.ok (.str "a_b")) (A1 (.ok (.str "-")) A0)))))) : M D) = .ok (.lst [.str "", .str "0a", .str "A", .str "abcdefghijklm", .str "a_b", .str "-"]) := rfl
    rw [mk]
    simp -implicitDefEqProofs only [B2, okb, m6, enb]
  have e2 : (B2 D.ix (B1 D.mkLst (A1 (.ok (.str "")) (A1 (.ok (.str "00")) (A1 (.ok (.str "-1")) (A1 (.ok (.str "1000000000")) (A1 (.ok (.str "a")) (A1 (.ok (.str "1.")) (A1 (.ok (.str "07")) (A1 (.ok (.str "+1")) A0))))))))) (B2 D.mod (.ok (.int n)) (.ok (.int 8))) : M D) = .ok (.str bd) := by
    have mk : (B1 D.mkLst (A1 (.ok (.str "")) (A1 (.ok (.str "00")) (A1 (.ok (.str "-1")) (A1 (.ok (.str "1000000000")) (A1 (.ok (.str "a")) (A1 (.ok (.str "1.")) (A1 (.ok (.str "07")) (A1 (.ok (.str "+1")) A0)))))))) : M D) = .ok (.lst [.str "", .str "00", .str "-1", .str "1000000000", .str "a", .str "1.", .str "07", .str "+1"]) := rfl
    rw [mk]
    simp -implicitDefEqProofs only [B2, okb, m8, ebd]
  have Q : ∀ b : Int, (B2 D.eq (.ok (.int c)) (.ok (.int b)) : M Bool) = .ok (decide (c = b)) := fun b => eq_ii
  have G : (B2 D.gt (B1 (f1 D.len) (A1 (.ok (wrdD w)) A0)) (.ok (.int 1)) : M Bool) = .ok (decide (1 < w.length)) := by
    have l := wrl w
    have g : D.gt (.int (w.length : Nat)) (.int 1) = .ok (decide (1 < w.length)) := by
      rw [gt_ii]
      congr 1
      exact decide_eq_decide.mpr (by omega)
    simp -implicitDefEqProofs only [B1, B2, A0, A1, okb, f1_1, l, g]
  have AN : ∀ (p q : Prop) [Decidable p] [Decidable q], (mAnd (.ok (decide p)) (.ok (decide q)) : M Bool) = .ok (decide (p ∧ q)) := fun p q _ _ => by
    by_cases hp : p
    · by_cases hq : q <;> simp [mAnd, hp, hq]
    · simp [mAnd, hp]
  have SB : (B1 D.bnd (B2 D.sub (B1 (f1 D.len) (A1 (.ok (wrdD w)) A0)) (.ok (.int 1))) : M (Option Int)) = .ok (some ((w.length : Int) - 1)) := by
    have l := wrl w
    have s : D.sub (.int (w.length : Nat)) (.int 1) = .ok (.int ((w.length : Int) - 1)) := rfl
    have b : D.bnd (.int ((w.length : Int) - 1)) = .ok (some ((w.length : Int) - 1)) := rfl
    simp -implicitDefEqProofs only [B1, B2, A0, A1, okb, f1_1, l, s, b]
  have lpos : 0 < w.length := List.length_pos_iff.mpr h0
  have TK : (S3 (.ok (wrdD w)) oN (.ok (some ((w.length : Int) - 1))) : M D) = .ok (wrdD (w.take (w.length - 1))) := by
    have : D.sl (wrdD w) none (some ((w.length : Int) - 1)) = .ok (wrdD (w.take (w.length - 1))) := by
      unfold wrdD
      rw [sl_l, cut_take _ (by omega), ← List.map_take, show ((w.length : Int) - 1).toNat = w.length - 1 by omega]
    exact this
  obtain ⟨a, r, rfl⟩ : ∃ a r, w = a :: r := by
    cases w with
    | nil => exact absurd rfl h0
    | cons a r => exact ⟨a, r, rfl⟩
  have wa := hw a (List.mem_cons_self ..)
  have H0 : (B2 D.ix (.ok (wrdD (a :: r))) (.ok (.int 0)) : M D) = .ok (.str a) := wr0 a r
  have MB : (B2 D.mem (.ok (.str a)) (B1 D.mkLst (A1 (.ok (.str "by")) (A1 (.ok (.str "low")) A0))) : M Bool) = .ok (decide (a ∈ [("by" : Str), "low"])) := e_s.mem a [("by" : Str), "low"]
  have MC : (B2 D.mem (.ok (.str a)) (B1 D.mkLst (A1 (.ok (.str "arrives")) (A1 (.ok (.str "low")) A0))) : M Bool) = .ok (decide (a ∈ [("arrives" : Str), "low"])) := e_s.mem a [("arrives" : Str), "low"]
  obtain ⟨rest, hrest⟩ := hd_tail r
  rw [e_law_broken]
  unfold g_law_broken
  rw [e0, okb, e1, okb, e2, okb, Q 1]
  by_cases c1 : c = 1
  · rw [decide_eq_true c1, mt]
    refine ⟨("" : Str) :: a :: r, ?_, clean_of (by simp) (by rw [List.length_cons]; omega) (fun x hx => ?_), bad_e _⟩
    · rw [ln_nil _ h0]
      exact addT (by rw [len_sp]; omega)
    · rcases List.mem_cons.mp hx with rfl | hx
      · exact wrd_lit (by decide +kernel)
      · exact hw x hx
  rw [decide_eq_false c1, mf, Q 2, G, AN]
  by_cases c2 : c = 2 ∧ 1 < (a :: r).length
  · rw [decide_eq_true c2, mt, okb]
    cases r with
    | nil => exact absurd c2.2 (by simp)
    | cons b r =>
      refine ⟨a :: ("" : Str) :: b :: r, ?_, clean_of (by simp) (by simp only [List.length_cons] at h3 ⊢; omega) (fun x hx => ?_), bad2 h⟩
      · have e : lnT (a :: "" :: b :: r) = a ++ "  " ++ lnT (b :: r) := by
          rw [ln_cons2, ln_nil _ (by simp)]
          refine extS ?_
          simp only [tlA, List.append_assoc]
          rfl
        have e2 : lnT (a :: b :: r) = a ++ " " ++ lnT (b :: r) := ln_cons2 a b r
        rw [e]
        have l2 : ("  " : Str).length = 2 := by decide +kernel
        show (need (decide ((lnT (a :: b :: r)).length + ("  " : Str).length ≤ 16777216)) >>= fun _ => (.ok (.str (rep1 (lnT (a :: b :: r)) " " "  ")) : M D)) = _
        rw [need_p (by rw [l2]; omega), okb, e2, rep1_one wa.1.1]
      · simp only [List.mem_cons] at hx
        rcases hx with rfl | rfl | hx
        · exact wa
        · exact wrd_lit (by decide +kernel)
        · exact hw x (List.mem_cons_of_mem _ (by simpa using hx))
  rw [decide_eq_false c2, mf, Q 3]
  by_cases c3 : c = 3
  · rw [decide_eq_true c3, mt]
    refine ⟨(a :: r) ++ [("1" : Str)], ?_, clean_of (by simp) (by rw [List.length_append, List.length_singleton]; omega) (fun x hx => ?_), bad3 h _⟩
    · have e : (" 1" : Str) = " " ++ "1" := by decide +kernel
      have l2 : (" 1" : Str).length = 2 := by decide +kernel
      have s : ∀ x y z : Str, x ++ y ++ z = x ++ (y ++ z) := fun x y z => extS (by simp only [tlA, List.append_assoc])
      rw [ln_snocT h0, s, ← e]
      exact addT (by rw [l2]; omega)
    · rcases List.mem_append.mp hx with hx | hx
      · exact hw x hx
      · rw [List.mem_singleton.mp hx]
        exact wrd_lit (by decide +kernel)
  rw [decide_eq_false c3, mf, Q 4, AN]
  by_cases c4 : c = 4 ∧ 1 < (a :: r).length
  · rw [decide_eq_true c4, mt, SB, TK]
    have cl : Clean ((a :: r).take ((a :: r).length - 1)) := clean_of (fun e => by
      have := congrArg List.length e
      rw [List.length_take, List.length_nil] at this
      have := c4.2
      omega) (by rw [List.length_take]; omega) fun x hx => hw x (List.mem_of_mem_take hx)
    exact ⟨_, joinW cl, cl, bad4 h c4.2⟩
  rw [decide_eq_false c4, mf, Q 5]
  by_cases c5 : c = 5
  · rw [decide_eq_true c5, mt]
    obtain ⟨k, ks, ea, k128, hb, hwd⟩ := bad5 h
    refine ⟨_, ?_, clean_of (by simp) (by rw [List.length_cons] at h3 ⊢; omega) (fun x hx => ?_), hb⟩
    · have t1 : tl (lnT (a :: r)) = k :: (ks ++ rest) := by rw [hrest, ea]; rfl
      have t2 : lnT (mk (PyProof.Rows.up1 k :: ks) :: r) = mk (PyProof.Rows.up1 k :: (ks ++ rest)) := extS (by rw [hrest, tl_mk, tl_mk]; rfl)
      have lm : lnT (a :: r) = mk (k :: (ks ++ rest)) := extS (by rw [t1, tl_mk])
      have bn : D.bnd (.int 1) = .ok (some 1) := rfl
      have lw : (mk (k :: (ks ++ rest))).length ≤ 200 := by rw [← lm]; exact ll
      have s1 : D.sl (.str (mk (k :: (ks ++ rest)))) none (some 1) = .ok (.str (mk [k])) := by
        rw [sl_s, need_p (by rw [PySem.sizeLine_eq]; omega), okb, cutS_mk, cut_take _ (by omega)]
        rfl
      have s2 : D.sl (.str (mk (k :: (ks ++ rest)))) (some 1) none = .ok (.str (mk (ks ++ rest))) := by
        rw [sl_s, need_p (by rw [PySem.sizeLine_eq]; omega), okb, cutS_mk, cut_drop _ (by omega)]
        rfl
      have up : D.upper (.str (mk [k])) = .ok (.str (mk [PyProof.Rows.up1 k])) := by
        have c : ((mk [k]).cps.toList.all (· < 128) && decide ((mk [k]).length ≤ 5592405)) = true := by
          have e1 : (mk [k]).cps.toList = [k] := tl_mk [k]
          rw [e1, len_mk]
          simp [k128]
        show (need ((mk [k]).cps.toList.all (· < 128) && decide ((mk [k]).length ≤ 5592405)) >>= fun _ => (.ok (.str ⟨(mk [k]).cps.map PyProof.Rows.up1⟩) : M D)) = _
        have nt : need true = .ok () := rfl
        rw [c, nt, okb]
        congr 2
        refine extS ?_
        rw [tl_mk]
        show ((mk [k]).cps.map PyProof.Rows.up1).toList = _
        rw [Array.toList_map]
        have e1 : (mk [k]).cps.toList = [k] := tl_mk [k]
        rw [e1]
        rfl
      have ad : D.add (.str (mk [PyProof.Rows.up1 k])) (.str (mk (ks ++ rest))) = .ok (.str (mk (PyProof.Rows.up1 k :: (ks ++ rest)))) := by
        rw [len_mk, List.length_cons] at lw
        rw [addT (by rw [len_mk, len_mk, List.length_singleton]; omega)]
        congr 2
        exact extS (by rw [tlA, tl_mk, tl_mk, tl_mk]; rfl)
      rw [lm, t2]
      generalize mk (k :: (ks ++ rest)) = LN at *
      simp -implicitDefEqProofs only [B1, B2, S3, oN, okb, bn, s1, s2, up, ad]
    · rcases List.mem_cons.mp hx with rfl | hx
      · exact hwd
      · exact hw x (List.mem_cons_of_mem _ hx)
  rw [decide_eq_false c5, mf, Q 6]
  by_cases c6 : c = 6
  · rw [decide_eq_true c6, mt]
    exact ⟨[("" : Str)], rfl, clean_of (by simp) (by show 1 ≤ 6; omega) (fun x hx => by rw [List.mem_singleton.mp hx]; exact wrd_lit (by decide +kernel)), bad_e _⟩
  rw [decide_eq_false c6, mf, Q 7, H0, MB, AN]
  by_cases c7 : c = 7 ∧ a ∈ [("by" : Str), "low"]
  · rw [decide_eq_true c7, mt]
    have cl : Clean (a :: nb :: r.drop 1) := clean_of (by simp) (by rw [List.length_cons, List.length_cons, List.length_drop]; rw [List.length_cons] at h3; omega) fun x hx => by
      simp only [List.mem_cons] at hx
      rcases hx with rfl | rfl | hx
      · exact wa
      · exact wnb
      · exact hw x (List.mem_cons_of_mem _ (List.mem_of_mem_drop hx))
    refine ⟨_, ?_, cl, bad7 h c7.2 nnb⟩
    have bn : D.bnd (.int 2) = .ok (some 2) := rfl
    have sl : D.sl (wrdD (a :: r)) (some 2) none = .ok (wrdD (r.drop 1)) := by
      unfold wrdD
      rw [sl_l, cut_drop _ (by omega), ← List.map_drop]
      rfl
    have mk2 : D.mkLst [.str a, .str nb] = .ok (.lst [.str a, .str nb]) := rfl
    have ad : D.add (.lst [.str a, .str nb]) (wrdD (r.drop 1)) = .ok (wrdD (a :: nb :: r.drop 1)) := by
      unfold wrdD
      rw [add_ll, need_p (by rw [PySem.sizeLine_eq, List.length_map, List.length_drop]; rw [List.length_cons] at h3; show 2 + _ ≤ _; omega), okb]
      rfl
    have e : (B2 D.add (B1 D.mkLst (A1 (.ok (.str a)) (A1 (.ok (.str nb)) A0))) (S3 (.ok (wrdD (a :: r))) (B1 D.bnd (.ok (.int 2))) oN) : M D) = .ok (wrdD (a :: nb :: r.drop 1)) := by
      generalize wrdD (a :: r) = W at *
      simp -implicitDefEqProofs only [B1, B2, A0, A1, S3, oN, okb, bn, sl, mk2, ad]
    rw [e]
    exact joinW cl
  rw [decide_eq_false c7, mf, Q 8, MC, AN]
  by_cases c8 : c = 8 ∧ a ∈ [("arrives" : Str), "low"]
  · rw [decide_eq_true c8, mt, SB, TK]
    have cl : Clean ((a :: r).take ((a :: r).length - 1) ++ [bd]) := clean_of (by simp) (by rw [List.length_append, List.length_take, List.length_singleton]; omega) fun x hx => by
      rcases List.mem_append.mp hx with hx | hx
      · exact hw x (List.mem_of_mem_take hx)
      · rw [List.mem_singleton.mp hx]
        exact wbd
    refine ⟨_, ?_, cl, bad8 h c8.2 nbd⟩
    have e : (B2 D.add (.ok (wrdD ((a :: r).take ((a :: r).length - 1)))) (B1 D.mkLst (A1 (.ok (.str bd)) A0)) : M D) = .ok (wrdD ((a :: r).take ((a :: r).length - 1) ++ [bd])) := by
      have mk1 : (B1 D.mkLst (A1 (.ok (.str bd)) A0) : M D) = .ok (.lst [.str bd]) := rfl
      have ad : D.add (wrdD ((a :: r).take ((a :: r).length - 1))) (.lst [.str bd]) = .ok (wrdD ((a :: r).take ((a :: r).length - 1) ++ [bd])) := by
        unfold wrdD
        rw [add_ll, need_p (by rw [PySem.sizeLine_eq, List.length_map, List.length_take, List.length_singleton]; omega), okb, List.map_append]
        rfl
      rw [mk1]
      exact ad
    rw [e]
    exact joinW cl
  rw [decide_eq_false c8, mf, Q 9]
  by_cases c9 : c = 9
  · rw [decide_eq_true c9, mt]
    obtain ⟨hb, hwd⟩ := bad9 h
    refine ⟨_, ?_, clean_of (by simp) (by rw [List.length_cons] at h3 ⊢; omega) (fun x hx => ?_), hb⟩
    · have t1 : lnT (a :: r) = mk (tl a ++ rest) := extS (by rw [hrest, tl_mk])
      have t2 : lnT ((a ++ "s") :: r) = a ++ "s" ++ mk rest := extS (by rw [hrest, tlA, tlA, tlA, tl_mk])
      have lw : (mk (tl a ++ rest)).length ≤ 200 := by rw [← t1]; exact ll
      have la := wa.2
      have ls : ("s" : Str).length = 1 := by decide +kernel
      have ea : a.length = (tl a).length := TL.len_tl a
      have lr : rest.length ≤ 200 := by rw [len_mk, List.length_append] at lw; omega
      have ln : D.len (.str a) = .ok (.int (a.length : Nat)) := by
        rw [len_s, need_p (by rw [PySem.sizeLine_eq]; omega), okb]
      have bn : D.bnd (.int (a.length : Nat)) = .ok (some (a.length : Nat)) := rfl
      have s2 : D.sl (.str (mk (tl a ++ rest))) (some (a.length : Nat)) none = .ok (.str (mk rest)) := by
        rw [sl_s, need_p (by rw [PySem.sizeLine_eq]; omega), okb, cutS_mk, cut_drop _ (by omega), Int.toNat_natCast, ea, List.drop_left]
      have a1 : D.add (.str a) (.str "s") = .ok (.str (a ++ "s")) := addT (by rw [ls]; omega)
      have sL : (a ++ "s").length = a.length + 1 := by rw [app_lenT, ls]
      have a2 : D.add (.str (a ++ "s")) (.str (mk rest)) = .ok (.str (a ++ "s" ++ mk rest)) := addT (by rw [sL, len_mk]; omega)
      rw [t1, t2]
      generalize mk (tl a ++ rest) = LN at *
      simp -implicitDefEqProofs only [B1, B2, A0, A1, S3, oN, okb, f1_1, ln, bn, s2, a1, a2]
    · rcases List.mem_cons.mp hx with rfl | hx
      · exact hwd
      · exact hw x (List.mem_cons_of_mem _ hx)
  rw [decide_eq_false c9, mf]
  refine ⟨(a :: r) ++ [("" : Str)], ?_, clean_of (by simp) (by rw [List.length_append, List.length_singleton]; omega) (fun x hx => ?_), bad3 h _⟩
  · have e : ∀ x : Str, x ++ ("" : Str) = x := fun x => extS (by rw [tlA, tl_e, List.append_nil])
    rw [ln_snocT h0, e]
    exact addT (by rw [len_sp]; omega)
  · rcases List.mem_append.mp hx with hx | hx
    · exact hw x hx
    · rw [List.mem_singleton.mp hx]
      exact wrd_lit (by decide +kernel)
end LawMath

set_option Elab.async false
set_option linter.all false
set_option maxRecDepth 100000
set_option maxHeartbeats 4000000
namespace LawMath
open PySem DL LawWalk L2
def qO (r : Option (List Str × Nat)) : Option Nat := r.map (·.2)
def tO (r : Option (List Str × Nat)) (ls : List (Str × Nat)) : List (List Str) := (match r with | none => [] | some (rs, _) => rs.map fun x => [("by" : Str), x]) ++ ls.map lowW
theorem lines_form (r : Option (List Str × Nat)) (ls : List (Str × Nat)) : linesW r ls = headS (qO r) :: tO r ls := by
  cases r with
  | none => rfl
  | some q => obtain ⟨rs, a⟩ := q; rfl
theorem lines_lin {r : Option (List Str × Nat)} {ls : List (Str × Nat)} (ok : OkT r ls) : ∀ w ∈ linesW r ls, Lin w := by
  intro w hw
  unfold linesW at hw
  rcases List.mem_append.mp hw with h | h
  · cases r with
    | none =>
      rw [List.mem_singleton.mp h]
      exact .none
    | some q =>
      obtain ⟨rs, a⟩ := q
      obtain ⟨h1, h2, h3⟩ := ok.rd rs a rfl
      rcases List.mem_cons.mp h with rfl | h
      · exact .arr h3
      · obtain ⟨y, hy, rfl⟩ := List.mem_map.mp h
        exact .byl (h2 y hy)
  · obtain ⟨q, hq, rfl⟩ := List.mem_map.mp h
    obtain ⟨h1, h2⟩ := ok.ln q hq
    exact .low h1 h2
theorem lin_clean {w : List Str} (h : Lin w) : Clean w := by
  obtain ⟨a, b, c⟩ := h.clean
  exact clean_of b (by omega) a
theorem pre_loop {r : Option (List Str × Nat)} {ls : List (Str × Nat)} (ok : OkT r ls) (j : Nat) : ∃ (st : Sl × List D) (d : D), loopF (fun s => on2 (m_parse_paper_l1 s)) (enumL 2 (((tO r ls).take j).map wrdD)) (headSl (qO r), []) = .ok st ∧ st.1.rd = .ok d ∧ ((tO r ls).length ≤ j → ls ≠ [] → st.2 ≠ []) := by
  have hl8 := ok.ll
  have hne : ∀ k : Nat, ls.length ≤ k → ls ≠ [] → (ls.take k).map lowDT ≠ [] := fun k h h0 z => by
    rw [List.take_of_length_le h] at z
    exact h0 (List.map_eq_nil_iff.mp z)
  cases r with
  | none =>
    have e : ((tO none ls).take j).map wrdD = (ls.take j).map fun q => wrdD (lowW q) := by
      show ((ls.map lowW).take j).map wrdD = _
      rw [← List.map_take, List.map_map]
      rfl
    have lo := low_loop (.val .non) (d := .non) rfl (ls.take j) 2 [] (fun q hq => ok.ln q (List.mem_of_mem_take hq)) (by rw [List.length_take]; simp only [List.length_nil]; omega)
    refine ⟨_, .non, by rw [e]; exact lo, rfl, fun h h0 => ?_⟩
    have h : (ls.map lowW).length ≤ j := h
    rw [List.length_map] at h
    exact hne j h h0
  | some q =>
    obtain ⟨rs, a⟩ := q
    obtain ⟨h1, h2, h3⟩ := ok.rd rs a rfl
    have e : ((tO (some (rs, a)) ls).take j).map wrdD = ((rs.take j).map fun x => wrdD [("by" : Str), x]) ++ (ls.take (j - rs.length)).map fun q => wrdD (lowW q) := by
      show (((rs.map fun x => [("by" : Str), x]) ++ ls.map lowW).take j).map wrdD = _
      rw [List.take_append, List.length_map, ← List.map_take, ← List.map_take, List.map_append, List.map_map, List.map_map]
      rfl
    have l1 := by_loop (rs.take j) 2 [] (fun x hx => h2 x (List.mem_of_mem_take hx)) (by rw [List.length_take]; simp only [List.length_nil]; omega)
    have l2 := low_loop (.own ((rs.take j).map D.str)) (d := .lst ((rs.take j).map D.str)) rfl (ls.take (j - rs.length)) (2 + (((rs.take j).map fun x => wrdD [("by" : Str), x]).length : Int)) [] (fun q hq => ok.ln q (List.mem_of_mem_take hq)) (by rw [List.length_take]; simp only [List.length_nil]; omega)
    refine ⟨(.own ((rs.take j).map D.str), (ls.take (j - rs.length)).map lowDT), .lst ((rs.take j).map D.str), ?_, ?_, fun h h0 => ?_⟩
    · rw [e, enumL_app, loopF_app]
      show (loopF _ _ (Sl.own [], []) >>= _) = _
      rw [l1, okb, List.nil_append, l2, List.nil_append]
    · rfl
    · have h : ((rs.map fun x => [("by" : Str), x]) ++ ls.map lowW).length ≤ j := h
      rw [List.length_append, List.length_map, List.length_map] at h
      exact hne _ (by omega) h0
structure TB (B : List (List Str)) (due : Int) : Prop where
  n : B.length ≤ 150
  ne : B ≠ []
  cl : ∀ w ∈ B, Clean w
  bad : ∀ ext : List (List Str), ext.length ≤ 1 → (∀ u ∈ ext, Clean u) → m_parse_paper [.str (txtW (B ++ ext))] = .error (ivp due)
theorem tb_first {w : List Str} {rest : List (List Str)} (hb : Bad w) (hl : (w :: rest).length ≤ 150) (hc : ∀ u ∈ w :: rest, Clean u) : TB (w :: rest) 1 := ⟨hl, by simp, hc, fun ext he hu => parse_first hb (rest := rest ++ ext) (by
    simp only [List.length_cons, List.length_append] at hl ⊢
    omega) fun u h => by
    rw [← List.cons_append] at h
    rcases List.mem_append.mp h with h | h
    · exact hc u h
    · exact hu u h⟩
theorem tb_later {q : Option Nat} (hq : ∀ a, q = some a → a ≤ 999999999) {pre post : List (List Str)} {w : List Str} {st : Sl × List D} (hl : (headS q :: (pre ++ w :: post)).length ≤ 150) (hc : ∀ u ∈ headS q :: (pre ++ w :: post), Clean u)
    (hloop : loopF (fun s => on2 (m_parse_paper_l1 s)) (enumL 2 (pre.map wrdD)) (headSl q, []) = .ok st) (ht : m_parse_paper_l1 st (.int (2 + (pre.length : Int))) (wrdD w) = .error (ivp (2 + (pre.length : Int)))) : TB (headS q :: (pre ++ w :: post)) (2 + (pre.length : Int)) := ⟨hl, by simp, hc, fun ext he hu => by
    have e : headS q :: (pre ++ w :: post) ++ ext = headS q :: (pre ++ w :: (post ++ ext)) := by simp
    rw [e]
    refine parse_later hq (by rw [← e, List.length_append]; omega) (fun u h => ?_) hloop ht
    rw [← e] at h
    rcases List.mem_append.mp h with h | h
    · exact hc u h
    · exact hu u h⟩
section
variable {r : Option (List Str × Nat)} {ls : List (Str × Nat)} (ok : OkT r ls)
include ok
theorem qO_ok : ∀ a, qO r = some a → a ≤ 999999999 := fun a h => by
  cases r with
  | none => cases h
  | some q =>
    obtain ⟨rs, b⟩ := q
    cases h
    exact (ok.rd rs _ rfl).2.2
theorem lines_cl : ∀ u ∈ headS (qO r) :: tO r ls, Clean u := fun u h => lin_clean (lines_lin ok u (by rw [lines_form]; exact h))
theorem lines_n : (headS (qO r) :: tO r ls).length ≤ 141 := by rw [← lines_form]; exact (lines_count ok).1
theorem tb_at {i : Nat} (hi : i < (linesW r ls).length) {w : List Str} (hc : Clean w) (hb : Bad w) : TB ((linesW r ls).take i ++ [w] ++ (linesW r ls).drop (i + 1)) ((i : Int) + 1) := by
  have n := lines_n ok
  have C := lines_cl ok
  rw [lines_form] at hi ⊢
  cases i with
  | zero =>
    show TB (w :: tO r ls) 1
    exact tb_first hb (by simp only [List.length_cons] at n ⊢; omega) fun u h => by
      rcases List.mem_cons.mp h with rfl | h
      · exact hc
      · exact C u (List.mem_cons_of_mem _ h)
  | succ j =>
    obtain ⟨st, d, h1, h2, _⟩ := pre_loop ok j
    have hj : j < (tO r ls).length := by simpa using hi
    have lj : ((tO r ls).take j).length = j := by rw [List.length_take]; omega
    have e : (headS (qO r) :: tO r ls).take (j + 1) ++ [w] ++ (headS (qO r) :: tO r ls).drop (j + 1 + 1) = headS (qO r) :: ((tO r ls).take j ++ w :: (tO r ls).drop (j + 1)) := by simp
    have e2 : ((j + 1 : Nat) : Int) + 1 = 2 + (((tO r ls).take j).length : Int) := by rw [lj]; omega
    rw [e, e2]
    refine tb_later (qO_ok ok) ?_ (fun u h => ?_) h1 ?_
    · simp only [List.length_cons, List.length_append, List.length_take, List.length_drop] at n ⊢
      omega
    · rcases List.mem_cons.mp h with rfl | h
      · exact C _ (List.mem_cons_self ..)
      · rcases List.mem_append.mp h with h | h
        · exact C u (List.mem_cons_of_mem _ (List.mem_of_mem_take h))
        · rcases List.mem_cons.mp h with rfl | h
          · exact hc
          · exact C u (List.mem_cons_of_mem _ (List.mem_of_mem_drop h))
    · obtain ⟨s1, s2⟩ := st
      exact bad_turn h2 s2 _ (.inl hb) fun x hx => by have := hc.2.2.1 x hx; omega
theorem tb_ins {i : Nat} (hi : i < (linesW r ls).length) {w : List Str} (hc : Clean w) (hb : Bad w ∨ w = [("none" : Str)] ∨ ∃ r, w = ("arrives" : Str) :: r) : TB ((linesW r ls).take (i + 1) ++ [w] ++ (linesW r ls).drop (i + 1)) ((i : Int) + 2) := by
  have n := lines_n ok
  have C := lines_cl ok
  rw [lines_form] at hi ⊢
  obtain ⟨st, d, h1, h2, _⟩ := pre_loop ok i
  have hj : i ≤ (tO r ls).length := by simp at hi; omega
  have lj : ((tO r ls).take i).length = i := by rw [List.length_take]; omega
  have e : (headS (qO r) :: tO r ls).take (i + 1) ++ [w] ++ (headS (qO r) :: tO r ls).drop (i + 1) = headS (qO r) :: ((tO r ls).take i ++ w :: (tO r ls).drop i) := by simp
  have e2 : (i : Int) + 2 = 2 + (((tO r ls).take i).length : Int) := by rw [lj]; omega
  rw [e, e2]
  refine tb_later (qO_ok ok) ?_ (fun u h => ?_) h1 ?_
  · simp only [List.length_cons, List.length_append, List.length_take, List.length_drop] at n ⊢
    omega
  · rcases List.mem_cons.mp h with rfl | h
    · exact C _ (List.mem_cons_self ..)
    · rcases List.mem_append.mp h with h | h
      · exact C u (List.mem_cons_of_mem _ (List.mem_of_mem_take h))
      · rcases List.mem_cons.mp h with rfl | h
        · exact hc
        · exact C u (List.mem_cons_of_mem _ (List.mem_of_mem_drop h))
  · obtain ⟨s1, s2⟩ := st
    exact bad_turn h2 s2 _ hb fun x hx => by have := hc.2.2.1 x hx; omega
theorem tb_none {x : Str} (hx : Nm x) : TB ([[("none" : Str)], [("by" : Str), x]] ++ (linesW r ls).drop 1) 2 := by
  have n := lines_n ok
  have C := lines_cl ok
  rw [lines_form]
  have e : [[("none" : Str)], [("by" : Str), x]] ++ (headS (qO r) :: tO r ls).drop 1 = headS none :: ([] ++ [("by" : Str), x] :: tO r ls) := rfl
  rw [e]
  refine tb_later (q := none) (fun a h => nomatch h) (pre := []) (st := (headSl none, [])) ?_ (fun u h => ?_) rfl ?_
  · simp only [List.length_cons, List.nil_append] at n ⊢
    omega
  · simp only [List.nil_append, List.mem_cons] at h
    rcases h with rfl | rfl | h
    · exact lin_clean .none
    · exact lin_clean (.byl hx)
    · exact C u (List.mem_cons_of_mem _ h)
  · exact by_turn_no (s := .val .non) (d := .non) rfl [] _ (.inl rfl)
end
theorem tb_low {r : Option (List Str × Nat)} {ls : List (Str × Nat)} (ok : OkT r ls) (hl : ls.length ≤ 60) {x : Str} (hx : Nm x) : TB (linesW r ls ++ [lowW (x, 1), [("by" : Str), x]]) (((linesW r ls).length : Int) + 2) := by
  have ok2 : OkT r (ls ++ [(x, 1)]) := ⟨ok.rd, by rw [List.length_append, List.length_singleton]; omega, fun q hq => by
    rcases List.mem_append.mp hq with h | h
    · exact ok.ln q h
    · rw [List.mem_singleton.mp h]
      exact ⟨hx, by omega⟩⟩
  have n := lines_n ok2
  have C := lines_cl ok2
  obtain ⟨st, d, h1, h2, h3⟩ := pre_loop ok2 (tO r (ls ++ [(x, 1)])).length
  have h3 := h3 (Nat.le_refl _) (by simp)
  rw [List.take_length] at h1
  have tE : tO r (ls ++ [(x, 1)]) = tO r ls ++ [lowW (x, 1)] := by
    unfold tO
    rw [List.map_append, List.append_assoc]
    rfl
  have e : linesW r ls ++ [lowW (x, 1), [("by" : Str), x]] = headS (qO r) :: (tO r (ls ++ [(x, 1)]) ++ [("by" : Str), x] :: []) := by
    rw [lines_form, tE]
    simp
  have e2 : ((linesW r ls).length : Int) + 2 = 2 + ((tO r (ls ++ [(x, 1)])).length : Int) := by
    rw [lines_form, tE]
    simp only [List.length_cons, List.length_append, List.length_nil]
    omega
  have T2 : st.2 ≠ [] := h3
  rw [e, e2]
  refine tb_later (qO_ok ok) ?_ (fun u h => ?_) h1 ?_
  · simp only [List.length_cons, List.length_append, List.length_nil] at n ⊢
    omega
  · rcases List.mem_cons.mp h with rfl | h
    · exact C _ (List.mem_cons_self ..)
    · rcases List.mem_append.mp h with h | h
      · exact C u (List.mem_cons_of_mem _ h)
      · rw [List.mem_singleton.mp h]
        exact lin_clean (.byl hx)
  · obtain ⟨s1, s2⟩ := st
    exact by_turn_no h2 s2 _ (.inr T2)
end LawMath

set_option Elab.async false
set_option linter.all false
set_option maxRecDepth 100000
set_option maxHeartbeats 4000000
namespace LawMath
open PySem DL LawWalk L2
def nm5 : List Str := ["r", "q9", "abcdefghijkl", "by", "low"]
theorem nm5_ok : ∀ x ∈ nm5, Nm x := by
  intro x hx
  unfold nm5 at hx
  simp only [List.mem_cons, List.not_mem_nil, or_false] at hx
  unfold Nm
  rcases hx with rfl | rfl | rfl | rfl | rfl <;> decide +kernel
def pk (ns : List Int) (j : Nat) : Str := nm5.getD ((ns.getD j 0 % 5).toNat) ""
theorem pk_ok (ns : List Int) (j : Nat) : Nm (pk ns j) ∧ D.ix (.lst (nm5.map D.str)) (.int (ns.getD j 0 % 5)) = .ok (.str (pk ns j)) := by
  have h0 : 0 ≤ ns.getD j 0 % 5 := Int.emod_nonneg _ (by omega)
  have h1 : ns.getD j 0 % 5 < 5 := Int.emod_lt_of_pos _ (by omega)
  unfold pk
  generalize ns.getD j 0 % 5 = v at h0 h1
  obtain ⟨k, rfl⟩ : ∃ k : Nat, v = (k : Int) := ⟨v.toNat, by omega⟩
  have hk : k < nm5.length := by show k < 5; omega
  rw [Int.toNat_natCast, List.getD_eq_getElem?_getD, List.getElem?_eq_getElem hk]
  refine ⟨nm5_ok _ (List.getElem_mem hk), ix_nat (n := k) ?_ rfl⟩
  rw [List.getElem?_map, List.getElem?_eq_getElem hk]
  rfl
def lD (L : List (List Str)) : D := .lst ((L.map lnT).map D.str)
theorem lD_add {A B : List (List Str)} (h : A.length + B.length ≤ 10000) : D.add (lD A) (lD B) = .ok (lD (A ++ B)) := by
  unfold lD
  rw [add_ll, need_p (by rw [PySem.sizeLine_eq]; simp only [List.length_map]; omega), okb, ← List.map_append, ← List.map_append]
theorem lD_take {L : List (List Str)} {i : Nat} : (S3 (.ok (lD L)) oN (B1 D.bnd (.ok (.int (i : Nat)))) : M D) = .ok (lD (L.take i)) := by
  have b : D.bnd (.int (i : Nat)) = .ok (some (i : Int)) := rfl
  have s : D.sl (lD L) none (some (i : Nat)) = .ok (lD (L.take i)) := by
    unfold lD
    rw [sl_l, cut_take _ (by omega), Int.toNat_natCast, ← List.map_take, ← List.map_take]
  simp -implicitDefEqProofs only [B1, S3, oN, okb, b, s]
theorem lD_drop {L : List (List Str)} {i : Nat} : (S3 (.ok (lD L)) (B1 D.bnd (.ok (.int (i : Nat)))) oN : M D) = .ok (lD (L.drop i)) := by
  have b : D.bnd (.int (i : Nat)) = .ok (some (i : Int)) := rfl
  have s : D.sl (lD L) (some (i : Nat)) none = .ok (lD (L.drop i)) := by
    unfold lD
    rw [sl_l, cut_drop _ (by omega), Int.toNat_natCast, ← List.map_drop, ← List.map_drop]
  simp -implicitDefEqProofs only [B1, S3, oN, okb, b, s]
theorem add1 {i : Nat} : (B2 D.add (.ok (.int (i : Nat))) (.ok (.int 1)) : M D) = .ok (.int ((i + 1 : Nat) : Int)) := rfl
theorem lD_ix {L : List (List Str)} {i : Nat} {w : List Str} (h : L[i]? = some w) : (B2 D.ix (.ok (lD L)) (.ok (.int (i : Nat))) : M D) = .ok (.str (lnT w)) := ix_nat (n := i) (by rw [List.getElem?_map, List.getElem?_map, h]; rfl) rfl
theorem lD_one {w : List Str} : (B1 D.mkLst (A1 (.ok (.str (lnT w))) A0) : M D) = .ok (lD [w]) := rfl
theorem tb_join {B : List (List Str)} (h0 : B ≠ []) (hl : B.length ≤ 200) (hc : ∀ w ∈ B, Clean w) : (meth D.isStr (.ok (.str "\n")) (A1 (.ok (lD B)) A0) (m1 D.join) : M D) = .ok (.str (txtW B)) := txtW_join h0 hl hc
def unZ : Er := .exc ⟨"UnknownName", [("name", .str "zz")]⟩
theorem ch60 : ∃ c, (mkInsK "Map" m_Map_init (fun ws => pick ws 0 ++ (pick ws 1 ++ (pick ws 2 ++ ([(D.tup [])] ++ ([(D.tup [])] ++ ([])))))) (A1 (.ok (.int 60)) (A1 (B1 D.mkLst (A1 (.ok (.str "a")) A0)) (A1 (B1 D.mkLst (A1 (.ok (.str "p")) A0)) A0))) : M D) = .ok c ∧ m_check_trip [c, .str "zz", .str "zz"] = .error unZ :=
  ⟨.ins "Map" (mkCh 60 ["a"] ["p"] [] []).f5, by kernel_rfl, by kernel_rfl⟩
theorem told_bad {t : Str} {k : Int} (h : m_parse_paper [.str t] = .error (ivp k)) (b : Bool) : m_law_told [.str t, .bl b] = .ok (.int k) := by
  obtain ⟨c, ec, _⟩ := ch60
  rw [e_law_told]
  unfold g_law_told
  rw [ec, okb]
  have e1 : (B1 m_parse_paper (A1 (.ok (.str t)) A0) : M D) = .error (ivp k) := h
  have e2 : (B1 m_check_text (A1 (.ok c) (A1 (.ok (.str "zz")) (A1 (.ok (.str "zz")) (A1 (.ok (.str "zz")) (A1 (.ok (.int 0)) (A1 (.ok (.str t)) A0)))))) : M D) = .error (ivp k) := by
    show m_check_text [c, .str "zz", .str "zz", .str "zz", .int 0, .str t] = _
    rw [e_check_text]
    unfold g_check_text
    rw [e1]
    rfl
  rw [e1, e2]
  cases b <;> rfl
theorem told_ok {t : Str} {d : D} (h : m_parse_paper [.str t] = .ok d) (b : Bool) : m_law_told [.str t, .bl b] = .ok (.int 0) := by
  obtain ⟨c, ec, et⟩ := ch60
  rw [e_law_told]
  unfold g_law_told
  rw [ec, okb]
  have e1 : (B1 m_parse_paper (A1 (.ok (.str t)) A0) : M D) = .ok d := h
  have e2 : (B1 m_check_text (A1 (.ok c) (A1 (.ok (.str "zz")) (A1 (.ok (.str "zz")) (A1 (.ok (.str "zz")) (A1 (.ok (.int 0)) (A1 (.ok (.str t)) A0)))))) : M D) = .error unZ := by
    show m_check_text [c, .str "zz", .str "zz", .str "zz", .int 0, .str t] = _
    rw [e_check_text]
    unfold g_check_text
    rw [e1]
    show m_check_paper [c, .str "zz", .str "zz", .str "zz", .int 0, d] = _
    rw [e_check_paper]
    unfold g_check_paper
    have e3 : (B1 m_check_trip (A1 (.ok c) (A1 (.ok (.str "zz")) (A1 (.ok (.str "zz")) A0))) : M D) = .error unZ := et
    rw [e3]
    rfl
  rw [e1, e2]
  cases b <;> rfl
section
variable {ns : List Int} (hn : ns.length = 30) (hs : Sm ns)
include hn hs
theorem name_at (i j : Nat) (h : i + j < 30) : (B2 D.ix (.ok (.lst (nm5.map D.str))) (B2 D.mod (B1 (f1 D.toInt) (A1 (B2 D.ix (.ok (.lst (nums ns))) (B2 D.add (.ok (.int i)) (.ok (.int j)))) A0)) (.ok (.int 5))) : M D) = .ok (.str (pk ns (i + j))) := by
  have i1 := num_ix (ns := ns) (i := (i : Int) + (j : Int)) (j := i + j) (by omega) (by omega)
  have a1 : D.add (.int i) (.int j) = .ok (.int ((i : Int) + (j : Int))) := rfl
  have m1 : D.mod (.int (ns.getD (i + j) 0)) (.int 5) = .ok (.int (ns.getD (i + j) 0 % 5)) := mod_ok (by omega)
  have x1 := (pk_ok ns (i + j)).2
  generalize ns.getD (i + j) 0 = v at *
  simp -implicitDefEqProofs only [B1, B2, A0, A1, okb, f1_1, toInt_i, i1, a1, m1, x1]
def qL (ns : List Int) (k : Nat) : Str × Nat := (pk ns (14 + k), (ns.getD (18 + k) 0).toNat)
theorem low_line (acc : List D) (ha : acc.length < 1000) (k : Nat) (hk : k ≤ 3) : m_law_lines_l1 (.lst (nums ns)) (.lst (nm5.map D.str)) acc (.int k) = .ok (acc ++ [.str (lnT (lowW (qL ns k)))]) := by
  have nm := name_at hn hs 14 k (by omega)
  have i1 := num_ix (ns := ns) (i := (18 : Int) + (k : Int)) (j := 18 + k) (by omega) (by omega)
  have sm := num_sm hs (18 + k)
  have a1 : D.add (.int 18) (.int k) = .ok (.int ((18 : Int) + (k : Int))) := rfl
  have st : D.toStr (.int (ns.getD (18 + k) 0)) = .ok (.str (numT (ns.getD (18 + k) 0).toNat)) := by
    have : ns.getD (18 + k) 0 = ((ns.getD (18 + k) 0).toNat : Int) := by omega
    rw [this]
    exact toStr_nat (by omega)
  have nl := num_len (n := (ns.getD (18 + k) 0).toNat) (by omega)
  have pl := nm_lenT (pk_ok ns (14 + k)).1
  have nT : (B1 (f1 D.toStr) (A1 (B1 (f1 D.toInt) (A1 (B2 D.ix (.ok (.lst (nums ns))) (B2 D.add (.ok (.int 18)) (.ok (.int k)))) A0)) A0) : M D) = .ok (.str (numT (ns.getD (18 + k) 0).toNat)) := by
    generalize ns.getD (18 + k) 0 = v at *
    simp -implicitDefEqProofs only [B1, B2, A0, A1, okb, f1_1, toInt_i, i1, a1, st]
  have p1 : D.add (.str "low ") (.str (pk ns (14 + k))) = .ok (.str ("low " ++ pk ns (14 + k))) := addT (by rw [len_low]; omega)
  have p2 : D.add (.str ("low " ++ pk ns (14 + k))) (.str " ") = .ok (.str ("low " ++ pk ns (14 + k) ++ " ")) := addT (by rw [app_lenT, len_low, len_sp]; omega)
  have p3 : D.add (.str ("low " ++ pk ns (14 + k) ++ " ")) (.str (numT (ns.getD (18 + k) 0).toNat)) = .ok (.str (lnT (lowW (qL ns k)))) := by
    rw [addT (by rw [app_lenT, app_lenT, len_low, len_sp]; omega), low_eq]
    rfl
  have nm : (B2 D.ix (.ok (.lst (nm5.map D.str))) (B2 D.mod (B1 (f1 D.toInt) (A1 (B2 D.ix (.ok (.lst (nums ns))) (B2 D.add (.ok (.int 14)) (.ok (.int k)))) A0)) (.ok (.int 5))) : M D) = .ok (.str (pk ns (14 + k))) := nm
  have ps : mPush acc (.ok (.str (lnT (lowW (qL ns k))))) = .ok (acc ++ [.str (lnT (lowW (qL ns k)))]) := by
    show (need (decide (acc.length < sizeLine)) >>= fun _ => (.ok (acc ++ [.str (lnT (lowW (qL ns k)))]) : M (List D))) = _
    rw [need_p (by rw [PySem.sizeLine_eq]; omega), okb]
  have all : (B2 D.add (B2 D.add (B2 D.add (.ok (.str "low ")) (B2 D.ix (.ok (.lst (nm5.map D.str))) (B2 D.mod (B1 (f1 D.toInt) (A1 (B2 D.ix (.ok (.lst (nums ns))) (B2 D.add (.ok (.int 14)) (.ok (.int k)))) A0)) (.ok (.int 5))))) (.ok (.str " "))) (B1 (f1 D.toStr) (A1 (B1 (f1 D.toInt) (A1 (B2 D.ix (.ok (.lst (nums ns))) (B2 D.add (.ok (.int 18)) (.ok (.int k)))) A0)) A0)) : M D) = .ok (.str (lnT (lowW (qL ns k)))) := by
    rw [nm, nT]
    simp -implicitDefEqProofs only [B2, okb, p1, p2, p3]
  unfold m_law_lines_l1
  rw [all, ps]
  rfl
theorem low_lines : ∀ (l : List Nat) (acc : List D), (∀ k ∈ l, k ≤ 3) → acc.length + l.length < 1000 → loopF (m_law_lines_l1 (.lst (nums ns)) (.lst (nm5.map D.str))) (l.map fun (k : Nat) => D.int (0 + (k : Int))) acc = .ok (acc ++ l.map fun k => D.str (lnT (lowW (qL ns k))))
  | [], acc, _, _ => by simp [loopF_nil]
  | k :: l, acc, h, hl => by
    have z : (0 + (k : Int)) = (k : Int) := by omega
    rw [List.map_cons, z, loopF_cons, low_line hn hs acc (by omega) k (h k (List.mem_cons_self ..)), okb, low_lines l _ (fun j hj => h j (List.mem_cons_of_mem _ hj)) (by rw [List.length_append, List.length_singleton]; rw [List.length_cons] at hl; omega), List.map_cons, List.append_assoc]
    rfl
theorem by_lines (n : Nat) (h : n ≤ 3) : compL (fElt noT (fun k_1 => (B2 D.add (.ok (.str "by ")) (B2 D.ix (.ok (.lst (nm5.map D.str))) (B2 D.mod (B1 (f1 D.toInt) (A1 (B2 D.ix (.ok (.lst (nums ns))) (B2 D.add (.ok (.int 10)) (.ok k_1))) A0)) (.ok (.int 5))))))) (rangeL 0 n) = .ok ((((List.range n).map fun k => pk ns (10 + k)).map fun x => lnT [("by" : Str), x]).map D.str) := by
  unfold rangeL
  rw [List.map_map, List.map_map]
  refine compL_mapA (by rw [List.length_range]; omega) fun k hk => ?_
  have hk := List.mem_range.mp hk
  have z : (0 + (k : Int)) = (k : Int) := by omega
  have nm : (B2 D.ix (.ok (.lst (nm5.map D.str))) (B2 D.mod (B1 (f1 D.toInt) (A1 (B2 D.ix (.ok (.lst (nums ns))) (B2 D.add (.ok (.int 10)) (.ok (.int k)))) A0)) (.ok (.int 5))) : M D) = .ok (.str (pk ns (10 + k))) := name_at hn hs 10 k (by omega)
  have pl := nm_lenT (pk_ok ns (10 + k)).1
  rw [z, nm]
  show D.add (.str "by ") (.str (pk ns (10 + k))) = .ok (.str (lnT [("by" : Str), pk ns (10 + k)]))
  rw [addT (by rw [len_by]; omega), by_eq]
theorem lines_ok : ∃ r ls, OkT r ls ∧ ls.length ≤ 3 ∧ m_law_lines [.lst (nums ns)] = .ok (lD (linesW r ls)) := by
  have i0 := num_ix (ns := ns) (i := 0) (j := 0) rfl (by omega)
  have i1 := num_ix (ns := ns) (i := 1) (j := 1) rfl (by omega)
  have i2 := num_ix (ns := ns) (i := 2) (j := 2) rfl (by omega)
  have i3 := num_ix (ns := ns) (i := 3) (j := 3) rfl (by omega)
  have i4 := num_ix (ns := ns) (i := 4) (j := 4) rfl (by omega)
  have sm1 := num_sm hs 1
  have BY := by_lines hn hs
  have LL := low_lines hn hs
  have P10 : ∀ k, Nm (pk ns (10 + k)) := fun k => (pk_ok ns _).1
  have Q : ∀ k, k ≤ 3 → Nm (qL ns k).1 ∧ (qL ns k).2 ≤ 999999999 := fun k hk => ⟨(pk_ok ns _).1, by
    have := num_sm hs (18 + k)
    show (ns.getD (18 + k) 0).toNat ≤ _
    omega⟩
  rw [e_law_lines]
  unfold g_law_lines
  have mk5 : (B1 D.mkLst (A1 (.ok (.str "r")) (A1 (.ok (.str "q9")) (A1 (.ok (.str "abcdefghijkl")) (A1 (.ok (.str "by")) (A1 (.ok (.str "low")) A0))))) : M D) = .ok (.lst (nm5.map D.str)) := rfl
  have n1 : (nLst (A1 (.ok (.str "none")) A0) : M (List D)) = .ok [.str "none"] := rfl
  generalize ns.getD 0 0 = v0 at i0
  generalize ns.getD 1 0 = v1 at i1 sm1
  generalize ns.getD 2 0 = v2 at i2
  generalize ns.getD 3 0 = v3 at i3
  generalize ns.getD 4 0 = v4 at i4
  have m0 : D.mod (.int v0) (.int 3) = .ok (.int (v0 % 3)) := mod_ok (by omega)
  have m2 : D.mod (.int v2) (.int 3) = .ok (.int (v2 % 3)) := mod_ok (by omega)
  have m3 : D.mod (.int v3) (.int 4) = .ok (.int (v3 % 4)) := mod_ok (by omega)
  have m4 : D.mod (.int v4) (.int 4) = .ok (.int (v4 % 4)) := mod_ok (by omega)
  have g0 : D.gt (.int (v0 % 3)) (.int 0) = .ok (decide (0 < v0 % 3)) := gt_ii
  have rg : ∀ j : Int, 0 ≤ j → j ≤ 3 → D.range1 [.int j] = .ok (rangeL 0 j.toNat) := fun j h1 h2 => by
    have : j = 0 ∨ j = 1 ∨ j = 2 ∨ j = 3 := by omega
    rcases this with rfl | rfl | rfl | rfl <;> rfl
  have r3 := rg (v3 % 4) (by omega) (by omega)
  have r4 := rg (v4 % 4) (by omega) (by omega)
  have j3 : (v3 % 4).toNat ≤ 3 := by omega
  have j4 : (v4 % 4).toNat ≤ 3 := by omega
  generalize (v3 % 4).toNat = n3 at r3 j3
  generalize (v4 % 4).toNat = n4 at r4 j4
  have cG : (B2 D.gt (B2 D.mod (B1 (f1 D.toInt) (A1 (B2 D.ix (.ok (.lst (nums ns))) (.ok (.int 0))) A0)) (.ok (.int 3))) (.ok (.int 0)) : M Bool) = .ok (decide (0 < v0 % 3)) := by
    simp -implicitDefEqProofs only [B1, B2, A0, A1, okb, f1_1, toInt_i, i0, m0, g0]
  have R3 : (B1 D.range1 (A1 (B2 D.mod (B1 (f1 D.toInt) (A1 (B2 D.ix (.ok (.lst (nums ns))) (.ok (.int 3))) A0)) (.ok (.int 4))) A0) : M (List D)) = .ok (rangeL 0 n3) := by
    simp -implicitDefEqProofs only [B1, B2, A0, A1, okb, f1_1, toInt_i, i3, m3, r3]
  have R4 : (B1 D.range1 (A1 (B2 D.mod (B1 (f1 D.toInt) (A1 (B2 D.ix (.ok (.lst (nums ns))) (.ok (.int 4))) A0)) (.ok (.int 4))) A0) : M (List D)) = .ok (rangeL 0 n4) := by
    simp -implicitDefEqProofs only [B1, B2, A0, A1, okb, f1_1, toInt_i, i4, m4, r4]
  obtain ⟨a, ha, ea⟩ : ∃ a : Nat, a ≤ 999999999 ∧ D.ix (.lst [.int 0, .int 999999999, .int v1]) (.int (v2 % 3)) = .ok (.int a) := by
    have : v2 % 3 = 0 ∨ v2 % 3 = 1 ∨ v2 % 3 = 2 := by omega
    rcases this with h | h | h <;> rw [h]
    · exact ⟨0, by omega, ix_nat (n := 0) rfl rfl⟩
    · exact ⟨999999999, by omega, ix_nat (n := 1) rfl rfl⟩
    · refine ⟨v1.toNat, by omega, ix_nat (n := 2) ?_ rfl⟩
      have : ((v1.toNat : Nat) : Int) = v1 := by omega
      rw [this]
      rfl
  have mk3 : D.mkLst [.int 0, .int 999999999, .int v1] = .ok (.lst [.int 0, .int 999999999, .int v1]) := rfl
  have st : D.toStr (.int a) = .ok (.str (numT a)) := toStr_nat (by omega)
  have ad : D.add (.str "arrives ") (.str (numT a)) = .ok (.str (lnT [("arrives" : Str), numT a])) := by
    rw [addT (by have := num_len ha; rw [len_arr]; omega), arr_eq]
  have eA : (nLst (A1 (B2 D.add (.ok (.str "arrives ")) (B1 (f1 D.toStr) (A1 (B2 D.ix (B1 D.mkLst (A1 (.ok (.int 0)) (A1 (.ok (.int 999999999)) (A1 (B1 (f1 D.toInt) (A1 (B2 D.ix (.ok (.lst (nums ns))) (.ok (.int 1))) A0)) A0)))) (B2 D.mod (B1 (f1 D.toInt) (A1 (B2 D.ix (.ok (.lst (nums ns))) (.ok (.int 2))) A0)) (.ok (.int 3)))) A0))) A0) : M (List D)) = .ok [.str (lnT [("arrives" : Str), numT a])] := by
    have k : (nLst (.ok [.str (lnT [("arrives" : Str), numT a])]) : M (List D)) = .ok [.str (lnT [("arrives" : Str), numT a])] := rfl
    simp -implicitDefEqProofs only [B1, B2, A0, A1, okb, f1_1, toInt_i, i1, i2, mk3, m2, ea, st, ad, k]
  have LQ : ∀ q ∈ (List.range n4).map (qL ns), Nm q.1 ∧ q.2 ≤ 999999999 := fun q hq => by
    obtain ⟨k, hk, rfl⟩ := List.mem_map.mp hq
    exact Q k (by have := List.mem_range.mp hk; omega)
  have LOW : ∀ acc : List D, acc.length < 900 → loopF (m_law_lines_l1 (.lst (nums ns)) (.lst (nm5.map D.str))) (rangeL 0 n4) acc = .ok (acc ++ ((((List.range n4).map (qL ns)).map lowW).map lnT).map D.str) := fun acc h => by
    have e := LL (List.range n4) acc (fun k hk => by have := List.mem_range.mp hk; omega) (by rw [List.length_range]; omega)
    unfold rangeL
    rw [e, List.map_map, List.map_map, List.map_map]
    rfl
  have ll : ((List.range n4).map (qL ns)).length ≤ 3 := by rw [List.length_map, List.length_range]; exact j4
  generalize (List.range n4).map (qL ns) = ls at LQ LOW ll
  rw [mk5, okb, n1, okb, cG]
  cases hc : decide (0 < v0 % 3) with
  | false =>
    refine ⟨none, ls, ⟨(fun _ _ h => nomatch h), by omega, LQ⟩, ll, ?_⟩
    rw [mf, okb, R4, okb, LOW _ (by show 1 < 900; omega), okb]
    unfold linesW lD
    rw [List.map_append, List.map_append]
    rfl
  | true =>
    have cl := BY n3 j3
    have P3 : ∀ y ∈ (List.range n3).map (fun k => pk ns (10 + k)), Nm y := fun y hy => by
      obtain ⟨k, _, rfl⟩ := List.mem_map.mp hy
      exact P10 k
    have l3 : ((List.range n3).map (fun k => pk ns (10 + k))).length ≤ 3 := by rw [List.length_map, List.length_range]; exact j3
    generalize (List.range n3).map (fun k => pk ns (10 + k)) = rs at cl P3 l3
    have an : D.addN (.lst [.str (lnT [("arrives" : Str), numT a])]) (.lst ((rs.map fun x => lnT [("by" : Str), x]).map D.str)) = .ok ([.str (lnT [("arrives" : Str), numT a])] ++ (rs.map fun x => lnT [("by" : Str), x]).map D.str) := by
      show (need (decide (_ + _ ≤ sizeLine)) >>= fun _ => (.ok _ : M (List D))) = _
      rw [need_p (by rw [PySem.sizeLine_eq, List.length_map, List.length_map]; show 1 + _ ≤ _; omega), okb]
    refine ⟨some (rs, a), ls, ⟨fun x b h => by cases h; exact ⟨by omega, P3, ha⟩, by omega, LQ⟩, ll, ?_⟩
    have l1 : (L1 (.ok ((rs.map fun x => lnT [("by" : Str), x]).map D.str)) : M D) = .ok (.lst ((rs.map fun x => lnT [("by" : Str), x]).map D.str)) := rfl
    rw [mt, eA, okb, okb, R3, okb, cl, l1, okb, an, okb, okb, R4, okb, LOW _ (by rw [List.length_append, List.length_map, List.length_map]; show 1 + _ < 900; omega), okb]
    unfold linesW lD headW
    simp only [List.map_append, List.map_cons, List.map_map, Function.comp_def, List.cons_append, List.nil_append]
end
end LawMath

set_option Elab.async false
set_option linter.all false
set_option maxRecDepth 100000
set_option maxHeartbeats 4000000
namespace LawMath
open PySem DL LawWalk L2
theorem clean_e : Clean [("" : Str)] := clean_of (by simp) (by show 1 ≤ 6; omega) fun x hx => by rw [List.mem_singleton.mp hx]; exact wrd_lit (by decide +kernel)
theorem txt_e : txtW [[("" : Str)]] = "" := by decide +kernel
theorem parse_e : m_parse_paper [.str ""] = .error (ivp 1) := by
  rw [← txt_e]
  exact parse_first (bad_e []) (by show 1 ≤ 200; omega) fun u hu => by
    rw [List.mem_singleton.mp hu]
    exact clean_e
theorem ln_lit1 : ("low r 1" : Str) = lnT (lowW ("r", 1)) := by decide +kernel
theorem ln_lit2 : ("by r" : Str) = lnT [("by" : Str), "r"] := by decide +kernel
theorem ln_lit3 : ("none" : Str) = lnT [("none" : Str)] := by decide +kernel
theorem ln_lit4 : ("arrives 7" : Str) = lnT [("arrives" : Str), "7"] := by decide +kernel
theorem ln_lit5 : ("by" : Str) = lnT [("by" : Str)] := by decide +kernel
theorem ln_lit6 : ("low r" : Str) = lnT [("low" : Str), "r"] := by decide +kernel
theorem ln_lit7 : ("" : Str) = lnT [("" : Str)] := by decide +kernel
theorem nm_r : Nm "r" := nm5_ok _ (by decide +kernel)
theorem lD_two {a b : List Str} : (B1 D.mkLst (A1 (.ok (.str (lnT a))) (A1 (.ok (.str (lnT b))) A0)) : M D) = .ok (lD [a, b]) := rfl
theorem okR {α β γ : Type} (x : α) (y : β) (f : α × β → M γ) : ((.ok (x, y) : M (α × β)) >>= f) = f (x, y) := rfl
theorem c_lits {w : List Str} (h : w ∈ [[("none" : Str)], ["arrives", "7"], ["by"], ["low", "r"], [""]]) : Clean w := by
  have a1 : Wrd "none" := wrd_lit (by decide +kernel)
  have a2 : Wrd "arrives" := wrd_lit (by decide +kernel)
  have a3 : Wrd "7" := wrd_lit (by decide +kernel)
  have a4 : Wrd "by" := wrd_lit (by decide +kernel)
  have a5 : Wrd "low" := wrd_lit (by decide +kernel)
  have a6 : Wrd "r" := wrd_lit (by decide +kernel)
  simp only [List.mem_cons, List.not_mem_nil, or_false] at h
  rcases h with rfl | rfl | rfl | rfl | rfl
  · exact clean_of (by simp) (by show 1 ≤ 6; omega) fun x hx => by rw [List.mem_singleton.mp hx]; exact a1
  · exact clean_of (by simp) (by show 2 ≤ 6; omega) fun x hx => by
      simp only [List.mem_cons, List.not_mem_nil, or_false] at hx
      rcases hx with rfl | rfl
      · exact a2
      · exact a3
  · exact clean_of (by simp) (by show 1 ≤ 6; omega) fun x hx => by rw [List.mem_singleton.mp hx]; exact a4
  · exact clean_of (by simp) (by show 2 ≤ 6; omega) fun x hx => by
      simp only [List.mem_cons, List.not_mem_nil, or_false] at hx
      rcases hx with rfl | rfl
      · exact a5
      · exact a6
  · exact clean_e
theorem law_true (l : List Int) (h : l.length ≤ 63) : m_law [.scr l] = .ok (.bl true) := by
  obtain ⟨ns, en, hn, hs⟩ := numbers_ok l h 30 (by omega) (by omega)
  have hn : ns.length = 30 := by rw [hn]; rfl
  obtain ⟨r, ls, ok, ll, eL⟩ := lines_ok hn hs
  have LC := lines_lin ok
  have hp := parse_okT ok
  have n := lines_count ok
  have cl : ∀ w ∈ linesW r ls, Clean w := fun w hw => lin_clean (LC w hw)
  have AT := fun {i : Nat} (hi : i < (linesW r ls).length) {w : List Str} (hc : Clean w) (hb : Bad w) => tb_at ok hi hc hb
  have INS := fun {i : Nat} (hi : i < (linesW r ls).length) {w : List Str} (hc : Clean w) (hb : Bad w ∨ w = [("none" : Str)] ∨ ∃ r, w = ("arrives" : Str) :: r) => tb_ins ok hi hc hb
  have NON := tb_none ok nm_r
  have LOW := tb_low ok (by omega) nm_r
  have hp : m_parse_paper [.str (txtW (linesW r ls))] = .ok (paperT r ls) := hp
  generalize linesW r ls = L at *
  generalize paperT r ls = pp at hp
  have J : (meth D.isStr (.ok (.str "\n")) (A1 (.ok (lD L)) A0) (m1 D.join) : M D) = .ok (.str (txtW L)) := tb_join n.2 (by omega) cl
  have T0 : ∀ b, (B2 D.ne (B1 m_law_told (A1 (meth D.isStr (.ok (.str "\n")) (A1 (.ok (lD L)) A0) (m1 D.join)) (A1 (.ok (.bl b)) A0))) (.ok (.int 0)) : M Bool) = .ok false := fun b => by
    have e : m_law_told [.str (txtW L), .bl b] = .ok (.int 0) := told_ok hp b
    have z : D.ne (.int 0) (.int 0) = .ok false := rfl
    rw [J]
    simp -implicitDefEqProofs only [B1, B2, A0, A1, okb, e, z]
  have T9 : (C2 D.eq (B1 m_law_told (A1 (meth D.isStr (.ok (.str "\n")) (A1 (.ok (lD L)) A0) (m1 D.join)) (A1 (.ok (.bl false)) A0))) (.ok (.int 0)) : M D) = .ok (.bl true) := by
    have e : m_law_told [.str (txtW L), .bl false] = .ok (.int 0) := told_ok hp false
    rw [J]
    show (m_law_told [.str (txtW L), .bl false] >>= fun x => _) = _
    rw [e]
    rfl
  have i22 := num_ix (ns := ns) (i := 22) (j := 22) rfl (by omega)
  have i23 := num_ix (ns := ns) (i := 23) (j := 23) rfl (by omega)
  have i24 := num_ix (ns := ns) (i := 24) (j := 24) rfl (by omega)
  have i25 := num_ix (ns := ns) (i := 25) (j := 25) rfl (by omega)
  generalize ns.getD 22 0 = v22 at i22
  generalize ns.getD 23 0 = v23 at i23
  generalize ns.getD 24 0 = v24 at i24
  generalize ns.getD 25 0 = v25 at i25
  have lpos : 0 < L.length := List.length_pos_iff.mpr n.2
  have eLen : D.len (lD L) = .ok (.int (L.length : Nat)) := by
    unfold lD
    rw [len_l, List.length_map, List.length_map]
  have C1 : (B2 D.mod (B1 (f1 D.toInt) (A1 (B2 D.ix (.ok (.lst (nums ns))) (.ok (.int 22))) A0)) (.ok (.int 13)) : M D) = .ok (.int (v22 % 13)) := by
    have m : D.mod (.int v22) (.int 13) = .ok (.int (v22 % 13)) := mod_ok (by omega)
    simp -implicitDefEqProofs only [B1, B2, A0, A1, okb, f1_1, toInt_i, i22, m]
  obtain ⟨i, hi, ei⟩ : ∃ i : Nat, i < L.length ∧ v23 % (L.length : Nat) = (i : Int) := by
    have h0 : 0 ≤ v23 % (L.length : Nat) := Int.emod_nonneg _ (by omega)
    have h1 : v23 % (L.length : Nat) < (L.length : Nat) := Int.emod_lt_of_pos _ (by omega)
    exact ⟨(v23 % (L.length : Nat)).toNat, by omega, by omega⟩
  have C2' : (B2 D.mod (B1 (f1 D.toInt) (A1 (B2 D.ix (.ok (.lst (nums ns))) (.ok (.int 23))) A0)) (B1 (f1 D.len) (A1 (.ok (lD L)) A0)) : M D) = .ok (.int (i : Nat)) := by
    have m : D.mod (.int v23) (.int (L.length : Nat)) = .ok (.int (v23 % (L.length : Nat))) := mod_ok (by omega)
    rw [ei] at m
    simp -implicitDefEqProofs only [B1, B2, A0, A1, okb, f1_1, toInt_i, i23, eLen, m]
  have C3 : (B1 (f1 D.toInt) (A1 (B2 D.ix (.ok (.lst (nums ns))) (.ok (.int 24))) A0) : M D) = .ok (.int v24) := by
    simp -implicitDefEqProofs only [B1, B2, A0, A1, okb, f1_1, toInt_i, i24]
  generalize v22 % 13 = c at C1
  -- the first change
  have hx : L[i]? = some L[i] := List.getElem?_eq_getElem hi
  obtain ⟨w', ew, cw, bw⟩ := broken_ok (LC L[i] (List.getElem_mem hi)) c v24
  have B1' : (B2 D.add (B2 D.add (S3 (.ok (lD L)) oN (B1 D.bnd (.ok (.int (i : Nat))))) (B1 D.mkLst (A1 (B1 m_law_broken (A1 (B2 D.ix (.ok (lD L)) (.ok (.int (i : Nat)))) (A1 (.ok (.int c)) (A1 (.ok (.int v24)) A0)))) A0))) (S3 (.ok (lD L)) (B1 D.bnd (B2 D.add (.ok (.int (i : Nat))) (.ok (.int 1)))) oN) : M D) = .ok (lD (L.take i ++ [w'] ++ L.drop (i + 1))) := by
    have e : (B1 m_law_broken (A1 (.ok (.str (lnT L[i]))) (A1 (.ok (.int c)) (A1 (.ok (.int v24)) A0))) : M D) = .ok (.str (lnT w')) := ew
    rw [lD_take, lD_ix hx, e, lD_one, add1, lD_drop]
    have a1 : D.add (lD (L.take i)) (lD [w']) = .ok (lD (L.take i ++ [w'])) := lD_add (by rw [List.length_take, List.length_singleton]; omega)
    have a2 : D.add (lD (L.take i ++ [w'])) (lD (L.drop (i + 1))) = .ok (lD (L.take i ++ [w'] ++ L.drop (i + 1))) := lD_add (by rw [List.length_append, List.length_take, List.length_drop, List.length_singleton]; omega)
    simp -implicitDefEqProofs only [B2, okb, a1, a2]
  have tb1 : TB (L.take i ++ [w'] ++ L.drop (i + 1)) ((i : Int) + 1) := AT hi cw bw
  have D1 : (B2 D.add (.ok (.int (i : Nat))) (.ok (.int 1)) : M D) = .ok (.int ((i : Int) + 1)) := rfl
  have Q : ∀ b : Int, (B2 D.eq (.ok (.int c)) (.ok (.int b)) : M Bool) = .ok (decide (c = b)) := fun b => eq_ii
  generalize L.take i ++ [w'] ++ L.drop (i + 1) = X1 at B1' tb1
  generalize hd1 : (i : Int) + 1 = u1 at D1 tb1
  -- by behind low
  obtain ⟨X2, u2, S10, tb2⟩ : ∃ X2 u2, (mIf (B2 D.eq (.ok (.int c)) (.ok (.int 10))) ((B2 D.add (.ok (lD L)) (B1 D.mkLst (A1 (.ok (.str "low r 1")) (A1 (.ok (.str "by r")) A0)))) >>= fun bad_2 => ((B2 D.add (B1 (f1 D.len) (A1 (.ok (lD L)) A0)) (.ok (.int 2))) >>= fun due_2 => (.ok (bad_2, due_2)))) (.ok (lD X1, .int u1)) : M (D × D)) = .ok (lD X2, .int u2) ∧ TB X2 u2 := by
    rw [Q 10]
    cases decide (c = 10) with
    | false => exact ⟨X1, u1, rfl, tb1⟩
    | true =>
      refine ⟨_, _, ?_, LOW⟩
      have a : D.add (lD L) (lD [lowW ("r", 1), [("by" : Str), "r"]]) = .ok (lD (L ++ [lowW ("r", 1), [("by" : Str), "r"]])) := lD_add (by show _ + 2 ≤ _; omega)
      have a2 : D.add (.int (L.length : Nat)) (.int 2) = .ok (.int ((L.length : Int) + 2)) := rfl
      rw [mt, ln_lit1, ln_lit2, lD_two]
      simp -implicitDefEqProofs only [B1, B2, A0, A1, okb, f1_1, a, eLen, a2]
  -- by behind none
  obtain ⟨X3, u3, S11, tb3⟩ : ∃ X3 u3, (mIf (B2 D.eq (.ok (.int c)) (.ok (.int 11))) ((B2 D.add (B1 D.mkLst (A1 (.ok (.str "none")) (A1 (.ok (.str "by r")) A0))) (S3 (.ok (lD L)) (B1 D.bnd (.ok (.int 1))) oN)) >>= fun bad_4 => ((.ok (.int 2)) >>= fun due_4 => (.ok (bad_4, due_4)))) (.ok (lD X2, .int u2)) : M (D × D)) = .ok (lD X3, .int u3) ∧ TB X3 u3 := by
    rw [Q 11]
    cases decide (c = 11) with
    | false => exact ⟨X2, u2, rfl, tb2⟩
    | true =>
      refine ⟨_, _, ?_, NON⟩
      have a : D.add (lD [[("none" : Str)], [("by" : Str), "r"]]) (lD (L.drop 1)) = .ok (lD ([[("none" : Str)], [("by" : Str), "r"]] ++ L.drop 1)) := lD_add (by rw [List.length_drop]; show 2 + _ ≤ _; omega)
      have d1 : (S3 (.ok (lD L)) (B1 D.bnd (.ok (.int 1))) oN : M D) = .ok (lD (L.drop 1)) := lD_drop (i := 1)
      have m2 : (B1 D.mkLst (A1 (.ok (.str "none")) (A1 (.ok (.str "by r")) A0)) : M D) = .ok (lD [[("none" : Str)], [("by" : Str), "r"]]) := by
        rw [ln_lit2]
        conv => lhs; rw [ln_lit3]
        exact lD_two
      rw [mt, m2, d1]
      simp -implicitDefEqProofs only [B2, okb, a]
  -- a second first line
  obtain ⟨X4, u4, S12, tb4⟩ : ∃ X4 u4, (mIf (B2 D.eq (.ok (.int c)) (.ok (.int 12))) ((B2 D.add (B2 D.add (S3 (.ok (lD L)) oN (B1 D.bnd (B2 D.add (.ok (.int (i : Nat))) (.ok (.int 1))))) (B1 D.mkLst (A1 (B2 D.ix (B1 D.mkLst (A1 (.ok (.str "none")) (A1 (.ok (.str "arrives 7")) (A1 (.ok (.str "by")) (A1 (.ok (.str "low r")) A0))))) (B2 D.mod (.ok (.int v24)) (.ok (.int 4)))) A0))) (S3 (.ok (lD L)) (B1 D.bnd (B2 D.add (.ok (.int (i : Nat))) (.ok (.int 1)))) oN)) >>= fun bad_6 => ((B2 D.add (.ok (.int (i : Nat))) (.ok (.int 2))) >>= fun due_6 => (.ok (bad_6, due_6)))) (.ok (lD X3, .int u3)) : M (D × D)) = .ok (lD X4, .int u4) ∧ TB X4 u4 := by
    rw [Q 12]
    cases decide (c = 12) with
    | false => exact ⟨X3, u3, rfl, tb3⟩
    | true =>
      obtain ⟨w, cW, bW, eW⟩ : ∃ w, Clean w ∧ (Bad w ∨ w = [("none" : Str)] ∨ ∃ r, w = ("arrives" : Str) :: r) ∧ (B2 D.ix (B1 D.mkLst (A1 (.ok (.str "none")) (A1 (.ok (.str "arrives 7")) (A1 (.ok (.str "by")) (A1 (.ok (.str "low r")) A0))))) (B2 D.mod (.ok (.int v24)) (.ok (.int 4))) : M D) = .ok (.str (lnT w)) := by
        have m : D.mod (.int v24) (.int 4) = .ok (.int (v24 % 4)) := mod_ok (by omega)
        have mk : (B1 D.mkLst (A1 (.ok (.str "none")) (A1 (.ok (.str "arrives 7")) (A1 (.ok (.str "by")) (A1 (.ok (.str "low r")) A0)))) : M D) = .ok (.lst [.str "none", .str "arrives 7", .str "by", .str "low r"]) := rfl
        rw [mk]
        have all : ∀ w : List Str, D.ix (.lst [.str "none", .str "arrives 7", .str "by", .str "low r"]) (.int (v24 % 4)) = .ok (.str (lnT w)) → (B2 D.ix (.ok (.lst [.str "none", .str "arrives 7", .str "by", .str "low r"])) (B2 D.mod (.ok (.int v24)) (.ok (.int 4))) : M D) = .ok (.str (lnT w)) := fun w hw => by
          simp -implicitDefEqProofs only [B2, okb, m, hw]
        have j : v24 % 4 = 0 ∨ v24 % 4 = 1 ∨ v24 % 4 = 2 ∨ v24 % 4 = 3 := by omega
        rcases j with j | j | j | j <;> rw [j] at all
        · exact ⟨[("none" : Str)], c_lits (by simp), .inr (.inl rfl), all _ (by rw [← ln_lit3]; exact ix_nat (n := 0) rfl rfl)⟩
        · exact ⟨[("arrives" : Str), "7"], c_lits (by simp), .inr (.inr ⟨_, rfl⟩), all _ (by rw [← ln_lit4]; exact ix_nat (n := 1) rfl rfl)⟩
        · exact ⟨[("by" : Str)], c_lits (by simp), .inl (.byL (by show 0 ≠ 1; omega)), all _ (by rw [← ln_lit5]; exact ix_nat (n := 2) rfl rfl)⟩
        · exact ⟨[("low" : Str), "r"], c_lits (by simp), .inl (.lowL (by show 1 ≠ 2; omega)), all _ (by rw [← ln_lit6]; exact ix_nat (n := 3) rfl rfl)⟩
      refine ⟨_, _, ?_, INS hi cW bW⟩
      have a1 : D.add (lD (L.take (i + 1))) (lD [w]) = .ok (lD (L.take (i + 1) ++ [w])) := lD_add (by rw [List.length_take, List.length_singleton]; omega)
      have a2 : D.add (lD (L.take (i + 1) ++ [w])) (lD (L.drop (i + 1))) = .ok (lD (L.take (i + 1) ++ [w] ++ L.drop (i + 1))) := lD_add (by rw [List.length_append, List.length_take, List.length_drop, List.length_singleton]; omega)
      have a3 : (B2 D.add (.ok (.int (i : Nat))) (.ok (.int 2)) : M D) = .ok (.int ((i : Int) + 2)) := rfl
      rw [mt, eW, lD_one, add1, lD_take, lD_drop, a3]
      simp -implicitDefEqProofs only [B2, okb, a1, a2]
  -- a line behind the others
  obtain ⟨ext, S13, hx1, hx2⟩ : ∃ ext : List (List Str), (mIf (B2 D.eq (B2 D.mod (B1 (f1 D.toInt) (A1 (B2 D.ix (.ok (.lst (nums ns))) (.ok (.int 25))) A0)) (.ok (.int 3))) (.ok (.int 1))) ((B2 D.add (.ok (lD X4)) (B1 D.mkLst (A1 (B2 D.ix (B1 D.mkLst (A1 (.ok (.str "")) (A1 (.ok (.str "by")) (A1 (.ok (.str "none")) A0)))) (B2 D.mod (B2 D.fdiv (B1 (f1 D.toInt) (A1 (B2 D.ix (.ok (.lst (nums ns))) (.ok (.int 25))) A0)) (.ok (.int 3))) (.ok (.int 3)))) A0))) >>= fun bad_8 => (.ok bad_8)) (.ok (lD X4)) : M D) = .ok (lD (X4 ++ ext)) ∧ ext.length ≤ 1 ∧ ∀ u ∈ ext, Clean u := by
    have m : D.mod (.int v25) (.int 3) = .ok (.int (v25 % 3)) := mod_ok (by omega)
    have q : D.eq (.int (v25 % 3)) (.int 1) = .ok (decide (v25 % 3 = 1)) := eq_ii
    have e : (B2 D.eq (B2 D.mod (B1 (f1 D.toInt) (A1 (B2 D.ix (.ok (.lst (nums ns))) (.ok (.int 25))) A0)) (.ok (.int 3))) (.ok (.int 1)) : M Bool) = .ok (decide (v25 % 3 = 1)) := by
      simp -implicitDefEqProofs only [B1, B2, A0, A1, okb, f1_1, toInt_i, i25, m, q]
    rw [e]
    cases decide (v25 % 3 = 1) with
    | false => exact ⟨[], by rw [List.append_nil]; rfl, by simp, fun u hu => nomatch hu⟩
    | true =>
      obtain ⟨w, cW, eW⟩ : ∃ w, Clean w ∧ (B2 D.ix (B1 D.mkLst (A1 (.ok (.str "")) (A1 (.ok (.str "by")) (A1 (.ok (.str "none")) A0)))) (B2 D.mod (B2 D.fdiv (B1 (f1 D.toInt) (A1 (B2 D.ix (.ok (.lst (nums ns))) (.ok (.int 25))) A0)) (.ok (.int 3))) (.ok (.int 3))) : M D) = .ok (.str (lnT w)) := by
        have f : D.fdiv (.int v25) (.int 3) = .ok (.int (v25 / 3)) := rfl
        have m : D.mod (.int (v25 / 3)) (.int 3) = .ok (.int (v25 / 3 % 3)) := mod_ok (by omega)
        have mk : (B1 D.mkLst (A1 (.ok (.str "")) (A1 (.ok (.str "by")) (A1 (.ok (.str "none")) A0))) : M D) = .ok (.lst [.str "", .str "by", .str "none"]) := rfl
        rw [mk]
        have all : ∀ w : List Str, D.ix (.lst [.str "", .str "by", .str "none"]) (.int (v25 / 3 % 3)) = .ok (.str (lnT w)) → (B2 D.ix (.ok (.lst [.str "", .str "by", .str "none"])) (B2 D.mod (B2 D.fdiv (B1 (f1 D.toInt) (A1 (B2 D.ix (.ok (.lst (nums ns))) (.ok (.int 25))) A0)) (.ok (.int 3))) (.ok (.int 3))) : M D) = .ok (.str (lnT w)) := fun w hw => by
          simp -implicitDefEqProofs only [B1, B2, A0, A1, okb, f1_1, toInt_i, i25, f, m, hw]
        have j : v25 / 3 % 3 = 0 ∨ v25 / 3 % 3 = 1 ∨ v25 / 3 % 3 = 2 := by omega
        rcases j with j | j | j <;> rw [j] at all
        · exact ⟨[("" : Str)], clean_e, all _ (by rw [← ln_lit7]; exact ix_nat (n := 0) rfl rfl)⟩
        · exact ⟨[("by" : Str)], c_lits (by simp), all _ (by rw [← ln_lit5]; exact ix_nat (n := 1) rfl rfl)⟩
        · exact ⟨[("none" : Str)], c_lits (by simp), all _ (by rw [← ln_lit3]; exact ix_nat (n := 2) rfl rfl)⟩
      refine ⟨[w], ?_, by simp, fun u hu => by rw [List.mem_singleton.mp hu]; exact cW⟩
      have a1 : D.add (lD X4) (lD [w]) = .ok (lD (X4 ++ [w])) := lD_add (by have := tb4.n; rw [List.length_singleton]; omega)
      rw [mt, eW, lD_one]
      simp -implicitDefEqProofs only [B2, okb, a1]
  have pb := tb4.bad ext hx1 hx2
  have X5c : ∀ w ∈ X4 ++ ext, Clean w := fun w hw => by
    rcases List.mem_append.mp hw with h | h
    · exact tb4.cl w h
    · exact hx2 w h
  have X5n : (X4 ++ ext).length ≤ 200 := by have := tb4.n; rw [List.length_append]; omega
  have X50 : X4 ++ ext ≠ [] := fun z => tb4.ne (List.append_eq_nil_iff.mp z).1
  generalize X4 ++ ext = X5 at *
  have J5 := tb_join X50 X5n X5c
  have TT : ∀ b : Bool, m_law_l1 (.int u4) (lD X5) () (.bl b) = .ok (.go ()) := fun b => by
    have e1 : m_law_told [.str (txtW X5), .bl b] = .ok (.int u4) := told_bad pb b
    have e2 : m_law_told [.str "", .bl b] = .ok (.int 1) := told_bad parse_e b
    have z1 : D.ne (.int u4) (.int u4) = .ok false := by rw [ne_ii, decide_eq_true rfl]; rfl
    have z2 : D.ne (.int 1) (.int 1) = .ok false := rfl
    have f1 : (B2 D.ne (B1 m_law_told (A1 (.ok (.str (txtW X5))) (A1 (.ok (.bl b)) A0))) (.ok (.int u4)) : M Bool) = .ok false := by
      simp -implicitDefEqProofs only [B1, B2, A0, A1, okb, e1, z1]
    have f2 : (B2 D.ne (B1 m_law_told (A1 (.ok (.str "")) (A1 (.ok (.bl b)) A0))) (.ok (.int 1)) : M Bool) = .ok false := by
      simp -implicitDefEqProofs only [B1, B2, A0, A1, okb, e2, z2]
    unfold m_law_l1
    rw [J5, f1, f2]
    rfl
  have LP : loopR (m_law_l1 (.int u4) (lD X5)) [.bl false, .bl true] () = .ok (.inl ()) := by
    rw [loopR_go (TT false), loopR_go (TT true)]
    rfl
  have it : (B1 D.items (B1 D.mkLst (A1 (.ok (.bl false)) (A1 (.ok (.bl true)) A0))) : M (List D)) = .ok [.bl false, .bl true] := rfl
  have en' : (B1 m_law_numbers (A1 (.ok (.scr l)) (A1 (.ok (.int 30)) A0)) : M D) = .ok (.lst (nums ns)) := en
  have eL' : (B1 m_law_lines (A1 (.ok (.lst (nums ns))) A0) : M D) = .ok (lD L) := eL
  have or0 : (mOr (.ok false) (.ok false) : M Bool) = .ok false := rfl
  rw [D1] at S12
  rw [e_law]
  unfold g_law
  rw [en', okb, eL', okb, T0 false, T0 true, or0, mf, C1, okb, C2', okb, C3, okb, B1', okb, D1, okb, S10, okR]
  dsimp only
  rw [S11, okR]
  dsimp only
  rw [S12, okR]
  dsimp only
  rw [S13, okb, it, okb, LP, okb, T9]
  rfl
end LawMath

set_option Elab.async false
set_option linter.all false
set_option maxRecDepth 100000
set_option maxHeartbeats 0
namespace LawHead
open PySem PySem.Spec PyProof.Rows L2
theorem facts {P : Program} (pf : DL.PFx P LawWalk.f0) {w : World} {K : PySem.W.Frag} {h : Heap} {mg : Str → Option Value} {f : Addr} (X : K.In h) (G : h.Ns mainGlobals mg) (hfa : mg ("law" : Str) = some (.ref f)) (c : DL.SaysX LawWalk.fa LawWalk.fn LawWalk.gt LawWalk.sx LawWalk.f0 LawWalk.exW K) :
    ∃ fd : FuncData, (∀ (s : Shared) (v : Value), BindsTo s fd ⟨[v], []⟩ [("_law_script", v)]) ∧ ∀ base : Heap, K.In base → base.Ns mainGlobals mg → FnOk P w K mg base (DL.CXA P) 11 f fd ["_law_script"] (DL.spD K [true] LawWalk.m_law) := by
  have L : LawWalk.Lw P K mg := ⟨⟨h, X, G⟩, c, pf⟩
  obtain ⟨fd, F⟩ := L.c.def_ 38 (d := LawWalk.d_law) rfl
  have e := hfa.symm.trans (L.glo LawWalk.fa_83)
  cases e
  have b := FunD.bindsA (ps := ["_law_script"]) F fun _ _ _ _ _ _ us hl => match us, hl with | [_], _ => rfl
  exact ⟨fd, fun s v => b s [v] rfl, fun base _ _ => DL.fn_any (LawWalk.ok_law L F)⟩
end LawHead
open PySem PySem.W PySem.Calls PyProof.Rows
theorem PySem.Challenge.cw_waypapers_k68_texts_that_are_no_papers_holds : PySem.Challenge.rw_waypapers_k68_texts_that_are_no_papers.Holds := by
  w_on; o_law
  refine HandSHeadRun.head_any (r := OpenLaw.row PySem.Challenge.rw_waypapers_k68_texts_that_are_no_papers) (q := view (OpenLaw.row PySem.Challenge.rw_waypapers_k68_texts_that_are_no_papers).prog [53]) (H := LawHead.hk) (ob := LawHead.ob) (M := 20000) (loose := LawHead.loose) (d := HandSHeadRun.topDef (OpenLaw.row PySem.Challenge.rw_waypapers_k68_texts_that_are_no_papers).prog 53) (kwd := []) LawHead.ob_eq
    (by kernel_rfl) (fun s => by kernel_rfl) LawHead.run (by kernel_rfl) (by kernel_rfl) (by kernel_rfl) (by rfl) (by first | assumption | decide +kernel) (by decide +kernel) ⟨rfl, rfl, rfl, rfl, rfl, by decide +kernel⟩ ?hw ?hc
  case hw => w_witness2
  case hc =>
    refine L2.walk_ofE (l := PySem.Challenge.rw_waypapers_k68_texts_that_are_no_papers) (n := 63) (k := 11) (x := "_law_script") (CX := DL.CXA (PySem.Challenge.rw_waypapers_k68_texts_that_are_no_papers).prog) rfl (by decide) (by kernel_rfl) ⟨rfl, by decide, by decide⟩ ?F (fun _ _ _ _ z => z.no)
    intro w mg fa h Y G hmg0
    obtain ⟨K, KX, c⟩ := Y
    have hmg : mg ("law" : PySem.Str) = some (.ref fa) := by
      have e : (HandSHeadRun.topDef (OpenLaw.row PySem.Challenge.rw_waypapers_k68_texts_that_are_no_papers).prog 53).name = ("law" : PySem.Str) := by kernel_rfl
      rw [← e]
      exact hmg0
    obtain ⟨fd, hb, hF⟩ := LawHead.facts (P := (PySem.Challenge.rw_waypapers_k68_texts_that_are_no_papers).prog) ⟨beq_self_eq_true _, by rfl⟩ (w := w) KX G hmg c
    exact ⟨K, fd, DL.spD K [true] LawWalk.m_law, KX, hb, fun H a ns hl _ hS => ⟨H, [.scr ns], L2.Same.refl H, .bor (.of (.scr hS)) .nil, by
      rw [LawMath.law_true ns hl]
      exact fun F' H' v _ r => by cases r; rfl⟩, hF⟩

