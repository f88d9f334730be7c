import PyProof.Rows.All
import Wide.All
import OpenK.AllK
import Wide.FinOn
import HandS.Base
import HandS.Call
import HandS.List
import HandS.Comp
import HandS.Ends
import HandS.Dict
import HandS.Iter
import HandS.Text
import HandS.More
import HandS.Flow
import HandS.Exc
import HandS.Words
import HandS.WordsExc
import HandS.Defaults
import HandS.HeadHook1
import HandS.HeadHook2
import HandS.TupAny
import HandS.Deep
import HandS.FStr
import HandS.IsInst
import HandS.WordsDict
import HandS.Wide
import HandS.ExcOwn
import HandS.Property
import KE.GoesEnum
import HandS.Codes
import KE.KStateDown
import Lean
import HandS.Head0
import HandS.Head1
import HandS.Head2
import HandS.HeadEnd
import PySem.Challenge.RW_waypapers_k67_paper_texts
set_option Elab.async false
set_option linter.all false
set_option maxRecDepth 100000
set_option maxHeartbeats 4000000
/-! DL1: data without a heap (D), how data lies in the abstract heap (Rp), frozen and owned parts, the weakest ends (WpG). -/
namespace DL
open PySem PySem.Spec L2

/-- Python data as plain values -/
inductive D where
  | non | bl (b : Bool) | int (i : Int) | str (x : Str)
  | tup (l : List D) | lst (l : List D)
  /-- a dict with int and text keys; one with tuples of these -/
  | dct (l : List (D × D)) | dcu (l : List (D × D))
  | ins (c : String) (l : List (String × D))
  /-- the script -/
  | scr (l : List Int)
  deriving Inhabited

/-- an exception of an own class, its fields -/
structure Ex where
  cls : String
  args : List (String × D)
inductive Er where
  | stuck
  | exc (x : Ex)
abbrev M := Except Er
abbrev stuck {α : Type} : M α := .error .stuck
/-- a test that must hold -/
def need (b : Bool) : M Unit := if b then .ok () else stuck

def kD : Key → D
  | .inl i => .int i
  | .inr x => .str x

section
variable (K : PySem.W.Frag)
mutual
inductive Rp (F : Hp) : V → D → Prop
  | non : Rp F .non .non
  | bl (b : Bool) : Rp F (.bl b) (.bl b)
  | int (i : Int) : Rp F (.int i) (.int i)
  | str (x : Str) : PyData.strOk x = true → Rp F (.str x) (.str x)
  | tup {a : Addr} {xs : List V} {ds : List D} : SqT K F a xs → RpL F xs ds → Rp F (.ref a) (.tup ds)
  | lst {a : Addr} {xs : List V} {ds : List D} : F a = some (.lst xs) → RpL F xs ds → Rp F (.ref a) (.lst ds)
  | scr {a : Addr} {l : List Int} : SqL K F a (l.map V.int) → Rp F (.ref a) (.scr l)
  | dctK {a : Addr} {kvs : List (Key × V)} {l : List (D × D)} : F a = some (.dK kvs) → kvs.map (fun q => kD q.1) = l.map (·.1) → RpL F (kvs.map (·.2)) (l.map (·.2)) → Rp F (.ref a) (.dct l)
  | dctT {a : Addr} {kvs : List (List Key × V)} {l : List (D × D)} : F a = some (.dT kvs) → kvs.map (fun q => D.tup (q.1.map kD)) = l.map (·.1) → RpL F (kvs.map (·.2)) (l.map (·.2)) → Rp F (.ref a) (.dcu l)
  | ins {a dx : Addr} {c : String} {fs : List (Str × V)} {l : List (String × D)} : F a = some (.ins (He.ga K (Str.ofString c)) dx fs) → fs.map (·.1) = l.map (fun q => Str.ofString q.1) → RpL F (fs.map (·.2)) (l.map (·.2)) → Rp F (.ref a) (.ins c l)
inductive RpL (F : Hp) : List V → List D → Prop
  | nil : RpL F [] []
  | cons {v : V} {vs : List V} {d : D} {ds : List D} : Rp F v d → RpL F vs ds → RpL F (v :: vs) (d :: ds)
end
end

section
variable {K : PySem.W.Frag} {F F' H H' : Hp}
theorem Same.seqT {H H' : Hp} {a : Addr} {xs : List V} (e : Same H H') (h : SqT K H a xs) : SqT K H' a xs := by
  rcases h with (h | ⟨o, h⟩) | h
  · exact .inl (.inl (e _ _ h))
  · exact .inl (.inr ⟨o, e _ _ h⟩)
  · exact .inr h
mutual
theorem Rp.mono (e : Same F F') : ∀ {v : V} {d : D}, Rp K F v d → Rp K F' v d
  | _, _, .non => .non
  | _, _, .bl b => .bl b
  | _, _, .int i => .int i
  | _, _, .str x h => .str x h
  | _, _, .tup h hs => .tup (Same.seqT e h) (RpL.mono e hs)
  | _, _, .lst h hs => .lst (e _ _ h) (RpL.mono e hs)
  | _, _, .scr h => .scr (e.seq h)
  | _, _, .dctK h h2 hs => .dctK (e _ _ h) h2 (RpL.mono e hs)
  | _, _, .dctT h h2 hs => .dctT (e _ _ h) h2 (RpL.mono e hs)
  | _, _, .ins h h2 hs => .ins (e _ _ h) h2 (RpL.mono e hs)
theorem RpL.mono (e : Same F F') : ∀ {v : List V} {d : List D}, RpL K F v d → RpL K F' v d
  | _, _, .nil => .nil
  | _, _, .cons h hs => .cons (Rp.mono e h) (RpL.mono e hs)
end
theorem RpL.length : ∀ {xs : List V} {ds : List D}, RpL K F xs ds → xs.length = ds.length
  | _, _, .nil => rfl
  | _, _, .cons _ h => congrArg Nat.succ h.length
theorem RpL.append : ∀ {xs ys : List V} {ds es : List D}, RpL K F xs ds → RpL K F ys es → RpL K F (xs ++ ys) (ds ++ es)
  | _, _, _, _, .nil, h => h
  | _, _, _, _, .cons h hs, h2 => .cons h (hs.append h2)
theorem RpL.one {v : V} {d : D} (h : Rp K F v d) : RpL K F [v] [d] := .cons h .nil
theorem RpL.get : ∀ {xs : List V} {ds : List D} {i : Nat} {d : D}, RpL K F xs ds → ds[i]? = some d → ∃ x, xs[i]? = some x ∧ Rp K F x d
  | _, _, _, _, .nil, e => by simp at e
  | _, _, 0, _, .cons h _, e => by
    simp at e
    subst e
    exact ⟨_, rfl, h⟩
  | _, _, i + 1, d, .cons _ hs, e => by
    obtain ⟨x, h1, h2⟩ := RpL.get (i := i) (d := d) hs (by simpa using e)
    exact ⟨x, by simpa using h1, h2⟩
theorem RpL.getV : ∀ {xs : List V} {ds : List D} {i : Nat} {x : V}, RpL K F xs ds → xs[i]? = some x → ∃ d, ds[i]? = some d ∧ Rp K F x d
  | _, _, _, _, .nil, e => by simp at e
  | _, _, 0, _, .cons h _, e => by
    simp at e
    subst e
    exact ⟨_, rfl, h⟩
  | _, _, i + 1, d, .cons _ hs, e => by
    obtain ⟨x, h1, h2⟩ := RpL.getV (i := i) (x := d) hs (by simpa using e)
    exact ⟨x, by simpa using h1, h2⟩
theorem RpL.take : ∀ {xs : List V} {ds : List D} (n : Nat), RpL K F xs ds → RpL K F (xs.take n) (ds.take n)
  | _, _, 0, _ => .nil
  | _, _, _ + 1, .nil => .nil
  | _, _, n + 1, .cons h hs => .cons h (hs.take n)
theorem RpL.drop : ∀ {xs : List V} {ds : List D} (n : Nat), RpL K F xs ds → RpL K F (xs.drop n) (ds.drop n)
  | _, _, 0, h => h
  | _, _, _ + 1, .nil => .nil
  | _, _, n + 1, .cons _ hs => RpL.drop n hs
theorem RpL.set {x : V} {d : D} (h : Rp K F x d) : ∀ {xs : List V} {ds : List D} (i : Nat), RpL K F xs ds → RpL K F (xs.set i x) (ds.set i d)
  | _, _, _, .nil => .nil
  | _, _, 0, .cons _ hs => .cons h hs
  | _, _, i + 1, .cons q hs => .cons q (RpL.set h i hs)
theorem RpL.reverse : ∀ {xs : List V} {ds : List D}, RpL K F xs ds → RpL K F xs.reverse ds.reverse
  | _, _, .nil => .nil
  | _, _, .cons h hs => by
    rw [List.reverse_cons, List.reverse_cons]
    exact (RpL.reverse hs).append (.one h)

/-- F grows, H grows, only new objects become frozen -/
structure Ext (F H F' H' : Hp) : Prop where
  sF : Same F F'
  sH : Same H H'
  sFH : Same F' H'
  old : ∀ a o, H a = some o → F' a = F a
theorem Ext.refl (h : Same F H) : Ext F H F H := ⟨Same.refl _, Same.refl _, h, fun _ _ _ => rfl⟩
theorem Ext.trans {F1 H1 F2 H2 : Hp} (a : Ext F H F1 H1) (b : Ext F1 H1 F2 H2) : Ext F H F2 H2 :=
  ⟨a.sF.trans b.sF, a.sH.trans b.sH, b.sFH, fun c o h => by rw [b.old c o (a.sH c o h), a.old c o h]⟩
theorem same_new {H : Hp} {p : Addr} {o : HO} (h : H p = none) : Same H (upd H p o) := fun b x e => by
  rw [upd_ne (ne_of_none e h)]
  exact e
/-- a new object, frozen at once -/
theorem Ext.new {p : Addr} {o : HO} (s : Same F H) (h : H p = none) : Ext F H (upd F p o) (upd H p o) where
  sF := same_new (s.free h)
  sH := same_new h
  sFH := fun b x e => by
    by_cases hb : b = p
    · subst hb
      rw [upd_same] at e ⊢
      exact e
    · rw [upd_ne hb] at e ⊢
      exact s _ _ e
  old := fun a x e => upd_ne (ne_of_none e h)
/-- a new object that is not frozen -/
theorem Ext.newH {p : Addr} {o : HO} (s : Same F H) (h : H p = none) : Ext F H F (upd H p o) where
  sF := Same.refl _
  sH := same_new h
  sFH := s.trans (same_new h)
  old := fun a x e => rfl

/-- a slot's state -/
inductive Sl where
  | un
  | any
  | val (d : D)
  | own (l : List D)
  | ownd (l : List (D × D))
  | ownu (l : List (D × D))
  /-- an instance that is being made -/
  | obj (a : Addr) (c : String) (l : List (String × D))
  /-- lent: to be read, not to be kept -/
  | bor (d : D)
def DctAt (K : PySem.W.Frag) (F : Hp) (o : Option HO) (l : List (D × D)) : Prop :=
  ∃ kvs : List (Key × V), o = some (.dK kvs) ∧ kvs.map (fun q => kD q.1) = l.map (·.1) ∧ RpL K F (kvs.map (·.2)) (l.map (·.2))
def DcuAt (K : PySem.W.Frag) (F : Hp) (o : Option HO) (l : List (D × D)) : Prop :=
  ∃ kvs : List (List Key × V), o = some (.dT kvs) ∧ kvs.map (fun q => D.tup (q.1.map kD)) = l.map (·.1) ∧ RpL K F (kvs.map (·.2)) (l.map (·.2))
/-- a value as it lies, or an owned list or dict whose items lie so -/
inductive RpT (K : PySem.W.Frag) (F H : Hp) : V → D → Prop
  | of {v : V} {d : D} : Rp K F v d → RpT K F H v d
  | own {a : Addr} {xs : List V} {l : List D} : H a = some (.lst xs) → RpL K F xs l → RpT K F H (.ref a) (.lst l)
  | ownd {a : Addr} {l : List (D × D)} : DctAt K F (H a) l → RpT K F H (.ref a) (.dct l)
  | ownu {a : Addr} {l : List (D × D)} : DcuAt K F (H a) l → RpT K F H (.ref a) (.dcu l)
  | obj {a dx : Addr} {c : String} {fs : List (Str × V)} {l : List (String × D)} : H a = some (.ins (He.ga K (Str.ofString c)) dx fs) → fs.map (·.1) = l.map (fun q => Str.ofString q.1) → RpL K F (fs.map (·.2)) (l.map (·.2)) → RpT K F H (.ref a) (.ins c l)
def SlOk (K : PySem.W.Frag) (B F H : Hp) (o : Option V) : Sl → Prop
  | .un => o = none
  | .any => True
  | .val d => ∃ v, o = some v ∧ Rp K F v d
  | .own l => ∃ a xs, o = some (.ref a) ∧ H a = some (.lst xs) ∧ F a = none ∧ B a = none ∧ RpL K F xs l
  | .ownd l => ∃ a, o = some (.ref a) ∧ DctAt K F (H a) l ∧ F a = none ∧ B a = none
  | .ownu l => ∃ a, o = some (.ref a) ∧ DcuAt K F (H a) l ∧ F a = none ∧ B a = none
  | .obj a c l => ∃ dx fs, o = some (.ref a) ∧ H a = some (.ins (He.ga K (Str.ofString c)) dx fs) ∧ F a = none ∧ B a = none ∧ fs.map (·.1) = l.map (fun q => Str.ofString q.1) ∧ RpL K F (fs.map (·.2)) (l.map (·.2))
  | .bor d => ∃ v, o = some v ∧ RpT K F B v d
def Sl.owns : Sl → Bool
  | .own _ => true
  | .ownd _ => true
  | .ownu _ => true
  | .obj _ _ _ => true
  | _ => false
theorem DctAt.mono {o : Option HO} {l : List (D × D)} (e : Same F F') (h : DctAt K F o l) : DctAt K F' o l :=
  let ⟨kvs, h1, h2, h3⟩ := h; ⟨kvs, h1, h2, h3.mono e⟩
theorem DctAt.some {o : Option HO} {l : List (D × D)} (h : DctAt K F o l) : ∃ u, o = some u := let ⟨_, h1, _, _⟩ := h; ⟨_, h1⟩
theorem DcuAt.mono {o : Option HO} {l : List (D × D)} (e : Same F F') (h : DcuAt K F o l) : DcuAt K F' o l :=
  let ⟨kvs, h1, h2, h3⟩ := h; ⟨kvs, h1, h2, h3.mono e⟩
theorem DcuAt.some {o : Option HO} {l : List (D × D)} (h : DcuAt K F o l) : ∃ u, o = some u := let ⟨_, h1, _, _⟩ := h; ⟨_, h1⟩
theorem RpT.monoF {v : V} {d : D} (e : Same F F') (h : RpT K F H v d) : RpT K F' H v d := by
  cases h with
  | of h => exact .of (h.mono e)
  | own h r => exact .own h (r.mono e)
  | ownd r => exact .ownd (r.mono e)
  | ownu r => exact .ownu (r.mono e)
  | obj h h2 r => exact .obj h h2 (r.mono e)
theorem RpT.monoH {v : V} {d : D} (e : Same H H') (h : RpT K F H v d) : RpT K F H' v d := by
  cases h with
  | of h => exact .of h
  | own h r => exact .own (e _ _ h) r
  | ownd r =>
    obtain ⟨u, hu⟩ := r.some
    refine .ownd ?_
    rw [e _ _ hu, ← hu]
    exact r
  | ownu r =>
    obtain ⟨u, hu⟩ := r.some
    refine .ownu ?_
    rw [e _ _ hu, ← hu]
    exact r
  | obj h h2 r => exact .obj (e _ _ h) h2 r
theorem SlOk.ext {B : Hp} {o : Option V} {s : Sl} (x : Ext F H F' H') (h : SlOk K B F H o s) : SlOk K B F' H' o s := by
  cases s with
  | un => exact h
  | any => trivial
  | val d => obtain ⟨v, e, r⟩ := h; exact ⟨v, e, r.mono x.sF⟩
  | own l =>
    obtain ⟨a, xs, e, e2, n, b, r⟩ := h
    exact ⟨a, xs, e, x.sH _ _ e2, by rw [x.old _ _ e2]; exact n, b, r.mono x.sF⟩
  | ownd l =>
    obtain ⟨a, e, d, n, b⟩ := h
    obtain ⟨u, hu⟩ := d.some
    refine ⟨a, e, ?_, by rw [x.old _ _ hu]; exact n, b⟩
    rw [x.sH _ _ hu, ← hu]
    exact d.mono x.sF
  | ownu l =>
    obtain ⟨a, e, d, n, b⟩ := h
    obtain ⟨u, hu⟩ := d.some
    refine ⟨a, e, ?_, by rw [x.old _ _ hu]; exact n, b⟩
    rw [x.sH _ _ hu, ← hu]
    exact d.mono x.sF
  | obj a c l =>
    obtain ⟨dx, fs, e, h1, n, b, h2, r⟩ := h
    exact ⟨dx, fs, e, x.sH _ _ h1, by rw [x.old _ _ h1]; exact n, b, h2, r.mono x.sF⟩
  | bor d =>
    obtain ⟨v, e, r⟩ := h
    exact ⟨v, e, r.monoF x.sF⟩
/-- the slots as they are told; owned objects are different ones -/
structure GOk (K : PySem.W.Frag) (B : Hp) (G : List Sl) (σ : St) (F H : Hp) : Prop where
  sB : Same B H
  len : σ.length = G.length
  ok : ∀ (i : Nat) (s : Sl), G[i]? = some s → ∃ o, σ[i]? = some o ∧ SlOk K B F H o s
  dis : ∀ (i j : Nat) (s t : Sl) (a : Addr), G[i]? = some s → G[j]? = some t → s.owns = true → t.owns = true → σ[i]? = some (some (.ref a)) → σ[j]? = some (some (.ref a)) → i = j
theorem GOk.ext {B : Hp} {G : List Sl} {σ : St} (x : Ext F H F' H') (g : GOk K B G σ F H) : GOk K B G σ F' H' :=
  ⟨g.sB.trans x.sH, g.len, fun i s h => let ⟨o, h1, h2⟩ := g.ok i s h; ⟨o, h1, h2.ext x⟩, g.dis⟩

/-- how an exception lies -/
def RpX (K : PySem.W.Frag) (F' H' : Hp) (c : Value) (d : Option Addr) (x : Ex) : Prop :=
  c = .ref (He.ga K (Str.ofString x.cls)) ∧ match x.args with
    | [] => True
    | [(f, e)] => ∃ a v, d = some a ∧ H' a = some (.xd [(Str.ofString f, v)]) ∧ Rp K F' v e
    | _ => False

/-- what is to be shown ahead of something that gives m -/
def WpG {α β : Type} (K : PySem.W.Frag) (E : XK) (rel : Hp → Hp → β → α → Prop) (m : M α) (F H : Hp) (Q : β → Hp → Prop) : Prop :=
  match m with
  | .ok d => ∀ F' H' v, Ext F H F' H' → rel F' H' v d → Q v H'
  | .error .stuck => False
  | .error (.exc x) => ∀ F' H' c d, Ext F H F' H' → RpX K F' H' c d x → E c d H'
theorem WpG.ext {α β : Type} {E : XK} {rel : Hp → Hp → β → α → Prop} {m : M α} {Q : β → Hp → Prop} (x : Ext F H F' H') (h : WpG K E rel m F H Q) : WpG K E rel m F' H' Q := by
  cases m with
  | ok d => exact fun F2 H2 v y r => h F2 H2 v (x.trans y) r
  | error e =>
    cases e with
    | stuck => exact h
    | exc e => exact fun F2 H2 c d y r => h F2 H2 c d (x.trans y) r
theorem WpG.bind {α β γ δ : Type} {E : XK} {rel : Hp → Hp → β → α → Prop} {rel2 : Hp → Hp → δ → γ → Prop} {m : M α} {k : α → M γ} {Q : δ → Hp → Prop} {Q1 : β → Hp → Prop}
    (h : WpG K E rel2 (m >>= k) F H Q) (hk : ∀ x F' H' v, Ext F H F' H' → rel F' H' v x → WpG K E rel2 (k x) F' H' Q → Q1 v H') : WpG K E rel m F H Q1 := by
  cases m with
  | ok d => exact fun F2 H2 v y r => hk d F2 H2 v y r (WpG.ext y h)
  | error e =>
    cases e with
    | stuck => exact h
    | exc e => exact fun F2 H2 c d y r => h F2 H2 c d y r
theorem WpG.ok {α β : Type} {E : XK} {rel : Hp → Hp → β → α → Prop} {d : α} {Q : β → Hp → Prop} (h : WpG K E rel (.ok d) F H Q) {F' H' : Hp} {v : β} (x : Ext F H F' H') (r : rel F' H' v d) : Q v H' := h F' H' v x r
theorem WpG.need {α β : Type} {E : XK} {rel : Hp → Hp → β → α → Prop} {b : Bool} {k : Unit → M α} {Q : β → Hp → Prop} (h : WpG K E rel (need b >>= k) F H Q) : b = true ∧ WpG K E rel (k ()) F H Q := by
  cases b with
  | true => exact ⟨rfl, h⟩
  | false => exact h.elim

theorem RpT.ext {v : V} {d : D} (x : Ext F H F' H') (h : RpT K F H v d) : RpT K F' H' v d := (h.monoF x.sF).monoH x.sH
theorem RpT.lst {v : V} {l : List D} (s : Same F H) (h : RpT K F H v (.lst l)) : ∃ a xs, v = .ref a ∧ H a = some (.lst xs) ∧ RpL K F xs l := by
  cases h with
  | of h => cases h with
    | lst h hs => exact ⟨_, _, rfl, s _ _ h, hs⟩
  | own h r => exact ⟨_, _, rfl, h, r⟩
theorem RpT.scr {v : V} {l : List Int} (s : Same F H) (h : RpT K F H v (.scr l)) : ∃ a, v = .ref a ∧ SqL K H a (l.map V.int) := by
  cases h with
  | of h => cases h with
    | scr h => exact ⟨_, rfl, s.seq h⟩
theorem RpT.tup {v : V} {l : List D} (s : Same F H) (h : RpT K F H v (.tup l)) : ∃ a xs, v = .ref a ∧ SqT K H a xs ∧ RpL K F xs l := by
  cases h with
  | of h => cases h with
    | tup h hs => exact ⟨_, _, rfl, Same.seqT s h, hs⟩
theorem RpT.int {v : V} {i : Int} (h : RpT K F H v (.int i)) : v = .int i := by
  cases h with
  | of h => cases h; rfl
theorem RpT.str {v : V} {i : Str} (h : RpT K F H v (.str i)) : v = .str i ∧ PyData.strOk i = true := by
  cases h with
  | of h => cases h with
    | str _ h => exact ⟨rfl, h⟩
theorem RpT.bl {v : V} {i : Bool} (h : RpT K F H v (.bl i)) : v = .bl i := by
  cases h with
  | of h => cases h; rfl
theorem RpT.non {v : V} (h : RpT K F H v .non) : v = .non := by
  cases h with
  | of h => cases h; rfl
theorem RpT.dct {v : V} {l : List (D × D)} (s : Same F H) (h : RpT K F H v (.dct l)) : ∃ a, v = .ref a ∧ DctAt K F (H a) l := by
  cases h with
  | of h => cases h with
    | dctK h h2 hs => exact ⟨_, rfl, _, s _ _ h, h2, hs⟩
  | ownd r => exact ⟨_, rfl, r⟩
theorem RpT.dcu {v : V} {l : List (D × D)} (s : Same F H) (h : RpT K F H v (.dcu l)) : ∃ a, v = .ref a ∧ DcuAt K F (H a) l := by
  cases h with
  | of h => cases h with
    | dctT h h2 hs => exact ⟨_, rfl, _, s _ _ h, h2, hs⟩
  | ownu r => exact ⟨_, rfl, r⟩
theorem RpT.ins {v : V} {c : String} {l : List (String × D)} (s : Same F H) (h : RpT K F H v (.ins c l)) : ∃ a dx fs, v = .ref a ∧ H a = some (.ins (He.ga K (Str.ofString c)) dx fs) ∧ fs.map (·.1) = l.map (fun q => Str.ofString q.1) ∧ RpL K F (fs.map (·.2)) (l.map (·.2)) := by
  cases h with
  | of h => cases h with
    | ins h h2 hs => exact ⟨_, _, _, rfl, s _ _ h, h2, hs⟩
  | obj h h2 r => exact ⟨_, _, _, rfl, h, h2, r⟩
end

/-! ### the judgements -/
/-- an expression gives m: frozen data -/
def DE (X : Cx) (E : XK) (G : List Sl) (e : Expr) (m : M D) : Prop :=
  ∃ t, PE X e t ∧ ∀ B σ F H Q, Same F H → GOk X.K B G σ F H → WpG X.K E (fun F' _ v d => Rp X.K F' v d) m F H Q → t σ H Q
/-- .. or an owned list or dict, to be read -/
def DR (X : Cx) (E : XK) (G : List Sl) (e : Expr) (m : M D) : Prop :=
  ∃ t, PE X e t ∧ ∀ B σ F H Q, Same F H → GOk X.K B G σ F H → WpG X.K E (fun F' H' v d => RpT X.K F' H' v d) m F H Q → t σ H Q
/-- a test -/
def DT (X : Cx) (E : XK) (G : List Sl) (e : Expr) (m : M Bool) : Prop :=
  ∃ t, PT X e t ∧ ∀ B σ F H Q, Same F H → GOk X.K B G σ F H → WpG X.K E (fun _ _ (v : Bool) d => v = d) m F H Q → t σ H Q
/-- a test whatever its whole is -/
def DW (X : Cx) (E : XK) (G : List Sl) (e : Expr) (m : M Bool) : Prop :=
  ∃ t, PW X e t ∧ ∀ B σ F H Q, Same F H → GOk X.K B G σ F H → WpG X.K E (fun _ _ (v : Bool) d => v = d) m F H Q → t σ H Q
/-- arguments, frozen -/
def DA (X : Cx) (E : XK) (G : List Sl) (es : List Expr) (m : M (List D)) : Prop :=
  ∃ t, PA X es t ∧ ∀ B σ F H Q, Same F H → GOk X.K B G σ F H → WpG X.K E (fun F' _ v d => RpL X.K F' v d) m F H Q → t σ H Q
inductive RpTL (K : PySem.W.Frag) (F H : Hp) : List V → List D → Prop
  | nil : RpTL K F H [] []
  | cons {v : V} {vs : List V} {d : D} {ds : List D} : RpT K F H v d → RpTL K F H vs ds → RpTL K F H (v :: vs) (d :: ds)
/-- arguments to be read -/
def DRA (X : Cx) (E : XK) (G : List Sl) (es : List Expr) (m : M (List D)) : Prop :=
  ∃ t, PA X es t ∧ ∀ B σ F H Q, Same F H → GOk X.K B G σ F H → WpG X.K E (fun F' H' v d => RpTL X.K F' H' v d) m F H Q → t σ H Q
/-- how a block ends -/
inductive Oc where
  | nx (G : List Sl)
  | ct (G : List Sl)
  | bk (G : List Sl)
  | rt (d : D)
def WpB {α : Type} (K : PySem.W.Frag) (E : XK) (B0 B : Hp) (post : α → Oc) (m : M α) (F : Hp) (D : Ends) : Prop :=
  match m with
  | .ok x => (match post x with
    | .nx G => ∀ σ F' H', Same F F' → Ext B0 B F' H' → GOk K B G σ F' H' → D.nx σ H'
    | .ct G => ∀ σ F' H', Same F F' → Ext B0 B F' H' → GOk K B G σ F' H' → D.ct σ H'
    | .bk G => ∀ σ F' H', Same F F' → Ext B0 B F' H' → GOk K B G σ F' H' → D.bk σ H'
    | .rt d => ∀ v F' H', Same F F' → Ext B0 B F' H' → Rp K F' v d → D.rt v H')
  | .error .stuck => False
  | .error (.exc x) => ∀ F' H' c d, Same F F' → Ext B0 B F' H' → RpX K F' H' c d x → E c d H'
/-- a block: its end is told by post of what m gives -/
def DB (X : Cx) (E : XK) (G : List Sl) (body : List Stmt) {α : Type} (m : M α) (post : α → Oc) : Prop :=
  ∃ t, PSs X body t ∧ ∀ B0 B σ F H D, Ext B0 B F H → GOk X.K B G σ F H → WpB X.K E B0 B post m F D → t D σ H
end DL
set_option Elab.async false
set_option linter.all false
set_option maxRecDepth 100000
set_option maxHeartbeats 4000000
/-! DL2: operations on data, rules for expressions. -/
namespace DL
open PySem PySem.Spec L2

/-! ### what operations give -/
def D.leaf : D → Bool
  | .non => true
  | .bl _ => true
  | .int _ => true
  | .str _ => true
  | _ => false
/-- lists and tuples of leaves, to depth n -/
def D.shp : Nat → D → Bool
  | 0, d => d.leaf
  | n + 1, .tup l => l.all (D.shp n)
  | n + 1, .lst l => l.all (D.shp n)
  | _ + 1, d => d.leaf
mutual
def D.py : D → PyData
  | .non => .none
  | .bl b => .bool b
  | .int i => .int i
  | .str x => .str x
  | .tup l => .tuple (D.pyL l)
  | .lst l => .list (D.pyL l)
  | .dct _ => .none
  | .dcu _ => .none
  | .ins _ _ => .none
  | .scr _ => .none
def D.pyL : List D → List PyData
  | [] => []
  | d :: l => D.py d :: D.pyL l
end
mutual
def D.beq : D → D → Bool
  | .non, .non => true
  | .bl a, .bl b => a == b
  | .bl a, .int j => decide ((if a then 1 else 0) = j)
  | .int i, .bl b => decide (i = (if b then 1 else 0))
  | .int i, .int j => decide (i = j)
  | .str x, .str y => decide (x = y)
  | .tup l, .tup m => D.beqL l m
  | .lst l, .lst m => D.beqL l m
  | _, _ => false
def D.beqL : List D → List D → Bool
  | [], [] => true
  | x :: l, y :: m => D.beq x y && D.beqL l m
  | _, _ => false
end
theorem D.pyL_eq : ∀ l : List D, D.pyL l = l.map D.py
  | [] => by simp only [D.pyL, List.map_nil]
  | d :: l => by simp only [D.pyL, List.map_cons, D.pyL_eq l]
theorem D.leaf_cases {d : D} (h : d.leaf = true) : d = .non ∨ (∃ b, d = .bl b) ∨ (∃ i, d = .int i) ∨ ∃ x, d = .str x := by
  cases d with
  | non => exact .inl rfl
  | bl b => exact .inr (.inl ⟨b, rfl⟩)
  | int i => exact .inr (.inr (.inl ⟨i, rfl⟩))
  | str x => exact .inr (.inr (.inr ⟨x, rfl⟩))
  | _ => cases h
theorem D.shp_cases {n : Nat} {d : D} (h : d.shp n = true) : d.leaf = true ∨ ∃ m l, n = m + 1 ∧ (d = .tup l ∨ d = .lst l) ∧ l.all (D.shp m) = true := by
  cases n with
  | zero => exact .inl h
  | succ n =>
    cases d with
    | tup l => exact .inr ⟨n, l, rfl, .inl rfl, h⟩
    | lst l => exact .inr ⟨n, l, rfl, .inr rfl, h⟩
    | non => exact .inl h
    | bl b => exact .inl h
    | int i => exact .inl h
    | str x => exact .inl h
    | dct _ => exact .inl h
    | dcu _ => exact .inl h
    | ins _ _ => exact .inl h
    | scr _ => exact .inl h
theorem D.leaf_py {d : D} (h : d.leaf = true) : d.py.depth = 0 := by
  rcases D.leaf_cases h with rfl | ⟨b, rfl⟩ | ⟨i, rfl⟩ | ⟨x, rfl⟩ <;> simp [D.py, PyData.depth]
theorem D.shp_depth : ∀ {n : Nat} {d : D}, d.shp n = true → d.py.depth ≤ n
  | n, d, h => by
    induction n generalizing d with
    | zero => exact Nat.le_of_eq (D.leaf_py h)
    | succ n ih =>
      rcases D.shp_cases h with h | ⟨m, l, e, hd, hl⟩
      · rw [D.leaf_py h]
        exact Nat.zero_le _
      · injection e with e
        subst e
        have q : ∀ l : List D, l.all (D.shp n) = true → PyData.depthAll (l.map D.py) ≤ n := by
          intro l
          induction l with
          | nil => intro _; simp [PyData.depthAll]
          | cons a l ihl =>
            intro h
            rw [List.all_cons, Bool.and_eq_true] at h
            have h1 := ih _ h.1
            have h2 := ihl h.2
            simp only [List.map_cons, PyData.depthAll]
            omega
        have hq := q l hl
        rcases hd with rfl | rfl
        · simp only [D.py, D.pyL_eq, PyData.depth]
          omega
        · simp only [D.py, D.pyL_eq, PyData.depth]
          omega
theorem D.beq_eq : ∀ {n : Nat} {d e : D}, d.shp n = true → e.shp n = true → PyData.eqv d.py e.py = D.beq d e
  | n, d, e, hd, he => by
    induction n generalizing d e with
    | zero =>
      rcases D.leaf_cases hd with rfl | ⟨b, rfl⟩ | ⟨i, rfl⟩ | ⟨x, rfl⟩ <;> rcases D.leaf_cases he with rfl | ⟨c, rfl⟩ | ⟨j, rfl⟩ | ⟨y, rfl⟩ <;> simp [D.py, D.beq, PyData.eqv, Bool.beq_eq_decide_eq] <;> rfl
    | succ n ih =>
      have q : ∀ l m : List D, l.all (D.shp n) = true → m.all (D.shp n) = true → PyData.eqvAll (D.pyL l) (D.pyL m) = D.beqL l m := by
        intro l
        induction l with
        | nil => intro m _ _; cases m <;> simp [D.pyL, D.beqL, PyData.eqvAll]
        | cons a l ihl =>
          intro m h1 h2
          cases m with
          | nil => simp [D.pyL, D.beqL, PyData.eqvAll]
          | cons b m =>
            rw [List.all_cons, Bool.and_eq_true] at h1 h2
            simp only [D.pyL, D.beqL, PyData.eqvAll]
            rw [ih _ _ h1.1 h2.1, ihl m h1.2 h2.2]
      rcases D.shp_cases hd with h1 | ⟨m1, l1, e1, d1, s1⟩
      · rcases D.shp_cases he with h2 | ⟨m2, l2, e2, d2, s2⟩
        · rcases D.leaf_cases h1 with rfl | ⟨b, rfl⟩ | ⟨i, rfl⟩ | ⟨x, rfl⟩ <;> rcases D.leaf_cases h2 with rfl | ⟨c, rfl⟩ | ⟨j, rfl⟩ | ⟨y, rfl⟩ <;> simp [D.py, D.beq, PyData.eqv, Bool.beq_eq_decide_eq] <;> rfl
        · rcases D.leaf_cases h1 with rfl | ⟨b, rfl⟩ | ⟨i, rfl⟩ | ⟨x, rfl⟩ <;> rcases d2 with rfl | rfl <;> simp [D.py, D.beq, PyData.eqv]
      · injection e1 with e1
        subst e1
        rcases D.shp_cases he with h2 | ⟨m2, l2, e2, d2, s2⟩
        · rcases D.leaf_cases h2 with rfl | ⟨b, rfl⟩ | ⟨i, rfl⟩ | ⟨x, rfl⟩ <;> rcases d1 with rfl | rfl <;> simp [D.py, D.beq, PyData.eqv]
        · injection e2 with e2
          subst e2
          rcases d1 with rfl | rfl <;> rcases d2 with rfl | rfl
          · simp only [D.py, D.beq, PyData.eqv]
            exact q _ _ s1 s2
          · simp [D.py, D.beq, PyData.eqv]
          · simp [D.py, D.beq, PyData.eqv]
          · simp only [D.py, D.beq, PyData.eqv]
            exact q _ _ s1 s2

section
variable {K : PySem.W.Frag} {F H : Hp}
theorem Rp.dp_leaf {v : V} {d : D} (h : d.leaf = true) (r : Rp K F v d) : Dp K H v d.py ∧ d.py.canLay0 = true := by
  cases r with
  | non => exact ⟨by simp only [D.py]; exact .non, by simp [D.py, PyData.canLay0]⟩
  | bl b => exact ⟨by simp only [D.py]; exact .bl b, by simp [D.py, PyData.canLay0]⟩
  | int i => exact ⟨by simp only [D.py]; exact .int i, by simp [D.py, PyData.canLay0]⟩
  | str x hx => exact ⟨by simp only [D.py]; exact .str x, by simp [D.py, PyData.canLay0, hx]⟩
  | tup _ _ => cases h
  | lst _ _ => cases h
  | scr _ => cases h
  | dctK _ _ _ => cases h
  | dctT _ _ _ => cases h
  | ins _ _ _ => cases h
theorem Rp.dp (s : Same F H) : ∀ {n : Nat} {v : V} {d : D}, d.shp n = true → Rp K F v d → Dp K H v d.py ∧ d.py.canLay0 = true
  | n, v, d, h, r => by
    induction n generalizing v d with
    | zero => exact Rp.dp_leaf h r
    | succ n ih =>
      have q : ∀ (l : List D) (xs : List V), l.all (D.shp n) = true → RpL K F xs l → DpAll K H xs (D.pyL l) ∧ PyData.canLayAll0 (D.pyL l) = true := by
        intro l
        induction l with
        | nil =>
          intro xs _ r
          cases r
          exact ⟨by simp only [D.pyL]; exact .nil, by simp [D.pyL, PyData.canLayAll0]⟩
        | cons a l ihl =>
          intro xs h r
          rw [List.all_cons, Bool.and_eq_true] at h
          cases r with
          | cons r1 r2 =>
            obtain ⟨a1, a2⟩ := ih _ _ h.1 r1
            obtain ⟨b1, b2⟩ := ihl _ h.2 r2
            exact ⟨by simp only [D.pyL]; exact .cons a1 b1, by simp [D.pyL, PyData.canLayAll0, a2, b2]⟩
      rcases D.shp_cases h with h1 | ⟨m, l, e, hd, hl⟩
      · exact Rp.dp_leaf h1 r
      · injection e with e
        subst e
        rcases hd with rfl | rfl
        · cases r with
          | tup r1 r2 =>
            obtain ⟨a1, a2⟩ := q l _ hl r2
            exact ⟨by simp only [D.py]; exact .tup (Same.seqT s r1) a1, by simp [D.py, PyData.canLay0, a2]⟩
        · cases r with
          | lst r1 r2 =>
            obtain ⟨a1, a2⟩ := q l _ hl r2
            exact ⟨by simp only [D.py]; exact .lst (SqL.of (s _ _ r1)) a1, by simp [D.py, PyData.canLay0, a2]⟩
theorem RpL.dpAll (s : Same F H) {n : Nat} : ∀ {l : List D} {xs : List V}, l.all (D.shp n) = true → RpL K F xs l → DpAll K H xs (D.pyL l) ∧ PyData.canLayAll0 (D.pyL l) = true
  | [], _, _, .nil => ⟨by simp only [D.pyL]; exact .nil, by simp [D.pyL, PyData.canLayAll0]⟩
  | a :: l, _, h, .cons r1 r2 => by
    rw [List.all_cons, Bool.and_eq_true] at h
    obtain ⟨a1, a2⟩ := Rp.dp s h.1 r1
    obtain ⟨b1, b2⟩ := RpL.dpAll s h.2 r2
    exact ⟨by simp only [D.pyL]; exact .cons a1 b1, by simp [D.pyL, PyData.canLayAll0, a2, b2]⟩
theorem RpT.dp (s : Same F H) {n : Nat} {v : V} {d : D} (h : d.shp n = true) (r : RpT K F H v d) : Dp K H v d.py ∧ d.py.canLay0 = true := by
  cases r with
  | of r => exact Rp.dp s h r
  | own e r =>
    cases n with
    | zero => cases h
    | succ n =>
      obtain ⟨a1, a2⟩ := RpL.dpAll s (n := n) h r
      exact ⟨by simp only [D.py]; exact .lst (SqL.of e) a1, by simp [D.py, PyData.canLay0, a2]⟩
  | ownd _ => cases n <;> cases h
  | ownu _ => cases n <;> cases h
  | obj _ _ _ => cases n <;> cases h
theorem shaped_of {n : Nat} {d : D} (hn : n ≤ 64) (h : d.shp n = true) (c : d.py.canLay0 = true) : SeqAt.shaped d.py = true := by
  show (d.py.canLay0 && decide (d.py.depth ≤ 64)) = true
  rw [c, Bool.true_and]
  exact decide_eq_true (Nat.le_trans (D.shp_depth h) hn)
end

/-- two data compared -/
def D.eq (x y : D) : M Bool := do
  need (x.shp 20 && y.shp 20)
  .ok (D.beq x y)
def D.add : D → D → M D
  | .int i, .int j => .ok (.int (i + j))
  | .str x, .str y => do need (decide (x.length + y.length ≤ sizeLine)); .ok (.str (x ++ y))
  | .lst l, .lst m => do need (decide (l.length + m.length ≤ sizeLine)); .ok (.lst (l ++ m))
  | .tup l, .tup m => do need (decide (l.length + m.length ≤ sizeLine)); .ok (.tup (l ++ m))
  | _, _ => stuck
def D.sub : D → D → M D
  | .int i, .int j => .ok (.int (i - j))
  | _, _ => stuck
def D.mul : D → D → M D
  | .int i, .int j => do need (decide ((-(2 ^ 64) < i ∧ i < 2 ^ 64) ∨ (-(2 ^ 64) < j ∧ j < 2 ^ 64))); .ok (.int (i * j))
  | _, _ => stuck
def D.fdiv : D → D → M D
  | .int i, .int j => do need (decide (0 < j ∧ j < 1073741824)); .ok (.int (i / j))
  | _, _ => stuck
def D.mod : D → D → M D
  | .int i, .int j => do need (decide (0 < j)); .ok (.int (i % j))
  | _, _ => stuck
def D.pow : D → D → M D
  | .int i, .int j => do need (decide (0 ≤ j ∧ j ≤ 1000000 ∧ i.natAbs < 2 ^ 64)); .ok (.int (i ^ j.toNat))
  | _, _ => stuck
def D.neg : D → M D
  | .int i => .ok (.int (-i))
  | _ => stuck
def D.lt : D → D → M Bool
  | .int i, .int j => .ok (decide (i < j))
  | .str i, .str j => .ok (decide (i.cps.toList < j.cps.toList))
  | _, _ => stuck
def D.le : D → D → M Bool
  | .int i, .int j => .ok (decide (i ≤ j))
  | _, _ => stuck
def D.gt : D → D → M Bool
  | .int i, .int j => .ok (decide (j < i))
  | _, _ => stuck
def D.ge : D → D → M Bool
  | .int i, .int j => .ok (decide (j ≤ i))
  | _, _ => stuck
def D.ne (x y : D) : M Bool := do let b ← D.eq x y; .ok (!b)
/-- is the key there -/
def D.isKey : D → Bool
  | .int _ => true
  | .str _ => true
  | _ => false
def D.look (l : List (D × D)) (k : D) : Option D := (l.find? fun q => D.beq q.1 k).map (·.2)
def D.mem (x : D) : D → M Bool
  | .str z => (match x with
    | .str y => (match y.cps.toList with
      | [c] => .ok (decide (c ∈ z.cps.toList))
      | _ => .ok (!(Builtin.Str.occurrences z y 0 z.length 1).isEmpty))
    | _ => stuck)
  | .lst l => do need (x.shp 19 && l.all (D.shp 19)); .ok (l.any fun z => D.beq z x)
  | .tup l => do need (x.shp 19 && l.all (D.shp 19)); .ok (l.any fun z => D.beq z x)
  | .dct l => do need x.isKey; .ok (D.look l x).isSome
  | _ => stuck
def D.nmem (x y : D) : M Bool := do let b ← D.mem x y; .ok (!b)
def D.isNon : D → Bool
  | .non => true
  | _ => false
def D.tru : D → M Bool
  | .non => .ok false
  | .bl b => .ok b
  | .int i => .ok (i != 0)
  | .str y => do need (decide (y.length ≤ sizeLine)); .ok ((y.length : Int) != 0)
  | .lst l => .ok (!l.isEmpty)
  | .tup l => .ok (!l.isEmpty)
  | .dct l => .ok (!l.isEmpty)
  | _ => stuck
def D.ix : D → D → M D
  | .lst l, .int i => (match atI l i with | some d => .ok d | none => stuck)
  | .tup l, .int i => (match atI l i with | some d => .ok d | none => stuck)
  | .str z, .int i => do need (decide (z.length ≤ sizeLine)); (match atI z.cps.toList i with | some c => .ok (.str ⟨#[c]⟩) | none => stuck)
  | .dct l, k => do need k.isKey; (match D.look l k with | some d => .ok d | none => stuck)
  | _, _ => stuck
def cutL {α : Type} (xs : List α) (lo hi : Option Int) : List α := (xs.drop (HT.sIx xs.length 0 lo)).take (HT.sIx xs.length xs.length hi - HT.sIx xs.length 0 lo)
def D.sl : D → Option Int → Option Int → M D
  | .lst l, lo, hi => .ok (.lst (cutL l lo hi))
  | .tup l, lo, hi => .ok (.tup (cutL l lo hi))
  | .scr l, lo, hi => .ok (.lst ((cutL l lo hi).map D.int))
  | .str z, lo, hi => do need (decide (z.length ≤ sizeLine)); .ok (.str (cutS z lo hi))
  | _, _, _ => stuck
def D.len : D → M D
  | .str y => do need (decide (y.length ≤ sizeLine)); .ok (.int y.length)
  | .lst l => .ok (.int l.length)
  | .tup l => .ok (.int l.length)
  | .scr l => .ok (.int l.length)
  | .dct l => .ok (.int l.length)
  | _ => stuck
def D.abs : D → M D
  | .int i => .ok (.int (if i < 0 then -i else i))
  | _ => stuck
def D.toInt : D → M D
  | .int i => .ok (.int i)
  | .bl k => .ok (.int (if k then 1 else 0))
  | .str a => (match PySem.intText? a with | some n => do need (decide (a.length ≤ 640)); .ok (.int n) | none => stuck)
  | _ => stuck
def D.toStr : D → M D
  | .int i => do need (decide (i.natAbs.log2 < 1920)); .ok (.str (toString i))
  | _ => stuck
def D.max2 : D → D → M D
  | .int i, .int j => .ok (.int (if j > i then j else i))
  | _, _ => stuck
def D.min2 : D → D → M D
  | .int i, .int j => .ok (.int (if j < i then j else i))
  | _, _ => stuck
def D.bools : List D → Option (List Bool)
  | [] => some []
  | .bl b :: l => (D.bools l).map (b :: ·)
  | _ :: _ => none
def D.all : D → M D
  | .lst l => (match D.bools l with | some bs => .ok (.bl (bs.all id)) | none => stuck)
  | _ => stuck
def D.any : D → M D
  | .lst l => (match D.bools l with | some bs => .ok (.bl (bs.any id)) | none => stuck)
  | _ => stuck
def D.toList : D → M D
  | .lst l => .ok (.lst l)
  | .tup l => .ok (.lst l)
  | _ => stuck
def D.toTup : D → M D
  | .lst l => .ok (.tup l)
  | .tup l => .ok (.tup l)
  | _ => stuck
def D.strs : List D → Option (List Str)
  | [] => some []
  | .str b :: l => (D.strs l).map (b :: ·)
  | _ :: _ => none
def D.join (x y : D) : M D :=
  match x, y with
  | .str a, .lst l => (match D.strs l with
    | some ys => do need (decide ((ys.map (·.length)).sum + ys.length * a.length ≤ 16777216)); .ok (.str (Txt.join a ys))
    | none => stuck)
  | .str a, .tup l => (match D.strs l with
    | some ys => do need (decide ((ys.map (·.length)).sum + ys.length * a.length ≤ 16777216)); .ok (.str (Txt.join a ys))
    | none => stuck)
  | _, _ => stuck
def D.split (x y : D) : M D :=
  match x, y with
  | .str a, .str b => do need (!(b.length == 0) && decide (a.length + 2 ≤ sizeLine)); .ok (.lst ((Txt.split a b).map D.str))
  | _, _ => stuck
def D.attr (x : D) (f : String) : M D :=
  match x with
  | .ins _ l => (match l.lookup f with | some d => .ok d | none => stuck)
  | _ => stuck
def Sl.rd : Sl → M D
  | .val d => .ok d
  | .own l => .ok (.lst l)
  | .ownd l => .ok (.dct l)
  | .ownu l => .ok (.dcu l)
  | .obj _ c l => .ok (.ins c l)
  | .bor d => .ok d
  | _ => stuck
def Sl.vl : Sl → M D
  | .val d => .ok d
  | _ => stuck
def bD (m : M Bool) : M D := m >>= fun b => .ok (.bl b)
def dB (m : M D) : M Bool := m >>= fun d => match d with | .bl b => .ok b | _ => stuck
end DL
set_option Elab.async false
set_option linter.all false
set_option maxRecDepth 100000
set_option maxHeartbeats 4000000
/-! DL3: rules for expressions. -/
namespace DL
open PySem PySem.Spec L2

abbrev rE (K : PySem.W.Frag) : Hp → Hp → V → D → Prop := fun F' _ v d => Rp K F' v d
abbrev rT (K : PySem.W.Frag) : Hp → Hp → V → D → Prop := fun F' H' v d => RpT K F' H' v d
abbrev rB : Hp → Hp → Bool → Bool → Prop := fun _ _ v d => v = d
abbrev rL (K : PySem.W.Frag) : Hp → Hp → List V → List D → Prop := fun F' _ v d => RpL K F' v d
abbrev rTL (K : PySem.W.Frag) : Hp → Hp → List V → List D → Prop := fun F' H' v d => RpTL K F' H' v d

/-! ### texts stay texts -/
theorem strOk_app {x y : Str} (hx : PyData.strOk x = true) (hy : PyData.strOk y = true) : PyData.strOk (x ++ y) = true := by
  unfold PyData.strOk at *
  show (x.cps ++ y.cps).all _ = true
  rw [Array.all_append, hx, hy] <;> rfl
theorem strOk_mem {x : Str} : PyData.strOk x = true ↔ ∀ c ∈ x.cps.toList, c < 0x110000 := by
  unfold PyData.strOk
  rw [← Array.all_toList, List.all_eq_true]
  exact ⟨fun h c hc => of_decide_eq_true (h c hc), fun h c hc => decide_eq_true (h c hc)⟩
theorem strOk_cut {z : Str} (h : PyData.strOk z = true) (lo hi : Option Int) : PyData.strOk (cutS z lo hi) = true := by
  rw [strOk_mem] at h ⊢
  intro c hc
  refine h c ?_
  unfold cutS at hc
  simp only at hc
  exact List.mem_of_mem_drop (List.mem_of_mem_take hc)
theorem strOk_one {z : Str} {c : Nat} (h : PyData.strOk z = true) (hc : c ∈ z.cps.toList) : PyData.strOk ⟨#[c]⟩ = true := by
  rw [strOk_mem] at h ⊢
  intro d hd
  have e : d = c := by simpa using hd
  subst e
  exact h d hc

section
variable {X : Cx} {E : XK} {G : List Sl} {a b c e : Expr} {ma mb mc : M D} {pos : Pos} {F H : Hp}

theorem DR.of {m : M D} (h : DE X E G e m) : DR X E G e m := by
  obtain ⟨t, p, w⟩ := h
  exact ⟨t, p, fun B σ F H Q s g q => w B σ F H Q s g (match m, q with
    | .ok d, q => fun F' H' v x r => q F' H' v x (.of r)
    | .error .stuck, q => q.elim
    | .error (.exc x), q => q)⟩
/-- m equal: the judgement moves -/
theorem DE.cast {m m' : M D} (h : DE X E G e m) (q : m = m') : DE X E G e m' := q ▸ h
theorem DR.cast {m m' : M D} (h : DR X E G e m) (q : m = m') : DR X E G e m' := q ▸ h
theorem DT.cast {m m' : M Bool} (h : DT X E G e m) (q : m = m') : DT X E G e m' := q ▸ h

/-! ### names, constants -/
theorem GOk.at {B : Hp} {σ : St} {i : Nat} {s : Sl} (g : GOk X.K B G σ F H) (h : G[i]? = some s) : ∃ o, σ[i]? = some o ∧ SlOk X.K B F H o s := g.ok i s h
theorem dr_var {i : Nat} {s : Sl} {x : Str} (h : G[i]? = some s) (p : PE X (.Name x pos) (tVar i)) : DR X E G (.Name x pos) s.rd := by
  refine ⟨_, p, fun B σ F H Q sm g q => ?_⟩
  obtain ⟨o, h1, h2⟩ := g.ok i s h
  cases s with
  | un => exact q.elim
  | any => exact q.elim
  | val d =>
    obtain ⟨v, rfl, r⟩ := h2
    exact ⟨v, h1, q F H v (Ext.refl sm) (.of r)⟩
  | own l =>
    obtain ⟨a, xs, rfl, e2, _, _, r⟩ := h2
    exact ⟨_, h1, q F H _ (Ext.refl sm) (.own e2 r)⟩
  | ownd l =>
    obtain ⟨a, rfl, r, _, _⟩ := h2
    exact ⟨_, h1, q F H _ (Ext.refl sm) (.ownd r)⟩
  | ownu l =>
    obtain ⟨a, rfl, r, _, _⟩ := h2
    exact ⟨_, h1, q F H _ (Ext.refl sm) (.ownu r)⟩
  | obj a c l =>
    obtain ⟨dx, fs, rfl, e1, _, _, e2, r⟩ := h2
    exact ⟨_, h1, q F H _ (Ext.refl sm) (.obj e1 e2 r)⟩
  | bor d =>
    obtain ⟨v, rfl, r⟩ := h2
    exact ⟨v, h1, q F H _ (Ext.refl sm) (r.monoH g.sB)⟩
theorem de_var {i : Nat} {s : Sl} {x : Str} (h : G[i]? = some s) (p : PE X (.Name x pos) (tVar i)) : DE X E G (.Name x pos) s.vl := by
  refine ⟨_, p, fun B σ F H Q sm g q => ?_⟩
  obtain ⟨o, h1, h2⟩ := g.ok i s h
  cases s with
  | val d =>
    obtain ⟨v, rfl, r⟩ := h2
    exact ⟨v, h1, q F H v (Ext.refl sm) r⟩
  | _ => exact q.elim
/-- a slot told to hold d -/
theorem de_val {i : Nat} {d : D} {x : Str} (h : G[i]? = some (.val d)) (p : PE X (.Name x pos) (tVar i)) : DE X E G (.Name x pos) (.ok d) := de_var h p
theorem de_of {t : TE} {v : V} {d : D} (p : PE X e (tC v)) (h : ∀ F, Rp X.K F v d) : DE X E G e (.ok d) :=
  ⟨_, p, fun B σ F H Q s g q => q F H v (Ext.refl s) (h F)⟩
theorem de_c {v : V} {d : D} (p : PE X e (tC v)) (h : ∀ F, Rp X.K F v d) : DE X E G e (.ok d) :=
  ⟨_, p, fun B σ F H Q s g q => q F H v (Ext.refl s) (h F)⟩
theorem de_int {i j pos} : DE X E G (.Constant (.int i) j pos) (.ok (.int i)) := de_c pe_int fun _ => .int i
theorem de_bl {i j pos} : DE X E G (.Constant (.bool i) j pos) (.ok (.bl i)) := de_c pe_bl fun _ => .bl i
theorem de_non {j pos} : DE X E G (.Constant .none j pos) (.ok .non) := de_c pe_non fun _ => .non
theorem de_str {x : Str} {j pos} (h : PyData.strOk x = true) : DE X E G (.Constant (.str x) j pos) (.ok (.str x)) := de_c pe_str fun _ => .str x h
theorem de_gint {x : Str} {i : Int} {t : Tok} (hg : Gl X x) (hm : X.mg x = some (.int i t)) (hd : (x == ("__debug__" : Str)) = false := by decide) : DE X E G (.Name x pos) (.ok (.int i)) := de_c (v := .int i) (pe_glob hg hm ⟨t, rfl⟩ hd) fun _ => .int i
theorem de_gstr {x z : Str} {t : Tok} (hg : Gl X x) (hm : X.mg x = some (.str z t)) (hz : PyData.strOk z = true) (hd : (x == ("__debug__" : Str)) = false := by decide) : DE X E G (.Name x pos) (.ok (.str z)) := de_c (v := .str z) (pe_glob hg hm ⟨t, rfl⟩ hd) fun _ => .str z hz

/-! ### operators by values -/
/-- what an operator's reading must take -/
def Op2 (K : PySem.W.Frag) (E : XK) (f : D → D → M D) (r : R2) : Prop := ∀ (F H : Hp) (v u : V) (x y : D) (Q : VK), Same F H → RpT K F H v x → RpT K F H u y → WpG K E (rE K) (f x y) F H Q → r v u H Q
theorem two {ta tb : TE} {r : R2} {f : D → D → M D} (wa : ∀ B σ F H Q, Same F H → GOk X.K B G σ F H → WpG X.K E (rT X.K) ma F H Q → ta σ H Q) (wb : ∀ B σ F H Q, Same F H → GOk X.K B G σ F H → WpG X.K E (rT X.K) mb F H Q → tb σ H Q)
    (hf : Op2 X.K E f r) : ∀ B σ F H Q, Same F H → GOk X.K B G σ F H → WpG X.K E (rE X.K) (ma >>= fun x => mb >>= fun y => f x y) F H Q → tOp r ta tb σ H Q := fun B σ F H Q s g q =>
  wa B σ F H _ s g (q.bind fun x F1 H1 v x1 r1 q1 => wb B σ F1 H1 _ x1.sFH (g.ext x1) (q1.bind fun y F2 H2 u x2 r2 q2 => hf F2 H2 v u x y Q x2.sFH (r1.ext x2) r2 q2))
theorem de_op {op : Operator} {r : R2} {f : D → D → M D} (ho : OpR X (binaryOp op) r) (hf : Op2 X.K E f r) (ha : DR X E G a ma) (hb : DR X E G b mb) : DE X E G (.BinOp a op b pos) (ma >>= fun x => mb >>= fun y => f x y) := by
  obtain ⟨ta, pa, wa⟩ := ha
  obtain ⟨tb, pb, wb⟩ := hb
  exact ⟨_, pe_op ho pa pb, two wa wb hf⟩

theorem op2_or {f : D → D → M D} {r r' : R2} {c : D → D → Bool} (h : ∀ F H v u x y Q, c x y = true → Same F H → RpT X.K F H v x → RpT X.K F H u y → WpG X.K E (rE X.K) (f x y) F H Q → r v u H Q)
    (h' : ∀ F H v u x y Q, c x y = false → Same F H → RpT X.K F H v x → RpT X.K F H u y → WpG X.K E (rE X.K) (f x y) F H Q → r' v u H Q) : Op2 X.K E f (fun x y H Q => r x y H Q ∨ r' x y H Q) := fun F H v u x y Q s rx ry q => by
  cases e : c x y with
  | true => exact .inl (h F H v u x y Q e s rx ry q)
  | false => exact .inr (h' F H v u x y Q e s rx ry q)
/-- new lists and tuples -/
theorem new_lst {xs : List V} {ds : List D} {Q : VK} (s : Same F H) (r : RpL X.K F xs ds) (q : WpG X.K E (rE X.K) (.ok (.lst ds)) F H Q) : ∀ p, H p = none → Q (.ref p) (upd H p (.lst xs)) := fun p hp =>
  q _ _ _ (Ext.new s hp) (.lst upd_same (r.mono (Ext.new s hp).sF))
theorem new_tup {xs : List V} {ds : List D} {Q : VK} (s : Same F H) (r : RpL X.K F xs ds) (q : WpG X.K E (rE X.K) (.ok (.tup ds)) F H Q) : ∀ p, H p = none → Q (.ref p) (upd H p (.tup xs)) := fun p hp =>
  q _ _ _ (Ext.new s hp) (.tup (SqT.of upd_same) (r.mono (Ext.new s hp).sF))
theorem RpT.rp_tup {v : V} {l : List D} {K : PySem.W.Frag} (h : RpT K F H v (.tup l)) : Rp K F v (.tup l) := by
  cases h with
  | of h => exact h

def rAddAll (K : PySem.W.Frag) : R2 := fun x y H Q => rI0 (fun i j => .int (i + j)) x y H Q ∨ (∃ i j, x = .str i ∧ y = .str j ∧ i.length + j.length ≤ sizeLine ∧ Q (.str (i ++ j)) H) ∨ rCat x y H Q ∨ rCatA K x y H Q
theorem op_addAll : OpR X (binaryOp .Add) (rAddAll X.K) := op_add.or (op_add_str.or (op_cat.or op_catA))
theorem op2_add : Op2 X.K E D.add (rAddAll X.K) := fun F H v u x y Q s rx ry q => by
  cases x with
  | int i => cases y with
    | int j => exact .inl ⟨i, j, rx.int, ry.int, q F H _ (Ext.refl s) (.int _)⟩
    | _ => exact q.elim
  | str i => cases y with
    | str j =>
      obtain ⟨c, q⟩ := q.need
      exact .inr (.inl ⟨i, j, rx.str.1, ry.str.1, of_decide_eq_true c, q F H _ (Ext.refl s) (.str _ (strOk_app rx.str.2 ry.str.2))⟩)
    | _ => exact q.elim
  | lst l => cases y with
    | lst m =>
      obtain ⟨c, q⟩ := q.need
      obtain ⟨p, xs, rfl, e1, r1⟩ := rx.lst s
      obtain ⟨p2, ys, rfl, e2, r2⟩ := ry.lst s
      exact .inr (.inr (.inl ⟨p, p2, xs, ys, rfl, rfl, e1, e2, by rw [r1.length, r2.length]; exact of_decide_eq_true c, new_lst s (r1.append r2) q⟩))
    | _ => exact q.elim
  | tup l => cases y with
    | tup m =>
      obtain ⟨c, q⟩ := q.need
      obtain ⟨p, xs, rfl, e1, r1⟩ := rx.tup s
      obtain ⟨p2, ys, rfl, e2, r2⟩ := ry.tup s
      refine .inr (.inr (.inr ⟨p, p2, xs, ys, rfl, rfl, e1, e2, by rw [r1.length, r2.length]; exact of_decide_eq_true c, fun h0 => ?_, fun _ h0 => ?_, fun _ _ => new_tup s (r1.append r2) q⟩))
      · subst h0
        cases r1
        exact q F H _ (Ext.refl s) ry.rp_tup
      · subst h0
        cases r2
        rw [List.append_nil] at q
        exact q F H _ (Ext.refl s) rx.rp_tup
    | _ => exact q.elim
  | _ => cases y <;> exact q.elim
theorem de_add (ha : DR X E G a ma) (hb : DR X E G b mb) : DE X E G (.BinOp a .Add b pos) (ma >>= fun x => mb >>= fun y => D.add x y) := de_op op_addAll op2_add ha hb
theorem de_sub (ha : DR X E G a ma) (hb : DR X E G b mb) : DE X E G (.BinOp a .Sub b pos) (ma >>= fun x => mb >>= fun y => D.sub x y) := de_op op_sub (fun F H v u x y Q s rx ry q => by
  cases x with
  | int i => cases y with
    | int j => exact ⟨i, j, rx.int, ry.int, q F H _ (Ext.refl s) (.int _)⟩
    | _ => exact q.elim
  | _ => cases y <;> exact q.elim) ha hb
theorem de_mul (ha : DR X E G a ma) (hb : DR X E G b mb) : DE X E G (.BinOp a .Mult b pos) (ma >>= fun x => mb >>= fun y => D.mul x y) := de_op op_mul (fun F H v u x y Q s rx ry q => by
  cases x with
  | int i => cases y with
    | int j =>
      obtain ⟨c, q⟩ := q.need
      have c := of_decide_eq_true c
      exact ⟨i, j, rx.int, ry.int, c, q F H _ (Ext.refl s) (.int _)⟩
    | _ => exact q.elim
  | _ => cases y <;> exact q.elim) ha hb
theorem de_fdiv (ha : DR X E G a ma) (hb : DR X E G b mb) : DE X E G (.BinOp a .FloorDiv b pos) (ma >>= fun x => mb >>= fun y => D.fdiv x y) := de_op op_fdiv (fun F H v u x y Q s rx ry q => by
  cases x with
  | int i => cases y with
    | int j =>
      obtain ⟨c, q⟩ := q.need
      have c := of_decide_eq_true c
      exact ⟨i, j, rx.int, ry.int, c, q F H _ (Ext.refl s) (.int _)⟩
    | _ => exact q.elim
  | _ => cases y <;> exact q.elim) ha hb
theorem de_mod (ha : DR X E G a ma) (hb : DR X E G b mb) : DE X E G (.BinOp a .Mod b pos) (ma >>= fun x => mb >>= fun y => D.mod x y) := de_op op_mod (fun F H v u x y Q s rx ry q => by
  cases x with
  | int i => cases y with
    | int j =>
      obtain ⟨c, q⟩ := q.need
      have c := of_decide_eq_true c
      exact ⟨i, j, rx.int, ry.int, c, q F H _ (Ext.refl s) (.int _)⟩
    | _ => exact q.elim
  | _ => cases y <;> exact q.elim) ha hb
theorem de_pow (ha : DR X E G a ma) (hb : DR X E G b mb) : DE X E G (.BinOp a .Pow b pos) (ma >>= fun x => mb >>= fun y => D.pow x y) := de_op op_pow (fun F H v u x y Q s rx ry q => by
  cases x with
  | int i => cases y with
    | int j =>
      obtain ⟨c, q⟩ := q.need
      have c := of_decide_eq_true c
      exact ⟨i, j, rx.int, ry.int, c, q F H _ (Ext.refl s) (.int _)⟩
    | _ => exact q.elim
  | _ => cases y <;> exact q.elim) ha hb
theorem de_neg (ha : DR X E G a ma) : DE X E G (.UnaryOp .USub a pos) (ma >>= fun x => D.neg x) := by
  obtain ⟨ta, pa, wa⟩ := ha
  refine ⟨_, pe_un un_neg pa, fun B σ F H Q s g q => wa B σ F H _ s g (q.bind fun x F1 H1 v x1 r1 q1 => ?_)⟩
  cases x with
  | int i => exact ⟨i, r1.int, q1 F1 H1 _ (Ext.refl x1.sFH) (.int _)⟩
  | _ => exact q1.elim

/-! ### comparisons -/
def rCmp (K : PySem.W.Frag) (E : XK) (f : D → D → M Bool) (r : R2) : Prop := Op2 K E (fun x y => bD (f x y)) r
theorem WpG.bd {m : M Bool} {Q : VK} {K : PySem.W.Frag} (s : Same F H) (q : WpG K E (rE K) (bD m) F H Q) : ∃ c, m = .ok c ∧ Q (.bl c) H ∨ (∃ x, m = .error (.exc x)) := by
  cases m with
  | ok c => exact ⟨c, .inl ⟨rfl, q F H _ (Ext.refl s) (.bl c)⟩⟩
  | error e => cases e with
    | stuck => exact q.elim
    | exc x => exact ⟨true, .inr ⟨x, rfl⟩⟩
theorem cmp_lt : rCmp X.K E D.lt (fun x y H Q => rI0 (fun i j => .bl (decide (i < j))) x y H Q ∨ (∃ i j, x = .str i ∧ y = .str j ∧ Q (.bl (decide (i.cps.toList < j.cps.toList))) H)) := fun F H v u x y Q s rx ry q => by
  cases x with
  | int i => cases y with
    | int j => exact .inl ⟨i, j, rx.int, ry.int, q F H _ (Ext.refl s) (.bl _)⟩
    | _ => exact q.elim
  | str i => cases y with
    | str j => exact .inr ⟨i, j, rx.str.1, ry.str.1, q F H _ (Ext.refl s) (.bl _)⟩
    | _ => exact q.elim
  | _ => cases y <;> exact q.elim
theorem cmp_le : rCmp X.K E D.le (rI0 fun i j => .bl (decide (i ≤ j))) := fun F H v u x y Q s rx ry q => by
  cases x with
  | int i => cases y with
    | int j => exact ⟨i, j, rx.int, ry.int, q F H _ (Ext.refl s) (.bl _)⟩
    | _ => exact q.elim
  | _ => cases y <;> exact q.elim
theorem cmp_gt : rCmp X.K E D.gt (rI0 fun i j => .bl (decide (j < i))) := fun F H v u x y Q s rx ry q => by
  cases x with
  | int i => cases y with
    | int j => exact ⟨i, j, rx.int, ry.int, q F H _ (Ext.refl s) (.bl _)⟩
    | _ => exact q.elim
  | _ => cases y <;> exact q.elim
theorem cmp_ge : rCmp X.K E D.ge (rI0 fun i j => .bl (decide (j ≤ i))) := fun F H v u x y Q s rx ry q => by
  cases x with
  | int i => cases y with
    | int j => exact ⟨i, j, rx.int, ry.int, q F H _ (Ext.refl s) (.bl _)⟩
    | _ => exact q.elim
  | _ => cases y <;> exact q.elim
theorem and2 {p q : Bool} (h : (p && q) = true) : p = true ∧ q = true := Bool.and_eq_true_iff.mp h
theorem cmp_eq : rCmp X.K E D.eq (rEqD X.K) := fun F H v u x y Q s rx ry q => by
  have q' : WpG X.K E (rE X.K) (need (x.shp 20 && y.shp 20) >>= fun _ => .ok (.bl (D.beq x y))) F H Q := by
    have e : (bD (D.eq x y)) = (need (x.shp 20 && y.shp 20) >>= fun _ => .ok (.bl (D.beq x y))) := by
      unfold bD D.eq need
      cases (x.shp 20 && y.shp 20) <;> rfl
    rw [← e]
    exact q
  obtain ⟨c, q2⟩ := q'.need
  obtain ⟨c1, c2⟩ := and2 c
  obtain ⟨d1, l1⟩ := rx.dp s c1
  obtain ⟨d2, l2⟩ := ry.dp s c2
  refine ⟨_, _, d1, d2, shaped_of (by decide) c1 l1, shaped_of (by decide) c2 l2, ?_⟩
  rw [D.beq_eq c1 c2]
  exact q2 F H _ (Ext.refl s) (.bl _)
theorem cmp_ne : rCmp X.K E D.ne (rNeD X.K) := fun F H v u x y Q s rx ry q => by
  have q' : WpG X.K E (rE X.K) (need (x.shp 20 && y.shp 20) >>= fun _ => .ok (.bl (!D.beq x y))) F H Q := by
    have e : (bD (D.ne x y)) = (need (x.shp 20 && y.shp 20) >>= fun _ => .ok (.bl (!D.beq x y))) := by
      unfold bD D.ne D.eq need
      cases (x.shp 20 && y.shp 20) <;> rfl
    rw [← e]
    exact q
  obtain ⟨c, q2⟩ := q'.need
  obtain ⟨c1, c2⟩ := and2 c
  obtain ⟨d1, l1⟩ := rx.dp s c1
  obtain ⟨d2, l2⟩ := ry.dp s c2
  refine ⟨_, _, d1, d2, shaped_of (by decide) c1 l1, shaped_of (by decide) c2 l2, ?_⟩
  rw [D.beq_eq c1 c2]
  exact q2 F H _ (Ext.refl s) (.bl _)
theorem de_cmp {op : CmpOp} {r : R2} {f : D → D → M Bool} (ho : OpR X (compareOp op) r) (hf : rCmp X.K E f r) (ha : DR X E G a ma) (hb : DR X E G b mb) (hm : behindInMarks op b = false) : DE X E G (.Compare a [op] [b] pos) (ma >>= fun x => mb >>= fun y => bD (f x y)) := by
  obtain ⟨ta, pa, wa⟩ := ha
  obtain ⟨tb, pb, wb⟩ := hb
  exact ⟨_, pe_cmpR ho pa pb hm, two wa wb hf⟩
theorem WpG.bool {m : M Bool} {Q : Bool → Hp → Prop} {K : PySem.W.Frag} (q : WpG K E rB m F H Q) : WpG K E (rE K) (bD m) F H (fun x H' => ∃ k, x = .bl k ∧ Q k H') := by
  cases m with
  | ok c =>
    intro F' H' v x r
    cases r
    exact ⟨c, rfl, q F' H' c x rfl⟩
  | error e => cases e with
    | stuck => exact q
    | exc y => exact q
theorem DT.ofE {m : M Bool} {t : TE} {tt : TT} (pt : PT X e tt) (w : ∀ B σ F H Q, Same F H → GOk X.K B G σ F H → WpG X.K E (rE X.K) (bD m) F H Q → t σ H Q) (h : ∀ σ H Q, t σ H (fun x H' => ∃ k, x = .bl k ∧ Q k H') → tt σ H Q) : DT X E G e m :=
  ⟨tt, pt, fun B σ F H Q s g q => h σ H Q (w B σ F H _ s g q.bool)⟩
theorem two_b {f : D → D → M Bool} : (ma >>= fun x => mb >>= fun y => bD (f x y)) = bD (ma >>= fun x => mb >>= fun y => f x y) := by
  cases ma with
  | error e => rfl
  | ok x => cases mb <;> rfl
theorem dt_cmp {op : CmpOp} {r : R2} {f : D → D → M Bool} (ho : OpR X (compareOp op) r) (hf : rCmp X.K E f r) (ha : DR X E G a ma) (hb : DR X E G b mb) (hm : behindInMarks op b = false) : DT X E G (.Compare a [op] [b] pos) (ma >>= fun x => mb >>= fun y => f x y) := by
  obtain ⟨ta, pa, wa⟩ := ha
  obtain ⟨tb, pb, wb⟩ := hb
  refine DT.ofE (t := tOp r ta tb) (pt_cmpR ho pa pb hm) ?_ (fun _ _ _ h => h)
  rw [← two_b]
  exact two wa wb hf
/-- dicts: in, an item -/
def rInDct : R2 := fun x y H Q => ∃ a o, y = .ref a ∧ DGet H a x o ∧ Q (.bl o.isSome) H
theorem op_inDct (hu : X.A.units + 1 < cLine) : OpR X (compareOp .In) rInDct := by
  intro pins s σ H x y v u Q I rx ry h
  obtain ⟨a, o, rfl, g, q⟩ := h
  obtain rfl : u = Value.ref a := ry
  exact d_in hu I g rx fun s3 I3 => ⟨.bl o.isSome, H, I3, rfl, q⟩
def rNinDct : R2 := fun x y H Q => ∃ a o, y = .ref a ∧ DGet H a x o ∧ Q (.bl (!o.isSome)) H
theorem op_ninDct (hu : X.A.units + 1 < cLine) : OpR X (compareOp .NotIn) rNinDct := by
  intro pins s σ H x y v u Q I rx ry h
  obtain ⟨a, o, rfl, g, q⟩ := h
  obtain rfl : u = Value.ref a := ry
  exact d_notIn hu I g rx fun s3 I3 => ⟨.bl (!o.isSome), H, I3, rfl, q⟩
def rInT (K : PySem.W.Frag) : R2 := fun x y H Q => ∃ d ds, Dp K H x d ∧ Dp K H y (.tuple ds) ∧ SeqAt.shaped d = true ∧ SeqAt.shaped (.tuple ds) = true ∧ Q (.bl (ds.any fun z => PyData.eqv z d)) H
def rNinT (K : PySem.W.Frag) : R2 := fun x y H Q => ∃ d ds, Dp K H x d ∧ Dp K H y (.tuple ds) ∧ SeqAt.shaped d = true ∧ SeqAt.shaped (.tuple ds) = true ∧ Q (.bl (!ds.any fun z => PyData.eqv z d)) H
theorem room_inT {A : Around} {ds : List PyData} {d : PyData} (sd : SeqAt.shaped d = true) (hu : A.units + 65 < cLine) : A.units + 1 + min (PyData.depthAll ds) d.depth < cLine := by
  have h1 := SeqAt.depth_of_shaped sd
  have h2 : min (PyData.depthAll ds) d.depth ≤ d.depth := Nat.min_le_right _ _
  omega
theorem op_inT (hu : X.A.units + 65 < cLine) : OpR X (compareOp .In) (rInT X.K) := by
  intro pins s σ H x y v u Q I rx ry h
  obtain ⟨d, ds, hd, he, sd, se, q⟩ := h
  obtain ⟨as, r1⟩ := Dp.reads I d x v hd rx
  obtain ⟨bs, r2⟩ := Dp.reads I (.tuple ds) y u he ry
  exact SeqAt.in_tuple_reads r2 r1 (SeqAt.canLay_of_shaped se) (SeqAt.canLay_of_shaped sd) (room_inT sd hu) ⟨.bl _, H, I, rfl, q⟩
theorem op_ninT (hu : X.A.units + 65 < cLine) : OpR X (compareOp .NotIn) (rNinT X.K) := by
  intro pins s σ H x y v u Q I rx ry h
  obtain ⟨d, ds, hd, he, sd, se, q⟩ := h
  obtain ⟨as, r1⟩ := Dp.reads I d x v hd rx
  obtain ⟨bs, r2⟩ := Dp.reads I (.tuple ds) y u he ry
  exact SeqAt.notIn_tuple_reads r2 r1 (SeqAt.canLay_of_shaped se) (SeqAt.canLay_of_shaped sd) (room_inT sd hu) ⟨.bl _, H, I, rfl, q⟩
theorem any_py {x : D} {n : Nat} (hx : x.shp n = true) : ∀ {l : List D}, l.all (D.shp n) = true → ((D.pyL l).any fun z => PyData.eqv z x.py) = l.any fun z => D.beq z x
  | [], _ => by simp [D.pyL]
  | d :: l, h => by
    rw [List.all_cons, Bool.and_eq_true] at h
    simp only [D.pyL, List.any_cons]
    rw [D.beq_eq h.1 hx, any_py hx h.2]
theorem keyV {v : V} {k : D} {K : PySem.W.Frag} (h : k.isKey = true) (r : RpT K F H v k) : ∃ q : Key, v = kV q ∧ k = kD q := by
  cases k with
  | int i => exact ⟨.inl i, r.int, rfl⟩
  | str x => exact ⟨.inr x, r.str.1, rfl⟩
  | _ => cases h
theorem beq_key (p q : Key) : D.beq (kD p) (kD q) = decide (p = q) := by
  cases p with
  | inl i => cases q with
    | inl j =>
      show D.beq (.int i) (.int j) = _
      simp [D.beq]
    | inr y =>
      show D.beq (.int i) (.str y) = _
      simp [D.beq]
  | inr x => cases q with
    | inl j =>
      show D.beq (.str x) (.int j) = _
      simp [D.beq]
    | inr y =>
      show D.beq (.str x) (.str y) = _
      simp [D.beq]
theorem look_val {K : PySem.W.Frag} (q : Key) : ∀ {kvs : List (Key × V)} {l : List (D × D)}, kvs.map (fun q => kD q.1) = l.map (·.1) → RpL K F (kvs.map (·.2)) (l.map (·.2)) →
    (valV kvs q = none ∧ D.look l (kD q) = none) ∨ ∃ v d, valV kvs q = some v ∧ D.look l (kD q) = some d ∧ Rp K F v d
  | [], [], _, _ => .inl ⟨rfl, rfl⟩
  | [], _ :: _, h, _ => by simp at h
  | _ :: _, [], h, _ => by simp at h
  | (k, v) :: kvs, (k2, d) :: l, h, r => by
    have h1 : kD k = k2 ∧ kvs.map (fun q => kD q.1) = l.map (·.1) := by simpa using h
    obtain ⟨rfl, h2⟩ := h1
    have r' : RpL K F (v :: kvs.map (·.2)) (d :: l.map (·.2)) := r
    cases r' with
    | cons r1 r2 =>
      by_cases e : k = q
      · subst e
        refine .inr ⟨v, d, ?_, ?_, r1⟩
        · simp [valV]
        · simp [D.look, List.find?_cons, beq_key]
      · have ih := look_val q h2 r2
        have e1 : valV ((k, v) :: kvs) q = valV kvs q := by simp [valV, List.find?_cons, e]
        have e2 : D.look ((kD k, d) :: l) (kD q) = D.look l (kD q) := by simp [D.look, List.find?_cons, beq_key, e]
        rw [e1, e2]
        exact ih
def rInAll (K : PySem.W.Frag) : R2 := fun x y H Q => (∃ (c : Nat) (z : Str), x = .str ⟨#[c]⟩ ∧ y = .str z ∧ Q (.bl (decide (c ∈ z.cps.toList))) H) ∨ (∃ i j, x = .str i ∧ y = .str j ∧ Q (.bl (!(Builtin.Str.occurrences j i 0 j.length 1).isEmpty)) H) ∨ rInD K x y H Q ∨ rInT K x y H Q ∨ rInDct x y H Q
theorem op_inAll (hu : X.A.units + 70 < cLine) : OpR X (compareOp .In) (rInAll X.K) := op_in_sign.or (op_in_str.or ((op_inD (by omega)).or ((op_inT (by omega)).or (op_inDct (by omega)))))
theorem cmp_in : rCmp X.K E D.mem (rInAll X.K) := fun F H v u x y Q s rx ry q => by
  cases y with
  | str z =>
    cases x with
    | str y =>
      obtain ⟨⟨cps⟩⟩ := y
      rcases cps with _ | ⟨c, _ | ⟨c2, r⟩⟩
      · exact .inr (.inl ⟨_, z, rx.str.1, ry.str.1, q F H _ (Ext.refl s) (.bl _)⟩)
      · exact .inl ⟨c, z, rx.str.1, ry.str.1, q F H _ (Ext.refl s) (.bl _)⟩
      · exact .inr (.inl ⟨_, z, rx.str.1, ry.str.1, q F H _ (Ext.refl s) (.bl _)⟩)
    | _ => exact q.elim
  | lst l =>
    have q' : WpG X.K E (rE X.K) (need (x.shp 19 && l.all (D.shp 19)) >>= fun _ => .ok (.bl (l.any fun z => D.beq z x))) F H Q := by
      have e : bD (D.mem x (.lst l)) = (need (x.shp 19 && l.all (D.shp 19)) >>= fun _ => .ok (.bl (l.any fun z => D.beq z x))) := by
        unfold bD D.mem need
        simp only
        cases (x.shp 19 && l.all (D.shp 19)) <;> rfl
      rw [← e]
      exact q
    obtain ⟨c, q2⟩ := q'.need
    obtain ⟨c1, c2⟩ := and2 c
    obtain ⟨d1, l1⟩ := rx.dp s c1
    have c3 : (D.lst l).shp 20 = true := c2
    obtain ⟨d2, l2⟩ := ry.dp s c3
    have sh := shaped_of (by decide) c3 l2
    simp only [D.py] at d2 sh
    refine .inr (.inr (.inl ⟨_, _, d1, d2, shaped_of (by decide) c1 l1, sh, ?_⟩))
    rw [any_py c1 c2]
    exact q2 F H _ (Ext.refl s) (.bl _)
  | tup l =>
    have q' : WpG X.K E (rE X.K) (need (x.shp 19 && l.all (D.shp 19)) >>= fun _ => .ok (.bl (l.any fun z => D.beq z x))) F H Q := by
      have e : bD (D.mem x (.tup l)) = (need (x.shp 19 && l.all (D.shp 19)) >>= fun _ => .ok (.bl (l.any fun z => D.beq z x))) := by
        unfold bD D.mem need
        simp only
        cases (x.shp 19 && l.all (D.shp 19)) <;> rfl
      rw [← e]
      exact q
    obtain ⟨c, q2⟩ := q'.need
    obtain ⟨c1, c2⟩ := and2 c
    obtain ⟨d1, l1⟩ := rx.dp s c1
    have c3 : (D.tup l).shp 20 = true := c2
    obtain ⟨d2, l2⟩ := ry.dp s c3
    have sh := shaped_of (by decide) c3 l2
    simp only [D.py] at d2 sh
    refine .inr (.inr (.inr (.inl ⟨_, _, d1, d2, shaped_of (by decide) c1 l1, sh, ?_⟩)))
    rw [any_py c1 c2]
    exact q2 F H _ (Ext.refl s) (.bl _)
  | dct l =>
    have q' : WpG X.K E (rE X.K) (need x.isKey >>= fun _ => .ok (.bl (D.look l x).isSome)) F H Q := by
      have e : bD (D.mem x (.dct l)) = (need x.isKey >>= fun _ => .ok (.bl (D.look l x).isSome)) := by
        unfold bD D.mem need
        simp only
        cases x.isKey <;> rfl
      rw [← e]
      exact q
    obtain ⟨c, q2⟩ := q'.need
    obtain ⟨k, rfl, rfl⟩ := keyV c rx
    obtain ⟨a, rfl, kvs, e1, e2, r2⟩ := ry.dct s
    refine .inr (.inr (.inr (.inr ⟨a, valV kvs k, rfl, DGet.k e1, ?_⟩)))
    rcases look_val k e2 r2 with ⟨h1, h2⟩ | ⟨v, d, h1, h2, _⟩
    · rw [h2] at q2
      rw [h1]
      exact q2 F H _ (Ext.refl s) (.bl _)
    · rw [h2] at q2
      rw [h1]
      exact q2 F H _ (Ext.refl s) (.bl _)
  | _ => exact q.elim
end
end DL
set_option Elab.async false
set_option linter.all false
set_option maxRecDepth 100000
set_option maxHeartbeats 4000000
/-! DL4: rules for expressions, continued: tests, and, or, not, if, items, slices, displays, calls of built-ins, methods, f-strings. -/
namespace DL
open PySem PySem.Spec L2
section
variable {X : Cx} {E : XK} {G : List Sl} {a b c e : Expr} {ma mb mc : M D} {ta tb : M Bool} {pos : Pos} {F H : Hp}
theorem need_b {α : Type} {b : Bool} {k : Unit → M Bool} : bD (need b >>= k) = (need b >>= fun u => bD (k u)) := by
  cases b <;> rfl
theorem rNinAll_op (hu : X.A.units + 70 < cLine) : OpR X (compareOp .NotIn) (fun x y H Q => (∃ (c : Nat) (z : Str), x = .str ⟨#[c]⟩ ∧ y = .str z ∧ Q (.bl (!decide (c ∈ z.cps.toList))) H) ∨ (∃ i j, x = .str i ∧ y = .str j ∧ Q (.bl (!(!(Builtin.Str.occurrences j i 0 j.length 1).isEmpty))) H) ∨ rNotInD X.K x y H Q ∨ rNinT X.K x y H Q ∨ rNinDct x y H Q) :=
  op_notIn_sign.or (op_notin_str.or ((op_notInD (by omega)).or ((op_ninT (by omega)).or (op_ninDct (by omega)))))
theorem cmp_nin : rCmp X.K E D.nmem (fun x y H Q => (∃ (c : Nat) (z : Str), x = .str ⟨#[c]⟩ ∧ y = .str z ∧ Q (.bl (!decide (c ∈ z.cps.toList))) H) ∨ (∃ i j, x = .str i ∧ y = .str j ∧ Q (.bl (!(!(Builtin.Str.occurrences j i 0 j.length 1).isEmpty))) H) ∨ rNotInD X.K x y H Q ∨ rNinT X.K x y H Q ∨ rNinDct x y H Q) := fun F H v u x y Q s rx ry q => by
  cases y with
  | str z =>
    cases x with
    | str y =>
      obtain ⟨⟨cps⟩⟩ := y
      rcases cps with _ | ⟨c, _ | ⟨c2, r⟩⟩
      · exact .inr (.inl ⟨_, z, rx.str.1, ry.str.1, q F H _ (Ext.refl s) (.bl _)⟩)
      · exact .inl ⟨c, z, rx.str.1, ry.str.1, q F H _ (Ext.refl s) (.bl _)⟩
      · exact .inr (.inl ⟨_, z, rx.str.1, ry.str.1, q F H _ (Ext.refl s) (.bl _)⟩)
    | _ => exact q.elim
  | lst l =>
    have q' : WpG X.K E (rE X.K) (need (x.shp 19 && l.all (D.shp 19)) >>= fun _ => .ok (.bl (!l.any fun z => D.beq z x))) F H Q := by
      have e : bD (D.nmem x (.lst l)) = (need (x.shp 19 && l.all (D.shp 19)) >>= fun _ => .ok (.bl (!l.any fun z => D.beq z x))) := by
        unfold bD D.nmem D.mem need
        simp only
        cases (x.shp 19 && l.all (D.shp 19)) <;> rfl
      rw [← e]
      exact q
    obtain ⟨c, q2⟩ := q'.need
    obtain ⟨c1, c2⟩ := and2 c
    obtain ⟨d1, l1⟩ := rx.dp s c1
    have c3 : (D.lst l).shp 20 = true := c2
    obtain ⟨d2, l2⟩ := ry.dp s c3
    have sh := shaped_of (by decide) c3 l2
    simp only [D.py] at d2 sh
    refine .inr (.inr (.inl ⟨_, _, d1, d2, shaped_of (by decide) c1 l1, sh, ?_⟩))
    rw [any_py c1 c2]
    exact q2 F H _ (Ext.refl s) (.bl _)
  | tup l =>
    have q' : WpG X.K E (rE X.K) (need (x.shp 19 && l.all (D.shp 19)) >>= fun _ => .ok (.bl (!l.any fun z => D.beq z x))) F H Q := by
      have e : bD (D.nmem x (.tup l)) = (need (x.shp 19 && l.all (D.shp 19)) >>= fun _ => .ok (.bl (!l.any fun z => D.beq z x))) := by
        unfold bD D.nmem D.mem need
        simp only
        cases (x.shp 19 && l.all (D.shp 19)) <;> rfl
      rw [← e]
      exact q
    obtain ⟨c, q2⟩ := q'.need
    obtain ⟨c1, c2⟩ := and2 c
    obtain ⟨d1, l1⟩ := rx.dp s c1
    have c3 : (D.tup l).shp 20 = true := c2
    obtain ⟨d2, l2⟩ := ry.dp s c3
    have sh := shaped_of (by decide) c3 l2
    simp only [D.py] at d2 sh
    refine .inr (.inr (.inr (.inl ⟨_, _, d1, d2, shaped_of (by decide) c1 l1, sh, ?_⟩)))
    rw [any_py c1 c2]
    exact q2 F H _ (Ext.refl s) (.bl _)
  | dct l =>
    have q' : WpG X.K E (rE X.K) (need x.isKey >>= fun _ => .ok (.bl (!(D.look l x).isSome))) F H Q := by
      have e : bD (D.nmem x (.dct l)) = (need x.isKey >>= fun _ => .ok (.bl (!(D.look l x).isSome))) := by
        unfold bD D.nmem D.mem need
        simp only
        cases x.isKey <;> rfl
      rw [← e]
      exact q
    obtain ⟨c, q2⟩ := q'.need
    obtain ⟨k, rfl, rfl⟩ := keyV c rx
    obtain ⟨a, rfl, kvs, e1, e2, r2⟩ := ry.dct s
    refine .inr (.inr (.inr (.inr ⟨a, valV kvs k, rfl, DGet.k e1, ?_⟩)))
    rcases look_val k e2 r2 with ⟨h1, h2⟩ | ⟨v, d, h1, h2, _⟩
    · rw [h2] at q2
      rw [h1]
      exact q2 F H _ (Ext.refl s) (.bl _)
    · rw [h2] at q2
      rw [h1]
      exact q2 F H _ (Ext.refl s) (.bl _)
  | _ => exact q.elim
/-- is None -/
def D.isN (x y : D) : M Bool := match y with
  | .non => .ok x.isNon
  | _ => stuck
def D.notN (x y : D) : M Bool := match y with
  | .non => .ok (!x.isNon)
  | _ => stuck
theorem isNon_of {v : V} {d : D} {K : PySem.W.Frag} (r : RpT K F H v d) : decide (v = .non) = d.isNon := by
  cases r with
  | of r => cases r <;> rfl
  | own _ _ => rfl
  | ownd _ => rfl
  | ownu _ => rfl
  | obj _ _ _ => rfl
theorem cmp_isN : rCmp X.K E D.isN (fun x y H Q => y = .non ∧ Q (.bl (decide (x = .non))) H) := fun F H v u x y Q s rx ry q => by
  cases y with
  | non => exact ⟨ry.non, by rw [isNon_of rx]; exact q F H _ (Ext.refl s) (.bl _)⟩
  | _ => exact q.elim
theorem cmp_notN : rCmp X.K E D.notN (fun x y H Q => y = .non ∧ Q (.bl (!decide (x = .non))) H) := fun F H v u x y Q s rx ry q => by
  cases y with
  | non => exact ⟨ry.non, by rw [isNon_of rx]; exact q F H _ (Ext.refl s) (.bl _)⟩
  | _ => exact q.elim

/-! ### chains -/
theorem de_chain {op op' : CmpOp} {r r' : R2} {f f' : D → D → M Bool} (ho : OpR X (compareOp op) r) (ho' : OpR X (compareOp op') r') (hf : rCmp X.K E f r) (hf' : rCmp X.K E f' r') (ha : DR X E G a ma) (hb : DR X E G b mb) (hc : DR X E G c mc)
    (hm : lastMarks [op, op'] [b, c] = false := by with_unfolding_all rfl) :
    DE X E G (.Compare a [op, op'] [b, c] pos) (ma >>= fun x => mb >>= fun y => f x y >>= fun k => if k = true then mc >>= fun z => bD (f' y z) else .ok (.bl false)) := by
  obtain ⟨t1, p1, w1⟩ := ha
  obtain ⟨t2, p2, w2⟩ := hb
  obtain ⟨t3, p3, w3⟩ := hc
  refine ⟨_, pe_chain ho ho' p1 p2 p3 hm, fun B σ F H Q s g q => w1 B σ F H _ s g (q.bind fun x F1 H1 v x1 r1 q1 => w2 B σ F1 H1 _ x1.sFH (g.ext x1) (q1.bind fun y F2 H2 u x2 r2 q2 => ?_))⟩
  refine hf F2 H2 v u x y _ x2.sFH (r1.ext x2) r2 (WpG.bool (q2.bind fun k F3 H3 k' x3 e q3 => ?_))
  subst e
  cases k' with
  | true =>
    rw [if_pos rfl] at q3 ⊢
    exact w3 B σ F3 H3 _ x3.sFH ((g.ext x1).ext x2 |>.ext x3) (q3.bind fun z F4 H4 w x4 r4 q4 => hf' F4 H4 u w y z Q x4.sFH ((r2.ext x3).ext x4) r4 q4)
  | false =>
    rw [if_neg Bool.false_ne_true] at q3 ⊢
    exact q3 F3 H3 _ (Ext.refl x3.sFH) (.bl _)
theorem dt_chain {op op' : CmpOp} {r r' : R2} {f f' : D → D → M Bool} (ho : OpR X (compareOp op) r) (ho' : OpR X (compareOp op') r') (hf : rCmp X.K E f r) (hf' : rCmp X.K E f' r') (ha : DR X E G a ma) (hb : DR X E G b mb) (hc : DR X E G c mc)
    (hm : lastMarks [op, op'] [b, c] = false := by with_unfolding_all rfl) :
    DT X E G (.Compare a [op, op'] [b, c] pos) (ma >>= fun x => mb >>= fun y => f x y >>= fun k => if k = true then mc >>= fun z => f' y z else .ok false) := by
  obtain ⟨t1, p1, w1⟩ := ha
  obtain ⟨t2, p2, w2⟩ := hb
  obtain ⟨t3, p3, w3⟩ := hc
  refine ⟨_, pt_chain ho ho' p1 p2 p3 hm, fun B σ F H Q s g q => w1 B σ F H _ s g (q.bind fun x F1 H1 v x1 r1 q1 => w2 B σ F1 H1 _ x1.sFH (g.ext x1) (q1.bind fun y F2 H2 u x2 r2 q2 => ?_))⟩
  refine hf F2 H2 v u x y _ x2.sFH (r1.ext x2) r2 (WpG.bool (q2.bind fun k F3 H3 k' x3 e q3 => ?_))
  subst e
  cases k' with
  | true =>
    rw [if_pos rfl] at q3 ⊢
    exact w3 B σ F3 H3 _ x3.sFH ((g.ext x1).ext x2 |>.ext x3) (q3.bind fun z F4 H4 w x4 r4 q4 => hf' F4 H4 u w y z _ x4.sFH ((r2.ext x3).ext x4) r4 (WpG.bool q4))
  | false =>
    rw [if_neg Bool.false_ne_true] at q3 ⊢
    exact ⟨false, rfl, q3 F3 H3 _ (Ext.refl x3.sFH) rfl⟩

/-! ### truth, and, or, not, if -/
theorem tru_of {v : V} {d : D} {k : Bool} {K : PySem.W.Frag} (s : Same F H) (r : RpT K F H v d) (e : D.tru d = .ok k) : TruV K v H k := by
  cases d with
  | non => rw [r.non]; cases e; rfl
  | bl b => rw [r.bl]; cases e; rfl
  | int i => rw [r.int]; cases e; rfl
  | str y =>
    rw [r.str.1]
    by_cases h : y.length ≤ sizeLine
    · have e2 : D.tru (.str y) = .ok ((y.length : Int) != 0) := by
        show (need (decide (y.length ≤ sizeLine)) >>= fun _ => .ok ((y.length : Int) != 0)) = _
        rw [decide_eq_true h]
        rfl
      rw [e2] at e
      cases e
      exact ⟨h, rfl⟩
    · have e2 : D.tru (.str y) = stuck := by
        show (need (decide (y.length ≤ sizeLine)) >>= fun _ => .ok ((y.length : Int) != 0)) = _
        rw [decide_eq_false h]
        rfl
      rw [e2] at e
      cases e
  | lst l =>
    obtain ⟨p, xs, rfl, h, r⟩ := r.lst s
    cases e
    refine .inl ⟨xs, SqL.of h, ?_⟩
    cases r <;> rfl
  | tup l =>
    obtain ⟨p, xs, rfl, h, r⟩ := r.tup s
    cases e
    refine .inr (.inl ⟨xs, h, ?_⟩)
    cases r <;> rfl
  | dct l =>
    obtain ⟨p, rfl, kvs, h, h2, r⟩ := r.dct s
    cases e
    refine .inr (.inr ⟨kvs, h, ?_⟩)
    cases kvs with
    | nil => cases l with
      | nil => rfl
      | cons _ _ => simp at h2
    | cons _ _ => cases l with
      | nil => simp at h2
      | cons _ _ => rfl
  | _ => cases e
theorem tru_err {d : D} {x : Er} (h : D.tru d = .error x) : x = .stuck := by
  cases d with
  | str y =>
    have h : (need (decide (y.length ≤ sizeLine)) >>= fun _ => (.ok ((y.length : Int) != 0) : M Bool)) = .error x := h
    cases hd : decide (y.length ≤ sizeLine) with
    | true => rw [hd] at h; cases h
    | false => rw [hd] at h; cases h; rfl
  | non => cases h
  | bl _ => cases h
  | int _ => cases h
  | lst _ => cases h
  | tup _ => cases h
  | dct _ => cases h
  | _ => cases h; rfl
/-- behind the truth of d -/
theorem WpG.tru {α β : Type} {rel : Hp → Hp → β → α → Prop} {d : D} {v : V} {k : Bool → M α} {Q : β → Hp → Prop} {K : PySem.W.Frag} (q : WpG K E rel (D.tru d >>= k) F H Q) (s : Same F H) (r : RpT K F H v d) : ∃ b, D.tru d = .ok b ∧ TruV K v H b ∧ WpG K E rel (k b) F H Q := by
  cases e : D.tru d with
  | ok b =>
    rw [e] at q
    exact ⟨b, rfl, tru_of s r e, q⟩
  | error x =>
    rw [e] at q
    have := tru_err e
    subst this
    exact q.elim
theorem dt_val (ha : DR X E G a ma) (he : ∀ whole, isTrue a X.env whole = (do let v ← whole; standAt a.pos; holding [v] (truthy v)) := by intro _; rfl) : DT X E G a (ma >>= fun x => D.tru x) := by
  obtain ⟨t, p, w⟩ := ha
  refine ⟨_, pt_truth p he, fun B σ F H Q s g q => w B σ F H _ s g (q.bind fun x F1 H1 v x1 r1 q1 => ?_)⟩
  have q2 : WpG X.K E rB (D.tru x >>= fun b => .ok b) F1 H1 Q := by
    cases e : D.tru x with
    | ok b => rw [e] at q1; exact q1
    | error z => rw [e] at q1; exact q1
  obtain ⟨k, e, tk, q3⟩ := q2.tru x1.sFH r1
  exact ⟨k, tk, q3 F1 H1 _ (Ext.refl x1.sFH) rfl⟩
theorem dt_not (ha : DT X E G a ta) : DT X E G (.UnaryOp .Not a pos) (ta >>= fun x => .ok (!x)) := by
  obtain ⟨t, p, w⟩ := ha
  exact ⟨_, pt_not p, fun B σ F H Q s g q => w B σ F H _ s g (q.bind fun x F1 H1 v x1 r1 q1 => by
    subst r1
    exact q1 F1 H1 _ (Ext.refl x1.sFH) rfl)⟩
theorem DW.dt (h : DW X E G e ta) : DT X E G e ta := let ⟨t, p, w⟩ := h; ⟨t, p.pt, w⟩
theorem dw_and1 (ha : DT X E G a ta) : DW X E G (.BoolOp .And [a] pos) ta := let ⟨t, p, w⟩ := ha; ⟨t, pw_and1 p, w⟩
theorem dw_or1 (ha : DT X E G a ta) : DW X E G (.BoolOp .Or [a] pos) ta := let ⟨t, p, w⟩ := ha; ⟨t, pw_or1 p, w⟩
theorem dw_and {rest : List Expr} (ha : DT X E G a ta) (hb : DW X E G (.BoolOp .And (b :: rest) pos) tb) : DW X E G (.BoolOp .And (a :: b :: rest) pos) (ta >>= fun x => if x = true then tb else .ok false) := by
  obtain ⟨t1, p1, w1⟩ := ha
  obtain ⟨t2, p2, w2⟩ := hb
  refine ⟨_, pw_and p1 p2, fun B σ F H Q s g q => w1 B σ F H _ s g (q.bind fun x F1 H1 v x1 r1 q1 => ?_)⟩
  subst r1
  cases v with
  | true => exact w2 B σ F1 H1 _ x1.sFH (g.ext x1) q1
  | false => exact q1 F1 H1 _ (Ext.refl x1.sFH) rfl
theorem dw_or {rest : List Expr} (ha : DT X E G a ta) (hb : DW X E G (.BoolOp .Or (b :: rest) pos) tb) : DW X E G (.BoolOp .Or (a :: b :: rest) pos) (ta >>= fun x => if x = true then .ok true else tb) := by
  obtain ⟨t1, p1, w1⟩ := ha
  obtain ⟨t2, p2, w2⟩ := hb
  refine ⟨_, pw_or p1 p2, fun B σ F H Q s g q => w1 B σ F H _ s g (q.bind fun x F1 H1 v x1 r1 q1 => ?_)⟩
  subst r1
  cases v with
  | true => exact q1 F1 H1 _ (Ext.refl x1.sFH) rfl
  | false => exact w2 B σ F1 H1 _ x1.sFH (g.ext x1) q1
/-- as values -/
theorem de_one {op : BoolOp} (ha : DE X E G a ma) : DE X E G (.BoolOp op [a] pos) ma := let ⟨t, p, w⟩ := ha; ⟨t, pe_one p, w⟩
theorem de_and {rest : List Expr} (ha : DE X E G a ma) (hb : DE X E G (.BoolOp .And (b :: rest) pos) mb) : DE X E G (.BoolOp .And (a :: b :: rest) pos) (ma >>= fun x => D.tru x >>= fun k => if k = true then mb else .ok x) := by
  obtain ⟨t1, p1, w1⟩ := ha
  obtain ⟨t2, p2, w2⟩ := hb
  refine ⟨_, pe_andT p1 p2, fun B σ F H Q s g q => w1 B σ F H _ s g (q.bind fun x F1 H1 v x1 r1 q1 => ?_)⟩
  obtain ⟨k, e, tk, q3⟩ := q1.tru x1.sFH (.of r1)
  refine ⟨k, tk, ?_⟩
  cases k with
  | true => exact w2 B σ F1 H1 _ x1.sFH (g.ext x1) q3
  | false => exact q3 F1 H1 _ (Ext.refl x1.sFH) r1
theorem de_or {rest : List Expr} (ha : DE X E G a ma) (hb : DE X E G (.BoolOp .Or (b :: rest) pos) mb) : DE X E G (.BoolOp .Or (a :: b :: rest) pos) (ma >>= fun x => D.tru x >>= fun k => if k = true then .ok x else mb) := by
  obtain ⟨t1, p1, w1⟩ := ha
  obtain ⟨t2, p2, w2⟩ := hb
  refine ⟨_, pe_orT p1 p2, fun B σ F H Q s g q => w1 B σ F H _ s g (q.bind fun x F1 H1 v x1 r1 q1 => ?_)⟩
  obtain ⟨k, e, tk, q3⟩ := q1.tru x1.sFH (.of r1)
  refine ⟨k, tk, ?_⟩
  cases k with
  | true => exact q3 F1 H1 _ (Ext.refl x1.sFH) r1
  | false => exact w2 B σ F1 H1 _ x1.sFH (g.ext x1) q3
theorem de_not (ha : DR X E G a ma) : DE X E G (.UnaryOp .Not a pos) (ma >>= fun x => D.tru x >>= fun k => .ok (.bl (!k))) := by
  obtain ⟨t1, p1, w1⟩ := ha
  refine ⟨_, pe_notT p1, fun B σ F H Q s g q => w1 B σ F H _ s g (q.bind fun x F1 H1 v x1 r1 q1 => ?_)⟩
  obtain ⟨k, e, tk, q3⟩ := q1.tru x1.sFH r1
  exact ⟨k, tk, q3 F1 H1 _ (Ext.refl x1.sFH) (.bl _)⟩
theorem de_if (hc : DT X E G c ta) (ha : DE X E G a ma) (hb : DE X E G b mb) : DE X E G (.IfExp c a b pos) (ta >>= fun x => if x = true then ma else mb) := by
  obtain ⟨t0, p0, w0⟩ := hc
  obtain ⟨t1, p1, w1⟩ := ha
  obtain ⟨t2, p2, w2⟩ := hb
  refine ⟨_, pe_ifExp p0 p1 p2, fun B σ F H Q s g q => w0 B σ F H _ s g (q.bind fun x F1 H1 v x1 r1 q1 => ?_)⟩
  subst r1
  cases v with
  | true => exact w1 B σ F1 H1 _ x1.sFH (g.ext x1) q1
  | false => exact w2 B σ F1 H1 _ x1.sFH (g.ext x1) q1

/-! ### items -/
def rIxDct : R2 := fun x y H Q => ∃ a v, x = .ref a ∧ DGet H a y (some v) ∧ Q v H
theorem ix_dct (hu : X.A.units + 1 < cLine) : IxR X rIxDct := by
  intro value slice pins s σ H x y v u Q I rx ry h hs
  obtain ⟨a, z, rfl, g, q⟩ := h
  obtain rfl : v = Value.ref a := rx
  exact PyProof.Rows.tail_any (dict_typeIs I g) PySem.F.slot_dict_getitem.lookup (d_getItem hu I g ry fun w' s3 I3 rw' => ⟨z, H, I3, rw', q⟩) hs
theorem ix_all (hu : X.A.units + 70 < cLine) : IxR X (fun x y H Q => rIx X.K x y H Q ∨ rIxDct x y H Q) := ix_seq.or (ix_dct (by omega))
theorem ixN_atI {α : Type} {xs : List α} {i : Int} {x : α} (h : atI xs i = some x) : ∃ j, ixN xs.length i = some j ∧ xs[j]? = some x := by
  unfold atI at h
  cases e : ixN xs.length i with
  | none => rw [e] at h; cases h
  | some j => rw [e] at h; exact ⟨j, rfl, h⟩
theorem atI_rp {K : PySem.W.Frag} {xs : List V} {l : List D} {i : Int} {d : D} (r : RpL K F xs l) (h : atI l i = some d) : ∃ x, atI xs i = some x ∧ Rp K F x d := by
  obtain ⟨j, h1, h2⟩ := ixN_atI h
  obtain ⟨x, h3, h4⟩ := r.get h2
  refine ⟨x, ?_, h4⟩
  unfold atI
  rw [r.length, h1]
  exact h3
theorem op2_ix : Op2 X.K E D.ix (fun x y H Q => rIx X.K x y H Q ∨ rIxDct x y H Q) := fun F H v u x y Q s rx ry q => by
  cases x with
  | lst l => cases y with
    | int i =>
      obtain ⟨p, xs, rfl, h, r⟩ := rx.lst s
      have q : WpG X.K E (rE X.K) (match atI l i with | some d => .ok d | none => stuck) F H Q := q
      cases e : atI l i with
      | none => rw [e] at q; exact q.elim
      | some d =>
        rw [e] at q
        obtain ⟨z, h1, h2⟩ := atI_rp r e
        exact .inl (.inl ⟨p, xs, i, z, rfl, ry.int, SqL.of h, h1, q F H _ (Ext.refl s) h2⟩)
    | _ => exact q.elim
  | tup l => cases y with
    | int i =>
      obtain ⟨p, xs, rfl, h, r⟩ := rx.tup s
      have q : WpG X.K E (rE X.K) (match atI l i with | some d => .ok d | none => stuck) F H Q := q
      cases e : atI l i with
      | none => rw [e] at q; exact q.elim
      | some d =>
        rw [e] at q
        obtain ⟨z, h1, h2⟩ := atI_rp r e
        exact .inl (.inr (.inl ⟨p, xs, i, z, rfl, ry.int, h, h1, q F H _ (Ext.refl s) h2⟩))
    | _ => exact q.elim
  | str z => cases y with
    | int i =>
      have q : WpG X.K E (rE X.K) (need (decide (z.length ≤ sizeLine)) >>= fun _ => (match atI z.cps.toList i with | some c => .ok (.str ⟨#[c]⟩) | none => stuck)) F H Q := q
      obtain ⟨c, q⟩ := q.need
      have c := of_decide_eq_true c
      cases e : atI z.cps.toList i with
      | none => rw [e] at q; exact q.elim
      | some d =>
        rw [e] at q
        obtain ⟨j, _, h2⟩ := ixN_atI e
        exact .inl (.inr (.inr ⟨z, i, d, rx.str.1, ry.int, c, e, q F H _ (Ext.refl s) (.str _ (strOk_one rx.str.2 (List.mem_of_getElem? h2)))⟩))
    | _ => exact q.elim
  | dct l =>
    have q : WpG X.K E (rE X.K) (need y.isKey >>= fun _ => (match D.look l y with | some d => .ok d | none => stuck)) F H Q := q
    obtain ⟨c, q⟩ := q.need
    obtain ⟨k, rfl, rfl⟩ := keyV c ry
    obtain ⟨a, rfl, kvs, e1, e2, r2⟩ := rx.dct s
    rcases look_val k e2 r2 with ⟨h1, h2⟩ | ⟨v, d, h1, h2, h3⟩
    · rw [h2] at q
      exact q.elim
    · rw [h2] at q
      refine .inr ⟨a, v, rfl, ?_, q F H _ (Ext.refl s) h3⟩
      rw [← h1]
      exact DGet.k e1
  | _ => cases y <;> exact q.elim
theorem de_ix (hu : X.A.units + 70 < cLine) (ha : DR X E G a ma) (hb : DR X E G b mb) (hs : PlainIx b := by intro _ _; rfl) : DE X E G (.Subscript a b pos) (ma >>= fun x => mb >>= fun y => D.ix x y) := by
  obtain ⟨t1, p1, w1⟩ := ha
  obtain ⟨t2, p2, w2⟩ := hb
  exact ⟨_, pe_ix (ix_all hu) p1 p2 hs, two w1 w2 op2_ix⟩

/-! ### slices -/
def DO (X : Cx) (E : XK) (G : List Sl) (e : Option Expr) (m : M (Option Int)) : Prop :=
  ∃ t, PO X e t ∧ ∀ B σ F H Q, Same F H → GOk X.K B G σ F H → WpG X.K E (fun _ _ (v : Option Int) d => v = d) m F H Q → t σ H Q
theorem do_none : DO X E G none (.ok none) := ⟨_, po_none, fun B σ F H Q s g q => q F H _ (Ext.refl s) rfl⟩
def D.bnd : D → M (Option Int)
  | .int i => .ok (some i)
  | _ => stuck
theorem do_some (ha : DR X E G a ma) : DO X E G (some a) (ma >>= fun x => D.bnd x) := by
  obtain ⟨t1, p1, w1⟩ := ha
  refine ⟨_, po_some p1, fun B σ F H Q s g q => w1 B σ F H _ s g (q.bind fun x F1 H1 v x1 r1 q1 => ?_)⟩
  cases x with
  | int i => exact ⟨i, r1.int, q1 F1 H1 _ (Ext.refl x1.sFH) rfl⟩
  | _ => exact q1.elim
theorem cutL_rp {K : PySem.W.Frag} {xs : List V} {l : List D} (r : RpL K F xs l) (lo hi : Option Int) : RpL K F (cutV xs lo hi) (cutL l lo hi) := by
  unfold cutV cutL
  rw [r.length]
  exact (r.drop _).take _
theorem ints_rp {K : PySem.W.Frag} : ∀ l : List Int, RpL K F (l.map V.int) (l.map D.int)
  | [] => .nil
  | i :: l => .cons (.int i) (ints_rp l)
theorem cutV_map (l : List Int) (lo hi : Option Int) : cutV (l.map V.int) lo hi = (cutL l lo hi).map V.int := by
  unfold cutV cutL
  rw [List.length_map, List.map_take, List.map_drop]
theorem de_sl {lo hi : Option Expr} {ml mh : M (Option Int)} {p2 : Pos} (ha : DR X E G a ma) (hl : DO X E G lo ml) (hh : DO X E G hi mh) : DE X E G (.Subscript a (.Slice lo hi none p2) pos) (ma >>= fun x => ml >>= fun l => mh >>= fun h => D.sl x l h) := by
  obtain ⟨t1, p1, w1⟩ := ha
  obtain ⟨t2, q2, w2⟩ := hl
  obtain ⟨t3, q3, w3⟩ := hh
  refine ⟨_, pe_slice (sl_list.or (sl_tupA.or sl_str)) p1 q2 q3, fun B σ F H Q s g q => w1 B σ F H _ s g (q.bind fun x F1 H1 v x1 r1 k1 => w2 B σ F1 H1 _ x1.sFH (g.ext x1) (k1.bind fun l F2 H2 l' x2 e2 k2 => w3 B σ F2 H2 _ x2.sFH ((g.ext x1).ext x2) (k2.bind fun h F3 H3 h' x3 e3 k3 => ?_)))⟩
  subst e2 e3
  have r3 := (r1.ext x2).ext x3
  have s3 := x3.sFH
  cases x with
  | lst m =>
    obtain ⟨p, xs, rfl, e, r⟩ := r3.lst s3
    exact .inl ⟨p, xs, rfl, SqL.of e, new_lst s3 (cutL_rp r _ _) k3⟩
  | scr m =>
    obtain ⟨p, rfl, e⟩ := r3.scr s3
    refine .inl ⟨p, _, rfl, e, ?_⟩
    rw [cutV_map]
    exact new_lst s3 (ints_rp _) k3
  | tup m =>
    obtain ⟨p, xs, rfl, e, r⟩ := r3.tup s3
    refine .inr (.inl ⟨p, xs, rfl, e, fun hw => ?_, fun _ => new_tup s3 (cutL_rp r _ _) k3⟩)
    rw [r.length] at hw
    have ec : cutL m l' h' = m := by
      unfold cutL
      rw [hw.1, hw.2, List.drop_zero, Nat.sub_zero, List.take_length]
    have k3 : WpG X.K E (rE X.K) (.ok (.tup (cutL m l' h'))) F3 H3 Q := k3
    rw [ec] at k3
    exact k3 F3 H3 _ (Ext.refl s3) r3.rp_tup
  | str z =>
    have k3 : WpG X.K E (rE X.K) (need (decide (z.length ≤ sizeLine)) >>= fun _ => .ok (.str (cutS z l' h'))) F3 H3 Q := k3
    obtain ⟨c, k3⟩ := k3.need
    have c := of_decide_eq_true c
    exact .inr (.inr ⟨z, r3.str.1, c, k3 F3 H3 _ (Ext.refl s3) (.str _ (strOk_cut r3.str.2 _ _))⟩)
  | _ => exact k3.elim

/-! ### arguments, displays -/
theorem da_nil : DA X E G [] (.ok []) := ⟨_, pa_nil, fun B σ F H Q s g q => q F H _ (Ext.refl s) .nil⟩
theorem da_cons {es : List Expr} {ms : M (List D)} (ha : DE X E G a ma) (hr : DA X E G es ms) (hs : starEach (a :: es) X.env = (false, eval a X.env) :: starEach es X.env := by rfl) : DA X E G (a :: es) (ma >>= fun x => ms >>= fun xs => .ok (x :: xs)) := by
  obtain ⟨t1, p1, w1⟩ := ha
  obtain ⟨t2, p2, w2⟩ := hr
  exact ⟨_, pa_cons p1 p2 hs, fun B σ F H Q s g q => w1 B σ F H _ s g (q.bind fun x F1 H1 v x1 r1 k1 => w2 B σ F1 H1 _ x1.sFH (g.ext x1) (k1.bind fun xs F2 H2 vs x2 r2 k2 => k2 F2 H2 _ (Ext.refl x2.sFH) (.cons (r1.mono x2.sF) r2)))⟩
theorem dra_nil : DRA X E G [] (.ok []) := ⟨_, pa_nil, fun B σ F H Q s g q => q F H _ (Ext.refl s) .nil⟩
theorem RpTL.ext {K : PySem.W.Frag} {F' H' : Hp} (x : Ext F H F' H') : ∀ {vs : List V} {ds : List D}, RpTL K F H vs ds → RpTL K F' H' vs ds
  | _, _, .nil => .nil
  | _, _, .cons r h => .cons (r.ext x) (RpTL.ext x h)
theorem dra_cons {es : List Expr} {ms : M (List D)} (ha : DR X E G a ma) (hr : DRA X E G es ms) (hs : starEach (a :: es) X.env = (false, eval a X.env) :: starEach es X.env := by rfl) : DRA X E G (a :: es) (ma >>= fun x => ms >>= fun xs => .ok (x :: xs)) := by
  obtain ⟨t1, p1, w1⟩ := ha
  obtain ⟨t2, p2, w2⟩ := hr
  exact ⟨_, pa_cons p1 p2 hs, fun B σ F H Q s g q => w1 B σ F H _ s g (q.bind fun x F1 H1 v x1 r1 k1 => w2 B σ F1 H1 _ x1.sFH (g.ext x1) (k1.bind fun xs F2 H2 vs x2 r2 k2 => k2 F2 H2 _ (Ext.refl x2.sFH) (.cons (r1.ext x2) r2)))⟩
def D.mkTup (l : List D) : M D := do need (decide (l.length ≤ sizeLine)); .ok (.tup l)
def D.mkLst (l : List D) : M D := do need (decide (l.length ≤ sizeLine)); .ok (.lst l)
theorem de_tup {es : List Expr} {ms : M (List D)} {x1} (h : DA X E G es ms) : DE X E G (.Tuple es x1 pos) (ms >>= fun l => D.mkTup l) := by
  obtain ⟨t, p, w⟩ := h
  refine ⟨_, pe_tup p, fun B σ F H Q s g q => w B σ F H _ s g (q.bind fun l F1 H1 vs x1 r1 k1 => ?_)⟩
  have k1 : WpG X.K E (rE X.K) (need (decide (l.length ≤ sizeLine)) >>= fun _ => .ok (.tup l)) F1 H1 Q := k1
  obtain ⟨c, k1⟩ := k1.need
  have c := of_decide_eq_true c
  exact ⟨by rw [r1.length]; exact c, new_tup x1.sFH r1 k1⟩
theorem de_lst {es : List Expr} {ms : M (List D)} (h : DA X E G es ms) : DE X E G (.List es pos) (ms >>= fun l => D.mkLst l) := by
  obtain ⟨t, p, w⟩ := h
  refine ⟨_, pe_lst p, fun B σ F H Q s g q => w B σ F H _ s g (q.bind fun l F1 H1 vs x1 r1 k1 => ?_)⟩
  have k1 : WpG X.K E (rE X.K) (need (decide (l.length ≤ sizeLine)) >>= fun _ => .ok (.lst l)) F1 H1 Q := k1
  obtain ⟨c, k1⟩ := k1.need
  have c := of_decide_eq_true c
  exact ⟨by rw [r1.length]; exact c, new_lst x1.sFH r1 k1⟩

/-! ### built-in functions by values -/
def OpN (K : PySem.W.Frag) (E : XK) (f : List D → M D) (r : List V → Hp → VK → Prop) : Prop := ∀ (F H : Hp) (vs : List V) (ds : List D) (Q : VK), Same F H → RpTL K F H vs ds → WpG K E (rE K) (f ds) F H Q → r vs H Q
theorem argsN {t : TA} {ms : M (List D)} {f : List D → M D} {r : List V → Hp → VK → Prop} (w : ∀ B σ F H Q, Same F H → GOk X.K B G σ F H → WpG X.K E (rTL X.K) ms F H Q → t σ H Q) (hf : OpN X.K E f r) :
    ∀ B σ F H Q, Same F H → GOk X.K B G σ F H → WpG X.K E (rE X.K) (ms >>= fun l => f l) F H Q → tCB r t σ H Q := fun B σ F H Q s g q =>
  w B σ F H _ s g (q.bind fun l F1 H1 vs x1 r1 k1 => hf F1 H1 vs l Q x1.sFH r1 k1)
theorem de_callB {id : String} {x : Str} {es : List Expr} {p : Pos} {ms : M (List D)} {f : List D → M D} {r : List V → Hp → VK → Prop} (hc : CallR X (.builtin id) r) (hf : OpN X.K E f r) (hg : Gl X x) (hm : X.mg x = none) (hv : bootBuiltins x = some (.builtin id)) (ha : DRA X E G (a :: es) ms)
    (hn : x ≠ "__name__" := by decide) (hdb : (x == ("__debug__" : Str)) = false := by decide) (he : starEach (a :: es) X.env = (false, eval a X.env) :: starEach es X.env := by rfl) (hpl : (backTo pos (starEach es X.env)).any (·.1) = false := by rfl) : DE X E G (.Call (.Name x p) (a :: es) [] pos) (ms >>= fun l => f l) := by
  obtain ⟨t, pp, w⟩ := ha
  exact ⟨_, pe_callB hc hg hm hv pp hn hdb he hpl, argsN w hf⟩
theorem de_callTy {T : String} {x : Str} {es : List Expr} {p : Pos} {ms : M (List D)} {f : List D → M D} {r : List V → Hp → VK → Prop} (hc : CallR X (.type T) r) (hf : OpN X.K E f r) (hg : Gl X x) (hm : X.mg x = none) (hv : bootBuiltins x = some (.type T)) (ha : DRA X E G (a :: es) ms)
    (hn : x ≠ "__name__" := by decide) (hdb : (x == ("__debug__" : Str)) = false := by decide) (he : starEach (a :: es) X.env = (false, eval a X.env) :: starEach es X.env := by rfl) (hpl : (backTo pos (starEach es X.env)).any (·.1) = false := by rfl) : DE X E G (.Call (.Name x p) (a :: es) [] pos) (ms >>= fun l => f l) := by
  obtain ⟨t, pp, w⟩ := ha
  exact ⟨_, pe_callTy hc hg hm hv pp hn hdb he hpl, argsN w hf⟩
def f1 (f : D → M D) : List D → M D
  | [x] => f x
  | _ => stuck
def f2 (f : D → D → M D) : List D → M D
  | [x, y] => f x y
  | _ => stuck
theorem opN1 {f : D → M D} {r : List V → Hp → VK → Prop} (h : ∀ F H v d Q, Same F H → RpT X.K F H v d → WpG X.K E (rE X.K) (f d) F H Q → r [v] H Q) : OpN X.K E (f1 f) r := fun F H vs ds Q s r q => by
  cases r with
  | nil => exact q.elim
  | cons r1 r2 => cases r2 with
    | nil => exact h F H _ _ Q s r1 q
    | cons _ _ => exact q.elim
theorem opN2 {f : D → D → M D} {r : List V → Hp → VK → Prop} (h : ∀ F H v u d e Q, Same F H → RpT X.K F H v d → RpT X.K F H u e → WpG X.K E (rE X.K) (f d e) F H Q → r [v, u] H Q) : OpN X.K E (f2 f) r := fun F H vs ds Q s r q => by
  cases r with
  | nil => exact q.elim
  | cons r1 r2 => cases r2 with
    | nil => exact q.elim
    | cons r3 r4 => cases r4 with
      | nil => exact h F H _ _ _ _ Q s r1 r3 q
      | cons _ _ => exact q.elim
theorem lenR : CallR X (.builtin "len") (fun xs H Q => (∃ x n, xs = [x] ∧ LenV X.K x H n ∧ Q (.int n) H) ∨ (∃ a kvs, xs = [V.ref a] ∧ H a = some (.dK kvs) ∧ Q (.int kvs.length) H)) := call_len.or call_lenD
theorem len_op : OpN X.K E (f1 D.len) (fun xs H Q => (∃ x n, xs = [x] ∧ LenV X.K x H n ∧ Q (.int n) H) ∨ (∃ a kvs, xs = [V.ref a] ∧ H a = some (.dK kvs) ∧ Q (.int kvs.length) H)) := opN1 fun F H v d Q s r q => by
  cases d with
  | str y =>
    have q : WpG X.K E (rE X.K) (need (decide (y.length ≤ sizeLine)) >>= fun _ => .ok (.int y.length)) F H Q := q
    obtain ⟨c, q⟩ := q.need
    have c := of_decide_eq_true c
    exact .inl ⟨v, y.length, rfl, by rw [r.str.1]; exact ⟨c, rfl⟩, q F H _ (Ext.refl s) (.int _)⟩
  | lst l =>
    obtain ⟨p, xs, rfl, e, r⟩ := r.lst s
    exact .inl ⟨_, xs.length, rfl, .inl ⟨xs, SqL.of e, rfl⟩, by rw [r.length]; exact q F H _ (Ext.refl s) (.int _)⟩
  | scr l =>
    obtain ⟨p, rfl, e⟩ := r.scr s
    exact .inl ⟨_, l.length, rfl, .inl ⟨_, e, by rw [List.length_map]⟩, q F H _ (Ext.refl s) (.int _)⟩
  | tup l =>
    obtain ⟨p, xs, rfl, e, r⟩ := r.tup s
    exact .inl ⟨_, xs.length, rfl, .inr ⟨xs, e, rfl⟩, by rw [r.length]; exact q F H _ (Ext.refl s) (.int _)⟩
  | dct l =>
    obtain ⟨p, rfl, kvs, e, e2, r⟩ := r.dct s
    refine .inr ⟨_, kvs, rfl, e, ?_⟩
    have el : kvs.length = l.length := by
      have := congrArg List.length e2
      simpa using this
    rw [el]
    exact q F H _ (Ext.refl s) (.int _)
  | _ => exact q.elim
theorem abs_op : OpN X.K E (f1 D.abs) (fun xs H Q => ∃ i, xs = [.int i] ∧ Q (.int (if i < 0 then -i else i)) H) := opN1 fun F H v d Q s r q => by
  cases d with
  | int i => exact ⟨i, by rw [r.int], q F H _ (Ext.refl s) (.int _)⟩
  | _ => exact q.elim
theorem max_op : OpN X.K E (f2 D.max2) (fun xs H Q => ∃ i j, xs = [.int i, .int j] ∧ Q (.int (if j > i then j else i)) H) := opN2 fun F H v u d e Q s r1 r2 q => by
  cases d with
  | int i => cases e with
    | int j => exact ⟨i, j, by rw [r1.int, r2.int], q F H _ (Ext.refl s) (.int _)⟩
    | _ => exact q.elim
  | _ => cases e <;> exact q.elim
theorem min_op : OpN X.K E (f2 D.min2) (fun xs H Q => ∃ i j, xs = [.int i, .int j] ∧ Q (.int (if j < i then j else i)) H) := opN2 fun F H v u d e Q s r1 r2 q => by
  cases d with
  | int i => cases e with
    | int j => exact ⟨i, j, by rw [r1.int, r2.int], q F H _ (Ext.refl s) (.int _)⟩
    | _ => exact q.elim
  | _ => cases e <;> exact q.elim
theorem int_R : CallR X (.type "int") (fun xs H Q => ((∃ i, xs = [.int i] ∧ Q (.int i) H) ∨ ∃ k, xs = [.bl k] ∧ Q (.int (if k then 1 else 0)) H) ∨ (∃ a n, xs = [.str a] ∧ PySem.intText? a = some n ∧ a.length ≤ 640 ∧ Q (.int n) H)) := call_int1.or call_int_str
theorem int_op : OpN X.K E (f1 D.toInt) (fun xs H Q => ((∃ i, xs = [.int i] ∧ Q (.int i) H) ∨ ∃ k, xs = [.bl k] ∧ Q (.int (if k then 1 else 0)) H) ∨ (∃ a n, xs = [.str a] ∧ PySem.intText? a = some n ∧ a.length ≤ 640 ∧ Q (.int n) H)) := opN1 fun F H v d Q s r q => by
  cases d with
  | int i => exact .inl (.inl ⟨i, by rw [r.int], q F H _ (Ext.refl s) (.int _)⟩)
  | bl i => exact .inl (.inr ⟨i, by rw [r.bl], q F H _ (Ext.refl s) (.int _)⟩)
  | str a =>
    have q : WpG X.K E (rE X.K) (match PySem.intText? a with | some n => (need (decide (a.length ≤ 640)) >>= fun _ => .ok (.int n)) | none => stuck) F H Q := q
    cases e : PySem.intText? a with
    | none => rw [e] at q; exact q.elim
    | some n =>
      rw [e] at q
      obtain ⟨c, q⟩ := WpG.need q
      have c := of_decide_eq_true c
      exact .inr ⟨a, n, by rw [r.str.1], e, c, q F H _ (Ext.refl s) (.int _)⟩
  | _ => exact q.elim
theorem toString_ok (i : Int) : PyData.strOk ((toString i : String) : Str) = true := by
  rw [strOk_mem]
  intro c hc
  rw [Str.ofString_eq_toList] at hc
  simp only [List.mem_map] at hc
  obtain ⟨ch, _, rfl⟩ := hc
  have h := ch.valid
  simp only [UInt32.isValidChar, Nat.isValidChar] at h
  have : ch.toNat = ch.val.toNat := rfl
  omega
theorem str_op : OpN X.K E (f1 D.toStr) (fun xs H Q => ∃ i, xs = [.int i] ∧ i.natAbs.log2 < 1920 ∧ Q (.str (toString i)) H) := opN1 fun F H v d Q s r q => by
  cases d with
  | int i =>
    have q : WpG X.K E (rE X.K) (need (decide (i.natAbs.log2 < 1920)) >>= fun _ => .ok (.str (toString i))) F H Q := q
    obtain ⟨c, q⟩ := q.need
    have c := of_decide_eq_true c
    exact ⟨i, by rw [r.int], c, q F H _ (Ext.refl s) (.str _ (toString_ok i))⟩
  | _ => exact q.elim
theorem bools_rp {K : PySem.W.Frag} : ∀ {l : List D} {xs : List V} {bs : List Bool}, D.bools l = some bs → RpL K F xs l → xs = bs.map V.bl
  | [], _, _, h, .nil => by
    cases h
    rfl
  | d :: l, _, bs, h, .cons r1 r2 => by
    cases d with
    | bl b =>
      have h : (D.bools l).map (b :: ·) = some bs := h
      cases e : D.bools l with
      | none => rw [e] at h; cases h
      | some cs =>
        rw [e] at h
        cases h
        cases r1
        rw [bools_rp e r2]
        rfl
    | _ => cases h
theorem all_op : OpN X.K E (f1 D.all) (rAll X.K) := opN1 fun F H v d Q s r q => by
  cases d with
  | lst l =>
    have q : WpG X.K E (rE X.K) (match D.bools l with | some bs => .ok (.bl (bs.all id)) | none => stuck) F H Q := q
    cases e : D.bools l with
    | none => rw [e] at q; exact q.elim
    | some bs =>
      rw [e] at q
      obtain ⟨p, xs, rfl, h, r⟩ := r.lst s
      have ex := bools_rp e r
      subst ex
      exact ⟨p, bs, rfl, SqL.of h, q F H _ (Ext.refl s) (.bl _)⟩
  | _ => exact q.elim
theorem any_op : OpN X.K E (f1 D.any) (rAny X.K) := opN1 fun F H v d Q s r q => by
  cases d with
  | lst l =>
    have q : WpG X.K E (rE X.K) (match D.bools l with | some bs => .ok (.bl (bs.any id)) | none => stuck) F H Q := q
    cases e : D.bools l with
    | none => rw [e] at q; exact q.elim
    | some bs =>
      rw [e] at q
      obtain ⟨p, xs, rfl, h, r⟩ := r.lst s
      have ex := bools_rp e r
      subst ex
      exact ⟨p, bs, rfl, SqL.of h, q F H _ (Ext.refl s) (.bl _)⟩
  | _ => exact q.elim
theorem list_op : OpN X.K E (f1 D.toList) (fun xs H Q => ∃ p ys, xs = [.ref p] ∧ (SqL X.K H p ys ∨ SqT X.K H p ys) ∧ ∀ l, H l = none → Q (.ref l) (upd H l (.lst ys))) := opN1 fun F H v d Q s r q => by
  cases d with
  | lst l =>
    obtain ⟨p, xs, rfl, h, r⟩ := r.lst s
    exact ⟨p, xs, rfl, .inl (SqL.of h), new_lst s r q⟩
  | tup l =>
    obtain ⟨p, xs, rfl, h, r⟩ := r.tup s
    exact ⟨p, xs, rfl, .inr h, new_lst s r q⟩
  | _ => exact q.elim
theorem tup_op : OpN X.K E (f1 D.toTup) (fun xs H Q => ∃ p ys, xs = [.ref p] ∧ ((SqL X.K H p ys ∧ ∀ l, H l = none → Q (.ref l) (upd H l (.tup ys))) ∨ (SqT X.K H p ys ∧ Q (.ref p) H))) := opN1 fun F H v d Q s r q => by
  cases d with
  | lst l =>
    obtain ⟨p, xs, rfl, h, r⟩ := r.lst s
    exact ⟨p, xs, rfl, .inl ⟨SqL.of h, new_tup s r q⟩⟩
  | tup l =>
    obtain ⟨p, xs, ep, h, r'⟩ := r.tup s
    subst ep
    exact ⟨p, xs, rfl, .inr ⟨h, q F H _ (Ext.refl s) r.rp_tup⟩⟩
  | _ => exact q.elim
/-! ### methods of texts -/
theorem strs_rp {K : PySem.W.Frag} : ∀ {l : List D} {xs : List V} {bs : List Str}, D.strs l = some bs → RpL K F xs l → xs = bs.map V.str ∧ ∀ y ∈ bs, PyData.strOk y = true
  | [], _, _, h, .nil => by
    cases h
    exact ⟨rfl, fun y hy => by cases hy⟩
  | d :: l, _, bs, h, .cons r1 r2 => by
    cases d with
    | str b =>
      have h : (D.strs l).map (b :: ·) = some bs := h
      cases e : D.strs l with
      | none => rw [e] at h; cases h
      | some cs =>
        rw [e] at h
        cases h
        cases r1 with
        | str _ hb =>
          obtain ⟨e1, e2⟩ := strs_rp e r2
          rw [e1]
          refine ⟨rfl, fun y hy => ?_⟩
          rcases List.mem_cons.mp hy with rfl | hy
          · exact hb
          · exact e2 y hy
    | _ => cases h
theorem de_m0 {T : String} {id : String} {name : Str} {r : V → List V → Hp → VK → Prop} {f : D → M D} {apos : Pos} (pa : PlainAttrs T) (slot : Slot T name id) (hty : typeOf (.builtin id) = pure (.type "method_descriptor")) (hm : MtR X id r)
    (hf : ∀ F H v d Q, Same F H → RpT X.K F H v d → WpG X.K E (rE X.K) (f d) F H Q → tyV X.K T v H ∧ r v [] H Q) (ha : DR X E G a ma)
    (hbase : attributeBase a name X.env (eval a X.env) = eval a X.env := by rfl) (hline : (apos.endLine == pos.line) = true := by rfl) : DE X E G (.Call (.Attribute a name apos) [] [] pos) (ma >>= fun x => f x) := by
  obtain ⟨t, p, w⟩ := ha
  exact ⟨_, pe_bm0 pa slot hty hm p hbase hline, fun B σ F H Q s g q => w B σ F H _ s g (q.bind fun x F1 H1 v x1 r1 k1 => hf F1 H1 v x Q x1.sFH r1 k1)⟩
end
end DL
set_option Elab.async false
set_option linter.all false
set_option maxRecDepth 100000
set_option maxHeartbeats 4000000
/-! DL5: methods with arguments, f-strings, what a for walks, targets, comprehensions, fresh lists. -/
namespace DL
open PySem PySem.Spec L2

/-! ### texts stay texts: join, split -/
theorem joinL_mem {S : List Nat} {c : Nat} : ∀ {l : List (List Nat)}, c ∈ TL.joinL S l → c ∈ S ∨ ∃ p ∈ l, c ∈ p
  | [], h => by cases h
  | [p], h => .inr ⟨p, List.mem_singleton.mpr rfl, h⟩
  | p :: q :: r, h => by
    have h : c ∈ p ++ (S ++ TL.joinL S (q :: r)) := h
    rcases List.mem_append.mp h with h | h
    · exact .inr ⟨p, List.mem_cons_self .., h⟩
    · rcases List.mem_append.mp h with h | h
      · exact .inl h
      · rcases joinL_mem h with h | ⟨z, hz, h⟩
        · exact .inl h
        · exact .inr ⟨z, List.mem_cons_of_mem _ hz, h⟩
theorem mem_joinL {S p : List Nat} {c : Nat} : ∀ {l : List (List Nat)}, p ∈ l → c ∈ p → c ∈ TL.joinL S l
  | [], h, _ => by cases h
  | [q], h, hc => by
    rw [List.mem_singleton.mp h] at hc
    exact hc
  | q :: r :: l, h, hc => by
    show c ∈ q ++ (S ++ TL.joinL S (r :: l))
    rcases List.mem_cons.mp h with rfl | h
    · exact List.mem_append_left _ hc
    · exact List.mem_append_right _ (List.mem_append_right _ (mem_joinL h hc))
theorem strOk_tl {x : Str} : PyData.strOk x = true ↔ ∀ c ∈ TL.tl x, c < 0x110000 := strOk_mem
theorem strOk_join {a : Str} {l : List Str} (ha : PyData.strOk a = true) (hl : ∀ y ∈ l, PyData.strOk y = true) : PyData.strOk (Txt.join a l) = true := by
  rw [strOk_tl]
  intro c hc
  rw [TL.join_eq, TL.tl_join] at hc
  rcases joinL_mem hc with h | ⟨p, hp, h⟩
  · exact strOk_tl.mp ha c h
  · obtain ⟨y, hy, rfl⟩ := List.mem_map.mp hp
    exact strOk_tl.mp (hl y hy) c h
theorem strOk_split {a b : Str} (ha : PyData.strOk a = true) : ∀ y ∈ Txt.split a b, PyData.strOk y = true := by
  intro y hy
  rw [strOk_tl]
  intro c hc
  have e := StrLaws.join_split a b
  refine strOk_tl.mp ha c ?_
  rw [← e, TL.tl_join]
  exact mem_joinL (List.mem_map_of_mem hy) hc
section
variable {X : Cx} {E : XK} {G : List Sl} {a b c e : Expr} {ma mb mc : M D} {ta tb : M Bool} {pos : Pos} {F H : Hp}
theorem strs_new {K : PySem.W.Frag} : ∀ {l : List Str}, (∀ y ∈ l, PyData.strOk y = true) → RpL K F (l.map V.str) (l.map D.str)
  | [], _ => .nil
  | x :: l, h => .cons (.str x (h x (List.mem_cons_self ..))) (strs_new fun y hy => h y (List.mem_cons_of_mem _ hy))

/-! ### methods with arguments -/
/-- the receiver's kind is looked at ahead of the arguments -/
def meth (c : D → Bool) (mo : M D) (ms : M (List D)) (f : D → List D → M D) : M D := do
  let x ← mo
  need (c x)
  let l ← ms
  f x l
theorem de_m {T : String} {id : String} {name : Str} {r : V → List V → Hp → VK → Prop} {f : D → List D → M D} {c : D → Bool} {apos : Pos} {es : List Expr} {ms : M (List D)} (pa : PlainAttrs T) (slot : Slot T name id) (hty : typeOf (.builtin id) = pure (.type "method_descriptor")) (hm : MtR X id r)
    (hc : ∀ (F H : Hp) (v : V) (d : D), c d = true → Same F H → RpT X.K F H v d → tyV X.K T v H)
    (hf : ∀ (F H : Hp) (v : V) (d : D) (vs : List V) (ds : List D) (Q : VK), Same F H → RpT X.K F H v d → RpTL X.K F H vs ds → WpG X.K E (rE X.K) (f d ds) F H Q → r v vs H Q) (ho : DR X E G b mb) (ha : DRA X E G (a :: es) ms)
    (hbase : attributeBase b name X.env (eval b X.env) = eval b X.env := by rfl)
    (hfew : ((backTo pos (starEach (a :: es) X.env)).all (fun x => !x.1) && (backToKw pos (keywordEach [] X.env)).all (fun x => x.1.isSome)
      && decide ((a :: es).length + ([] : List Keyword).length + (if ([] : List Keyword).isEmpty then 0 else 1) < 30)) = true := by rfl)
    (hline : (apos.endLine == pos.line) = true := by rfl) (hs : starEach (a :: es) X.env = (false, eval a X.env) :: starEach es X.env := by rfl) (hplain : (backTo pos (starEach es X.env)).any (·.1) = false := by rfl) :
    DE X E G (.Call (.Attribute b name apos) (a :: es) [] pos) (meth c mb ms f) := by
  obtain ⟨t1, p1, w1⟩ := ho
  obtain ⟨t2, p2, w2⟩ := ha
  refine ⟨_, pe_bm pa slot hty hm p1 p2 hbase hfew hline hs hplain, fun B σ F H Q s g q => w1 B σ F H _ s g (WpG.bind q fun x F1 H1 v x1 r1 k1 => ?_)⟩
  obtain ⟨cx, k1⟩ := WpG.need k1
  exact ⟨hc F1 H1 v x cx x1.sFH r1, w2 B σ F1 H1 _ x1.sFH (g.ext x1) (WpG.bind k1 fun l F2 H2 vs x2 r2 k2 => hf F2 H2 v x vs l Q x2.sFH (r1.ext x2) r2 k2)⟩
def D.isStr : D → Bool
  | .str _ => true
  | _ => false
def m1 (f : D → D → M D) : D → List D → M D
  | x, [y] => f x y
  | _, _ => stuck
theorem ty_str {K : PySem.W.Frag} {v : V} {d : D} (h : d.isStr = true) (r : RpT K F H v d) : tyV K "str" v H := by
  cases d with
  | str z => rw [r.str.1]; rfl
  | _ => cases h
theorem m1_of {f : D → D → M D} {r : V → List V → Hp → VK → Prop} (h : ∀ F H v u d e Q, Same F H → RpT X.K F H v d → RpT X.K F H u e → WpG X.K E (rE X.K) (f d e) F H Q → r v [u] H Q) :
    ∀ (F H : Hp) (v : V) (d : D) (vs : List V) (ds : List D) (Q : VK), Same F H → RpT X.K F H v d → RpTL X.K F H vs ds → WpG X.K E (rE X.K) (m1 f d ds) F H Q → r v vs H Q := fun F H v d vs ds Q s r1 r q => by
  cases r with
  | nil => exact q.elim
  | cons r2 r3 => cases r3 with
    | nil => exact h F H v _ d _ Q s r1 r2 q
    | cons _ _ => exact q.elim
theorem de_join {apos : Pos} {ms : M (List D)} (ho : DR X E G b mb) (ha : DRA X E G [a] ms)
    (hbase : attributeBase b "join" X.env (eval b X.env) = eval b X.env := by rfl)
    (hfew : ((backTo pos (starEach [a] X.env)).all (fun x => !x.1) && (backToKw pos (keywordEach [] X.env)).all (fun x => x.1.isSome)
      && decide (([a] : List Expr).length + ([] : List Keyword).length + (if ([] : List Keyword).isEmpty then 0 else 1) < 30)) = true := by rfl)
    (hline : (apos.endLine == pos.line) = true := by rfl) (hs : starEach [a] X.env = (false, eval a X.env) :: starEach [] X.env := by rfl) (hplain : (backTo pos (starEach [] X.env)).any (·.1) = false := by rfl) :
    DE X E G (.Call (.Attribute b "join" apos) [a] [] pos) (meth D.isStr mb ms (m1 D.join)) :=
  de_m PySem.F.plainAttrs_str PySem.F.slot_str_join PySem.F.type_str_join mt_join (fun F H v d h _ r => ty_str h r) (m1_of fun F H v u d e Q s r1 r2 q => by
    cases d with
    | str z =>
      cases e with
      | lst l =>
        have q : WpG X.K E (rE X.K) (match D.strs l with
          | some ys => (need (decide ((ys.map (·.length)).sum + ys.length * z.length ≤ 16777216)) >>= fun _ => .ok (.str (Txt.join z ys)))
          | none => stuck) F H Q := q
        cases e : D.strs l with
        | none => rw [e] at q; exact q.elim
        | some ys =>
          rw [e] at q
          obtain ⟨c, q⟩ := WpG.need q
          have c := of_decide_eq_true c
          obtain ⟨p, xs, rfl, h, r⟩ := r2.lst s
          obtain ⟨rfl, ok⟩ := strs_rp e r
          exact ⟨z, p, ys, r1.str.1, rfl, .inl (SqL.of h), c, q F H _ (Ext.refl s) (.str _ (strOk_join r1.str.2 ok))⟩
      | tup l =>
        have q : WpG X.K E (rE X.K) (match D.strs l with
          | some ys => (need (decide ((ys.map (·.length)).sum + ys.length * z.length ≤ 16777216)) >>= fun _ => .ok (.str (Txt.join z ys)))
          | none => stuck) F H Q := q
        cases e : D.strs l with
        | none => rw [e] at q; exact q.elim
        | some ys =>
          rw [e] at q
          obtain ⟨c, q⟩ := WpG.need q
          have c := of_decide_eq_true c
          obtain ⟨p, xs, rfl, h, r⟩ := r2.tup s
          obtain ⟨rfl, ok⟩ := strs_rp e r
          exact ⟨z, p, ys, r1.str.1, rfl, .inr h, c, q F H _ (Ext.refl s) (.str _ (strOk_join r1.str.2 ok))⟩
      | _ => exact q.elim
    | _ => cases e <;> exact q.elim) ho ha hbase hfew hline hs hplain
theorem de_split {apos : Pos} {ms : M (List D)} (ho : DR X E G b mb) (ha : DRA X E G [a] ms)
    (hbase : attributeBase b "split" X.env (eval b X.env) = eval b X.env := by rfl)
    (hfew : ((backTo pos (starEach [a] X.env)).all (fun x => !x.1) && (backToKw pos (keywordEach [] X.env)).all (fun x => x.1.isSome)
      && decide (([a] : List Expr).length + ([] : List Keyword).length + (if ([] : List Keyword).isEmpty then 0 else 1) < 30)) = true := by rfl)
    (hline : (apos.endLine == pos.line) = true := by rfl) (hs : starEach [a] X.env = (false, eval a X.env) :: starEach [] X.env := by rfl) (hplain : (backTo pos (starEach [] X.env)).any (·.1) = false := by rfl) :
    DE X E G (.Call (.Attribute b "split" apos) [a] [] pos) (meth D.isStr mb ms (m1 D.split)) :=
  de_m PySem.F.plainAttrs_str PySem.F.slot_str_split PySem.F.type_str_split mt_split (fun F H v d h _ r => ty_str h r) (m1_of fun F H v u d e Q s r1 r2 q => by
    cases d with
    | str z =>
      cases e with
      | str y =>
        have q : WpG X.K E (rE X.K) (need (!(y.length == 0) && decide (z.length + 2 ≤ sizeLine)) >>= fun _ => .ok (.lst ((Txt.split z y).map D.str))) F H Q := q
        obtain ⟨c, q⟩ := WpG.need q
        obtain ⟨c1, c2⟩ := and2 c
        have c2 := of_decide_eq_true c2
        refine ⟨z, y, r1.str.1, by rw [r2.str.1], by simpa using c1, c2, ?_⟩
        exact new_lst s (strs_new (strOk_split r1.str.2)) q
      | _ => exact q.elim
    | _ => cases e <;> exact q.elim) ho ha hbase hfew hline hs hplain

/-! ### f-strings -/
def D.fmt : D → M D
  | .str y => do need (decide (y.length ≤ sizeLine)); .ok (.str y)
  | .int i => do need (decide (i.natAbs.log2 < 1920)); .ok (.str (toString i))
  | _ => stuck
theorem de_fmt (ha : DR X E G a ma) : DE X E G (.FormattedValue a (-1) none pos) (ma >>= fun x => D.fmt x) := by
  obtain ⟨t, p, w⟩ := ha
  refine ⟨_, pe_fmt p, fun B σ F H Q s g q => w B σ F H _ s g (q.bind fun x F1 H1 v x1 r1 k1 => ?_)⟩
  cases x with
  | str y =>
    have k1 : WpG X.K E (rE X.K) (need (decide (y.length ≤ sizeLine)) >>= fun _ => .ok (.str y)) F1 H1 Q := k1
    obtain ⟨c, k1⟩ := k1.need
    have c := of_decide_eq_true c
    exact .inl ⟨y, r1.str.1, c, k1 F1 H1 _ (Ext.refl x1.sFH) (.str _ r1.str.2)⟩
  | int i =>
    have k1 : WpG X.K E (rE X.K) (need (decide (i.natAbs.log2 < 1920)) >>= fun _ => .ok (.str (toString i))) F1 H1 Q := k1
    obtain ⟨c, k1⟩ := k1.need
    have c := of_decide_eq_true c
    exact .inr ⟨i, r1.int, c, k1 F1 H1 _ (Ext.refl x1.sFH) (.str _ (toString_ok i))⟩
  | _ => exact k1.elim
def fjoin (acc : Str) : List (M D) → M D
  | [] => .ok (.str acc)
  | m :: ms => m >>= fun d => match d with
    | .str y => need (decide ((acc ++ y).length ≤ sizeLine)) >>= fun _ => fjoin (acc ++ y) ms
    | _ => stuck
inductive DJ (X : Cx) (E : XK) (G : List Sl) : List Expr → List (M D) → Prop
  | nil : DJ X E G [] []
  | cons {e : Expr} {m : M D} {es : List Expr} {ms : List (M D)} : DE X E G e m → DJ X E G es ms → DJ X E G (e :: es) (m :: ms)
theorem dj_run {es : List Expr} {ms : List (M D)} (h : DJ X E G es ms) : ∃ ts, PJ X es ts ∧ ∀ (acc : Str) B σ F H (Q : VK), PyData.strOk acc = true → Same F H → GOk X.K B G σ F H → WpG X.K E (rE X.K) (fjoin acc ms) F H Q → tJs ts acc σ H fun out H1 => Q (.str out) H1 := by
  induction h with
  | nil => exact ⟨[], .nil, fun acc B σ F H Q ha s g q => q F H _ (Ext.refl s) (.str _ ha)⟩
  | @cons e m es ms h hr ih =>
    obtain ⟨t, p, w⟩ := h
    obtain ⟨ts, ps, ws⟩ := ih
    refine ⟨t :: ts, .cons p ps, fun acc B σ F H Q ha s g q => w B σ F H _ s g (WpG.bind (show WpG X.K E (rE X.K) (m >>= fun d => match d with
      | .str y => need (decide ((acc ++ y).length ≤ sizeLine)) >>= fun _ => fjoin (acc ++ y) ms
      | _ => stuck) F H Q from q) fun x F1 H1 v x1 r1 k1 => ?_)⟩
    cases x with
    | str y =>
      obtain ⟨c, k1⟩ := WpG.need k1
      have c := of_decide_eq_true c
      cases r1 with
      | str _ hy => exact ⟨y, rfl, c, ws (acc ++ y) B σ F1 H1 Q (strOk_app ha hy) x1.sFH (g.ext x1) k1⟩
    | _ => exact k1.elim
theorem strOk_empty : PyData.strOk Str.empty = true := strOk_mem.mpr fun c hc => by cases hc
theorem de_joined {v1 v2 : Expr} {rest : List Expr} {ms : List (M D)} (h : DJ X E G (v1 :: v2 :: rest) ms) : DE X E G (.JoinedStr (v1 :: v2 :: rest) pos) (fjoin Str.empty ms) := by
  obtain ⟨ts, p, w⟩ := dj_run h
  exact ⟨_, pe_joined p, fun B σ F H Q s g q => w Str.empty B σ F H Q strOk_empty s g q⟩
theorem de_joined1 (h : DE X E G e ma) : DE X E G (.JoinedStr [e] pos) ma := let ⟨t, p, w⟩ := h; ⟨t, pe_joined1 p, w⟩

/-! ### what is walked -/
def Yld (K : PySem.W.Frag) (J : It) (P : Hp → Hp → Prop) (ds : List D) : Prop := ∀ F H, P F H → Same F H → (∀ (i : Nat) (d : D), ds[i]? = some d → J.go i H ∧ ∀ x H', J.yld i H x H' → ∃ F', Ext F H F' H' ∧ Rp K F' x d) ∧ J.stop ds.length H
/-- frozen: in a for; to be read: in a comprehension -/
def DI (X : Cx) (E : XK) (G : List Sl) (tg iter : Expr) (m : M (List D)) : Prop :=
  ∃ wi, PI X tg iter wi ∧ ∀ B σ F H R, Same F H → GOk X.K B G σ F H → WpG X.K E (fun F' _ J ds => Yld X.K J (fun F1 _ => Same F' F1) ds) m F H R → wi σ H R
def DIR (X : Cx) (E : XK) (G : List Sl) (tg iter : Expr) (m : M (List D)) : Prop :=
  ∃ wi, PI X tg iter wi ∧ ∀ B σ F H R, Same F H → GOk X.K B G σ F H → WpG X.K E (fun F' H' J ds => Yld X.K J (fun F1 H1 => Ext F' H' F1 H1) ds) m F H R → wi σ H R
theorem DIR.of {tg iter : Expr} {m : M (List D)} (h : DI X E G tg iter m) : DIR X E G tg iter m := by
  obtain ⟨t, p, w⟩ := h
  exact ⟨t, p, fun B σ F H Q s g q => w B σ F H Q s g (match m, q with
    | .ok d, q => fun F' H' J x r => q F' H' J x fun F1 H1 y s1 => r F1 H1 y.sF s1
    | .error .stuck, q => q.elim
    | .error (.exc x), q => q)⟩
def iSeq (K : PySem.W.Frag) (tl : TE) : TI := fun σ H R => tl σ H fun x H1 => (∃ a, x = .ref a ∧ (∃ xs, SqL K H1 a xs) ∧ R (Itl K a) H1) ∨ (∃ a, x = .ref a ∧ (∃ xs, SqT K H1 a xs) ∧ R (Itt K a) H1) ∨ ∃ y, x = .str y ∧ R (Its y) H1
theorem pi_seq {tg l : Expr} {tl : TE} (hl : PE X l tl) : PI X tg l (iSeq X.K tl) := by
  refine ⟨fun pins s σ H R I h => ?_⟩
  refine thn (hl.run pins s σ H _ I h) fun v s1 ⟨x, H1, I1, r1, q1⟩ => ?_
  have tv : ∀ (Q : VK), Q x H1 → tC x σ H1 Q := fun Q h => h
  rcases q1 with ⟨a, e, ⟨xs, hq⟩, q⟩ | ⟨a, e, ⟨xs, hq⟩, q⟩ | ⟨y, e, q⟩
  · subst e
    cases r1
    obtain ⟨its, rv, p, hz⟩ := I1.list hq
    refine wpAny_pyIter_list p.isList ?_
    refine ⟨s1.heap.objs.size, [s1.heap.objs.size], _, _, H1, rfl, I1.kept (t' := s1.toks) fun b o e => Heap.get?_push_of_some _ e, turn_list a _, ⟨_, Heap.get?_push_size _ rfl, rfl, rfl⟩, fun b hb => ?_, q⟩
    have e : b = s1.heap.objs.size := by simpa using hb
    subst e
    exact I1.fpOk (Nat.le_refl _) (I1.hok.fresh (Nat.le_refl _))
  · subst e
    cases r1
    obtain ⟨its, rv, p, hz⟩ := I1.tuple hq
    refine wpAny_pyIter_tuple (show s1.heap.IsTuple a its.toArray from p) ?_
    refine ⟨s1.heap.objs.size, [s1.heap.objs.size], _, _, H1, rfl, I1.kept (t' := s1.toks) fun b o e => Heap.get?_push_of_some _ e, turn_tuple a _, ⟨_, Heap.get?_push_size _ rfl, rfl, rfl⟩, fun b hb => ?_, q⟩
    have e : b = s1.heap.objs.size := by simpa using hb
    subst e
    exact I1.fpOk (Nat.le_refl _) (I1.hok.fresh (Nat.le_refl _))
  · subst e
    obtain ⟨t, rfl⟩ := r1
    cases ha : y.cps.all (· < 128)
    · exact wpAny_pyIter_wide ha (pi_one (tk := s1.toks) I1 _ (turn_str _ y t "str_iterator" (.inr rfl)) ⟨_, Heap.get?_push_size _ rfl, rfl, rfl⟩ q)
    · exact wpAny_pyIter_ascii ha (pi_one (tk := s1.toks) I1 _ (turn_str _ y t "str_ascii_iterator" (.inl rfl)) ⟨_, Heap.get?_push_size _ rfl, rfl, rfl⟩ q)
/-- the items that a value gives -/
def D.items : D → M (List D)
  | .lst l => .ok l
  | .tup l => .ok l
  | .str y => .ok (y.cps.toList.map fun c => D.str ⟨#[c]⟩)
  | _ => stuck
theorem yld_list {K : PySem.W.Frag} {a : Addr} {xs : List V} {ds : List D} {F0 : Hp} {P : Hp → Hp → Prop} (r : RpL K F0 xs ds) (h : ∀ F H, P F H → Same F H → Same F0 F ∧ H a = some (.lst xs)) : Yld K (Itl K a) P ds := fun F H p s => by
  obtain ⟨h1, h2⟩ := h F H p s
  refine ⟨fun i d hd => ?_, ?_⟩
  · obtain ⟨x, hx, rx⟩ := r.get hd
    refine ⟨⟨xs, x, SqL.of h2, hx⟩, fun y H' hy => ?_⟩
    obtain ⟨rfl, hy⟩ := hy
    have e : x = y := Option.some.inj (hx.symm.trans (hy xs (SqL.of h2)))
    subst e
    exact ⟨F, Ext.refl s, rx.mono h1⟩
  · exact ⟨xs, SqL.of h2, by rw [r.length]; exact Nat.le_refl _⟩
theorem yld_tup {K : PySem.W.Frag} {a : Addr} {xs : List V} {ds : List D} {F0 : Hp} {P : Hp → Hp → Prop} (r : RpL K F0 xs ds) (h : ∀ F H, P F H → Same F H → Same F0 F ∧ SqT K H a xs) : Yld K (Itt K a) P ds := fun F H p s => by
  obtain ⟨h1, h2⟩ := h F H p s
  refine ⟨fun i d hd => ?_, ?_⟩
  · obtain ⟨x, hx, rx⟩ := r.get hd
    refine ⟨⟨xs, x, h2, hx⟩, fun y H' hy => ?_⟩
    obtain ⟨rfl, hy⟩ := hy
    have e : x = y := Option.some.inj (hx.symm.trans (hy xs h2))
    subst e
    exact ⟨F, Ext.refl s, rx.mono h1⟩
  · exact ⟨xs, h2, by rw [r.length]; exact Nat.le_refl _⟩
theorem yld_str {K : PySem.W.Frag} {y : Str} {P : Hp → Hp → Prop} (ok : PyData.strOk y = true) : Yld K (Its y) P (y.cps.toList.map fun c => D.str ⟨#[c]⟩) := fun F H p s => by
  refine ⟨fun i d hd => ?_, ?_⟩
  · rw [List.getElem?_map] at hd
    cases e : y.cps.toList[i]? with
    | none => rw [e] at hd; cases hd
    | some c =>
      rw [e] at hd
      cases hd
      have hi : i < y.cps.toList.length := (List.getElem?_eq_some_iff.mp e).1
      refine ⟨by show i < y.cps.size; simpa using hi, fun x H' hx => ?_⟩
      obtain ⟨rfl, c', hc, rfl⟩ := hx
      have e2 : y.cps.toList[i]? = some c' := by simpa using hc
      rw [e] at e2
      cases e2
      exact ⟨F, Ext.refl s, .str _ (strOk_one ok (List.mem_of_getElem? e))⟩
  · show y.cps.size ≤ _
    simp
theorem di_seq {tg : Expr} (ha : DE X E G a ma) : DI X E G tg a (ma >>= fun x => D.items x) := by
  obtain ⟨t, p, w⟩ := ha
  refine ⟨_, pi_seq p, fun B σ F H R s g q => w B σ F H _ s g (q.bind fun x F1 H1 v x1 r1 k1 => ?_)⟩
  cases x with
  | lst l => cases r1 with
    | lst h r => exact .inl ⟨_, rfl, ⟨_, SqL.of (x1.sFH _ _ h)⟩, k1 F1 H1 _ (Ext.refl x1.sFH) (yld_list r fun F2 H2 p s2 => ⟨p, s2 _ _ (p _ _ h)⟩)⟩
  | tup l => cases r1 with
    | tup h r => exact .inr (.inl ⟨_, rfl, ⟨_, Same.seqT x1.sFH h⟩, k1 F1 H1 _ (Ext.refl x1.sFH) (yld_tup r fun F2 H2 p s2 => ⟨p, Same.seqT s2 (Same.seqT p h)⟩)⟩)
  | str y => cases r1 with
    | str _ ok => exact .inr (.inr ⟨y, rfl, k1 F1 H1 _ (Ext.refl x1.sFH) (yld_str ok)⟩)
  | _ => exact k1.elim
end
end DL
set_option Elab.async false
set_option linter.all false
set_option maxRecDepth 100000
set_option maxHeartbeats 4000000
/-! DL6: ranges, targets, comprehensions, fresh lists. -/
namespace DL
open PySem PySem.Spec L2
section
variable {X : Cx} {E : XK} {G : List Sl} {a b c e : Expr} {ma mb mc : M D} {ta tb : M Bool} {pos : Pos} {F H : Hp}

/-- to be read: an owned list too -/
theorem dir_seq {tg : Expr} (ha : DR X E G a ma) : DIR X E G tg a (ma >>= fun x => D.items x) := by
  obtain ⟨t, p, w⟩ := ha
  refine ⟨_, pi_seq p, fun B σ F H R s g q => w B σ F H _ s g (q.bind fun x F1 H1 v x1 r1 k1 => ?_)⟩
  cases x with
  | lst l =>
    obtain ⟨a, xs, rfl, h, r⟩ := r1.lst x1.sFH
    exact .inl ⟨_, rfl, ⟨_, SqL.of h⟩, k1 F1 H1 _ (Ext.refl x1.sFH) (yld_list r fun F2 H2 p s2 => ⟨p.sF, p.sH _ _ h⟩)⟩
  | tup l =>
    obtain ⟨a, xs, rfl, h, r⟩ := r1.tup x1.sFH
    exact .inr (.inl ⟨_, rfl, ⟨_, h⟩, k1 F1 H1 _ (Ext.refl x1.sFH) (yld_tup r fun F2 H2 p s2 => ⟨p.sF, Same.seqT p.sH h⟩)⟩)
  | str y =>
    obtain ⟨rfl, ok⟩ := r1.str
    exact .inr (.inr ⟨y, rfl, k1 F1 H1 _ (Ext.refl x1.sFH) (yld_str ok)⟩)
  | _ => exact k1.elim

/-! ### range -/
def rangeL (lo : Int) (n : Nat) : List D := (List.range n).map fun (k : Nat) => D.int (lo + (k : Int))
def smallI (i : Int) : Bool := decide (-(2 ^ 62) ≤ i ∧ i < 2 ^ 62)
def D.range1 : List D → M (List D)
  | [.int j] => do need (smallI j); .ok (rangeL 0 j.toNat)
  | _ => stuck
def D.range2 : List D → M (List D)
  | [.int i, .int j] => do need (smallI i && smallI j); .ok (rangeL i (j - i).toNat)
  | _ => stuck
theorem yld_range {K : PySem.W.Frag} {lo : Int} {n : Nat} {P : Hp → Hp → Prop} : Yld K (Itr lo n) P (rangeL lo n) := fun F H p s => by
  refine ⟨fun i d hd => ?_, ?_⟩
  · unfold rangeL at hd
    rw [List.getElem?_map] at hd
    cases e : (List.range n)[i]? with
    | none => rw [e] at hd; cases hd
    | some k =>
      rw [e] at hd
      cases hd
      obtain ⟨hi, hk⟩ := List.getElem?_eq_some_iff.mp e
      rw [List.length_range] at hi
      rw [List.getElem_range] at hk
      subst hk
      refine ⟨hi, fun x H' hx => ?_⟩
      obtain ⟨rfl, rfl⟩ := hx
      exact ⟨F, Ext.refl s, .int _⟩
  · show n ≤ _
    unfold rangeL
    rw [List.length_map, List.length_range]
    exact Nat.le_refl _
theorem di_range1 {tg : Expr} {p : Pos} {ms : M (List D)} (hg : Gl X "range") (hm : X.mg "range" = none) (ha : DRA X E G [a] ms) (hs : starEach [a] X.env = [(false, eval a X.env)] := by rfl) : DI X E G tg (.Call (.Name "range" p) [a] [] pos) (ms >>= fun l => D.range1 l) := by
  obtain ⟨t, pp, w⟩ := ha
  refine ⟨_, pi_range1 hg hm pp hs, fun B σ F H R s g q => w B σ F H _ s g (q.bind fun l F1 H1 vs x1 r1 k1 => ?_)⟩
  cases r1 with
  | nil => exact k1.elim
  | @cons v vs d ds r1 r2 => cases r2 with
    | cons _ _ => cases d <;> exact k1.elim
    | nil => cases d with
      | int j =>
        have k1 : WpG X.K E _ (need (smallI j) >>= fun _ => .ok (rangeL 0 j.toNat)) F1 H1 R := k1
        obtain ⟨c, k1⟩ := k1.need
        have c := of_decide_eq_true c
        exact ⟨j, by rw [r1.int], c.1, c.2, k1 F1 H1 _ (Ext.refl x1.sFH) yld_range⟩
      | _ => exact k1.elim
theorem di_range2 {tg : Expr} {p : Pos} {ms : M (List D)} (hg : Gl X "range") (hm : X.mg "range" = none) (ha : DRA X E G [a, b] ms) (hs : starEach [a, b] X.env = [(false, eval a X.env), (false, eval b X.env)] := by rfl) (hs2 : starEach [b] X.env = [(false, eval b X.env)] := by rfl) : DI X E G tg (.Call (.Name "range" p) [a, b] [] pos) (ms >>= fun l => D.range2 l) := by
  obtain ⟨t, pp, w⟩ := ha
  refine ⟨_, pi_range2 hg hm pp hs hs2, fun B σ F H R s g q => w B σ F H _ s g (q.bind fun l F1 H1 vs x1 r1 k1 => ?_)⟩
  cases r1 with
  | nil => exact k1.elim
  | @cons v vs d ds r1 r2 => cases r2 with
    | nil => cases d <;> exact k1.elim
    | @cons v2 vs2 d2 ds2 r2 r3 => cases r3 with
      | cons _ _ => cases d <;> cases d2 <;> exact k1.elim
      | nil => cases d with
        | int i => cases d2 with
          | int j =>
            have k1 : WpG X.K E _ (need (smallI i && smallI j) >>= fun _ => .ok (rangeL i (j - i).toNat)) F1 H1 R := k1
            obtain ⟨c, k1⟩ := k1.need
            obtain ⟨c1, c2⟩ := and2 c
            have c1 := of_decide_eq_true c1
            have c2 := of_decide_eq_true c2
            exact ⟨i, j, by rw [r1.int, r2.int], ⟨c1.1, c1.2, c2.1, c2.2⟩, k1 F1 H1 _ (Ext.refl x1.sFH) yld_range⟩
          | _ => exact k1.elim
        | _ => cases d2 <;> exact k1.elim

/-! ### targets -/
theorem GOk.set {K : PySem.W.Frag} {B : Hp} {σ : St} {i : Nat} {v : V} {d : D} (g : GOk K B G σ F H) (r : Rp K F v d) : GOk K B (G.set i (.val d)) (σ.set i (some v)) F H where
  sB := g.sB
  len := by rw [List.length_set, List.length_set]; exact g.len
  ok := fun j s h => by
    by_cases e : i = j
    · subst e
      have hi : i < G.length := by
        have := (List.getElem?_eq_some_iff.mp h).1
        rwa [List.length_set] at this
      rw [List.getElem?_set_self hi] at h
      cases h
      exact ⟨some v, by rw [List.getElem?_set_self (by rw [g.len]; exact hi)], v, rfl, r⟩
    · rw [List.getElem?_set_ne e] at h
      rw [List.getElem?_set_ne e]
      exact g.ok j s h
  dis := fun j k s t a h1 h2 o1 o2 e1 e2 => by
    have nj : i ≠ j := fun z => by
      subst z
      have hi : i < G.length := by
        have := (List.getElem?_eq_some_iff.mp h1).1
        rwa [List.length_set] at this
      rw [List.getElem?_set_self hi] at h1
      cases h1
      cases o1
    have nk : i ≠ k := fun z => by
      subst z
      have hi : i < G.length := by
        have := (List.getElem?_eq_some_iff.mp h2).1
        rwa [List.length_set] at this
      rw [List.getElem?_set_self hi] at h2
      cases h2
      cases o2
    rw [List.getElem?_set_ne nj] at h1 e1
    rw [List.getElem?_set_ne nk] at h2 e2
    exact g.dis j k s t a h1 h2 o1 o2 e1 e2
/-- less is told of slot i -/
theorem GOk.any {K : PySem.W.Frag} {B : Hp} {σ : St} {i : Nat} (g : GOk K B G σ F H) : GOk K B (G.set i .any) σ F H where
  sB := g.sB
  len := by rw [List.length_set]; exact g.len
  ok := fun j s h => by
    by_cases e : i = j
    · subst e
      have hi : i < G.length := by
        have := (List.getElem?_eq_some_iff.mp h).1
        rwa [List.length_set] at this
      rw [List.getElem?_set_self hi] at h
      cases h
      exact ⟨σ[i]'(by rw [g.len]; exact hi), List.getElem?_eq_getElem _, trivial⟩
    · rw [List.getElem?_set_ne e] at h
      exact g.ok j s h
  dis := fun j k s t a h1 h2 o1 o2 e1 e2 => by
    have nj : i ≠ j := fun z => by
      subst z
      have hi : i < G.length := by
        have := (List.getElem?_eq_some_iff.mp h1).1
        rwa [List.length_set] at this
      rw [List.getElem?_set_self hi] at h1
      cases h1
      cases o1
    have nk : i ≠ k := fun z => by
      subst z
      have hi : i < G.length := by
        have := (List.getElem?_eq_some_iff.mp h2).1
        rwa [List.length_set] at this
      rw [List.getElem?_set_self hi] at h2
      cases h2
      cases o2
    rw [List.getElem?_set_ne nj] at h1
    rw [List.getElem?_set_ne nk] at h2
    exact g.dis j k s t a h1 h2 o1 o2 e1 e2
/-- names as targets: the slots vs, what is told behind -/
def DG (X : Cx) (G : List Sl) (tg : Expr) (vs : List Nat) (b : D → M (List Sl)) : Prop :=
  ∃ g, PG X tg g ∧ ∀ x v B σ F H (Q : St → Hp → Prop), Same F H → GOk X.K B G σ F H → Rp X.K F v x → (∃ G', b x = .ok G' ∧ ∀ σ', GOk X.K B G' σ' F H → (∀ k, k ∉ vs → σ'[k]? = σ[k]?) → σ'.length = σ.length → Q σ' H) → g v σ H Q
theorem dg_name {tg : Expr} {i : Nat} (p : PG X tg (gName i)) : DG X G tg [i] (fun d => .ok (G.set i (.val d))) :=
  ⟨_, p, fun x v B σ F H Q s g r ⟨G', e, k⟩ => by
    cases e
    exact k _ (g.set r) (fun k hk => List.getElem?_set_ne fun z => hk (by simp [z])) (by rw [List.length_set])⟩
def gNames : List Nat → TGs
  | [] => gNil
  | i :: is => gCons (gName i) (gNames is)
def setAll (G : List Sl) : List Nat → List D → M (List Sl)
  | [], [] => .ok G
  | i :: is, d :: ds => setAll (G.set i (.val d)) is ds
  | _, _ => stuck
theorem setAll_len : ∀ {is : List Nat} {ds : List D} {G G' : List Sl}, setAll G is ds = .ok G' → ds.length = is.length
  | [], [], _, _, _ => rfl
  | [], _ :: _, _, _, h => by cases h
  | _ :: _, [], _, _, h => by cases h
  | i :: is, d :: ds, G, G', h => congrArg Nat.succ (setAll_len (is := is) (ds := ds) h)
theorem gNames_run {K : PySem.W.Frag} : ∀ {is : List Nat} {ds : List D} {xs : List V} {G G' : List Sl} {B : Hp} {σ : St} {Q : St → Hp → Prop}, Same F H → GOk K B G σ F H → RpL K F xs ds → setAll G is ds = .ok G' →
    (∀ σ', GOk K B G' σ' F H → (∀ k, k ∉ is → σ'[k]? = σ[k]?) → σ'.length = σ.length → Q σ' H) → gNames is xs σ H Q
  | [], [], _, _, _, _, _, _, s, g, .nil, e, k => by
    cases e
    exact ⟨rfl, k _ g (fun _ _ => rfl) rfl⟩
  | [], _ :: _, _, _, _, _, _, _, s, g, _, e, k => by cases e
  | _ :: _, [], _, _, _, _, _, _, s, g, _, e, k => by cases e
  | i :: is, d :: ds, _, G, G', B, σ, Q, s, g, .cons r1 r2, e, k => by
    refine ⟨_, _, rfl, gNames_run (is := is) s (g.set r1) r2 e fun σ' g' hk hl => k σ' g' (fun k hk' => ?_) (by rw [hl, List.length_set])⟩
    rw [hk k fun z => hk' (List.mem_cons_of_mem _ z)]
    exact List.getElem?_set_ne fun z => hk' (by simp [z])
def bindTup (G : List Sl) (is : List Nat) : D → M (List Sl)
  | .tup ds => setAll G is ds
  | _ => stuck
theorem dg_tup {tg : Expr} {n : Nat} {is : List Nat} (p : PG X tg (gTup X.K n (gNames is))) (hn : is.length = n) : DG X G tg is (bindTup G is) :=
  ⟨_, p, fun x v B σ F H Q s g r ⟨G', e, k⟩ => by
    cases x with
    | tup ds => cases r with
      | tup h hs => exact ⟨_, _, rfl, Same.seqT s h, by rw [hs.length, setAll_len e, hn], gNames_run s g hs e k⟩
    | _ => cases e⟩

/-! ### comprehensions -/
/-- slots forgotten -/
def wipeG (G : List Sl) : List Nat → List Sl
  | [] => G
  | v :: vs => (wipeG G vs).set v .any
theorem GOk.setAny {K : PySem.W.Frag} {B : Hp} {σ : St} {i : Nat} {o : Option V} (g : GOk K B G σ F H) : GOk K B (G.set i .any) (σ.set i o) F H where
  sB := g.sB
  len := by rw [List.length_set, List.length_set]; exact g.len
  ok := fun j s h => by
    by_cases e : i = j
    · subst e
      have hi : i < G.length := by
        have := (List.getElem?_eq_some_iff.mp h).1
        rwa [List.length_set] at this
      rw [List.getElem?_set_self hi] at h
      cases h
      exact ⟨o, by rw [List.getElem?_set_self (by rw [g.len]; exact hi)], trivial⟩
    · rw [List.getElem?_set_ne e] at h
      rw [List.getElem?_set_ne e]
      exact g.ok j s h
  dis := fun j k s t a h1 h2 o1 o2 e1 e2 => by
    have nj : i ≠ j := fun z => by
      subst z
      have hi : i < G.length := by
        have := (List.getElem?_eq_some_iff.mp h1).1
        rwa [List.length_set] at this
      rw [List.getElem?_set_self hi] at h1
      cases h1
      cases o1
    have nk : i ≠ k := fun z => by
      subst z
      have hi : i < G.length := by
        have := (List.getElem?_eq_some_iff.mp h2).1
        rwa [List.length_set] at this
      rw [List.getElem?_set_self hi] at h2
      cases h2
      cases o2
    rw [List.getElem?_set_ne nj] at h1 e1
    rw [List.getElem?_set_ne nk] at h2 e2
    exact g.dis j k s t a h1 h2 o1 o2 e1 e2
theorem GOk.wipe {K : PySem.W.Frag} {B : Hp} {σ : St} (g : GOk K B G σ F H) : ∀ vs : List Nat, GOk K B (wipeG G vs) (wipe σ vs) F H
  | [] => g
  | v :: vs => (GOk.wipe g vs).setAny
theorem wipe_same {σ σ' : St} : ∀ {vs : List Nat}, (∀ k, k ∉ vs → σ'[k]? = σ[k]?) → σ'.length = σ.length → wipe σ' vs = wipe σ vs := by
  intro vs h hl
  apply List.ext_getElem?
  intro k
  by_cases hk : k ∈ vs
  · have q : ∀ (ws : List Nat) (ρ : St), k ∈ ws → k < ρ.length → (wipe ρ ws)[k]? = some none := by
      intro ws
      induction ws with
      | nil => intro ρ h; cases h
      | cons w ws ih =>
        intro ρ h hlt
        show ((wipe ρ ws).set w none)[k]? = some none
        by_cases e : w = k
        · subst e
          rw [List.getElem?_set_self (by rw [wipe_length]; exact hlt)]
        · rw [List.getElem?_set_ne e]
          rcases List.mem_cons.mp h with z | z
          · exact absurd z.symm e
          · exact ih ρ z hlt
    by_cases hlt : k < σ.length
    · rw [q vs σ' hk (by rw [hl]; exact hlt), q vs σ hk hlt]
    · rw [List.getElem?_eq_none (by rw [wipe_length, hl]; omega), List.getElem?_eq_none (by rw [wipe_length]; omega)]
  · have q : ∀ (ws : List Nat) (ρ : St), k ∉ ws → (wipe ρ ws)[k]? = ρ[k]? := by
      intro ws
      induction ws with
      | nil => intro ρ _; rfl
      | cons w ws ih =>
        intro ρ h
        show ((wipe ρ ws).set w none)[k]? = _
        rw [List.getElem?_set_ne (fun z => h (by simp [z]))]
        exact ih ρ fun z => h (List.mem_cons_of_mem _ z)
    rw [q vs σ' hk, q vs σ hk]
    exact h k hk
/-- a fresh list, not frozen -/
def DN (X : Cx) (E : XK) (G : List Sl) (e : Expr) (m : M (List D)) : Prop :=
  ∃ t, PE X e t ∧ ∀ B σ F H Q, Same F H → GOk X.K B G σ F H → WpG X.K E (fun F' H' (v : V) (l : List D) => ∃ p xs, v = .ref p ∧ H p = none ∧ H' p = some (.lst xs) ∧ F' p = none ∧ RpL X.K F' xs l) m F H Q → t σ H Q
theorem Ext.freeze {F' H' : Hp} {p : Addr} {xs : List V} (x : Ext F H F' H') (n : H p = none) (h : H' p = some (.lst xs)) (nf : F' p = none) : Ext F H (upd F' p (.lst xs)) H' where
  sF := fun b o q => by
    rw [upd_ne (fun z => by
      subst z
      have := x.sF _ _ q
      rw [nf] at this
      cases this)]
    exact x.sF _ _ q
  sH := x.sH
  sFH := fun b o q => by
    by_cases e : b = p
    · subst e
      rw [upd_same] at q
      cases q
      exact h
    · rw [upd_ne e] at q
      exact x.sFH _ _ q
  old := fun a o q => by
    rw [upd_ne (ne_of_none q n)]
    exact x.old a o q
theorem DN.de {m : M (List D)} (h : DN X E G e m) : DE X E G e (m >>= fun l => .ok (.lst l)) := by
  obtain ⟨t, p, w⟩ := h
  refine ⟨t, p, fun B σ F H Q s g q => w B σ F H Q s g ?_⟩
  cases m with
  | ok l =>
    intro F' H' v x ⟨p, xs, ev, n, h, nf, r⟩
    subst ev
    exact q _ H' _ (x.freeze n h nf) (.lst upd_same (r.mono (same_new nf)))
  | error er => cases er with
    | stuck => exact q.elim
    | exc y => exact q
/-- f at each: none for an item left out; what is raised isn't told -/
def comp (f : D → M (Option D)) : List D → M (List D)
  | [] => .ok []
  | d :: ds => match f d with
    | .ok (some y) => comp f ds >>= fun ys => .ok (y :: ys)
    | .ok none => comp f ds
    | .error _ => stuck
def compL (f : D → M (Option D)) (ds : List D) : M (List D) := do need (decide (ds.length ≤ sizeLine)); comp f ds
theorem comp_snoc {f : D → M (Option D)} : ∀ {ds : List D} {ys : List D}, comp f ds = .ok ys → ∀ {i : Nat} {d : D}, ds[i]? = some d → ∃ y zs ws, f d = .ok y ∧ comp f (ds.take i) = .ok zs ∧ comp f (ds.take (i + 1)) = .ok (zs ++ y.toList) ∧ ys = ws
  | [], _, _, _, _, h => by simp at h
  | d0 :: ds, ys, h, i, d, hd => by
    have h : (match f d0 with
      | .ok (some y) => comp f ds >>= fun ys => .ok (y :: ys)
      | .ok none => comp f ds
      | .error _ => stuck) = .ok ys := h
    cases e : f d0 with
    | error x => rw [e] at h; cases h
    | ok o =>
      rw [e] at h
      cases i with
      | zero =>
        have : d0 = d := by simpa using hd
        subst this
        refine ⟨o, [], ys, e, rfl, ?_, rfl⟩
        show comp f [d0] = _
        cases o with
        | none => simp [comp, e]
        | some y =>
          simp only [comp, e]
          rfl
      | succ i =>
        have hd' : ds[i]? = some d := by simpa using hd
        have key : ∃ ys', comp f ds = .ok ys' := by
          cases o with
          | none => exact ⟨ys, h⟩
          | some y =>
            cases e2 : comp f ds with
            | ok l => exact ⟨l, rfl⟩
            | error x =>
              have h : (comp f ds >>= fun ys => (.ok (y :: ys) : M (List D))) = .ok ys := h
              rw [e2] at h
              cases h
        obtain ⟨ys', e2⟩ := key
        obtain ⟨y, zs, ws, f1, f2, f3, _⟩ := comp_snoc e2 hd'
        refine ⟨y, o.toList ++ zs, ys, f1, ?_, ?_, rfl⟩
        · show comp f (d0 :: ds.take i) = _
          cases o with
          | none => simp [comp, e, f2]
          | some z =>
            simp only [comp, e, f2]
            rfl
        · show comp f (d0 :: ds.take (i + 1)) = _
          cases o with
          | none => simp [comp, e, f3]
          | some z =>
            simp only [comp, e, f3]
            show (.ok (z :: (zs ++ y.toList)) : M (List D)) = _
            simp
theorem comp_len {f : D → M (Option D)} : ∀ {ds ys : List D}, comp f ds = .ok ys → ys.length ≤ ds.length
  | [], ys, h => by
    cases h
    exact Nat.le_refl _
  | d :: ds, ys, h => by
    have h : (match f d with
      | .ok (some y) => comp f ds >>= fun ys => .ok (y :: ys)
      | .ok none => comp f ds
      | .error _ => stuck) = .ok ys := h
    cases e : f d with
    | error x => rw [e] at h; cases h
    | ok o =>
      rw [e] at h
      cases o with
      | none =>
        have := comp_len h
        simp only [List.length_cons]
        omega
      | some y =>
        cases e2 : comp f ds with
        | error x =>
          have h : (comp f ds >>= fun ys => (.ok (y :: ys) : M (List D))) = .ok ys := h
          rw [e2] at h
          cases h
        | ok l =>
          have h : (comp f ds >>= fun ys => (.ok (y :: ys) : M (List D))) = .ok ys := h
          rw [e2] at h
          cases h
          have := comp_len e2
          simp only [List.length_cons]
          omega
/-- no exception is wished for within a comprehension -/
abbrev EN : XK := fun _ _ _ => False
/-- a test, canonical -/
theorem DE.canon {m : M D} (h : DE X E G e m) : PE X e (fun σ H Q => ∃ B F, Same F H ∧ GOk X.K B G σ F H ∧ WpG X.K E (rE X.K) m F H Q) := by
  obtain ⟨t, p, w⟩ := h
  exact ⟨fun pins s σ H Q I ⟨B, F, s1, g, q⟩ => p.run pins s σ H Q I (w B σ F H Q s1 g q)⟩
theorem DT.canon {m : M Bool} (h : DT X E G e m) : PT X e (fun σ H Q => ∃ B F, Same F H ∧ GOk X.K B G σ F H ∧ WpG X.K E rB m F H Q) := by
  obtain ⟨t, p, w⟩ := h
  exact ⟨fun pins s σ H Q I ⟨B, F, s1, g, q⟩ => p.run pins s σ H Q I (w B σ F H Q s1 g q)⟩
/-- what the element's reading must do, whatever block it runs in -/
def tElt (K : PySem.W.Frag) (b : D → M (List Sl)) (me : D → M D) : TE := fun σ H Q => ∃ d G' B F, b d = .ok G' ∧ Same F H ∧ GOk K B G' σ F H ∧ WpG K EN (rE K) (me d) F H Q
def tTst (K : PySem.W.Frag) (b : D → M (List Sl)) (mt : D → M Bool) : TT := fun σ H Q => ∃ d G' B F, b d = .ok G' ∧ Same F H ∧ GOk K B G' σ F H ∧ WpG K EN rB (mt d) F H Q
/-- the item's reading -/
def fElt (mt : D → M Bool) (me : D → M D) : D → M (Option D) := fun d => mt d >>= fun k => if k = true then me d >>= fun y => .ok (some y) else .ok none
theorem lc_run {K : PySem.W.Frag} {J : It} {ds ys : List D} {vs : List Nat} {g : TG} {b : D → M (List Sl)} {mt : D → M Bool} {me : D → M D} {tt : TT} {te : TE} {B : Hp} {σ : St} {F0 H0 : Hp} {G : List Sl} {Q : VK}
    (hg : ∀ x v B σ F H (Q : St → Hp → Prop), Same F H → GOk K B (wipeG G vs) σ F H → Rp K F v x → (∃ G', b x = .ok G' ∧ ∀ σ', GOk K B G' σ' F H → (∀ k, k ∉ vs → σ'[k]? = σ[k]?) → σ'.length = σ.length → Q σ' H) → g v σ H Q)
    (hb : ∀ d y, fElt mt me d = .ok y → ∃ G', b d = .ok G')
    (ht : ∀ σ H Q, tTst K b mt σ H Q → tt σ H Q) (he : ∀ σ H Q, tElt K b me σ H Q → te σ H Q)
    (s0 : Same F0 H0) (g0 : GOk K B G σ F0 H0) (y0 : Yld K J (fun F1 H1 => Ext F0 H0 F1 H1) ds) (hl : ds.length ≤ sizeLine) (hc : comp (fElt mt me) ds = .ok ys)
    (q : WpG K E (fun F' H' (v : V) (l : List D) => ∃ p xs, v = .ref p ∧ H0 p = none ∧ H' p = some (.lst xs) ∧ F' p = none ∧ RpL K F' xs l) (.ok ys) F0 H0 Q) :
    ∀ D, H0 D = none → ∃ W : Nat → Nat → Hp → Prop, (∃ m, W 0 m (upd H0 D (.lst []))) ∧ ∀ i m H, W i m H →
      (J.stop i H ∧ Q (.ref D) H) ∨ (J.go i H ∧ ∃ Nx : Hp → Prop, (∀ H', Nx H' → ∃ m', m' < m ∧ W (i + 1) m' H') ∧ ∀ x H', J.yld i H x H' → g x (wipe σ vs) H' fun σ2 H2 => wipe σ2 vs = wipe σ vs ∧ tt σ2 H2 fun b H3 =>
        if b = true then te σ2 H3 fun y H4 => ∃ acc, H4 D = some (.lst acc) ∧ acc.length < sizeLine ∧ Nx (upd H4 D (.lst (acc ++ [y]))) else Nx H3) := by
  intro D nD
  -- behind i turns
  let Pv : Nat → Hp → Prop := fun i H => ∃ F xs zs, Ext F0 H0 F H ∧ comp (fElt mt me) (ds.take i) = .ok zs ∧ H D = some (.lst xs) ∧ F D = none ∧ RpL K F xs zs
  have wr : ∀ {F H : Hp} {xs xs' : List V}, Ext F0 H0 F H → H D = some (.lst xs) → F D = none → Ext F0 H0 F (upd H D (.lst xs')) := fun {F H xs xs'} x hD fD =>
    ⟨x.sF, fun c o h => by
      rw [upd_ne (ne_of_none h nD)]
      exact x.sH c o h, fun c o h => by
      rw [upd_ne (fun z => by
        subst z
        rw [fD] at h
        cases h)]
      exact x.sFH c o h, x.old⟩
  refine ⟨fun i m H => m = ds.length - i ∧ i ≤ ds.length ∧ Pv i H, ⟨ds.length, by simp, Nat.zero_le _, F0, [], [], Ext.newH s0 nD, rfl, upd_same, s0.free nD, .nil⟩, ?_⟩
  rintro i m H ⟨rfl, hi, F, xs, zs, x, ez, hD, fD, r⟩
  obtain ⟨yi, ye⟩ := y0 F H x x.sFH
  by_cases hlt : i < ds.length
  · have hd : ds[i]? = some ds[i] := List.getElem?_eq_getElem hlt
    obtain ⟨go, yl⟩ := yi i _ hd
    obtain ⟨o, zs', _, f1, f2, f3, _⟩ := comp_snoc hc hd
    rw [ez] at f2
    cases f2
    have zl := comp_len ez
    rw [List.length_take] at zl
    refine .inr ⟨go, fun H' => Pv (i + 1) H', fun H' p => ⟨ds.length - (i + 1), by omega, rfl, hlt, p⟩, fun v H' hv => ?_⟩
    obtain ⟨F', x', rv⟩ := yl v H' hv
    have x1 := x.trans x'
    have g1 : GOk K B (wipeG G vs) (wipe σ vs) F' H' := (g0.ext x1).wipe vs
    obtain ⟨G', eG⟩ := hb _ _ f1
    refine hg _ v B (wipe σ vs) F' H' _ x1.sFH g1 rv ⟨G', eG, fun σ' g' hk hn => ⟨?_, ?_⟩⟩
    · have e1 := wipe_same (σ := wipe σ vs) (σ' := σ') (vs := vs) hk hn
      rw [e1]
      exact wipe_same (σ := σ) (σ' := wipe σ vs) (vs := vs) (fun k hk => by
        have q : ∀ ws : List Nat, k ∉ ws → (wipe σ ws)[k]? = σ[k]? := by
          intro ws
          induction ws with
          | nil => intro _; rfl
          | cons w ws ih =>
            intro h
            show ((wipe σ ws).set w none)[k]? = _
            rw [List.getElem?_set_ne (fun z => h (by simp [z]))]
            exact ih fun z => h (List.mem_cons_of_mem _ z)
        exact q vs hk) (wipe_length _ _)
    · refine ht σ' H' _ ⟨_, G', B, F', eG, x1.sFH, g', ?_⟩
      -- the test
      have f1' : (mt ds[i] >>= fun k => if k = true then me ds[i] >>= fun y => .ok (some y) else .ok none) = .ok o := f1
      cases em : mt ds[i] with
      | error z => rw [em] at f1'; cases f1'
      | ok k =>
        rw [em] at f1'
        have f1' : (if k = true then me ds[i] >>= fun y => .ok (some y) else .ok none) = Except.ok o := f1'
        intro F2 H2 k' x2 ek
        subst ek
        have x12 := x1.trans x2
        cases k' with
        | false =>
          rw [if_neg Bool.false_ne_true] at f1' ⊢
          cases f1'
          refine ⟨F2, xs, zs, x12, by rw [f3]; simp, x2.sH _ _ (x'.sH _ _ hD), ?_, (r.mono x'.sF).mono x2.sF⟩
          rw [x2.old _ _ (x'.sH _ _ hD), x'.old _ _ hD]
          exact fD
        | true =>
          rw [if_pos rfl] at f1' ⊢
          cases ey : me ds[i] with
          | error z => rw [ey] at f1'; cases f1'
          | ok y =>
            rw [ey] at f1'
            cases f1'
            refine he σ' H2 _ ⟨_, G', B, F2, eG, x2.sFH, g'.ext x2, ?_⟩
            rw [ey]
            intro F3 H3 v3 x3 r3
            have hD3 := x3.sH _ _ (x2.sH _ _ (x'.sH _ _ hD))
            have fD3 : F3 D = none := by
              rw [x3.old _ _ (x2.sH _ _ (x'.sH _ _ hD)), x2.old _ _ (x'.sH _ _ hD), x'.old _ _ hD]
              exact fD
            refine ⟨xs, hD3, by rw [r.length]; omega, F3, xs ++ [v3], zs ++ [y], wr (x12.trans x3) hD3 fD3, by rw [f3]; rfl, upd_same, fD3, (((r.mono x'.sF).mono x2.sF).mono x3.sF).append (.one r3)⟩
  · have e : i = ds.length := by omega
    subst e
    rw [List.take_length, hc] at ez
    cases ez
    exact .inl ⟨ye, q F H _ x ⟨D, xs, rfl, nD, hD, fD, r⟩⟩
/-- .. and the store of it, which is done in one with the list's making -/
def DNL (X : Cx) (E : XK) (G : List Sl) (e : Expr) (m : M (List D)) : Prop :=
  ∃ t, PE X e t ∧ (∀ {i : Nat} {y : Str} {py spos : Pos}, X.N[i]? = some y → X.env.scope.names.lookup y = some .local → swapsWith e (some (.Name y py)) spos.line X.env = pure true → PS X (.Assign [.Name y py] e spos) (tAsg t (gName i))) ∧
    ∀ B σ F H Q, Same F H → GOk X.K B G σ F H → WpG X.K E (fun F' H' (v : V) (l : List D) => ∃ p xs, v = .ref p ∧ H p = none ∧ H' p = some (.lst xs) ∧ F' p = none ∧ RpL X.K F' xs l) m F H Q → t σ H Q
theorem DNL.dn {m : M (List D)} (h : DNL X E G e m) : DN X E G e m := let ⟨t, p, _, w⟩ := h; ⟨t, p, w⟩
/-- [elt for tg in iter if ..] -/
theorem dn_lc {tg iter : Expr} {ifs : List Expr} {scope : Scope} {own : List (Str × Nat)} {mi : M (List D)} {b : D → M (List Sl)} {mt : D → M Bool} {me : D → M D} (hc : X.calm = true) (hN : X.N.Nodup) (hi : DIR X E G tg iter mi) (ok : BlkOk X.N X.env.scope scope own)
    {g : TG} (hg : ∀ (s : Shared) (H : Hp) (C : Addr) (cl : List (Str × Addr)) (fp : List Addr), PG (X.blk s H scope (compEnvC scope cl C X.env) fp) tg g)
    (hg2 : ∀ x v B σ F H (Q : St → Hp → Prop), Same F H → GOk X.K B (wipeG G (own.map (·.2))) σ F H → Rp X.K F v x → (∃ G', b x = .ok G' ∧ ∀ σ', GOk X.K B G' σ' F H → (∀ k, k ∉ own.map (·.2) → σ'[k]? = σ[k]?) → σ'.length = σ.length → Q σ' H) → g v σ H Q)
    (ht : ∀ (s : Shared) (H : Hp) (C : Addr) (cl : List (Str × Addr)) (fp : List Addr), PTs (X.blk s H scope (compEnvC scope cl C X.env) fp) ifs (tTst X.K b mt))
    (he : ∀ (s : Shared) (H : Hp) (C : Addr) (cl : List (Str × Addr)) (fp : List Addr), PE (X.blk s H scope (compEnvC scope cl C X.env) fp) e (tElt X.K b me))
    (hb : ∀ d y, fElt mt me d = .ok y → ∃ G', b d = .ok G')
    (hs : ∀ x, foldedSetIterable iter X.env x = pure x := by intro _; rfl) : DNL X E G (.ListComp e [⟨tg, iter, ifs, 0⟩] scope pos) (mi >>= fun ds => compL (fElt mt me) ds) := by
  obtain ⟨wi, pi, wI⟩ := hi
  refine ⟨_, pe_lc hc hN pi ok hg ht he hs, fun h1 h2 h3 => ps_setLc hc hN h1 h2 h3 pi ok hg ht he hs, fun B σ F H Q s gk q => wI B σ F H _ s gk (WpG.bind q fun ds F1 H1 J x1 y1 k1 => ?_)⟩
  have k1 : WpG X.K E _ (need (decide (ds.length ≤ sizeLine)) >>= fun _ => comp (fElt mt me) ds) F1 H1 Q := k1
  obtain ⟨c, k1⟩ := WpG.need k1
  have c := of_decide_eq_true c
  cases ec : comp (fElt mt me) ds with
  | error z =>
    rw [ec] at k1
    cases z with
    | stuck => exact k1.elim
    | exc z =>
      exfalso
      have q : ∀ l : List D, ∀ z, comp (fElt mt me) l ≠ .error (.exc z) := by
        intro l
        induction l with
        | nil => intro z h; cases h
        | cons d l ih =>
          intro z h
          have h : (match fElt mt me d with
            | .ok (some y) => comp (fElt mt me) l >>= fun ys => .ok (y :: ys)
            | .ok none => comp (fElt mt me) l
            | .error _ => stuck) = .error (.exc z) := h
          cases e1 : fElt mt me d with
          | error w => rw [e1] at h; cases h
          | ok o =>
            rw [e1] at h
            cases o with
            | none => exact ih z h
            | some y =>
              cases e2 : comp (fElt mt me) l with
              | ok w =>
                have h : (comp (fElt mt me) l >>= fun ys => (.ok (y :: ys) : M (List D))) = .error (.exc z) := h
                rw [e2] at h
                cases h
              | error w =>
                have h : (comp (fElt mt me) l >>= fun ys => (.ok (y :: ys) : M (List D))) = .error (.exc z) := h
                rw [e2] at h
                have h : (.error w : M (List D)) = .error (.exc z) := h
                cases h
                exact ih z e2
      exact q _ _ ec
  | ok ys =>
    rw [ec] at k1
    refine lc_run (E := E) hg2 hb (fun σ H Q h => h) (fun σ H Q h => h) x1.sFH (gk.ext x1) y1 c ec ?_
    intro F' H' v x ⟨p, xs, e1, n1, h1, f1, r1⟩
    refine k1 F' H' v x ⟨p, xs, e1, ?_, h1, f1, r1⟩
    exact Same.free x1.sH n1
end
end DL
set_option Elab.async false
set_option linter.all false
set_option maxRecDepth 100000
set_option maxHeartbeats 4000000
/-! DL7: statements. -/
namespace DL
open PySem PySem.Spec L2

section
variable {K : PySem.W.Frag} {E : XK} {B0 B F H F' H' : Hp}
def OcP (K : PySem.W.Frag) (B0 B : Hp) (F : Hp) (D : Ends) : Oc → Prop
  | .nx G => ∀ σ F' H', Same F F' → Ext B0 B F' H' → GOk K B G σ F' H' → D.nx σ H'
  | .ct G => ∀ σ F' H', Same F F' → Ext B0 B F' H' → GOk K B G σ F' H' → D.ct σ H'
  | .bk G => ∀ σ F' H', Same F F' → Ext B0 B F' H' → GOk K B G σ F' H' → D.bk σ H'
  | .rt d => ∀ v F' H', Same F F' → Ext B0 B F' H' → Rp K F' v d → D.rt v H'
theorem OcP.mono {D : Ends} {o : Oc} (s : Same F F') (h : OcP K B0 B F D o) : OcP K B0 B F' D o := by
  cases o with
  | nx G => exact fun σ F2 H2 s2 => h σ F2 H2 (s.trans s2)
  | ct G => exact fun σ F2 H2 s2 => h σ F2 H2 (s.trans s2)
  | bk G => exact fun σ F2 H2 s2 => h σ F2 H2 (s.trans s2)
  | rt d => exact fun v F2 H2 s2 => h v F2 H2 (s.trans s2)
theorem WpB.ok {α : Type} {post : α → Oc} {x : α} {D : Ends} (h : WpB K E B0 B post (.ok x) F D) : OcP K B0 B F D (post x) := by
  have h : (match post x with
    | .nx G => ∀ σ F' H', Same F F' → Ext B0 B F' H' → GOk K B G σ F' H' → D.nx σ H'
    | .ct G => ∀ σ F' H', Same F F' → Ext B0 B F' H' → GOk K B G σ F' H' → D.ct σ H'
    | .bk G => ∀ σ F' H', Same F F' → Ext B0 B F' H' → GOk K B G σ F' H' → D.bk σ H'
    | .rt d => ∀ v F' H', Same F F' → Ext B0 B F' H' → Rp K F' v d → D.rt v H') := h
  cases e : post x with
  | nx G => rw [e] at h; exact h
  | ct G => rw [e] at h; exact h
  | bk G => rw [e] at h; exact h
  | rt d => rw [e] at h; exact h
theorem WpB.of_ok {α : Type} {post : α → Oc} {x : α} {D : Ends} (h : OcP K B0 B F D (post x)) : WpB K E B0 B post (.ok x) F D := by
  show (match post x with
    | .nx G => ∀ σ F' H', Same F F' → Ext B0 B F' H' → GOk K B G σ F' H' → D.nx σ H'
    | .ct G => ∀ σ F' H', Same F F' → Ext B0 B F' H' → GOk K B G σ F' H' → D.ct σ H'
    | .bk G => ∀ σ F' H', Same F F' → Ext B0 B F' H' → GOk K B G σ F' H' → D.bk σ H'
    | .rt d => ∀ v F' H', Same F F' → Ext B0 B F' H' → Rp K F' v d → D.rt v H')
  cases e : post x with
  | nx G => rw [e] at h; exact h
  | ct G => rw [e] at h; exact h
  | bk G => rw [e] at h; exact h
  | rt d => rw [e] at h; exact h
theorem WpB.err {α β : Type} {post : α → Oc} {p2 : β → Oc} {e : Er} {D : Ends} (h : WpB K E B0 B post (.error e) F D) : WpB K E B0 B p2 (.error e) F D := by
  cases e with
  | stuck => exact h
  | exc x => exact h
theorem WpB.mono {α : Type} {post : α → Oc} {m : M α} {D : Ends} (s : Same F F') (h : WpB K E B0 B post m F D) : WpB K E B0 B post m F' D := by
  cases m with
  | ok x => exact WpB.of_ok (h.ok.mono s)
  | error e => cases e with
    | stuck => exact h
    | exc x => exact fun F2 H2 c d s2 => h F2 H2 c d (s.trans s2)
theorem WpB.bind {α β : Type} {post : α → Oc} {p1 : β → Oc} {m : M β} {k : β → M α} {D D1 : Ends} (h : WpB K E B0 B post (m >>= k) F D) (hk : ∀ j, m = .ok j → WpB K E B0 B post (k j) F D → OcP K B0 B F D1 (p1 j)) : WpB K E B0 B p1 m F D1 := by
  cases m with
  | ok j => exact WpB.of_ok (hk j rfl h)
  | error e => cases e with
    | stuck => exact h
    | exc x => exact h
/-- a statement that is led by an expression: what is wanted of m's value -/
theorem WpB.expr {α β γ : Type} {post : α → Oc} {rel : Hp → Hp → γ → β → Prop} {m : M β} {k : β → M α} {D : Ends} {Q : γ → Hp → Prop} (x0 : Ext B0 B F H) (h : WpB K E B0 B post (m >>= k) F D)
    (hk : ∀ j F' H' v, Ext F H F' H' → Ext B0 B F' H' → rel F' H' v j → WpB K E B0 B post (k j) F' D → Q v H') : WpG K E rel m F H Q := by
  cases m with
  | ok j => exact fun F' H' v x r => hk j F' H' v x (x0.trans x) r (WpB.mono x.sF h)
  | error e => cases e with
    | stuck => exact h
    | exc y => exact fun F' H' c d x r => h F' H' c d x.sF (x0.trans x) r
end

section
variable {X : Cx} {E : XK} {G : List Sl} {a b c e : Expr} {ma mb mc : M D} {ta tb : M Bool} {pos : Pos} {st : Stmt} {rest body : List Stmt}
/-- a statement -/
def DS (X : Cx) (E : XK) (G : List Sl) (st : Stmt) {α : Type} (m : M α) (post : α → Oc) : Prop :=
  ∃ t, PS X st t ∧ ∀ B0 B σ F H D, Ext B0 B F H → GOk X.K B G σ F H → WpB X.K E B0 B post m F D → t D σ H
theorem db_nil {α : Type} {x : α} {post : α → Oc} (h : post x = .nx G) : DB X E G [] (.ok x) post :=
  ⟨_, pss_nil, fun B0 B σ F H D x0 g q => by
    have q := q.ok
    rw [h] at q
    exact q σ F H (Same.refl _) x0 g⟩
theorem db_stuck {α : Type} {post : α → Oc} : DB X E G body (stuck : M α) post := ⟨_, pss_never, fun B0 B σ F H D x0 g q => q.elim⟩
theorem db_cast {α : Type} {m m' : M α} {post : α → Oc} (h : DB X E G body m post) (e : m = m') : DB X E G body m' post := e ▸ h
theorem db_cons {α β : Type} {m1 : M β} {p1 : β → Oc} {k : β → M α} {post : α → Oc} (h1 : DS X E G st m1 p1) (h2 : ∀ j G', p1 j = .nx G' → DB X E G' rest (k j) post)
    (h3 : ∀ j, (∀ G', p1 j ≠ .nx G') → ∃ a, k j = .ok a ∧ post a = p1 j) : DB X E G (st :: rest) (m1 >>= k) post := by
  obtain ⟨t1, ps, w1⟩ := h1
  have r2 : PSs X rest (fun D σ H => ∃ j G' B0 B F, p1 j = .nx G' ∧ Ext B0 B F H ∧ GOk X.K B G' σ F H ∧ WpB X.K E B0 B post (k j) F D) :=
    ⟨fun pins s σ H D I ⟨j, G', B0, B, F, e, x, g, q⟩ => by
      obtain ⟨t2, p2, w2⟩ := h2 j G' e
      exact p2.run pins s σ H D I (w2 B0 B σ F H D x g q)⟩
  refine ⟨_, pss_cons ps r2, fun B0 B σ F H D x0 g q => w1 B0 B σ F H _ x0 g (q.bind fun j _ qj => ?_)⟩
  cases e : p1 j with
  | nx G' => exact fun σ' F' H' s' x' g' => ⟨j, G', B0, B, F', e, x', g', qj.mono s'⟩
  | ct G' =>
    obtain ⟨a, e1, e2⟩ := h3 j fun G' z => by rw [e] at z; cases z
    rw [e1] at qj
    have qj := qj.ok
    rw [e2, e] at qj
    exact qj
  | bk G' =>
    obtain ⟨a, e1, e2⟩ := h3 j fun G' z => by rw [e] at z; cases z
    rw [e1] at qj
    have qj := qj.ok
    rw [e2, e] at qj
    exact qj
  | rt d =>
    obtain ⟨a, e1, e2⟩ := h3 j fun G' z => by rw [e] at z; cases z
    rw [e1] at qj
    have qj := qj.ok
    rw [e2, e] at qj
    exact qj
/-- a statement that goes on -/
theorem db_then {α β : Type} {m1 : M β} {G1 : β → List Sl} {k : β → M α} {post : α → Oc} (h1 : DS X E G st m1 (fun j => .nx (G1 j))) (h2 : ∀ j, DB X E (G1 j) rest (k j) post) : DB X E G (st :: rest) (m1 >>= k) post :=
  db_cons h1 (fun j G' e => by
    injection e with e
    rw [← e]
    exact h2 j) (fun j h => absurd rfl (h _))
/-- the last statement of a block -/
theorem db_last {α : Type} {m : M α} {post : α → Oc} (h : DS X E G st m post) : DB X E G [st] m post := by
  obtain ⟨t, p, w⟩ := h
  exact ⟨_, pss_one p, w⟩

/-! ### slots -/
theorem ds_set {x : Str} {i : Nat} {pos' : Pos} {m : M D} (h : DE X E G e m) (p : ∀ {te : TE}, PE X e te → PS X (.Assign [.Name x pos'] e pos) (tAsg te (gName i))) : DS X E G (.Assign [.Name x pos'] e pos) m (fun d => .nx (G.set i (.val d))) := by
  obtain ⟨t, pe, w⟩ := h
  refine ⟨_, p pe, fun B0 B σ F H D x0 g q => w B σ F H _ x0.sFH g ?_⟩
  cases m with
  | ok d => exact fun F' H' v x r => q.ok _ F' H' x.sF (x0.trans x) ((g.ext x).set r)
  | error er => cases er with
    | stuck => exact q.elim
    | exc y => exact fun F' H' c d x r => q F' H' c d x.sF (x0.trans x) r
theorem GOk.setOwn {K : PySem.W.Frag} {B F H : Hp} {σ : St} {i : Nat} {p : Addr} {xs : List V} {l : List D} (g : GOk K B G σ F H) (hp : H p = some (.lst xs)) (fp : F p = none) (bp : B p = none) (r : RpL K F xs l)
    (new : ∀ (j : Nat) (s : Sl), G[j]? = some s → s.owns = true → σ[j]? ≠ some (some (.ref p))) : GOk K B (G.set i (.own l)) (σ.set i (some (.ref p))) F H where
  sB := g.sB
  len := by rw [List.length_set, List.length_set]; exact g.len
  ok := fun j s h => by
    by_cases e : i = j
    · subst e
      have hi : i < G.length := by
        have := (List.getElem?_eq_some_iff.mp h).1
        rwa [List.length_set] at this
      rw [List.getElem?_set_self hi] at h
      cases h
      exact ⟨some (.ref p), by rw [List.getElem?_set_self (by rw [g.len]; exact hi)], p, xs, rfl, hp, fp, bp, r⟩
    · rw [List.getElem?_set_ne e] at h
      rw [List.getElem?_set_ne e]
      exact g.ok j s h
  dis := fun j k s t a h1 h2 o1 o2 e1 e2 => by
    by_cases nj : i = j
    · by_cases nk : i = k
      · rw [← nj, ← nk]
      · subst nj
        have hi : i < G.length := by
          have := (List.getElem?_eq_some_iff.mp h1).1
          rwa [List.length_set] at this
        rw [List.getElem?_set_self (by rw [g.len]; exact hi)] at e1
        cases e1
        rw [List.getElem?_set_ne nk] at h2 e2
        exact absurd e2 (new k t h2 o2)
    · by_cases nk : i = k
      · subst nk
        have hi : i < G.length := by
          have := (List.getElem?_eq_some_iff.mp h2).1
          rwa [List.length_set] at this
        rw [List.getElem?_set_self (by rw [g.len]; exact hi)] at e2
        cases e2
        rw [List.getElem?_set_ne nj] at h1 e1
        exact absurd e1 (new j s h1 o1)
      · rw [List.getElem?_set_ne nj] at h1 e1
        rw [List.getElem?_set_ne nk] at h2 e2
        exact g.dis j k s t a h1 h2 o1 o2 e1 e2
/-- an owned object is tracked -/
theorem GOk.owned {K : PySem.W.Frag} {B F H : Hp} {σ : St} {j : Nat} {s : Sl} {p : Addr} (g : GOk K B G σ F H) (h : G[j]? = some s) (o : s.owns = true) (e : σ[j]? = some (some (.ref p))) : ∃ u, H p = some u := by
  obtain ⟨v, h1, h2⟩ := g.ok j s h
  rw [e] at h1
  cases h1
  cases s with
  | own l =>
    obtain ⟨a, xs, e1, e2, _⟩ := h2
    cases e1
    exact ⟨_, e2⟩
  | ownd l =>
    obtain ⟨a, e1, e2, _⟩ := h2
    cases e1
    exact e2.some
  | ownu l =>
    obtain ⟨a, e1, e2, _⟩ := h2
    cases e1
    exact e2.some
  | obj a c l =>
    obtain ⟨dx, fs, e1, e2, _⟩ := h2
    cases e1
    exact ⟨_, e2⟩
  | _ => cases o
theorem ds_setN {x : Str} {i : Nat} {pos' : Pos} {m : M (List D)} (h : DN X E G e m) (p : ∀ {te : TE}, PE X e te → PS X (.Assign [.Name x pos'] e pos) (tAsg te (gName i))) : DS X E G (.Assign [.Name x pos'] e pos) m (fun l => .nx (G.set i (.own l))) := by
  obtain ⟨t, pe, w⟩ := h
  refine ⟨_, p pe, fun B0 B σ F H D x0 g q => w B σ F H _ x0.sFH g ?_⟩
  cases m with
  | ok l =>
    intro F' H' v x ⟨a, xs, ev, n, h1, f1, r1⟩
    subst ev
    have hB : B a = none := x0.sH.free n
    exact q.ok _ F' H' x.sF (x0.trans x) ((g.ext x).setOwn h1 f1 hB r1 fun j s hj oj ej => by
      obtain ⟨u, hu⟩ := g.owned hj oj ej
      rw [n] at hu
      cases hu)
  | error er => cases er with
    | stuck => exact q.elim
    | exc y => exact fun F' H' c d x r => q F' H' c d x.sF (x0.trans x) r
theorem dn_lst {es : List Expr} {ms : M (List D)} (h : DA X E G es ms) : DN X E G (.List es pos) (ms >>= fun l => need (decide (l.length ≤ sizeLine)) >>= fun _ => .ok l) := by
  obtain ⟨t, p, w⟩ := h
  refine ⟨_, pe_lst p, fun B σ F H Q s g q => w B σ F H _ s g (WpG.bind q fun l F1 H1 vs x1 r1 k1 => ?_)⟩
  obtain ⟨c, k1⟩ := WpG.need k1
  have c := of_decide_eq_true c
  refine ⟨by rw [r1.length]; exact c, fun p hp => k1 F1 _ _ (Ext.newH x1.sFH hp) ⟨p, vs, rfl, x1.sH.free hp, upd_same, x1.sFH.free hp, r1⟩⟩
theorem dn_list {x : Str} {p : Pos} {ms : M (List D)} (hg : Gl X x) (hm : X.mg x = none) (hv : bootBuiltins x = some (.type "list")) (ha : DRA X E G [a] ms)
    (hn : x ≠ "__name__" := by decide) (hdb : (x == ("__debug__" : Str)) = false := by decide) (he : starEach [a] X.env = (false, eval a X.env) :: starEach [] X.env := by rfl) (hpl : (backTo pos (starEach [] X.env)).any (·.1) = false := by rfl) :
    DN X E G (.Call (.Name x p) [a] [] pos) (ms >>= fun l => match l with | [.lst l] => .ok l | [.tup l] => .ok l | _ => stuck) := by
  obtain ⟨t, pp, w⟩ := ha
  refine ⟨_, pe_callTy call_list_of hg hm hv pp hn hdb he hpl, fun B σ F H Q s g q => w B σ F H _ s g (WpG.bind q fun l F1 H1 vs x1 r1 k1 => ?_)⟩
  cases r1 with
  | nil => exact k1.elim
  | @cons v vs' d ds r1 r2 => cases r2 with
    | cons _ _ => cases d <;> exact k1.elim
    | nil => cases d with
      | lst l =>
        obtain ⟨p, xs, rfl, h, r⟩ := r1.lst x1.sFH
        exact ⟨p, xs, rfl, .inl (SqL.of h), fun q hq => k1 F1 _ _ (Ext.newH x1.sFH hq) ⟨q, xs, rfl, x1.sH.free hq, upd_same, x1.sFH.free hq, r⟩⟩
      | tup l =>
        obtain ⟨p, xs, rfl, h, r⟩ := r1.tup x1.sFH
        exact ⟨p, xs, rfl, .inr h, fun q hq => k1 F1 _ _ (Ext.newH x1.sFH hq) ⟨q, xs, rfl, x1.sH.free hq, upd_same, x1.sFH.free hq, r⟩⟩
      | _ => exact k1.elim
/-- several names -/
def D.un (n : Nat) : D → M (List D)
  | .tup l => do need (decide (l.length = n)); .ok l
  | _ => stuck
def setT (G : List Sl) : List Nat → List D → List Sl
  | i :: is, d :: ds => setT (G.set i (.val d)) is ds
  | _, _ => G
theorem setAll_setT : ∀ {is : List Nat} {ds : List D} {G : List Sl}, ds.length = is.length → setAll G is ds = .ok (setT G is ds)
  | [], [], _, _ => rfl
  | [], _ :: _, _, h => by cases h
  | _ :: _, [], _, h => by cases h
  | i :: is, d :: ds, G, h => setAll_setT (is := is) (ds := ds) (Nat.succ.inj h)
theorem ds_tup {tg : Expr} {is : List Nat} {n : Nat} {m : M D} (h : DE X E G e m) (hn : is.length = n) (p : ∀ {te : TE}, PE X e te → PS X (.Assign [tg] e pos) (tAsg te (gTup X.K n (gNames is)))) : DS X E G (.Assign [tg] e pos) (m >>= fun d => D.un n d) (fun ds => .nx (setT G is ds)) := by
  obtain ⟨t, pe, w⟩ := h
  refine ⟨_, p pe, fun B0 B σ F H Dn x0 g q => w B σ F H _ x0.sFH g (WpB.expr (H := H) x0 q fun d F' H' v x x' r qd => ?_)⟩
  cases d with
  | tup l => cases r with
    | tup h hs =>
      cases hd : decide (l.length = n) with
      | false =>
        exfalso
        have e : D.un n (.tup l) = stuck := by
          show (need (decide (l.length = n)) >>= fun _ => .ok l) = _
          rw [hd]
          rfl
        rw [e] at qd
        exact qd
      | true =>
        have e : D.un n (.tup l) = .ok l := by
          show (need (decide (l.length = n)) >>= fun _ => .ok l) = _
          rw [hd]
          rfl
        rw [e] at qd
        have hl := of_decide_eq_true hd
        exact ⟨_, _, rfl, Same.seqT x'.sFH h, by rw [hs.length, hl], gNames_run x'.sFH (g.ext x) hs (setAll_setT (by rw [hl, hn])) fun σ' g' _ _ => qd.ok σ' F' H' (Same.refl _) x' g'⟩
  | _ => exact qd.elim
theorem db_un2 {α : Type} {m : M (List D)} {i j : Nat} {k : D → D → M α} {post : α → Oc} (h : DS X E G st m (fun ds => .nx (setT G [i, j] ds))) (hk : ∀ a b, DB X E ((G.set i (.val a)).set j (.val b)) rest (k a b) post) :
    DB X E G (st :: rest) (m >>= fun ds => match ds with | [a, b] => k a b | _ => stuck) post :=
  db_then h fun ds => match ds with
    | [] => db_stuck
    | [_] => db_stuck
    | [a, b] => hk a b
    | _ :: _ :: _ :: _ => db_stuck
theorem db_un3 {α : Type} {m : M (List D)} {i j l : Nat} {k : D → D → D → M α} {post : α → Oc} (h : DS X E G st m (fun ds => .nx (setT G [i, j, l] ds))) (hk : ∀ a b c, DB X E (((G.set i (.val a)).set j (.val b)).set l (.val c)) rest (k a b c) post) :
    DB X E G (st :: rest) (m >>= fun ds => match ds with | [a, b, c] => k a b c | _ => stuck) post :=
  db_then h fun ds => match ds with
    | [] => db_stuck
    | [_] => db_stuck
    | [_, _] => db_stuck
    | [a, b, c] => hk a b c
    | _ :: _ :: _ :: _ :: _ => db_stuck

/-! ### an owned list written -/
theorem GOk.write {K : PySem.W.Frag} {B F H : Hp} {σ : St} {i : Nat} {a : Addr} {l l' : List D} {xs' : List V} (g : GOk K B G σ F H) (h : G[i]? = some (.own l)) (e : σ[i]? = some (some (.ref a))) (r : RpL K F xs' l') : GOk K B (G.set i (.own l')) σ F (upd H a (.lst xs')) where
  sB := fun c u hc => by
    obtain ⟨o, h1, a', xs, rfl, h2, h3, h4, _⟩ := g.ok i _ h
    rw [e] at h1
    cases h1
    rw [upd_ne (ne_of_none hc h4)]
    exact g.sB c u hc
  len := by rw [List.length_set]; exact g.len
  ok := fun j s hj => by
    obtain ⟨o, h1, a', xs, rfl, h2, h3, h4, _⟩ := g.ok i _ h
    rw [e] at h1
    cases h1
    by_cases ej : i = j
    · subst ej
      have hi := (List.getElem?_eq_some_iff.mp h).1
      rw [List.getElem?_set_self hi] at hj
      cases hj
      exact ⟨_, e, a, xs', rfl, upd_same, h3, h4, r⟩
    · rw [List.getElem?_set_ne ej] at hj
      obtain ⟨o, k1, k2⟩ := g.ok j s hj
      refine ⟨o, k1, ?_⟩
      cases s with
      | un => exact k2
      | any => trivial
      | val d => exact k2
      | own m =>
        obtain ⟨b, ys, rfl, q⟩ := k2
        have nb : b ≠ a := fun z => by
          subst z
          exact ej (g.dis i j _ _ b h hj rfl rfl e k1)
        exact ⟨b, ys, rfl, by rw [upd_ne nb]; exact q.1, q.2⟩
      | ownd m =>
        obtain ⟨b, rfl, q⟩ := k2
        have nb : b ≠ a := fun z => by
          subst z
          exact ej (g.dis i j _ _ b h hj rfl rfl e k1)
        exact ⟨b, rfl, by rw [upd_ne nb]; exact q.1, q.2⟩
      | ownu m =>
        obtain ⟨b, rfl, q⟩ := k2
        have nb : b ≠ a := fun z => by
          subst z
          exact ej (g.dis i j _ _ b h hj rfl rfl e k1)
        exact ⟨b, rfl, by rw [upd_ne nb]; exact q.1, q.2⟩
      | obj b c m =>
        obtain ⟨dx, fs, rfl, q⟩ := k2
        have nb : b ≠ a := fun z => by
          subst z
          exact ej (g.dis i j _ _ b h hj rfl rfl e k1)
        exact ⟨dx, fs, rfl, by rw [upd_ne nb]; exact q.1, q.2⟩
      | bor d => exact k2
  dis := fun j k s t b h1 h2 o1 o2 e1 e2 => by
    have own_at : ∀ (j : Nat) (s : Sl), (G.set i (.own l'))[j]? = some s → s.owns = true → ∃ s', G[j]? = some s' ∧ s'.owns = true := fun j s hj o => by
      by_cases ej : i = j
      · subst ej
        exact ⟨_, h, rfl⟩
      · rw [List.getElem?_set_ne ej] at hj
        exact ⟨s, hj, o⟩
    obtain ⟨s1, q1, p1⟩ := own_at j s h1 o1
    obtain ⟨s2, q2, p2⟩ := own_at k t h2 o2
    exact g.dis j k s1 s2 b q1 q2 p1 p2 e1 e2
theorem Ext.write {B0 B F H : Hp} {a : Addr} {o : HO} (x : Ext B0 B F H) (fa : F a = none) (ba : B a = none) : Ext B0 B F (upd H a o) :=
  ⟨x.sF, fun c u h => by
    rw [upd_ne (ne_of_none h ba)]
    exact x.sH c u h, fun c u h => by
    rw [upd_ne (ne_of_none h fa)]
    exact x.sFH c u h, x.old⟩
def Sl.push (s : Sl) (m : M D) : M Sl := match s with
  | .own l => m >>= fun d => need (decide (l.length < sizeLine)) >>= fun _ => .ok (.own (l ++ [d]))
  | _ => stuck
theorem ds_push {x : Str} {i : Nat} {s : Sl} {p1 p2 p3 : Pos} {m : M D} (hs : G[i]? = some s) (pv : PE X (.Name x p1) (tVar i)) (h : DE X E G e m)
    (hfew : ((backTo p3 (starEach [e] X.env)).all (fun x => !x.1) && (backToKw p3 (keywordEach [] X.env)).all (fun x => x.1.isSome)
      && decide (([e] : List Expr).length + ([] : List Keyword).length + (if ([] : List Keyword).isEmpty then 0 else 1) < 30)) = true := by rfl)
    (hbase : attributeBase (.Name x p1) "append" X.env (eval (.Name x p1) X.env) = eval (.Name x p1) X.env := by rfl)
    (hline : (p2.endLine == p3.line) = true := by rfl) (hst : starEach [e] X.env = (false, eval e X.env) :: starEach [] X.env := by rfl) (hplain : (backTo p3 (starEach [] X.env)).any (·.1) = false := by rfl) :
    DS X E G (.Expr (.Call (.Attribute (.Name x p1) "append" p2) [e] [] p3) pos) (s.push m) (fun s' => .nx (G.set i s')) := by
  obtain ⟨t, pe, w⟩ := h
  refine ⟨_, ps_expr (pe_bm PySem.F.plainAttrs_list PySem.F.slot_list_append PySem.F.type_list_append mt_append pv (pa_cons pe pa_nil hst) hbase hfew hline hst hplain), fun B0 B σ F H D x0 g q => ?_⟩
  cases s with
  | own l =>
    have q : WpB X.K E B0 B (fun s' => .nx (G.set i s')) (m >>= fun d => need (decide (l.length < sizeLine)) >>= fun _ => .ok (.own (l ++ [d]))) F D := q
    obtain ⟨o, h1, a, xs, rfl, h2, h3, h4, h5⟩ := g.ok i _ hs
    refine ⟨_, h1, .inl ⟨rfl, xs, SqL.of h2⟩, w B σ F H _ x0.sFH g (WpB.expr (H := H) x0 q fun d F' H' v x x' r qd => ?_)⟩
    cases hd : decide (l.length < sizeLine) with
    | false =>
      exfalso
      rw [hd] at qd
      exact qd
    | true =>
      rw [hd] at qd
      have hl := of_decide_eq_true hd
      have h2' := x.sH _ _ h2
      have h3' : F' a = none := by
        rw [x.old _ _ h2]
        exact h3
      have h5' := h5.mono x.sF
      refine ⟨a, xs, v, rfl, rfl, h2', by rw [h5'.length]; exact hl, ?_⟩
      have qd : WpB X.K E B0 B (fun s' => .nx (G.set i s')) (.ok (.own (l ++ [d]))) F' D := qd
      exact qd.ok σ F' _ (Same.refl _) (x'.write h3' h4) ((g.ext x).write hs h1 (h5'.append (.one r)))
  | _ => exact q.elim
/-- an owned object is owned no more -/
def Sl.fz : Sl → Sl
  | .own l => .val (.lst l)
  | s => s
theorem db_fz {α : Type} {i : Nat} {s : Sl} {m : M α} {post : α → Oc} (hs : G[i]? = some s) (h : DB X E (G.set i s.fz) body m post) : DB X E G body m post := by
  obtain ⟨t, p, w⟩ := h
  refine ⟨t, p, fun B0 B σ F H D x0 g q => ?_⟩
  have same : ∀ s', s' = s → DB X E (G.set i s') body m post → G.set i s' = G := fun s' e _ => by
    subst e
    apply List.ext_getElem?
    intro k
    by_cases e : i = k
    · subst e
      rw [List.getElem?_set_self (List.getElem?_eq_some_iff.mp hs).1, hs]
    · rw [List.getElem?_set_ne e]
  cases s with
  | own l =>
    obtain ⟨o, h1, a, xs, rfl, h2, h3, h4, h5⟩ := g.ok i _ hs
    have hi := (List.getElem?_eq_some_iff.mp hs).1
    have xF : Same F (upd F a (.lst xs)) := same_new h3
    refine w B0 B σ (upd F a (.lst xs)) H D ⟨x0.sF.trans xF, x0.sH, fun c u hc => ?_, fun c u hc => ?_⟩ ⟨g.sB, by rw [List.length_set]; exact g.len, fun j s' hj => ?_, fun j k s1 s2 b g1 g2 o1 o2 e1 e2 => ?_⟩ (q.mono xF)
    · by_cases e : c = a
      · subst e
        rw [upd_same] at hc
        cases hc
        exact h2
      · rw [upd_ne e] at hc
        exact x0.sFH c u hc
    · rw [upd_ne (ne_of_none hc h4)]
      exact x0.old c u hc
    · by_cases e : i = j
      · subst e
        rw [List.getElem?_set_self hi] at hj
        cases hj
        exact ⟨_, h1, _, rfl, .lst upd_same (h5.mono xF)⟩
      · rw [List.getElem?_set_ne e] at hj
        obtain ⟨o, k1, k2⟩ := g.ok j s' hj
        refine ⟨o, k1, ?_⟩
        cases s' with
        | un => exact k2
        | any => trivial
        | val d =>
          obtain ⟨v, e1, r⟩ := k2
          exact ⟨v, e1, r.mono xF⟩
        | own m =>
          obtain ⟨b, ys, rfl, q1, q2, q3, q4⟩ := k2
          have nb : b ≠ a := fun z => by
            subst z
            exact e (g.dis i j _ _ b hs hj rfl rfl h1 k1)
          exact ⟨b, ys, rfl, q1, by rw [upd_ne nb]; exact q2, q3, q4.mono xF⟩
        | ownd m =>
          obtain ⟨b, rfl, q1, q2, q3⟩ := k2
          have nb : b ≠ a := fun z => by
            subst z
            exact e (g.dis i j _ _ b hs hj rfl rfl h1 k1)
          exact ⟨b, rfl, q1.mono xF, by rw [upd_ne nb]; exact q2, q3⟩
        | ownu m =>
          obtain ⟨b, rfl, q1, q2, q3⟩ := k2
          have nb : b ≠ a := fun z => by
            subst z
            exact e (g.dis i j _ _ b hs hj rfl rfl h1 k1)
          exact ⟨b, rfl, q1.mono xF, by rw [upd_ne nb]; exact q2, q3⟩
        | obj b c m =>
          obtain ⟨dx, fs, rfl, q1, q2, q3, q4, q5⟩ := k2
          have nb : b ≠ a := fun z => by
            subst z
            exact e (g.dis i j _ _ b hs hj rfl rfl h1 k1)
          exact ⟨dx, fs, rfl, q1, by rw [upd_ne nb]; exact q2, q3, q4, q5.mono xF⟩
        | bor d =>
          obtain ⟨v, e1, r⟩ := k2
          exact ⟨v, e1, r.monoF xF⟩
    · have nj : i ≠ j := fun z => by
        subst z
        rw [List.getElem?_set_self hi] at g1
        cases g1
        cases o1
      have nk : i ≠ k := fun z => by
        subst z
        rw [List.getElem?_set_self hi] at g2
        cases g2
        cases o2
      rw [List.getElem?_set_ne nj] at g1
      rw [List.getElem?_set_ne nk] at g2
      exact g.dis j k s1 s2 b g1 g2 o1 o2 e1 e2
  | un => exact w B0 B σ F H D x0 ((show GOk X.K B (G.set i .un) σ F H from (same .un rfl ⟨t, p, w⟩).symm ▸ g)) q
  | any => exact w B0 B σ F H D x0 ((show GOk X.K B (G.set i .any) σ F H from (same .any rfl ⟨t, p, w⟩).symm ▸ g)) q
  | val d => exact w B0 B σ F H D x0 ((show GOk X.K B (G.set i (.val d)) σ F H from (same (.val d) rfl ⟨t, p, w⟩).symm ▸ g)) q
  | ownd l => exact w B0 B σ F H D x0 ((show GOk X.K B (G.set i (.ownd l)) σ F H from (same (.ownd l) rfl ⟨t, p, w⟩).symm ▸ g)) q
  | obj a c l => exact w B0 B σ F H D x0 ((show GOk X.K B (G.set i (.obj a c l)) σ F H from (same (.obj a c l) rfl ⟨t, p, w⟩).symm ▸ g)) q
  | bor d => exact w B0 B σ F H D x0 ((show GOk X.K B (G.set i (.bor d)) σ F H from (same (.bor d) rfl ⟨t, p, w⟩).symm ▸ g)) q
  | ownu l => exact w B0 B σ F H D x0 ((show GOk X.K B (G.set i (.ownu l)) σ F H from (same (.ownu l) rfl ⟨t, p, w⟩).symm ▸ g)) q
/-- a slot forgotten -/
theorem db_any {α : Type} (i : Nat) {m : M α} {post : α → Oc} (h : DB X E (G.set i .any) body m post) : DB X E G body m post := by
  obtain ⟨t, p, w⟩ := h
  exact ⟨t, p, fun B0 B σ F H D x0 g q => w B0 B σ F H D x0 g.any q⟩

/-! ### small statements -/
theorem ds_expr {m : M D} (h : DE X E G e m) (p : ∀ {te : TE}, PE X e te → PS X (.Expr e pos) (tDrop te)) : DS X E G (.Expr e pos) m (fun _ => .nx G) := by
  obtain ⟨t, pe, w⟩ := h
  refine ⟨_, p pe, fun B0 B σ F H D x0 g q => w B σ F H _ x0.sFH g ?_⟩
  cases m with
  | ok d => exact fun F' H' v x r => q.ok _ F' H' x.sF (x0.trans x) (g.ext x)
  | error er => cases er with
    | stuck => exact q.elim
    | exc y => exact fun F' H' c d x r => q F' H' c d x.sF (x0.trans x) r
theorem ds_ret {m : M D} (h : DE X E G e m) : DS X E G (.Return (some e) pos) m .rt := by
  obtain ⟨t, pe, w⟩ := h
  refine ⟨_, ps_ret pe, fun B0 B σ F H D x0 g q => w B σ F H _ x0.sFH g ?_⟩
  cases m with
  | ok d => exact fun F' H' v x r => q.ok v F' H' x.sF (x0.trans x) r
  | error er => cases er with
    | stuck => exact q.elim
    | exc y => exact fun F' H' c d x r => q F' H' c d x.sF (x0.trans x) r
theorem ds_retN : DS X E G (.Return none pos) (.ok D.non) .rt := ⟨_, ps_retN, fun B0 B σ F H D x0 g q => q.ok .non F H (Same.refl _) x0 .non⟩
theorem ds_pass : DS X E G (.Pass pos) (.ok ()) (fun _ => .nx G) := ⟨_, ps_pass, fun B0 B σ F H D x0 g q => q.ok σ F H (Same.refl _) x0 g⟩
theorem ds_break {α : Type} {x : α} {post : α → Oc} (h : post x = .bk G) : DS X E G (.Break pos) (.ok x) post := ⟨_, ps_break, fun B0 B σ F H D x0 g q => by
  have q := q.ok
  rw [h] at q
  exact q σ F H (Same.refl _) x0 g⟩
theorem ds_continue {α : Type} {x : α} {post : α → Oc} (h : post x = .ct G) : DS X E G (.Continue pos) (.ok x) post := ⟨_, ps_continue, fun B0 B σ F H D x0 g q => by
  have q := q.ok
  rw [h] at q
  exact q σ F H (Same.refl _) x0 g⟩
theorem ds_if {α : Type} {A B : List Stmt} {mc : M Bool} {mA mB : M α} {post : α → Oc} (hc : DT X E G c mc) (hA : DB X E G A mA post) (hB : DB X E G B mB post) : DS X E G (.If c A B pos) (mc >>= fun b => if b = true then mA else mB) post := by
  obtain ⟨tc, pc, wc⟩ := hc
  obtain ⟨t1, p1, w1⟩ := hA
  obtain ⟨t2, p2, w2⟩ := hB
  refine ⟨_, ps_if pc p1 p2, fun B0 B σ F H D x0 g q => wc B σ F H _ x0.sFH g (WpB.expr (H := H) x0 q fun b F' H' v x x' r qd => ?_)⟩
  subst r
  cases v with
  | true => exact w1 B0 B σ F' H' D x' (g.ext x) qd
  | false => exact w2 B0 B σ F' H' D x' (g.ext x) qd
/-- an if whose suite never goes on: what follows is its else -/
theorem db_ift {α β : Type} {A : List Stmt} {mc : M Bool} {mA : M β} {pA : β → Oc} {mR : M α} {post : α → Oc} (inj : β → α) (hc : DT X E G c mc) (hA : DB X E G A mA pA) (hT : ∀ a G', pA a ≠ .nx G') (hp : ∀ a, post (inj a) = pA a) (hR : DB X E G rest mR post) :
    DB X E G (.If c A [] pos :: rest) (mc >>= fun b => if b = true then mA >>= fun a => .ok (inj a) else mR) post := by
  have h1 : DS X E G (.If c A [] pos) (mc >>= fun b => if b = true then mA >>= fun a => .ok (some a) else .ok none) (fun (o : Option β) => match o with | some a => pA a | none => .nx G) := by
    refine ds_if hc ?_ (db_nil rfl)
    obtain ⟨t, p, w⟩ := hA
    refine ⟨t, p, fun B0 B σ F H D x0 g q => w B0 B σ F H D x0 g (q.bind fun j _ qj => ?_)⟩
    exact qj.ok
  have h2 := db_cons (rest := rest) (k := fun (o : Option β) => match o with | some a => .ok (inj a) | none => mR) (post := post) h1 (fun j G' e => by
    cases j with
    | some a => exact absurd e (hT a G')
    | none =>
      cases e
      exact hR) (fun j h => by
    cases j with
    | some a => exact ⟨inj a, rfl, hp a⟩
    | none => exact absurd rfl (h G))
  refine db_cast h2 ?_
  cases mc with
  | error e => rfl
  | ok b => cases b with
    | true => cases mA <;> rfl
    | false => rfl
/-- .. of a def's body -/
theorem db_ifr {A : List Stmt} {mc : M Bool} {mA mR : M D} (hc : DT X E G c mc) (hA : DB X E G A mA .rt) (hR : DB X E G rest mR .rt) : DB X E G (.If c A [] pos :: rest) (mc >>= fun b => if b = true then mA else mR) .rt :=
  db_cast (db_ift id hc hA (fun a G' h => nomatch h) (fun _ => rfl) hR) (by
    cases mc with
    | error e => rfl
    | ok b => cases b with
      | true => cases mA <;> rfl
      | false => rfl)
/-- the result moved -/
theorem db_map {α β : Type} {m : M β} {p : β → Oc} {post : α → Oc} (f : β → α) (h : DB X E G body m p) (hp : ∀ a, post (f a) = p a) : DB X E G body (m >>= fun a => .ok (f a)) post := by
  obtain ⟨t, ps, w⟩ := h
  refine ⟨t, ps, fun B0 B σ F H D x0 g q => w B0 B σ F H D x0 g (q.bind fun j _ qj => ?_)⟩
  have qj := qj.ok
  rw [hp j] at qj
  exact qj

/-! ### for -/
/-- how a turn ends -/
inductive Rx (S T : Type) where
  | go (s : S)
  | ct (s : T)
  | bk (s : T)
  | rt (d : D)
def Rx.oc {S T : Type} (Γ : S → List Sl) (Δ : T → List Sl) : Rx S T → Oc
  | .go s => .nx (Γ s)
  | .ct s => .ct (Δ s)
  | .bk s => .bk (Δ s)
  | .rt d => .rt d
abbrev Rs (S : Type) := Rx S S
abbrev Rs.oc {S : Type} (Γ : S → List Sl) : Rs S → Oc := Rx.oc Γ Γ
def loopR {S : Type} (f : S → D → M (Rs S)) : List D → S → M (S ⊕ D)
  | [], s => .ok (.inl s)
  | x :: xs, s => f s x >>= fun r => match r with
    | .go s => loopR f xs s
    | .ct s => loopR f xs s
    | .bk s => .ok (.inl s)
    | .rt d => .ok (.inr d)
def loopF {S : Type} (f : S → D → M S) : List D → S → M S
  | [], s => .ok s
  | x :: xs, s => f s x >>= fun s => loopF f xs s
def sumOc {S : Type} (Γ : S → List Sl) : S ⊕ D → Oc
  | .inl s => .nx (Γ s)
  | .inr d => .rt d
theorem ds_forR {S : Type} {tg iter : Expr} {mi : M (List D)} {vs : List Nat} {Γ : S → List Sl} {bnd : S → D → M (List Sl)} {f : S → D → M (Rs S)} (s0 : S) (hG : G = Γ s0) (hp : PassesOwn (model X.prog X.w) X.A X.env X.xe) (hc : X.calm = true)
    (hi : DI X E G tg iter mi) {g : TG} (pg : PG X tg g)
    (hg : ∀ s x v B σ F H (Q : St → Hp → Prop), Same F H → GOk X.K B (Γ s) σ F H → Rp X.K F v x → (∃ G', bnd s x = .ok G' ∧ ∀ σ', GOk X.K B G' σ' F H → (∀ k, k ∉ vs → σ'[k]? = σ[k]?) → σ'.length = σ.length → Q σ' H) → g v σ H Q)
    (hbnd : ∀ s x r, f s x = .ok r → ∃ G', bnd s x = .ok G') (hbndx : ∀ s x r, f s x = .error (.exc r) → ∃ G', bnd s x = .ok G')
    (hb : ∀ s x G', bnd s x = .ok G' → DB X E G' body (f s x) (Rs.oc Γ))
    (hs : ∀ x, foldedSetIterable iter X.env x = pure x := by intro _; rfl) : DS X E G (.For tg iter body [] pos) (mi >>= fun ds => loopR f ds s0) (sumOc Γ) := by
  subst hG
  obtain ⟨wi, pi, wI⟩ := hi
  have pb : PSs X body (fun D σ H => ∃ s x G' B0 B F, bnd s x = .ok G' ∧ Ext B0 B F H ∧ GOk X.K B G' σ F H ∧ WpB X.K E B0 B (Rs.oc Γ) (f s x) F D) :=
    ⟨fun pins s σ H D I ⟨s', x, G', B0, B, F, e, x0, gk, q⟩ => by
      obtain ⟨t, p, w⟩ := hb s' x G' e
      exact p.run pins s σ H D I (w B0 B σ F H D x0 gk q)⟩
  refine ⟨_, ps_for hp hc pi pg pb hs, fun B0 B σ F H D x0 gk q => wI B σ F H _ x0.sFH gk (WpB.expr (H := H) x0 q fun ds F1 H1 J x1 x1' y1 q1 => ?_)⟩
  refine ⟨fun i m σ H => m = ds.length - i ∧ i ≤ ds.length ∧ ∃ F s, Same F1 F ∧ Ext B0 B F H ∧ GOk X.K B (Γ s) σ F H ∧ WpB X.K E B0 B (sumOc Γ) (loopR f (ds.drop i) s) F D, ⟨ds.length, by simp, Nat.zero_le _, F1, s0, Same.refl _, x1', gk.ext x1, q1⟩, ?_⟩
  rintro i m σ H ⟨rfl, hi, F, s, sF, x, g', q'⟩
  obtain ⟨yi, ye⟩ := y1 F H sF x.sFH
  by_cases hlt : i < ds.length
  · have hd : ds[i]? = some ds[i] := List.getElem?_eq_getElem hlt
    obtain ⟨go, yl⟩ := yi i _ hd
    rw [List.drop_eq_getElem_cons hlt] at q'
    refine .inr ⟨go, fun σ' H' => ∃ F' s', Same F1 F' ∧ Ext B0 B F' H' ∧ GOk X.K B (Γ s') σ' F' H' ∧ WpB X.K E B0 B (sumOc Γ) (loopR f (ds.drop (i + 1)) s') F' D, fun σ' H' ⟨F', s', a1, a2, a3, a4⟩ => ⟨ds.length - (i + 1), by omega, rfl, hlt, F', s', a1, a2, a3, a4⟩, fun v H' hv => ?_⟩
    obtain ⟨F', x', rv⟩ := yl v H' hv
    have q2 : WpB X.K E B0 B (sumOc Γ) (f s ds[i] >>= fun r => match r with
      | .go s => loopR f (ds.drop (i + 1)) s
      | .ct s => loopR f (ds.drop (i + 1)) s
      | .bk s => .ok (.inl s)
      | .rt d => .ok (.inr d)) F D := q'
    have q3 := q2.mono x'.sF
    have eb : ∃ G', bnd s ds[i] = .ok G' := by
      cases ef : f s ds[i] with
      | ok r => exact hbnd _ _ _ ef
      | error er => cases er with
        | stuck =>
          rw [ef] at q3
          exact q3.elim
        | exc y => exact hbndx _ _ _ ef
    obtain ⟨G', eG⟩ := eb
    refine hg s ds[i] v B σ F' H' _ (x.trans x').sFH (g'.ext x') rv ⟨G', eG, fun σ' gG _ _ => ⟨s, ds[i], G', B0, B, F', eG, x.trans x', gG, q3.bind fun r _ qr => ?_⟩⟩
    have sF' := sF.trans x'.sF
    cases r with
    | go s' => exact fun σ2 F2 H2 s2 x2 g2 => ⟨F2, s', sF'.trans s2, x2, g2, qr.mono s2⟩
    | ct s' => exact fun σ2 F2 H2 s2 x2 g2 => ⟨F2, s', sF'.trans s2, x2, g2, qr.mono s2⟩
    | bk s' => exact qr.ok
    | rt d => exact qr.ok
  · have e : i = ds.length := by omega
    subst e
    rw [List.drop_length] at q'
    exact .inl ⟨ye, q'.ok σ F H (Same.refl _) x g'⟩
theorem loopF_R {S : Type} (f : S → D → M S) : ∀ (ds : List D) (s : S), loopR (fun s x => f s x >>= fun s => .ok (.go s)) ds s = (loopF f ds s >>= fun s => .ok (.inl s))
  | [], s => rfl
  | x :: xs, s => by
    show ((f s x >>= fun s => .ok (Rx.go s)) >>= _) = ((f s x >>= fun s => loopF f xs s) >>= _)
    cases e : f s x with
    | error z => rfl
    | ok s' => exact loopF_R f xs s'
/-- a for whose body always goes on -/
theorem ds_forF {S : Type} {tg iter : Expr} {mi : M (List D)} {vs : List Nat} {Γ : S → List Sl} {bnd : S → D → M (List Sl)} {f : S → D → M S} (s0 : S) (hG : G = Γ s0) (hp : PassesOwn (model X.prog X.w) X.A X.env X.xe) (hc : X.calm = true)
    (hi : DI X E G tg iter mi) {g : TG} (pg : PG X tg g)
    (hg : ∀ s x v B σ F H (Q : St → Hp → Prop), Same F H → GOk X.K B (Γ s) σ F H → Rp X.K F v x → (∃ G', bnd s x = .ok G' ∧ ∀ σ', GOk X.K B G' σ' F H → (∀ k, k ∉ vs → σ'[k]? = σ[k]?) → σ'.length = σ.length → Q σ' H) → g v σ H Q)
    (hbnd : ∀ s x r, f s x = .ok r → ∃ G', bnd s x = .ok G') (hbndx : ∀ s x r, f s x = .error (.exc r) → ∃ G', bnd s x = .ok G')
    (hb : ∀ s x G', bnd s x = .ok G' → DB X E G' body (f s x) (fun s => .nx (Γ s)))
    (hs : ∀ x, foldedSetIterable iter X.env x = pure x := by intro _; rfl) : DS X E G (.For tg iter body [] pos) (mi >>= fun ds => loopF f ds s0) (fun s => .nx (Γ s)) := by
  have h := ds_forR (f := fun s x => f s x >>= fun s => .ok (.go s)) (pos := pos) s0 hG hp hc hi pg hg (fun s x r e => by
    cases ef : f s x with
    | ok s' => exact hbnd _ _ _ ef
    | error z => rw [ef] at e; cases e) (fun s x r e => by
    cases ef : f s x with
    | ok s' => rw [ef] at e; cases e
    | error z =>
      rw [ef] at e
      cases e
      exact hbndx _ _ _ ef) (fun s x G' e => db_map Rx.go (hb s x G' e) fun _ => rfl) hs
  obtain ⟨t, p, w⟩ := h
  refine ⟨t, p, fun B0 B σ F H D x0 gk q => w B0 B σ F H D x0 gk ?_⟩
  cases mi with
  | error z => exact WpB.err (post := fun s => Oc.nx (Γ s)) q
  | ok ds =>
    show WpB X.K E B0 B (sumOc Γ) (loopR _ ds s0) F D
    rw [loopF_R]
    have q : WpB X.K E B0 B (fun s => .nx (Γ s)) (loopF f ds s0) F D := q
    cases e : loopF f ds s0 with
    | error z => rw [e] at q; exact WpB.err (post := fun s => Oc.nx (Γ s)) q
    | ok s' => rw [e] at q; exact q
/-! ### while -/
def whileR {S : Type} (c : S → M Bool) (f : S → M (Rs S)) : Nat → S → M (S ⊕ D)
  | 0, _ => stuck
  | n + 1, s => c s >>= fun b => if b = true then f s >>= fun r => match r with
      | .go s => whileR c f n s
      | .ct s => whileR c f n s
      | .bk s => .ok (.inl s)
      | .rt d => .ok (.inr d)
    else .ok (.inl s)
theorem ds_whileR {S : Type} {Γ : S → List Sl} {mc : S → M Bool} {f : S → M (Rs S)} (n : Nat) (s0 : S) (hG : G = Γ s0) (hp : PassesOwn (model X.prog X.w) X.A X.env X.xe) (hc : ∀ s, DT X E (Γ s) c (mc s)) (hb : ∀ s, DB X E (Γ s) body (f s) (Rs.oc Γ)) :
    DS X E G (.While c body [] pos) (whileR mc f n s0) (sumOc Γ) := by
  subst hG
  have pc : PT X c (fun σ H Q => ∃ s B F, Same F H ∧ GOk X.K B (Γ s) σ F H ∧ WpG X.K E rB (mc s) F H Q) :=
    ⟨fun pins s σ H Q I ⟨s', B, F, s1, g, q⟩ => by
      obtain ⟨t, p, w⟩ := hc s'
      exact p.run pins s σ H Q I (w B σ F H Q s1 g q)⟩
  have pb : PSs X body (fun D σ H => ∃ s B0 B F, Ext B0 B F H ∧ GOk X.K B (Γ s) σ F H ∧ WpB X.K E B0 B (Rs.oc Γ) (f s) F D) :=
    ⟨fun pins s σ H D I ⟨s', B0, B, F, x0, gk, q⟩ => by
      obtain ⟨t, p, w⟩ := hb s'
      exact p.run pins s σ H D I (w B0 B σ F H D x0 gk q)⟩
  refine ⟨_, ps_while hp pc pb, fun B0 B σ F H D x0 gk q => ?_⟩
  refine ⟨fun m σ H => ∃ F s, Ext B0 B F H ∧ GOk X.K B (Γ s) σ F H ∧ WpB X.K E B0 B (sumOc Γ) (whileR mc f m s) F D, ⟨n, F, s0, x0, gk, q⟩, ?_⟩
  rintro m σ H ⟨F, s, x, g, q⟩
  cases m with
  | zero => exact q.elim
  | succ m =>
    have q : WpB X.K E B0 B (sumOc Γ) (mc s >>= fun b => if b = true then f s >>= fun r => match r with
      | .go s => whileR mc f m s
      | .ct s => whileR mc f m s
      | .bk s => .ok (.inl s)
      | .rt d => .ok (.inr d)
      else .ok (.inl s)) F D := q
    refine ⟨s, B, F, x.sFH, g, WpB.expr (H := H) x q fun b F' H' v x1 x1' r q1 => ?_⟩
    subst r
    cases v with
    | true =>
      rw [if_pos rfl] at q1 ⊢
      refine ⟨fun σ' H' => ∃ F' s', Ext B0 B F' H' ∧ GOk X.K B (Γ s') σ' F' H' ∧ WpB X.K E B0 B (sumOc Γ) (whileR mc f m s') F' D, fun σ' H' h => ⟨m, Nat.lt_succ_self _, h⟩, s, B0, B, F', x1', g.ext x1, q1.bind fun r _ qr => ?_⟩
      cases r with
      | go s' => exact fun σ2 F2 H2 s2 x2 g2 => ⟨F2, s', x2, g2, qr.mono s2⟩
      | ct s' => exact fun σ2 F2 H2 s2 x2 g2 => ⟨F2, s', x2, g2, qr.mono s2⟩
      | bk s' => exact qr.ok
      | rt d => exact qr.ok
    | false =>
      rw [if_neg Bool.false_ne_true] at q1 ⊢
      exact q1.ok σ F' H' (Same.refl _) x1' (g.ext x1)
def whileF {S : Type} (c : S → M Bool) (f : S → M S) : Nat → S → M S
  | 0, _ => stuck
  | n + 1, s => c s >>= fun b => if b = true then f s >>= fun s => whileF c f n s else .ok s
theorem whileF_R {S : Type} (c : S → M Bool) (f : S → M S) : ∀ (n : Nat) (s : S), whileR c (fun s => f s >>= fun s => .ok (.go s)) n s = (whileF c f n s >>= fun s => .ok (.inl s))
  | 0, s => rfl
  | n + 1, s => by
    simp only [whileR, whileF]
    cases e : c s with
    | error z => rfl
    | ok b => cases b with
      | false => rfl
      | true =>
        cases e2 : f s with
        | error z => rfl
        | ok s' => exact whileF_R c f n s'
theorem ds_whileF {S : Type} {Γ : S → List Sl} {mc : S → M Bool} {f : S → M S} (n : Nat) (s0 : S) (hG : G = Γ s0) (hp : PassesOwn (model X.prog X.w) X.A X.env X.xe) (hc : ∀ s, DT X E (Γ s) c (mc s)) (hb : ∀ s, DB X E (Γ s) body (f s) (fun s => .nx (Γ s))) :
    DS X E G (.While c body [] pos) (whileF mc f n s0) (fun s => .nx (Γ s)) := by
  have h := ds_whileR (f := fun s => f s >>= fun s => .ok (.go s)) (pos := pos) n s0 hG hp hc (fun s => db_map Rx.go (hb s) fun _ => rfl)
  obtain ⟨t, p, w⟩ := h
  refine ⟨t, p, fun B0 B σ F H D x0 gk q => w B0 B σ F H D x0 gk ?_⟩
  rw [whileF_R]
  cases e : whileF mc f n s0 with
  | error z => rw [e] at q; exact WpB.err (post := fun s => Oc.nx (Γ s)) q
  | ok s' => rw [e] at q; exact q
end
end DL
set_option Elab.async false
set_option linter.all false
set_option maxRecDepth 100000
set_option maxHeartbeats 4000000
/-! DL8: defs and their promises, calls, classes. -/
namespace DL
open PySem PySem.Spec L2

/-- where a body runs -/
structure CtxOk (X : Cx) (E : XK) : Prop where
  calm : X.calm = true
  pass : Passes (L2.CX X.prog X.w) X E
  own : PassesOwn (model X.prog X.w) X.A X.env X.xe
theorem CtxOk.blk {X : Cx} {E : XK} (cx : CtxOk X E) {s : Shared} {H : Hp} {scope : Scope} {cenv : Env} {fp : List Addr} : CtxOk (X.blk s H scope cenv fp) EN :=
  ⟨cx.calm, passL, PassesOwn.never⟩
section
variable {P : Program} {w : World} {K : PySem.W.Frag} {mg : Str → Option Value} {base : Heap} {N : List Str} {qual : Str} {scope : Scope} {f : Addr} {cd : Value} {A : Around} {outer : List Env} {s : Shared} {H : Hp} {E : XK}
theorem ctx_def : CtxOk (cxOf (L2.CX P w) P w K mg base N qual scope f cd A outer s H E) E :=
  ⟨rfl, passes_call (takes_of rfl rfl rfl rfl) fun _ _ _ _ h => h, passes_of rfl⟩
end

/-! ### arguments: frozen, or lent -/
inductive RpA (K : PySem.W.Frag) (F H : Hp) : List Bool → List V → List D → Prop
  | nil : RpA K F H [] [] []
  | frz {bs : List Bool} {v : V} {vs : List V} {d : D} {ds : List D} : Rp K F v d → RpA K F H bs vs ds → RpA K F H (false :: bs) (v :: vs) (d :: ds)
  | bor {bs : List Bool} {v : V} {vs : List V} {d : D} {ds : List D} : RpT K F H v d → RpA K F H bs vs ds → RpA K F H (true :: bs) (v :: vs) (d :: ds)
theorem RpA.len {K : PySem.W.Frag} {F H : Hp} : ∀ {bs : List Bool} {vs : List V} {ds : List D}, RpA K F H bs vs ds → vs.length = bs.length ∧ ds.length = bs.length
  | _, _, _, .nil => ⟨rfl, rfl⟩
  | _, _, _, .frz _ h => ⟨congrArg Nat.succ h.len.1, congrArg Nat.succ h.len.2⟩
  | _, _, _, .bor _ h => ⟨congrArg Nat.succ h.len.1, congrArg Nat.succ h.len.2⟩
theorem RpA.ext {K : PySem.W.Frag} {F H F' H' : Hp} (x : Ext F H F' H') : ∀ {bs : List Bool} {vs : List V} {ds : List D}, RpA K F H bs vs ds → RpA K F' H' bs vs ds
  | _, _, _, .nil => .nil
  | _, _, _, .frz r h => .frz (r.mono x.sF) (h.ext x)
  | _, _, _, .bor r h => .bor (r.ext x) (h.ext x)
def argSl : List Bool → List D → List Sl
  | false :: bs, d :: ds => .val d :: argSl bs ds
  | true :: bs, d :: ds => .bor d :: argSl bs ds
  | _, _ => []
/-- a def's promise: what it gives is told by m -/
def spD (K : PySem.W.Frag) (bs : List Bool) (m : List D → M D) : Sp := fun vs H Q E => ∃ F ds, Same F H ∧ RpA K F H bs vs ds ∧ WpG K E (rE K) (m ds) F H Q
theorem args_ok {K : PySem.W.Frag} {F H : Hp} : ∀ {bs : List Bool} {vs : List V} {ds : List D}, RpA K F H bs vs ds → (argSl bs ds).length = vs.length ∧ (∀ (i : Nat) (s : Sl), (argSl bs ds)[i]? = some s → ∃ o, (vs.map some)[i]? = some o ∧ SlOk K H F H o s) ∧ ∀ (i : Nat) (s : Sl), (argSl bs ds)[i]? = some s → s.owns = false
  | _, _, _, .nil => ⟨rfl, fun i s h => (by cases h), fun i s h => (by cases h)⟩
  | _, _, _, .frz (v := v) (d := d) r h => by
    obtain ⟨h1, h2, h3⟩ := args_ok h
    refine ⟨congrArg Nat.succ h1, fun i s hs => ?_, fun i s hs => ?_⟩
    · cases i with
      | zero =>
        cases hs
        exact ⟨some v, rfl, v, rfl, r⟩
      | succ i => exact h2 i s hs
    · cases i with
      | zero =>
        cases hs
        rfl
      | succ i => exact h3 i s hs
  | _, _, _, .bor (v := v) (d := d) r h => by
    obtain ⟨h1, h2, h3⟩ := args_ok h
    refine ⟨congrArg Nat.succ h1, fun i s hs => ?_, fun i s hs => ?_⟩
    · cases i with
      | zero =>
        cases hs
        exact ⟨some v, rfl, v, rfl, r⟩
      | succ i => exact h2 i s hs
    · cases i with
      | zero =>
        cases hs
        rfl
      | succ i => exact h3 i s hs
theorem gok_start {K : PySem.W.Frag} {F H : Hp} {N : List Str} {bs : List Bool} {vs : List V} {ds : List D} (r : RpA K F H bs vs ds) : GOk K H (argSl bs ds ++ List.replicate (N.length - bs.length) .un) (L2.start N vs) F H := by
  obtain ⟨h1, h2, h3⟩ := args_ok r
  have hl := r.len.1
  unfold L2.start
  refine ⟨Same.refl _, ?_, fun i s hs => ?_, fun i j s t a hs ht o1 _ _ _ => ?_⟩
  · rw [List.length_append, List.length_append, List.length_map, List.length_replicate, List.length_replicate, h1, hl]
  · by_cases hi : i < (argSl bs ds).length
    · rw [List.getElem?_append_left hi] at hs
      obtain ⟨o, k1, k2⟩ := h2 i s hs
      exact ⟨o, by rw [List.getElem?_append_left (by rw [List.length_map, ← h1]; exact hi)]; exact k1, k2⟩
    · have hi : (argSl bs ds).length ≤ i := by omega
      rw [List.getElem?_append_right hi] at hs
      rw [List.getElem?_append_right (by rw [List.length_map, ← h1]; exact hi), List.length_map, ← h1]
      have e9 : (argSl bs ds).length = bs.length := by rw [h1, hl]
      rw [e9] at hs ⊢
      obtain ⟨hlt, e⟩ := List.getElem?_eq_some_iff.mp hs
      rw [List.getElem_replicate] at e
      subst e
      rw [List.length_replicate] at hlt
      exact ⟨none, by rw [List.getElem?_replicate, if_pos hlt], rfl⟩
  · exfalso
    by_cases hi : i < (argSl bs ds).length
    · rw [List.getElem?_append_left hi] at hs
      rw [h3 i s hs] at o1
      cases o1
    · rw [List.getElem?_append_right (by omega)] at hs
      obtain ⟨hlt, e⟩ := List.getElem?_eq_some_iff.mp hs
      rw [List.getElem_replicate] at e
      subst e
      cases o1
section
variable {P : Program} {w : World} {K : PySem.W.Frag} {mg : Str → Option Value} {base : Heap} {x qual : Str} {params : Arguments} {body : List Stmt} {scope : Scope} {dvs : List V} {kws : List (Str × V)} {f : Addr} {fd : FuncData}
/-- a def whose body always returns -/
theorem fn_def {N ps : List Str} {k : Nat} {bs : List Bool} {m : List D → M D} (F : FunD K x qual params body scope dvs kws f fd) (S : FnScope N ps scope) (hbs : bs.length = ps.length)
    (hb : ∀ (cdv : Value) (A : Around) (outer : List Env) (s : Shared) (H : Hp) (E : XK), Room k (A.deeper (PyProof.Rows.envOfC qual scope s.heap.objs.size f cdv)) → ∀ ds : List D, ds.length = bs.length →
      DB (cxOf (L2.CX P w) P w K mg base N qual scope f cdv A outer s H E) E (argSl bs ds ++ List.replicate (N.length - bs.length) .un) body (m ds) Oc.rt) : FnOk P w K mg base (L2.CX P w) (k + 1) f fd ps (spD K bs m) := by
  refine F.ok S (fun vs H Q E h => ?_) (fun cdv A outer s H vs Q E hr h => ?_)
  · obtain ⟨F, ds, _, r, _⟩ := h
    rw [r.len.1, hbs]
  · obtain ⟨F, ds, sF, r, q⟩ := h
    obtain ⟨t, p, wt⟩ := hb cdv A outer s H E hr ds r.len.2
    refine ⟨t, p, wt F H (L2.start N vs) F H _ (Ext.refl sF) (gok_start r) ?_⟩
    cases e : m ds with
    | ok d =>
      rw [e] at q
      exact WpB.of_ok (fun v F' H' _ x' r' => q F' H' v x' r')
    | error er =>
      rw [e] at q
      cases er with
      | stuck => exact q.elim
      | exc y => exact fun F' H' c d _ x' r' => q F' H' c d x' r'
/-- .. may fall off its end -/
def ocN (n : Nat) : Option D → Oc
  | some d => .rt d
  | none => .nx (List.replicate n .any)
def orNon (m : M (Option D)) : M D := m >>= fun o => .ok (o.getD .non)
theorem fn_defN {N ps : List Str} {k : Nat} {bs : List Bool} {m : List D → M (Option D)} (F : FunD K x qual params body scope dvs kws f fd) (S : FnScope N ps scope) (hbs : bs.length = ps.length)
    (hb : ∀ (cdv : Value) (A : Around) (outer : List Env) (s : Shared) (H : Hp) (E : XK), Room k (A.deeper (PyProof.Rows.envOfC qual scope s.heap.objs.size f cdv)) → ∀ ds : List D, ds.length = bs.length →
      DB (cxOf (L2.CX P w) P w K mg base N qual scope f cdv A outer s H E) E (argSl bs ds ++ List.replicate (N.length - bs.length) .un) body (m ds) (ocN N.length)) : FnOk P w K mg base (L2.CX P w) (k + 1) f fd ps (spD K bs fun ds => orNon (m ds)) := by
  refine F.ok S (fun vs H Q E h => ?_) (fun cdv A outer s H vs Q E hr h => ?_)
  · obtain ⟨F, ds, _, r, _⟩ := h
    rw [r.len.1, hbs]
  · obtain ⟨F, ds, sF, r, q⟩ := h
    obtain ⟨t, p, wt⟩ := hb cdv A outer s H E hr ds r.len.2
    refine ⟨t, p, wt F H (L2.start N vs) F H _ (Ext.refl sF) (gok_start r) ?_⟩
    have q : WpG K E (rE K) (m ds >>= fun o => .ok (o.getD .non)) F H Q := q
    cases e : m ds with
    | ok d =>
      rw [e] at q
      cases d with
      | some d => exact WpB.of_ok (show OcP K F H F _ (.rt d) from fun v F' H' _ x' r' => q F' H' v x' r')
      | none => exact WpB.of_ok (show OcP K F H F _ (.nx _) from fun σ' F' H' _ x' _ => q F' H' .non x' .non)
    | error er =>
      rw [e] at q
      cases er with
      | stuck => exact q.elim
      | exc y => exact fun F' H' c d _ x' r' => q F' H' c d x' r'
end
/-- the block's end: nothing is told of the slots -/
theorem gok_all {K : PySem.W.Frag} {B F H : Hp} {G : List Sl} {σ : St} (g : GOk K B G σ F H) : GOk K B (List.replicate G.length .any) σ F H := by
  refine ⟨g.sB, by rw [List.length_replicate]; exact g.len, fun i s hs => ?_, fun i j s t a hs _ o1 _ _ _ => ?_⟩
  · obtain ⟨hlt, e⟩ := List.getElem?_eq_some_iff.mp hs
    rw [List.getElem_replicate] at e
    subst e
    rw [List.length_replicate] at hlt
    exact ⟨_, List.getElem?_eq_getElem (by rw [g.len]; exact hlt), trivial⟩
  · obtain ⟨hlt, e⟩ := List.getElem?_eq_some_iff.mp hs
    rw [List.getElem_replicate] at e
    subst e
    cases o1
theorem db_end {X : Cx} {E : XK} {G : List Sl} {n : Nat} (h : G.length = n) : DB X E G [] (.ok none) (ocN n) :=
  ⟨_, pss_nil, fun B0 B σ F H D x0 g q => by
    subst h
    exact q.ok σ F H (Same.refl _) x0 (gok_all g)⟩

section
variable {X : Cx} {E : XK} {G : List Sl} {a b c e : Expr} {ma mb mc : M D} {ta tb : M Bool} {pos : Pos} {F H : Hp}
def DAM (X : Cx) (E : XK) (G : List Sl) (bs : List Bool) (es : List Expr) (m : M (List D)) : Prop :=
  ∃ t, PA X es t ∧ ∀ B σ F H Q, Same F H → GOk X.K B G σ F H → WpG X.K E (fun F' H' v d => RpA X.K F' H' bs v d) m F H Q → t σ H Q
theorem dam_nil : DAM X E G [] [] (.ok []) := ⟨_, pa_nil, fun B σ F H Q s g q => q F H _ (Ext.refl s) .nil⟩
theorem dam_frz {es : List Expr} {bs : List Bool} {ms : M (List D)} (ha : DE X E G a ma) (hr : DAM X E G bs es ms) (hs : starEach (a :: es) X.env = (false, eval a X.env) :: starEach es X.env := by rfl) : DAM X E G (false :: bs) (a :: es) (ma >>= fun x => ms >>= fun xs => .ok (x :: xs)) := by
  obtain ⟨t1, p1, w1⟩ := ha
  obtain ⟨t2, p2, w2⟩ := hr
  exact ⟨_, pa_cons p1 p2 hs, fun B σ F H Q s g q => w1 B σ F H _ s g (WpG.bind q fun x F1 H1 v x1 r1 k1 => w2 B σ F1 H1 _ x1.sFH (g.ext x1) (WpG.bind k1 fun xs F2 H2 vs x2 r2 k2 => k2 F2 H2 _ (Ext.refl x2.sFH) (.frz (r1.mono x2.sF) r2)))⟩
theorem dam_bor {es : List Expr} {bs : List Bool} {ms : M (List D)} (ha : DR X E G a ma) (hr : DAM X E G bs es ms) (hs : starEach (a :: es) X.env = (false, eval a X.env) :: starEach es X.env := by rfl) : DAM X E G (true :: bs) (a :: es) (ma >>= fun x => ms >>= fun xs => .ok (x :: xs)) := by
  obtain ⟨t1, p1, w1⟩ := ha
  obtain ⟨t2, p2, w2⟩ := hr
  exact ⟨_, pa_cons p1 p2 hs, fun B σ F H Q s g q => w1 B σ F H _ s g (WpG.bind q fun x F1 H1 v x1 r1 k1 => w2 B σ F1 H1 _ x1.sFH (g.ext x1) (WpG.bind k1 fun xs F2 H2 vs x2 r2 k2 => k2 F2 H2 _ (Ext.refl x2.sFH) (.bor (r1.ext x2) r2)))⟩
/-- f(..) -/
theorem de_call {k : Nat} {f : Addr} {fd : FuncData} {ps : List Str} {bs : List Bool} {m : List D → M D} {x : Str} {p : Pos} {es : List Expr} {ms : M (List D)} (cx : CtxOk X E) (F : FnOk X.prog X.w X.K X.mg X.base (L2.CX X.prog X.w) k f fd ps (spD X.K bs m)) (hr : Room k X.A) (hg : Gl X x) (hm : X.mg x = some (.ref f)) (hk : PySem.W.keepIn X.K (.ref f) = true) (hb : Binds X.K fd ps [])
    (ha : DAM X E G bs (a :: es) ms) (hdb : (x == ("__debug__" : Str)) = false := by decide) (he : starEach (a :: es) X.env = (false, eval a X.env) :: starEach es X.env := by rfl) (hpl : (backTo pos (starEach es X.env)).any (·.1) = false := by rfl) :
    DE X E G (.Call (.Name x p) (a :: es) [] pos) (ms >>= fun l => m l) := by
  obtain ⟨t, pa, w⟩ := ha
  refine ⟨_, pe_call F hr hg hm hk hb .nil cx.pass pa hdb he hpl, fun B σ F H Q s g q => w B σ F H _ s g (WpG.bind q fun l F1 H1 vs x1 r1 k1 => ?_)⟩
  show spD X.K bs m (vs ++ []) H1 Q E
  rw [List.append_nil]
  exact ⟨F1, l, x1.sFH, r1, k1⟩

/-! ### classes -/
theorem ofString_inj {s t : String} (h : Str.ofString s = Str.ofString t) : s = t := by
  rw [Str.ofString_eq_toList, Str.ofString_eq_toList] at h
  have h1 : s.toList.map Char.toNat = t.toList.map Char.toNat := by
    have := congrArg (fun z : Str => z.cps.toList) h
    simpa using this
  have inj : ∀ l m : List Char, l.map Char.toNat = m.map Char.toNat → l = m := by
    intro l
    induction l with
    | nil => intro m h; cases m with
      | nil => rfl
      | cons _ _ => simp at h
    | cons c l ih => intro m h; cases m with
      | nil => simp at h
      | cons d m =>
        simp only [List.map_cons, List.cons.injEq] at h
        rw [ih m h.2]
        have : c = d := Char.ext (UInt32.toNat_inj.mp h.1)
        rw [this]
  have := inj _ _ h1
  have e := congrArg String.ofList this
  simpa using e
theorem field_look {K : PySem.W.Frag} {f : String} : ∀ {fs : List (Str × V)} {l : List (String × D)}, fs.map (·.1) = l.map (fun q => Str.ofString q.1) → RpL K F (fs.map (·.2)) (l.map (·.2)) →
    (l.lookup f = none ∧ fs.lookup (Str.ofString f) = none) ∨ ∃ d v, l.lookup f = some d ∧ fs.lookup (Str.ofString f) = some v ∧ Rp K F v d
  | [], [], _, _ => .inl ⟨rfl, rfl⟩
  | [], _ :: _, h, _ => by simp at h
  | _ :: _, [], h, _ => by simp at h
  | (g, v) :: fs, (g2, d) :: l, h, r => by
    have h1 : g = Str.ofString g2 ∧ fs.map (·.1) = l.map (fun q => Str.ofString q.1) := by simpa using h
    obtain ⟨rfl, h2⟩ := h1
    have r' : RpL K F (v :: fs.map (·.2)) (d :: l.map (·.2)) := r
    cases r' with
    | cons r1 r2 =>
      by_cases e : f = g2
      · subst e
        exact .inr ⟨d, v, by simp [List.lookup], by simp [List.lookup], r1⟩
      · have e1 : (f == g2) = false := beq_eq_false_iff_ne.mpr e
        have e2 : (Str.ofString f == Str.ofString g2) = false := beq_eq_false_iff_ne.mpr fun z => e (ofString_inj z)
        have a1 : List.lookup f ((g2, d) :: l) = l.lookup f := by simp [List.lookup, e1]
        have a2 : List.lookup (Str.ofString f) ((Str.ofString g2, v) :: fs) = fs.lookup (Str.ofString f) := by simp [List.lookup, e2]
        rw [a1, a2]
        exact field_look h2 r2
def D.attrC (cs : List String) (f : String) : D → M D
  | .ins c l => need (cs.contains c) >>= fun _ => match l.lookup f with | some d => .ok d | none => stuck
  | _ => stuck
theorem de_attr {cs : List String} {f : String} (hc : ∀ c ∈ cs, Cls X.K (He.ga X.K (Str.ofString c)) ∧ NoAttr X.K (He.ga X.K (Str.ofString c)) (Str.ofString f)) (ha : DR X E G a ma) (hb : attributeBase a (Str.ofString f) X.env (eval a X.env) = eval a X.env := by rfl) :
    DE X E G (.Attribute a (Str.ofString f) pos) (ma >>= fun x => D.attrC cs f x) := by
  obtain ⟨t, p, w⟩ := ha
  refine ⟨_, pe_fld p hb, fun B σ F H Q s g q => w B σ F H _ s g (WpG.bind q fun x F1 H1 v x1 r1 k1 => ?_)⟩
  cases x with
  | ins c l =>
    have k1 : WpG X.K E (rE X.K) (need (cs.contains c) >>= fun _ => match l.lookup f with | some d => .ok d | none => stuck) F1 H1 Q := k1
    obtain ⟨cc, k1⟩ := WpG.need k1
    obtain ⟨h1, h2⟩ := hc c (by simpa using cc)
    obtain ⟨p, dx, fs, rfl, e1, e2, r⟩ := r1.ins x1.sFH
    rcases field_look e2 r with ⟨n1, n2⟩ | ⟨d, v, l1, l2, r2⟩
    · rw [n1] at k1
      exact k1.elim
    · rw [l1] at k1
      exact ⟨p, _, dx, fs, v, rfl, e1, h1, h2, l2, k1 F1 H1 _ (Ext.refl x1.sFH) r2⟩
  | _ => exact k1.elim

/-- what an __init__ promises: the fields -/
def spI (K : PySem.W.Frag) (c : String) (bs : List Bool) (m : List D → M (List (String × D))) : Sp := fun vs H Q E => ∃ x dx vs' F B ds, vs = .ref x :: vs' ∧ H = upd (upd B dx (.own x)) x (.ins (He.ga K (Str.ofString c)) dx []) ∧ B x = none ∧ B dx = none ∧ dx ≠ x ∧ Same F B ∧ RpA K F B bs vs' ds ∧
  WpG K E (fun F' H' (v : V) (l : List (String × D)) => v = .non ∧ F' x = none ∧ ∃ dx' fs, H' x = some (.ins (He.ga K (Str.ofString c)) dx' fs) ∧ fs.map (·.1) = l.map (fun q => Str.ofString q.1) ∧ RpL K F' (fs.map (·.2)) (l.map (·.2))) (m ds) F B Q
theorem Ext.freezeO {F' H' : Hp} {p : Addr} {o : HO} (x : Ext F H F' H') (n : H p = none) (h : H' p = some o) (nf : F' p = none) : Ext F H (upd F' p o) H' where
  sF := fun b o q => by
    rw [upd_ne (fun z => by
      subst z
      have := x.sF _ _ q
      rw [nf] at this
      cases this)]
    exact x.sF _ _ q
  sH := x.sH
  sFH := fun b o q => by
    by_cases e : b = p
    · subst e
      rw [upd_same] at q
      cases q
      exact h
    · rw [upd_ne e] at q
      exact x.sFH _ _ q
  old := fun a o q => by
    rw [upd_ne (ne_of_none q n)]
    exact x.old a o q
theorem make_run {c : String} {bs : List Bool} {m : List D → M (List (String × D))} {vs : List V} {ds : List D} {Q : VK} (s : Same F H) (r : RpA X.K F H bs vs ds) (q : WpG X.K E (rE X.K) (m ds >>= fun l => .ok (.ins c l)) F H Q) :
    ∀ x dx, H x = none → H dx = none → dx ≠ x → spI X.K c bs m (.ref x :: (vs ++ [])) (upd (upd H dx (.own x)) x (.ins (He.ga X.K (Str.ofString c)) dx [])) (fun v H2 => v = .non ∧ Q (.ref x) H2) E := fun x dx hx hdx ne => by
  rw [List.append_nil]
  refine ⟨x, dx, vs, F, H, ds, rfl, rfl, hx, hdx, ne, s, r, ?_⟩
  cases em : m ds with
  | ok l =>
    rw [em] at q
    intro F' H' v xx ⟨e1, e2, dx', fs, e3, e4, e5⟩
    exact ⟨e1, q _ H' _ (xx.freezeO hx e3 e2) (.ins upd_same e4 (e5.mono (same_new e2)))⟩
  | error er =>
    rw [em] at q
    cases er with
    | stuck => exact q.elim
    | exc y => exact q
/-- C(..) -/
theorem de_make {k : Nat} {f : Addr} {fd : FuncData} {ps : List Str} {bs : List Bool} {m : List D → M (List (String × D))} {x : Str} {c : String} {p : Pos} {es : List Expr} {ms : M (List D)} (cx : CtxOk X E) (M : Mk X.K (He.ga X.K (Str.ofString c)) f) (F : FnOk X.prog X.w X.K X.mg X.base (L2.CX X.prog X.w) k f fd ps (spI X.K c bs m)) (hr : Room (k + 1) X.A) (hg : Gl X x) (hm : X.mg x = some (.ref (He.ga X.K (Str.ofString c)))) (hb : Binds X.K fd ps [])
    (ha : DAM X E G bs (a :: es) ms) (hdb : (x == ("__debug__" : Str)) = false := by decide) (he : starEach (a :: es) X.env = (false, eval a X.env) :: starEach es X.env := by rfl) (hpl : (backTo pos (starEach es X.env)).any (·.1) = false := by rfl) :
    DE X E G (.Call (.Name x p) (a :: es) [] pos) (ms >>= fun l => m l >>= fun l => .ok (.ins c l)) := by
  obtain ⟨t, pa, w⟩ := ha
  exact ⟨_, pe_make M F hr hg hm hb .nil cx.pass pa hdb he hpl, fun B σ F H Q s g q => w B σ F H _ s g (WpG.bind q fun l F1 H1 vs x1 r1 k1 => make_run x1.sFH r1 k1)⟩

/-! ### an __init__'s body -/
theorem GOk.cons {K : PySem.W.Frag} {B F H : Hp} {G : List Sl} {σ : St} {s : Sl} {o : Option V} (g : GOk K B G σ F H) (h : SlOk K B F H o s) (hd : ∀ (j : Nat) (t : Sl) (a : Addr), G[j]? = some t → t.owns = true → s.owns = true → o = some (.ref a) → σ[j]? ≠ some (some (.ref a))) : GOk K B (s :: G) (o :: σ) F H := by
  refine ⟨g.sB, congrArg Nat.succ g.len, fun i t ht => ?_, fun i j s1 s2 a h1 h2 o1 o2 e1 e2 => ?_⟩
  · cases i with
    | zero =>
      cases ht
      exact ⟨o, rfl, h⟩
    | succ i => exact g.ok i t ht
  · cases i with
    | zero =>
      cases h1
      cases j with
      | zero => rfl
      | succ j =>
        have e1 : o = some (.ref a) := by simpa using e1
        have h2' : G[j]? = some s2 := h2
        exact absurd e2 (hd j s2 a h2' o2 o1 e1)
    | succ i => cases j with
      | zero =>
        cases h2
        have e2 : o = some (.ref a) := by simpa using e2
        have h1' : G[i]? = some s1 := h1
        exact absurd e1 (hd i s1 a h1' o1 o2 e2)
      | succ j => exact congrArg Nat.succ (g.dis i j s1 s2 a h1 h2 o1 o2 e1 e2)
theorem GOk.monoH {K : PySem.W.Frag} {B F H H' : Hp} {G : List Sl} {σ : St} (g : GOk K B G σ F H) (h : Same H H') : GOk K B G σ F H' := by
  refine ⟨g.sB.trans h, g.len, fun i s hs => ?_, g.dis⟩
  obtain ⟨o, h1, h2⟩ := g.ok i s hs
  refine ⟨o, h1, ?_⟩
  cases s with
  | un => exact h2
  | any => trivial
  | val d => exact h2
  | bor d => exact h2
  | own l =>
    obtain ⟨a, xs, e, e2, r⟩ := h2
    exact ⟨a, xs, e, h _ _ e2, r⟩
  | ownd l =>
    obtain ⟨a, e, e2, r⟩ := h2
    obtain ⟨u, hu⟩ := e2.some
    refine ⟨a, e, ?_, r⟩
    rw [h _ _ hu, ← hu]
    exact e2
  | ownu l =>
    obtain ⟨a, e, e2, r⟩ := h2
    obtain ⟨u, hu⟩ := e2.some
    refine ⟨a, e, ?_, r⟩
    rw [h _ _ hu, ← hu]
    exact e2
  | obj a c l =>
    obtain ⟨dx, fs, e, e2, r⟩ := h2
    exact ⟨dx, fs, e, h _ _ e2, r⟩
/-- how an __init__'s body ends: self in slot 0 -/
def ocI (a : Addr) (c : String) (n : Nat) (l : List (String × D)) : Oc := .nx (.obj a c l :: List.replicate n .any)
theorem fn_init {P : Program} {w : World} {K : PySem.W.Frag} {mg : Str → Option Value} {base : Heap} {x qual : Str} {params : Arguments} {body : List Stmt} {scope : Scope} {dvs : List V} {kws : List (Str × V)} {f : Addr} {fd : FuncData}
    {N ps : List Str} {k : Nat} {c : String} {bs : List Bool} {m : List D → M (List (String × D))} (F : FunD K x qual params body scope dvs kws f fd) (S : FnScope N ps scope) (hbs : bs.length + 1 = ps.length) (hN : bs.length + 1 ≤ N.length)
    (hb : ∀ (cdv : Value) (A : Around) (outer : List Env) (s : Shared) (H : Hp) (E : XK), Room k (A.deeper (PyProof.Rows.envOfC qual scope s.heap.objs.size f cdv)) → ∀ (a : Addr) (ds : List D), ds.length = bs.length →
      DB (cxOf (L2.CX P w) P w K mg base N qual scope f cdv A outer s H E) E (.obj a c [] :: (argSl bs ds ++ List.replicate (N.length - (bs.length + 1)) .un)) body (m ds) (ocI a c (N.length - 1))) : FnOk P w K mg base (L2.CX P w) (k + 1) f fd ps (spI K c bs m) := by
  refine F.ok S (fun vs H Q E h => ?_) (fun cdv A outer s H vs Q E hr h => ?_)
  · obtain ⟨x, dx, vs', F, B, ds, rfl, _, _, _, _, _, r, _⟩ := h
    rw [List.length_cons, r.len.1, hbs]
  · obtain ⟨x, dx, vs', F, B, ds, rfl, rfl, hx, hdx, ne, sF, r, q⟩ := h
    obtain ⟨t, p, wt⟩ := hb cdv A outer s _ E hr x ds r.len.2
    have hx2 : (upd B dx (.own x)) x = none := by rw [upd_ne (Ne.symm ne)]; exact hx
    have sH : Same B (upd (upd B dx (.own x)) x (.ins (He.ga K (Str.ofString c)) dx [])) := (same_new hdx).trans (same_new hx2)
    have g0 : GOk K B (argSl bs ds ++ List.replicate (N.length - (bs.length + 1)) .un) (L2.start (N.tail) vs') F B := by
      have e : N.length - (bs.length + 1) = N.tail.length - bs.length := by rw [List.length_tail]; omega
      rw [e]
      exact gok_start r
    have x0 : Ext F B F (upd (upd B dx (.own x)) x (.ins (He.ga K (Str.ofString c)) dx [])) := ⟨Same.refl _, sH, sF.trans sH, fun _ _ _ => rfl⟩
    have g1 : GOk K B (.obj x c [] :: (argSl bs ds ++ List.replicate (N.length - (bs.length + 1)) .un)) (some (.ref x) :: L2.start (N.tail) vs') F (upd (upd B dx (.own x)) x (.ins (He.ga K (Str.ofString c)) dx [])) := by
      refine (g0.monoH sH).cons ⟨dx, [], rfl, upd_same, sF.free hx, hx, rfl, .nil⟩ fun j t a h1 h2 _ e1 e2 => ?_
      cases e1
      obtain ⟨u, hu⟩ := g0.owned h1 h2 e2
      rw [hx] at hu
      cases hu
    have es : L2.start N (.ref x :: vs') = some (.ref x) :: L2.start (N.tail) vs' := by
      unfold L2.start
      rw [List.length_cons, List.length_tail, List.map_cons]
      show _ :: (_ ++ _) = _ :: (_ ++ _)
      congr 3
      omega
    refine ⟨t, p, ?_⟩
    rw [es]
    refine wt F B _ F _ _ x0 g1 ?_
    cases em : m ds with
    | ok l =>
      rw [em] at q
      refine WpB.of_ok (fun σ' F' H' _ x' g' => ?_)
      obtain ⟨o, h1, dx', fs, rfl, h2, h3, h4, h5, h6⟩ := g'.ok 0 _ rfl
      exact q F' H' .non x' ⟨rfl, h3, dx', fs, h2, h5, h6⟩
    | error er =>
      rw [em] at q
      cases er with
      | stuck => exact q.elim
      | exc y => exact fun F' H' c d _ x' r' => q F' H' c d x' r'
end
end DL
set_option Elab.async false
set_option linter.all false
set_option maxRecDepth 100000
set_option maxHeartbeats 4000000
/-! DL9: enumerate over lists and tuples, from any start; isinstance; fields stored; methods; properties. -/
namespace DL
open PySem PySem.Spec L2

/-! ### enumerate -/
theorem meets_enum1 {v : Value} {o : Obj} {H : Heap → Prop} (B : Begins v o H) :
    Meets (Builtin.«enumerate.__new__» ⟨[.type "enumerate", v], []⟩) (fun _ R s => H s.heap ∧
      R (.ok (.ret (.ref (s.heap.push o).objs.size))) { s with heap := (s.heap.push o).push { cls := .type "enumerate", data := .fields #[.none, .bool false, .ref s.heap.objs.size, rawInt 0, .none, .none] } }) :=
  .of_wp fun prog w A R s h => by
    obtain ⟨hp, g, d, tk, os⟩ := s; obtain ⟨h1, h⟩ := h
    have hsub := sub_enumerate
    have q1 : ∀ {A' : Around} {E : Value → Shared → Prop} {Q : Value → Shared → Prop}, Q (.ref hp.objs.size) ⟨hp.push o, g, d, tk, os⟩ → wpAny (model prog w) A' (pyIter v) Q E ⟨hp, g, d, tk, os⟩ :=
      fun q => B.iter prog w _ _ ⟨hp, g, d, tk, os⟩ _ h1 q
    wp_walk using q1
    refine wpAny_stack_any fun st => wpAny_pure ?_
    split
    · rename_i c _ _ _ _ _
      cases (c == Value.type "enumerate")
      · wp_walk using q1
        exact ⟨_, rfl, h⟩
      · wp_walk using q1
        exact ⟨_, rfl, h⟩
    · wp_walk using q1
      exact ⟨_, rfl, h⟩
theorem enum1_begins {prog : Program} {w : World} {A : Around} {E : Value → Shared → Prop} {s : Shared} {v : Value} {o : Obj} {H : Heap → Prop} {Q : Value → Shared → Prop} (B : Begins v o H) (h1 : H s.heap)
    (h : ∀ h', IsEnum h' (s.heap.objs.size + 1) s.heap.objs.size 0 .none → h'.get? s.heap.objs.size = some o → h'.objs.size = s.heap.objs.size + 2 →
      (∀ b o, s.heap.get? b = some o → h'.get? b = some o) → Q (.ref (s.heap.objs.size + 1)) { s with heap := h' }) :
    wpAny (model prog w) A (call (.type "enumerate") [v]) Q E s := by
  refine callType_new PySem.F.called_enumerate (by decide) (PySem.F.typeCall_enumerate_1 _) (PySem.F.newCall_enumerate_1 _) (fun obj => PySem.F.args_object_init_2 obj _) PySem.F.entry_enumerate_new
    (meets_enum1 B) ⟨h1, ?_⟩
  have hz : (s.heap.push o).objs.size = s.heap.objs.size + 1 := Heap.size_push ..
  show _ ∧ _
  rw [hz]
  have he : IsEnum ((s.heap.push o).push { cls := .type "enumerate", data := .fields #[.none, .bool false, .ref s.heap.objs.size, rawInt 0, .none, .none] }) (s.heap.objs.size + 1) s.heap.objs.size 0 .none := by
    have := Heap.get?_push_size (s.heap.push o) (o := { cls := .type "enumerate", data := .fields #[.none, .bool false, .ref s.heap.objs.size, rawInt 0, .none, .none] }) rfl
    rw [hz] at this; exact this
  refine ⟨⟨_, he, rfl⟩, h _ he (Heap.get?_push_of_some _ (Heap.get?_push_size _ B.free)) (by rw [Heap.size_push, hz]) fun b o x => Heap.get?_push_of_some _ (Heap.get?_push_of_some _ x)⟩
/-- a list or a tuple -/
def Sq (K : PySem.W.Frag) (tp : Bool) (H : Hp) (a : Addr) (xs : List V) : Prop := match tp with
  | true => SqT K H a xs
  | false => SqL K H a xs
def IsSq (tp : Bool) (h : Heap) (a : Addr) (its : Array Value) : Prop := match tp with
  | true => h.IsTuple a its
  | false => h.IsList a its
def IsSqIter (tp : Bool) (h : Heap) (it a : Addr) (i : Nat) : Prop := match tp with
  | true => h.IsTupleIter it a i
  | false => h.IsListIter it a i
def iterObj (tp : Bool) (a : Addr) : Obj := match tp with
  | true => { cls := .type "tuple_iterator", data := .fields #[.ref a, .int 0 0] }
  | false => { cls := .type "list_iterator", data := .fields #[.ref a, .int 0 0] }
section
variable {K : PySem.W.Frag} {tp : Bool} {a e it : Addr}
theorem sq_get {X : Cx} {pins : List (Addr × Obj)} {σ : St} {H : Hp} {s : Shared} {xs : List V} (I : Inv X pins σ H s) (h : Sq X.K tp H a xs) : ∃ its : List Value, Vals xs its ∧ IsSq tp s.heap a its.toArray ∧ xs.length ≤ sizeLine := by
  cases tp with
  | true =>
    obtain ⟨its, r, p, z⟩ := I.tuple h
    exact ⟨its, r, p, z⟩
  | false =>
    obtain ⟨its, r, p, z⟩ := I.list h
    exact ⟨its, r, p.isList, z⟩
theorem sq_inj {X : Cx} {pins : List (Addr × Obj)} {σ : St} {H : Hp} {s : Shared} {xs ys : List V} (I : Inv X pins σ H s) (h : Sq X.K tp H a xs) (h' : Sq X.K tp H a ys) : xs = ys := by
  cases tp with
  | true => exact I.tuple_inj h h'
  | false => exact I.list_inj h h'
theorem sq_begins (tp : Bool) (a : Addr) (its : Array Value) : Begins (.ref a) (iterObj tp a) fun h => IsSq tp h a its := by
  cases tp with
  | true => exact begins_tuple a its
  | false => exact begins_list a its
theorem sq_iter0 {h : Heap} (e : h.get? it = some (iterObj tp a)) : IsSqIter tp h it a 0 := by
  cases tp with
  | true => exact ⟨_, e, rfl, rfl⟩
  | false => exact ⟨_, e, rfl, rfl⟩
theorem sq_obj {h : Heap} {i : Nat} (st : IsSqIter tp h it a i) : ∃ o, h.get? it = some o ∧ ∀ v, o.data ≠ .cell v := by
  cases tp with
  | true =>
    obtain ⟨o, e, c, d⟩ := st
    exact ⟨o, e, fun v z => by rw [d] at z; cases z⟩
  | false =>
    obtain ⟨o, e, c, d⟩ := st
    exact ⟨o, e, fun v z => by rw [d] at z; cases z⟩
theorem sq_at {h h' : Heap} {i : Nat} (st : IsSqIter tp h it a i) (k : ∀ o, h.get? it = some o → h'.get? it = some o) : IsSqIter tp h' it a i := by
  cases tp with
  | true => exact Heap.IsTupleIter.at st k
  | false => exact Heap.IsListIter.at st k
theorem sq_ne {h : Heap} {i : Nat} {its : Array Value} (st : IsSqIter tp h it a i) (p : IsSq tp h a its) : a ≠ it := fun z => by
  subst z
  cases tp with
  | true =>
    obtain ⟨o, e, c, d⟩ := st
    obtain ⟨o2, e2, c2, _⟩ := p
    rw [e] at e2
    cases e2
    rw [c] at c2
    exact absurd (Value.type.inj c2) (by decide)
  | false =>
    obtain ⟨o, e, c, d⟩ := st
    obtain ⟨o2, e2, c2, _⟩ := p
    rw [e] at e2
    cases e2
    rw [c] at c2
    exact absurd (Value.type.inj c2) (by decide)
theorem sq_draws {prog : Program} {w : World} {A : Around} (hh : A.handled = none) (tp : Bool) (it l : Addr) (hne : l ≠ it) (items : Array Value) : Draws prog w A it [it, l] items.size (fun i v => items[i]? = some v) (fun i h => IsSqIter tp h it l i ∧ IsSq tp h l items) := by
  cases tp with
  | true => exact Draws.tuple hh it l hne items
  | false => exact Draws.list hh it l hne items
theorem sq_notEnum {h : Heap} {its : Array Value} {it : Addr} {c : Int} {old : Value} (p : IsSq tp h a its) (he : IsEnum h e it c old) : e ≠ a := fun z => by
  subst z
  cases tp with
  | true =>
    obtain ⟨o2, e2, c2, _⟩ := p
    rw [he] at e2
    cases e2
    exact absurd (Value.type.inj c2) (by decide)
  | false =>
    obtain ⟨o2, e2, c2, _⟩ := p
    rw [he] at e2
    cases e2
    exact absurd (Value.type.inj c2) (by decide)
end
/-- each item with its number from k on, in a new pair -/
def Iek (K : PySem.W.Frag) (tp : Bool) (a : Addr) (k : Int) : It :=
  ⟨fun i H => ∃ (xs : List V) (x : V), Sq K tp H a xs ∧ xs[i]? = some x, fun i H v H' => ∃ T x, v = .ref T ∧ H T = none ∧ H' = upd H T (.tup [.int (k + (i : Nat)), x]) ∧ ∀ xs, Sq K tp H a xs → xs[i]? = some x, fun i H => ∃ xs : List V, Sq K tp H a xs ∧ xs.length = i⟩
theorem turn_ek {P : Program} {w : World} {K : PySem.W.Frag} {elts : List Expr} {kk : Nat} {tpos : Pos} (tp : Bool) (k : Int) (a e it : Addr) :
    Turn P w K (.Tuple elts kk tpos) (Iek K tp a k) [e, it] e (fun i h => (∃ old, IsEnum h e it (k + (i : Nat)) old) ∧ IsSqIter tp h it a i ∧ e ≠ it) where
  mem := by simp
  obj := fun i h st b hb => by
    obtain ⟨⟨old, he⟩, hi, _⟩ := st
    have e' : b = e ∨ b = it := by simpa using hb
    rcases e' with z | z
    · rw [z]; exact ⟨_, he, fun v q => nomatch q⟩
    · rw [z]; exact sq_obj hi
  keep := fun i h h' st k => let ⟨⟨old, he⟩, hi, hne⟩ := st; ⟨⟨old, k e (by simp) _ he⟩, sq_at hi fun o q => k it (by simp) o q, hne⟩
  item := by
    intro X hP hw hK hc i pins s σ H E I hf st hg
    subst hP hw hK
    obtain ⟨⟨old, he⟩, hit, hne⟩ := st
    obtain ⟨xs, x, hq, hx⟩ := hg
    obtain ⟨its, rv, p, hz⟩ := sq_get I hq
    obtain ⟨u, hu, ru⟩ := rv.get hx
    have hel : e < s.heap.objs.size := Heap.lt_size he
    have hil : it < s.heap.objs.size := by obtain ⟨_, q, _⟩ := sq_obj hit; exact Heap.lt_size q
    have hin : X.A.in1.handled = none := I.ok.hd hc
    have hia : i < its.toArray.size := by
      have := (List.getElem?_eq_some_iff.mp hu).1
      simpa using this
    have hea : e ≠ a := sq_notEnum p he
    refine wpAny_pyNext_enum_itemC (sq_draws hin tp it a (sq_ne hit p) its.toArray) he ⟨hit, p⟩ hia hne (by simp [hne, hea]) fun y h' tk hy ho hst' hT hsz hk => ?_
    have eyu : y = u := by
      have hy : its.toArray[i]? = some y := hy
      have hu' : its.toArray[i]? = some u := by simpa using hu
      exact Option.some.inj (hy.symm.trans hu')
    subst eyu
    refine ⟨_, rfl, wpAny_letOwnedTupleGo_enum (s := { s with heap := h', toks := tk + 1 }) ho fun h'' he' sb => ?_⟩
    have hT2 : h''.get? s.heap.objs.size = some { cls := .type "tuple", data := .seq #[.int (k + (i : Nat)) tk, y] } := (sb.2 _ (Nat.ne_of_gt hel)).trans hT
    have new : ObjOk X.prog X.w (upd H s.heap.objs.size (.tup [.int (k + (i : Nat)), x])) h'' s.heap.objs.size (.tup [.int (k + (i : Nat)), x]) :=
      ⟨by show 2 ≤ sizeLine; decide, [.int (k + (i : Nat)) tk, y], .cons ⟨_, rfl⟩ (.cons ru .nil), ⟨_, hT2, rfl, _, rfl⟩⟩
    have I1 : Inv X pins σ (upd H s.heap.objs.size (.tup [.int (k + (i : Nat)), x])) { s with heap := h'', toks := tk + 1 } :=
      I.turnedNew (ch := [e, it]) (fun b ob hb q => (sb.2 b (fun z => hb (by simp [z]))).trans (hk b ob (fun z => hb (by simp [z])) (fun z => hb (by simp [z])) q)) hf (Nat.le_refl _) new
    refine ⟨.ref s.heap.objs.size, _, I1, rfl, ⟨_, x, rfl, I.hok.fresh (Nat.le_refl _), rfl, fun ys hy => by rw [sq_inj I hy hq]; exact hx⟩, ⟨⟨y, ?_⟩, sq_at hst'.1 fun o q => (sb.2 it (Ne.symm hne)).trans q, hne⟩, fun b hb => ?_⟩
    · have e1 : k + ((i + 1 : Nat) : Int) = k + (i : Nat) + 1 := by omega
      rw [e1]; exact he'
    · have hb' : b < s.heap.objs.size := by
        have e' : b = e ∨ b = it := by simpa using hb
        rcases e' with z | z
        · rw [z]; exact hel
        · rw [z]; exact hil
      rw [upd_ne (Nat.ne_of_lt hb')]
      exact (hf b hb).1
  done := by
    intro X hP hw hK hc i pins s σ H E I hf st hg
    subst hP hw hK
    obtain ⟨⟨old, he⟩, hit, hne⟩ := st
    obtain ⟨xs, hq, hx⟩ := hg
    obtain ⟨its, rv, p, hz⟩ := sq_get I hq
    obtain ⟨f0, f1, f2, f3, f4, f5⟩ := hf it (by simp)
    have hl := rv.length
    have hin : X.A.in1.handled = none := I.ok.hd hc
    have D := sq_draws (prog := X.prog) (w := X.w) hin tp it a (sq_ne hit p) its.toArray
    have ei : i = its.toArray.size := by simp; omega
    exact wpAny_pyNext_enum_endD D he (by rw [← ei]; exact ⟨hit, p⟩) fun h' eb => ⟨rfl, I.turned (t' := s.toks) (fun b o hb q => eb b o hb q) f0 f1 f3 f4 f5⟩
  self := fun A i s Q E st h => let ⟨⟨_, he⟩, _⟩ := st; wpAny_pyIter_enum he h
def iEk (K : PySem.W.Frag) (ta : TA) : TI := fun σ H R => ta σ H fun vs H1 => ∃ a xs tp, vs = [.ref a] ∧ Sq K tp H1 a xs ∧ R (Iek K tp a 0) H1
theorem boot_enum : bootBuiltins ("enumerate" : Str) = some (.type "enumerate") := by decide +kernel
theorem enum_fin {X : Cx} {pins : List (Addr × Obj)} {σ : St} {s1 : Shared} {H1 : Hp} {R : It → Hp → Prop} {tp : Bool} {a : Addr} {k : Int} {h' : Heap} {E : Value → Shared → Prop} {elts : List Expr} {kk : Nat} {tpos : Pos} (I1 : Inv X pins σ H1 s1) (he : IsEnum h' (s1.heap.objs.size + 1) s1.heap.objs.size k .none)
    (hit : h'.get? s1.heap.objs.size = some (iterObj tp a)) (hk : ∀ b o, s1.heap.get? b = some o → h'.get? b = some o) (q : R (Iek X.K tp a k) H1) : wpAny (model X.prog X.w) X.A (pyIter (.ref (s1.heap.objs.size + 1))) (PIE X pins σ (.Tuple elts kk tpos) R) E { s1 with heap := h' } := by
  refine wpAny_pyIter_enum he ?_
  have I2 : Inv X pins σ H1 { s1 with heap := h' } := I1.kept (t' := s1.toks) hk
  refine ⟨s1.heap.objs.size + 1, [s1.heap.objs.size + 1, s1.heap.objs.size], _, _, H1, rfl, I2, turn_ek tp k a (s1.heap.objs.size + 1) s1.heap.objs.size, ⟨⟨.none, ?_⟩, sq_iter0 hit, Nat.succ_ne_self _⟩, fun b hb => ?_, q⟩
  · have e1 : k + ((0 : Nat) : Int) = k := by omega
    rw [e1]
    exact he
  · have e' : b = s1.heap.objs.size + 1 ∨ b = s1.heap.objs.size := by simpa using hb
    have hle : s1.heap.objs.size ≤ b := by
      rcases e' with z | z
      · rw [z]; exact Nat.le_add_right _ _
      · rw [z]; exact Nat.le_refl _
    exact I1.fpOk hle (I1.hok.fresh hle)
theorem pi_ek {X : Cx} {e : Expr} {ta : TA} {p pos tpos : Pos} {elts : List Expr} {kk : Nat} (hg : Gl X "enumerate") (hm : X.mg "enumerate" = none) (ha : PA X [e] ta) (hs : starEach [e] X.env = [(false, eval e X.env)] := by rfl) :
    PI X (.Tuple elts kk tpos) (.Call (.Name "enumerate" p) [e] [] pos) (iEk X.K ta) := by
  refine ⟨fun pins s σ H R I h => ?_⟩
  refine PyProof.Rows.Call_ (ld_blt I hg hm boot_enum (PyProof.Rows.callWith_type1 (thn (ha.run pos pins s σ H _ I h) fun us s1 ⟨vs, H1, I1, r1, q1⟩ => ?_) hs rfl))
  obtain ⟨a, xs, tp, ex, hq, q⟩ := q1
  subst ex
  cases r1 with
  | cons r rr =>
    cases rr
    cases r
    obtain ⟨its, rv, p', hz⟩ := sq_get I1 hq
    exact enum1_begins (sq_begins tp a its.toArray) p' fun h' he hit hsz hk => enum_fin I1 he hit hk q
def iEk2 (K : PySem.W.Frag) (ta : TA) : TI := fun σ H R => ta σ H fun vs H1 => ∃ a xs tp k, vs = [.ref a, .int k] ∧ (-(2 ^ 63) ≤ k ∧ k < 2 ^ 63) ∧ Sq K tp H1 a xs ∧ R (Iek K tp a k) H1
theorem pi_ek2 {X : Cx} {e e2 : Expr} {ta : TA} {p pos tpos : Pos} {elts : List Expr} {kk : Nat} (hg : Gl X "enumerate") (hm : X.mg "enumerate" = none) (ha : PA X [e, e2] ta) (hs : starEach [e, e2] X.env = (false, eval e X.env) :: starEach [e2] X.env := by rfl) (hpl : (backTo pos (starEach [e2] X.env)).any (·.1) = false := by rfl) :
    PI X (.Tuple elts kk tpos) (.Call (.Name "enumerate" p) [e, e2] [] pos) (iEk2 X.K ta) := by
  refine ⟨fun pins s σ H R I h => ?_⟩
  refine PyProof.Rows.Call_ (ld_blt I hg hm boot_enum (PyProof.Rows.callWith_type1 (thn (ha.run pos pins s σ H _ I h) fun us s1 ⟨vs, H1, I1, r1, q1⟩ => ?_) hs hpl))
  obtain ⟨a, xs, tp, k, ex, hk2, hq, q⟩ := q1
  subst ex
  cases r1 with
  | cons r rr =>
    cases rr with
    | cons r2 rr2 =>
      cases rr2
      cases r
      obtain ⟨t, rfl⟩ := r2
      obtain ⟨its, rv, p', hz⟩ := sq_get I1 hq
      exact enum_begins (sq_begins tp a its.toArray) p' hk2.1 hk2.2 fun h' he hit hsz hk => enum_fin I1 he hit hk q
/-- the numbered items -/
def enumL (k : Int) : List D → List D
  | [] => []
  | d :: ds => .tup [.int k, d] :: enumL (k + 1) ds
theorem enumL_len : ∀ (k : Int) (l : List D), (enumL k l).length = l.length
  | _, [] => rfl
  | k, _ :: l => congrArg Nat.succ (enumL_len (k + 1) l)
theorem enumL_get : ∀ (k : Int) (l : List D) (i : Nat), (enumL k l)[i]? = (l[i]?).map fun d => .tup [.int (k + (i : Nat)), d]
  | _, [], i => by simp [enumL]
  | k, d :: l, 0 => by simp [enumL]
  | k, d :: l, i + 1 => by
    simp only [enumL, List.getElem?_cons_succ]
    rw [enumL_get (k + 1) l i]
    have e : k + 1 + (i : Nat) = k + ((i + 1 : Nat) : Int) := by omega
    rw [e]
theorem yld_ek {K : PySem.W.Frag} {a : Addr} {tp : Bool} {k : Int} {xs : List V} {ds : List D} {F0 : Hp} {P : Hp → Hp → Prop} (r : RpL K F0 xs ds) (h : ∀ F H, P F H → Same F H → Same F0 F ∧ Sq K tp H a xs) : Yld K (Iek K tp a k) P (enumL k ds) := fun F H p s => by
  obtain ⟨h1, h2⟩ := h F H p s
  refine ⟨fun i d hd => ?_, ?_⟩
  · rw [enumL_get] at hd
    cases e : ds[i]? with
    | none => rw [e] at hd; cases hd
    | some d0 =>
      rw [e] at hd
      cases hd
      obtain ⟨x, hx, rx⟩ := r.get e
      refine ⟨⟨xs, x, h2, hx⟩, fun y H' hy => ?_⟩
      obtain ⟨T, z, rfl, nT, rfl, hz⟩ := hy
      have ez : x = z := Option.some.inj (hx.symm.trans (hz xs h2))
      subst ez
      have xx := Ext.new (o := .tup [.int (k + (i : Nat)), x]) s nT
      exact ⟨_, xx, .tup (SqT.of upd_same) (.cons (.int _) (.one ((rx.mono h1).mono xx.sF)))⟩
  · exact ⟨xs, h2, by rw [enumL_len]; exact r.length⟩
section
variable {X : Cx} {E : XK} {G : List Sl} {a b c e : Expr} {ma mb mc : M D} {ta tb : M Bool} {pos : Pos} {F H : Hp}
def D.enum1 : List D → M (List D)
  | [.lst l] => .ok (enumL 0 l)
  | [.tup l] => .ok (enumL 0 l)
  | _ => stuck
def D.enum2 : List D → M (List D)
  | [.lst l, .int k] => do need (decide (-(2 ^ 63) ≤ k ∧ k < 2 ^ 63)); .ok (enumL k l)
  | [.tup l, .int k] => do need (decide (-(2 ^ 63) ≤ k ∧ k < 2 ^ 63)); .ok (enumL k l)
  | _ => stuck
theorem di_enum1 {p tpos : Pos} {elts : List Expr} {kk : Nat} {ms : M (List D)} (hg : Gl X "enumerate") (hm : X.mg "enumerate" = none) (ha : DA X E G [a] ms) (hs : starEach [a] X.env = [(false, eval a X.env)] := by rfl) : DI X E G (.Tuple elts kk tpos) (.Call (.Name "enumerate" p) [a] [] pos) (ms >>= fun l => D.enum1 l) := by
  obtain ⟨t, pp, w⟩ := ha
  refine ⟨_, pi_ek hg hm pp hs, fun B σ F H R s g q => w B σ F H _ s g (WpG.bind q fun l F1 H1 vs x1 r1 k1 => ?_)⟩
  cases r1 with
  | nil => exact k1.elim
  | @cons v vs d ds r1 r2 => cases r2 with
    | cons _ _ => cases d <;> exact k1.elim
    | nil => cases d with
      | lst l => cases r1 with
        | lst h r => exact ⟨_, _, false, rfl, SqL.of (x1.sFH _ _ h), k1 F1 H1 _ (Ext.refl x1.sFH) (yld_ek (tp := false) r fun F2 H2 p s2 => ⟨p, SqL.of (s2 _ _ (p _ _ h))⟩)⟩
      | tup l => cases r1 with
        | tup h r => exact ⟨_, _, true, rfl, Same.seqT x1.sFH h, k1 F1 H1 _ (Ext.refl x1.sFH) (yld_ek (tp := true) r fun F2 H2 p s2 => ⟨p, Same.seqT s2 (Same.seqT p h)⟩)⟩
      | _ => exact k1.elim
theorem dir_enum1 {p tpos : Pos} {elts : List Expr} {kk : Nat} {ms : M (List D)} (hg : Gl X "enumerate") (hm : X.mg "enumerate" = none) (ha : DRA X E G [a] ms) (hs : starEach [a] X.env = [(false, eval a X.env)] := by rfl) : DIR X E G (.Tuple elts kk tpos) (.Call (.Name "enumerate" p) [a] [] pos) (ms >>= fun l => D.enum1 l) := by
  obtain ⟨t, pp, w⟩ := ha
  refine ⟨_, pi_ek hg hm pp hs, fun B σ F H R s g q => w B σ F H _ s g (WpG.bind q fun l F1 H1 vs x1 r1 k1 => ?_)⟩
  cases r1 with
  | nil => exact k1.elim
  | @cons v vs d ds r1 r2 => cases r2 with
    | cons _ _ => cases d <;> exact k1.elim
    | nil => cases d with
      | lst l =>
        obtain ⟨a, xs, rfl, h, r⟩ := r1.lst x1.sFH
        exact ⟨_, _, false, rfl, SqL.of h, k1 F1 H1 _ (Ext.refl x1.sFH) (yld_ek (tp := false) r fun F2 H2 p s2 => ⟨p.sF, SqL.of (p.sH _ _ h)⟩)⟩
      | tup l =>
        obtain ⟨a, xs, rfl, h, r⟩ := r1.tup x1.sFH
        exact ⟨_, _, true, rfl, h, k1 F1 H1 _ (Ext.refl x1.sFH) (yld_ek (tp := true) r fun F2 H2 p s2 => ⟨p.sF, Same.seqT p.sH h⟩)⟩
      | _ => exact k1.elim
theorem di_enum2 {p tpos : Pos} {elts : List Expr} {kk : Nat} {ms : M (List D)} (hg : Gl X "enumerate") (hm : X.mg "enumerate" = none) (ha : DA X E G [a, b] ms) (hs : starEach [a, b] X.env = (false, eval a X.env) :: starEach [b] X.env := by rfl) (hpl : (backTo pos (starEach [b] X.env)).any (·.1) = false := by rfl) : DI X E G (.Tuple elts kk tpos) (.Call (.Name "enumerate" p) [a, b] [] pos) (ms >>= fun l => D.enum2 l) := by
  obtain ⟨t, pp, w⟩ := ha
  refine ⟨_, pi_ek2 hg hm pp hs hpl, fun B σ F H R s g q => w B σ F H _ s g (WpG.bind q fun l F1 H1 vs x1 r1 k1 => ?_)⟩
  cases r1 with
  | nil => exact k1.elim
  | @cons v vs d ds r1 r2 => cases r2 with
    | nil => cases d <;> exact k1.elim
    | @cons v2 vs2 d2 ds2 r2 r3 => cases r3 with
      | cons _ _ => cases d <;> cases d2 <;> exact k1.elim
      | nil => cases d2 with
        | int k => cases d with
          | lst l => cases r1 with
            | lst h r =>
              have k1 : WpG X.K E _ (need (decide (-(2 ^ 63) ≤ k ∧ k < 2 ^ 63)) >>= fun _ => .ok (enumL k l)) F1 H1 R := k1
              obtain ⟨c, k1⟩ := WpG.need k1
              have c := of_decide_eq_true c
              cases r2
              exact ⟨_, _, false, k, rfl, c, SqL.of (x1.sFH _ _ h), k1 F1 H1 _ (Ext.refl x1.sFH) (yld_ek (tp := false) r fun F2 H2 p s2 => ⟨p, SqL.of (s2 _ _ (p _ _ h))⟩)⟩
          | tup l => cases r1 with
            | tup h r =>
              have k1 : WpG X.K E _ (need (decide (-(2 ^ 63) ≤ k ∧ k < 2 ^ 63)) >>= fun _ => .ok (enumL k l)) F1 H1 R := k1
              obtain ⟨c, k1⟩ := WpG.need k1
              have c := of_decide_eq_true c
              cases r2
              exact ⟨_, _, true, k, rfl, c, Same.seqT x1.sFH h, k1 F1 H1 _ (Ext.refl x1.sFH) (yld_ek (tp := true) r fun F2 H2 p s2 => ⟨p, Same.seqT s2 (Same.seqT p h)⟩)⟩
          | _ => exact k1.elim
        | _ => cases d <;> exact k1.elim
end
end DL
set_option Elab.async false
set_option linter.all false
set_option maxRecDepth 100000
set_option maxHeartbeats 4000000
/-! DL10: isinstance, fields stored, methods, properties, short forms for comprehensions and loops. -/
namespace DL
open PySem PySem.Spec L2
section
variable {X : Cx} {E : XK} {G : List Sl} {a b c e : Expr} {ma mb mc : M D} {ta tb : M Bool} {pos : Pos} {F H : Hp} {st : Stmt} {rest body : List Stmt}

/-! ### isinstance -/
def D.tyName : D → Option String
  | .non => some "NoneType"
  | .bl _ => some "bool"
  | .int _ => some "int"
  | .str _ => some "str"
  | .lst _ => some "list"
  | .tup _ => some "tuple"
  | .dct _ => some "dict"
  | _ => none
def D.isB (T : String) (d : D) : M D := match d.tyName with
  | some t => (match kitB t T with | some r => .ok (.bl r) | none => stuck)
  | none => stuck
theorem tyName_ok {v : V} {d : D} {t : String} (s : Same F H) (r : RpT X.K F H v d) (h : d.tyName = some t) : TyX X.K H v (.type t) := by
  cases d with
  | non => cases h; rw [r.non]; exact .base .non
  | bl b => cases h; rw [r.bl]; exact .base (.bl b)
  | int i => cases h; rw [r.int]; exact .base (.int i)
  | str y => cases h; rw [r.str.1]; exact .base (.str y)
  | lst l =>
    cases h
    obtain ⟨p, xs, rfl, e, _⟩ := r.lst s
    exact .base (.lst e)
  | tup l =>
    cases h
    obtain ⟨p, xs, rfl, e, _⟩ := r.tup s
    rcases e with (e | ⟨o, e⟩) | ⟨o, its, n, e1, e2, _⟩
    · exact .base (.tup e)
    · exact .fTuple e
    · exact .kTuple e1 e2
  | dct l =>
    cases h
    obtain ⟨p, rfl, kvs, e, _⟩ := r.dct s
    exact .base (.dK e)
  | _ => cases h
theorem de_isB {T : String} {xT : Str} {p p2 : Pos} (hg : Gl X "isinstance") (hm : X.mg "isinstance" = none) (hv : bootBuiltins ("isinstance" : Str) = some (.builtin "isinstance")) (hT : PE X (.Name xT p2) (tC (.ty T))) (ha : DR X E G a ma)
    (he : starEach [a, .Name xT p2] X.env = (false, eval a X.env) :: starEach [.Name xT p2] X.env := by rfl) (he2 : starEach [.Name xT p2] X.env = (false, eval (.Name xT p2) X.env) :: starEach [] X.env := by rfl) (hpl : (backTo pos (starEach [.Name xT p2] X.env)).any (·.1) = false := by rfl) :
    DE X E G (.Call (.Name "isinstance" p) [a, .Name xT p2] [] pos) (ma >>= fun x => D.isB T x) := by
  obtain ⟨t, pa, w⟩ := ha
  refine ⟨_, pe_callB call_isi hg hm hv (pa_cons pa (pa_cons hT pa_nil he2) he) (by decide) (by decide) he hpl, fun B σ F H Q s g q => w B σ F H _ s g (WpG.bind q fun x F1 H1 v x1 r1 k1 => ?_)⟩
  have k1 : WpG X.K E (rE X.K) (match x.tyName with
    | some t => (match kitB t T with | some r => .ok (.bl r) | none => stuck)
    | none => stuck) F1 H1 Q := k1
  cases e1 : x.tyName with
  | none => rw [e1] at k1; exact k1.elim
  | some t =>
    rw [e1] at k1
    have k1 : WpG X.K E (rE X.K) (match kitB t T with | some r => .ok (.bl r) | none => stuck) F1 H1 Q := k1
    cases e2 : kitB t T with
    | none => rw [e2] at k1; exact k1.elim
    | some r =>
      rw [e2] at k1
      exact ⟨v, .ty T, .type t, .type T, r, rfl, .ty T, tyName_ok x1.sFH r1 e1, kit_ty e2, k1 F1 H1 _ (Ext.refl x1.sFH) (.bl r)⟩
def D.isC (c : String) : D → M D
  | .ins c' _ => do need (decide (c' = c)); .ok (.bl true)
  | _ => stuck
theorem de_isC {c : String} {xT : Str} {p p2 : Pos} (hg : Gl X "isinstance") (hm : X.mg "isinstance" = none) (hv : bootBuiltins ("isinstance" : Str) = some (.builtin "isinstance")) (hC : C8.InsC X.K (He.ga X.K (Str.ofString c))) (hT : PE X (.Name xT p2) (tC (.ref (He.ga X.K (Str.ofString c))))) (ha : DR X E G a ma)
    (he : starEach [a, .Name xT p2] X.env = (false, eval a X.env) :: starEach [.Name xT p2] X.env := by rfl) (he2 : starEach [.Name xT p2] X.env = (false, eval (.Name xT p2) X.env) :: starEach [] X.env := by rfl) (hpl : (backTo pos (starEach [.Name xT p2] X.env)).any (·.1) = false := by rfl) :
    DE X E G (.Call (.Name "isinstance" p) [a, .Name xT p2] [] pos) (ma >>= fun x => D.isC c x) := by
  obtain ⟨t, pa, w⟩ := ha
  refine ⟨_, pe_callB (C8.call_isC hC) hg hm hv (pa_cons pa (pa_cons hT pa_nil he2) he) (by decide) (by decide) he hpl, fun B σ F H Q s g q => w B σ F H _ s g (WpG.bind q fun x F1 H1 v x1 r1 k1 => ?_)⟩
  cases x with
  | ins c' l =>
    have k1 : WpG X.K E (rE X.K) (need (decide (c' = c)) >>= fun _ => .ok (.bl true)) F1 H1 Q := k1
    obtain ⟨h, k2⟩ := WpG.need k1
    clear k1
    have h := of_decide_eq_true h
    subst h
    obtain ⟨p, dx, fs, rfl, e1, _⟩ := r1.ins x1.sFH
    exact ⟨p, dx, fs, rfl, e1, k2 F1 H1 _ (Ext.refl x1.sFH) (.bl true)⟩
  | _ => exact k1.elim

/-! ### an owned object written, of any kind -/
theorem GOk.writeS {K : PySem.W.Frag} {B F H : Hp} {σ : St} {i : Nat} {a : Addr} {s s' : Sl} {o : HO} (g : GOk K B G σ F H) (h : G[i]? = some s) (hs : s.owns = true) (e : σ[i]? = some (some (.ref a))) (fa : F a = none) (ba : B a = none) (new : SlOk K B F (upd H a o) (some (.ref a)) s') :
    GOk K B (G.set i s') σ F (upd H a o) where
  sB := fun c u hc => by
    rw [upd_ne (ne_of_none hc ba)]
    exact g.sB c u hc
  len := by rw [List.length_set]; exact g.len
  ok := fun j t hj => by
    by_cases ej : i = j
    · subst ej
      have hi := (List.getElem?_eq_some_iff.mp h).1
      rw [List.getElem?_set_self hi] at hj
      cases hj
      exact ⟨_, e, new⟩
    · rw [List.getElem?_set_ne ej] at hj
      obtain ⟨v, k1, k2⟩ := g.ok j t hj
      refine ⟨v, k1, ?_⟩
      cases t with
      | un => exact k2
      | any => trivial
      | val d => exact k2
      | bor d => exact k2
      | own m =>
        obtain ⟨b, ys, rfl, q⟩ := k2
        have nb : b ≠ a := fun z => by
          subst z
          exact ej (g.dis i j _ _ b h hj hs rfl e k1)
        exact ⟨b, ys, rfl, by rw [upd_ne nb]; exact q.1, q.2⟩
      | ownd m =>
        obtain ⟨b, rfl, q⟩ := k2
        have nb : b ≠ a := fun z => by
          subst z
          exact ej (g.dis i j _ _ b h hj hs rfl e k1)
        exact ⟨b, rfl, by rw [upd_ne nb]; exact q.1, q.2⟩
      | ownu m =>
        obtain ⟨b, rfl, q⟩ := k2
        have nb : b ≠ a := fun z => by
          subst z
          exact ej (g.dis i j _ _ b h hj hs rfl e k1)
        exact ⟨b, rfl, by rw [upd_ne nb]; exact q.1, q.2⟩
      | obj b c m =>
        obtain ⟨dx, fs, rfl, q⟩ := k2
        have nb : b ≠ a := fun z => by
          subst z
          exact ej (g.dis i j _ _ b h hj hs rfl e k1)
        exact ⟨dx, fs, rfl, by rw [upd_ne nb]; exact q.1, q.2⟩
  dis := fun j k t u b h1 h2 o1 o2 e1 e2 => by
    have own_at : ∀ (j : Nat) (t : Sl), (G.set i s')[j]? = some t → t.owns = true → ∃ t', G[j]? = some t' ∧ t'.owns = true := fun j t hj o => by
      by_cases ej : i = j
      · subst ej
        exact ⟨_, h, hs⟩
      · rw [List.getElem?_set_ne ej] at hj
        exact ⟨t, hj, o⟩
    obtain ⟨s1, q1, p1⟩ := own_at j t h1 o1
    obtain ⟨s2, q2, p2⟩ := own_at k u h2 o2
    exact g.dis j k s1 s2 b q1 q2 p1 p2 e1 e2
/-! ### self.f = e, in an __init__ -/
def putD (f : String) (d : D) : List (String × D) → List (String × D)
  | [] => [(f, d)]
  | (g, x) :: r => if g = f then (g, d) :: r else (g, x) :: putD f d r
theorem putF_rp {K : PySem.W.Frag} {f : String} {v : V} {d : D} (r : Rp K F v d) : ∀ {fs : List (Str × V)} {l : List (String × D)}, fs.map (·.1) = l.map (fun q => Str.ofString q.1) → RpL K F (fs.map (·.2)) (l.map (·.2)) →
    (putF (Str.ofString f) v fs).map (·.1) = (putD f d l).map (fun q => Str.ofString q.1) ∧ RpL K F ((putF (Str.ofString f) v fs).map (·.2)) ((putD f d l).map (·.2))
  | [], [], _, _ => ⟨rfl, .one r⟩
  | [], _ :: _, h, _ => by simp at h
  | _ :: _, [], h, _ => by simp at h
  | (g, x) :: fs, (g2, y) :: l, h, q => by
    have h1 : g = Str.ofString g2 ∧ fs.map (·.1) = l.map (fun q => Str.ofString q.1) := by simpa using h
    obtain ⟨rfl, h2⟩ := h1
    have q' : RpL K F (x :: fs.map (·.2)) (y :: l.map (·.2)) := q
    cases q' with
    | cons q1 q2 =>
      by_cases e : g2 = f
      · subst e
        have e1 : putF (Str.ofString g2) v ((Str.ofString g2, x) :: fs) = (Str.ofString g2, v) :: fs := if_pos rfl
        have e2 : putD g2 d ((g2, y) :: l) = (g2, d) :: l := if_pos rfl
        rw [e1, e2]
        exact ⟨by simp [h2], .cons r q2⟩
      · have e1 : putF (Str.ofString f) v ((Str.ofString g2, x) :: fs) = (Str.ofString g2, x) :: putF (Str.ofString f) v fs := if_neg fun z => e (ofString_inj z)
        have e2 : putD f d ((g2, y) :: l) = (g2, y) :: putD f d l := if_neg e
        rw [e1, e2]
        obtain ⟨i1, i2⟩ := putF_rp r h2 q2
        exact ⟨by simp [i1], .cons q1 i2⟩
def Sl.put (s : Sl) (f : String) (d : D) : M Sl := match s with
  | .obj a c l => need (decide (l.length < 1000)) >>= fun _ => .ok (.obj a c (putD f d l))
  | _ => stuck
theorem ds_field {x : Str} {i : Nat} {a0 : Addr} {c f : String} {l : List (String × D)} {p1 p2 : Pos} {m : M D} (hs : G[i]? = some (.obj a0 c l)) (pv : PE X (.Name x p1) (tVar i)) (hc : Cls X.K (He.ga X.K (Str.ofString c)) ∧ NoAttr X.K (He.ga X.K (Str.ofString c)) (Str.ofString f)) (h : DE X E G e m)
    (hsw : swapsWith e (some (.Attribute (.Name x p1) (Str.ofString f) p2)) pos.line X.env = pure false) : DS X E G (.Assign [.Attribute (.Name x p1) (Str.ofString f) p2] e pos) (m >>= fun d => (Sl.obj a0 c l).put f d) (fun s' => .nx (G.set i s')) := by
  obtain ⟨t, pe, w⟩ := h
  refine ⟨_, ps_fld pv pe hsw, fun B0 B σ F H D x0 g q => w B σ F H _ x0.sFH g (WpB.expr (H := H) x0 q fun d F' H' v x x' r qd => ?_)⟩
  obtain ⟨o, h1, dx, fs, rfl, h2, h3, h4, h5, h6⟩ := (g.ext x).ok i _ hs
  have qd : WpB X.K E B0 B (fun s' => .nx (G.set i s')) (need (decide (l.length < 1000)) >>= fun _ => .ok (.obj a0 c (putD f d l))) F' D := qd
  cases hd : decide (l.length < 1000) with
  | false =>
    exfalso
    rw [hd] at qd
    exact qd
  | true =>
    rw [hd] at qd
    have hl := of_decide_eq_true hd
    have ef : fs.length = l.length := by
      have := congrArg List.length h5
      simpa using this
    refine ⟨_, h1, a0, _, dx, fs, rfl, h2, hc.1, hc.2, by rw [ef]; exact hl, ?_⟩
    have qd : WpB X.K E B0 B (fun s' => .nx (G.set i s')) (.ok (.obj a0 c (putD f d l))) F' D := qd
    obtain ⟨r1, r2⟩ := putF_rp (f := f) r h5 h6
    exact qd.ok σ F' _ (Same.refl _) (x'.write h3 h4) ((g.ext x).writeS hs rfl h1 h3 h4 ⟨dx, _, rfl, upd_same, h3, h4, r1, r2⟩)

/-! ### methods -/
theorem need_ok {α β : Type} {b : Bool} {x : α} {k : α → M β} : ((need b >>= fun _ => (.ok x : M α)) >>= k) = (need b >>= fun _ => k x) := by cases b <;> rfl
def D.recv (c m : String) : D → M D
  | .ins c' l => do need (decide (c' = c) && (l.lookup m).isNone); .ok (.ins c' l)
  | _ => stuck
theorem de_meth {k : Nat} {f : Addr} {fd : FuncData} {ps : List Str} {bs : List Bool} {m : List D → M D} {c mn : String} {apos : Pos} {es : List Expr} {ms : M (List D)} {pl : Sem Bool} (cx : CtxOk X E) (hC : Cls X.K (He.ga X.K (Str.ofString c))) (hM : Meth X.K (He.ga X.K (Str.ofString c)) (Str.ofString mn) f)
    (F : FnOk X.prog X.w X.K X.mg X.base (L2.CX X.prog X.w) k f fd ps (spD X.K (true :: bs) m)) (hr : Room k X.A) (hb : Binds X.K fd ps []) (ho : DR X E G b mb) (ha : DAM X E G bs (a :: es) ms)
    (hst : starEach (a :: es) X.env = (false, eval a X.env) :: starEach es X.env := by rfl) (hpl : (backTo pos (starEach es X.env)).any (·.1) = false := by rfl)
    (ht : eval (.Call (.Attribute b (Str.ofString mn) apos) (a :: es) [] pos) X.env = (do
      let ov ← eval b X.env
      standAt apos.atName
      let (f, first) ← holding [ov] (getMethod ov (Str.ofString mn) pl)
      callWith pos f first (backTo pos (starEach (a :: es) X.env)) (backToKw pos (keywordEach [] X.env))) := by rfl) :
    DE X E G (.Call (.Attribute b (Str.ofString mn) apos) (a :: es) [] pos) (mb >>= fun x => D.recv c mn x >>= fun x => ms >>= fun l => m (x :: l)) := by
  obtain ⟨t1, p1, w1⟩ := ho
  obtain ⟨t2, p2, w2⟩ := ha
  refine ⟨_, pe_meth p1 hC hM F hr hb .nil cx.pass p2 hst hpl ht, fun B σ F H Q s g q => w1 B σ F H _ s g (WpG.bind q fun x F1 H1 v x1 r1 k1 => ?_)⟩
  cases x with
  | ins c' l =>
    have k1 : WpG X.K E (rE X.K) (need (decide (c' = c) && (l.lookup mn).isNone) >>= fun _ => ms >>= fun l' => m (.ins c' l :: l')) F1 H1 Q := by
      have e : (D.recv c mn (.ins c' l) >>= fun x => ms >>= fun l => m (x :: l)) = (need (decide (c' = c) && (l.lookup mn).isNone) >>= fun _ => ms >>= fun l' => m (.ins c' l :: l')) := need_ok
      rw [← e]
      exact k1
    obtain ⟨h, k2⟩ := WpG.need k1
    clear k1
    obtain ⟨h1, h2⟩ := and2 h
    have h1 := of_decide_eq_true h1
    subst h1
    obtain ⟨p, dx, fs, rfl, e1, e2, r⟩ := r1.ins x1.sFH
    refine ⟨p, dx, fs, rfl, e1, ?_, w2 B σ F1 H1 _ x1.sFH (g.ext x1) (WpG.bind k2 fun l' F2 H2 vs x2 r2 k3 => ?_)⟩
    · rcases field_look (f := mn) e2 r with ⟨n1, n2⟩ | ⟨d, v, l1, l2, r2⟩
      · exact n2
      · rw [l1] at h2
        cases h2
    · show spD X.K (true :: bs) m (.ref p :: (vs ++ [])) H2 Q E
      rw [List.append_nil]
      exact ⟨F2, _, x2.sFH, .bor (r1.ext x2) r2, k3⟩
  | _ => exact k1.elim
theorem de_meth0 {k : Nat} {f : Addr} {fd : FuncData} {ps : List Str} {m : List D → M D} {c mn : String} {apos : Pos} {pl : Sem Bool} (cx : CtxOk X E) (hC : Cls X.K (He.ga X.K (Str.ofString c))) (hM : Meth X.K (He.ga X.K (Str.ofString c)) (Str.ofString mn) f)
    (F : FnOk X.prog X.w X.K X.mg X.base (L2.CX X.prog X.w) k f fd ps (spD X.K [true] m)) (hr : Room k X.A) (hb : Binds X.K fd ps []) (ho : DR X E G b mb)
    (ht : eval (.Call (.Attribute b (Str.ofString mn) apos) [] [] pos) X.env = (do
      let ov ← eval b X.env
      standAt apos.atName
      let (f, first) ← holding [ov] (getMethod ov (Str.ofString mn) pl)
      callWith pos f first (backTo pos (starEach [] X.env)) (backToKw pos (keywordEach [] X.env))) := by rfl) :
    DE X E G (.Call (.Attribute b (Str.ofString mn) apos) [] [] pos) (mb >>= fun x => D.recv c mn x >>= fun x => m [x]) := by
  obtain ⟨t1, p1, w1⟩ := ho
  refine ⟨_, pe_meth0 p1 hC hM F hr hb .nil cx.pass ht, fun B σ F H Q s g q => w1 B σ F H _ s g (WpG.bind q fun x F1 H1 v x1 r1 k1 => ?_)⟩
  cases x with
  | ins c' l =>
    have k1 : WpG X.K E (rE X.K) (need (decide (c' = c) && (l.lookup mn).isNone) >>= fun _ => m [.ins c' l]) F1 H1 Q := by
      have e : (D.recv c mn (.ins c' l) >>= fun x => m [x]) = (need (decide (c' = c) && (l.lookup mn).isNone) >>= fun _ => m [.ins c' l]) := need_ok
      rw [← e]
      exact k1
    obtain ⟨h, k2⟩ := WpG.need k1
    clear k1
    obtain ⟨h1, h2⟩ := and2 h
    have h1 := of_decide_eq_true h1
    subst h1
    obtain ⟨p, dx, fs, rfl, e1, e2, r⟩ := r1.ins x1.sFH
    refine ⟨p, dx, fs, rfl, e1, ?_, ?_⟩
    · rcases field_look (f := mn) e2 r with ⟨n1, n2⟩ | ⟨d, v, l1, l2, r2⟩
      · exact n2
      · rw [l1] at h2
        cases h2
    · exact ⟨F1, _, x1.sFH, .bor r1 .nil, k2⟩
  | _ => exact k1.elim
/-- a property -/
def D.isIns (c : String) : D → M D
  | .ins c' l => do need (decide (c' = c)); .ok (.ins c' l)
  | _ => stuck
theorem de_prop {k : Nat} {p g : Addr} {fd : FuncData} {ps : List Str} {m : List D → M D} {c f : String} (hC : Cls X.K (He.ga X.K (Str.ofString c))) (hP : PropOf X.K (He.ga X.K (Str.ofString c)) (Str.ofString f) p g)
    (F : FnOk X.prog X.w X.K X.mg X.base (L2.CX X.prog X.w) k g fd ps (spD X.K [true] m)) (hr : Room (k + 1) X.A) (hb : Binds X.K fd ps []) (ho : DR X E G b mb) (hE : ∀ l, ∀ x, m l ≠ .error (.exc x))
    (hab : attributeBase b (Str.ofString f) X.env (eval b X.env) = eval b X.env := by rfl) : DE X E G (.Attribute b (Str.ofString f) pos) (mb >>= fun x => D.isIns c x >>= fun x => m [x]) := by
  obtain ⟨t1, p1, w1⟩ := ho
  refine ⟨_, pe_prop p1 hC hP F hr hb .nil (passL (X := X.nox)) hab, fun B σ F H Q s g q => w1 B σ F H _ s g (WpG.bind q fun x F1 H1 v x1 r1 k1 => ?_)⟩
  cases x with
  | ins c' l =>
    have k1 : WpG X.K E (rE X.K) (need (decide (c' = c)) >>= fun _ => m [.ins c' l]) F1 H1 Q := by
      have e : (D.isIns c (.ins c' l) >>= fun x => m [x]) = (need (decide (c' = c)) >>= fun _ => m [.ins c' l]) := need_ok
      rw [← e]
      exact k1
    obtain ⟨h1, k2⟩ := WpG.need k1
    clear k1
    have h1 := of_decide_eq_true h1
    subst h1
    obtain ⟨p, dx, fs, rfl, e1, e2, r⟩ := r1.ins x1.sFH
    have k1 : WpG X.K E (rE X.K) (m [.ins c' l]) F1 H1 Q := k2
    refine ⟨p, dx, fs, rfl, e1, F1, _, x1.sFH, .bor r1 .nil, ?_⟩
    cases em : m [.ins c' l] with
    | ok d =>
      rw [em] at k1
      exact fun F' H' v x r => k1 F' H' v x r
    | error er => cases er with
      | stuck =>
        rw [em] at k1
        exact k1.elim
      | exc y => exact absurd em (hE _ _)
  | _ => exact k1.elim

/-! ### short forms -/
theorem pts_no {b : D → M (List Sl)} : PTs X [] (tTst X.K b fun _ => .ok true) := ⟨fun pins s σ H Q I ⟨d, G', B, F, _, sm, _, q⟩ => pts_nil.run pins s σ H Q I (q F H _ (Ext.refl sm) rfl)⟩
theorem pts_if {b : D → M (List Sl)} {mt : D → M Bool} (h : ∀ d G', b d = .ok G' → DT X EN G' c (mt d)) : PTs X [c] (tTst X.K b mt) :=
  ⟨fun pins s σ H Q I ⟨d, G', B, F, e, sm, g, q⟩ => (pts_one (h d G' e).canon).run pins s σ H Q I ⟨B, F, sm, g, q⟩⟩
theorem elt_of {b : D → M (List Sl)} {me : D → M D} (h : ∀ d G', b d = .ok G' → DE X EN G' e (me d)) : PE X e (tElt X.K b me) :=
  ⟨fun pins s σ H Q I ⟨d, G', B, F, e, sm, g, q⟩ => (h d G' e).canon.run pins s σ H Q I ⟨B, F, sm, g, q⟩⟩
/-- [elt for x in iter] -/
theorem dn_lc1 {tg iter : Expr} {scope : Scope} {own : List (Str × Nat)} {i : Nat} {mi : M (List D)} {me : D → M D} (hc : X.calm = true) (hN : X.N.Nodup) (hi : DIR X E G tg iter mi) (ok : BlkOk X.N X.env.scope scope own) (ho : own.map (·.2) = [i])
    (hg : ∀ (s : Shared) (H : Hp) (C : Addr) (cl : List (Str × Addr)) (fp : List Addr), PG (X.blk s H scope (compEnvC scope cl C X.env) fp) tg (gName i))
    (he : ∀ (s : Shared) (H : Hp) (C : Addr) (cl : List (Str × Addr)) (fp : List Addr) (d : D), DE (X.blk s H scope (compEnvC scope cl C X.env) fp) EN ((G.set i .any).set i (.val d)) e (me d))
    (hs : ∀ x, foldedSetIterable iter X.env x = pure x := by intro _; rfl) : DNL X E G (.ListComp e [⟨tg, iter, [], 0⟩] scope pos) (mi >>= fun ds => compL (fElt (fun _ => .ok true) me) ds) := by
  refine dn_lc (b := fun d => .ok ((G.set i .any).set i (.val d))) hc hN hi ok hg (fun x v B σ F H Q s g r k => ?_) (fun s H C cl fp => pts_no) (fun s H C cl fp => elt_of fun d G' e => ?_) (fun d y _ => ⟨_, rfl⟩) hs
  · obtain ⟨G', e, k⟩ := k
    cases e
    rw [ho] at g k
    exact k _ (g.set r) (fun j hj => List.getElem?_set_ne fun z => hj (by simp [z])) (by rw [List.length_set])
  · cases e
    exact he s H C cl fp d
/-- [elt for x in iter if c] -/
theorem dn_lc2 {tg iter : Expr} {scope : Scope} {own : List (Str × Nat)} {i : Nat} {mi : M (List D)} {mt : D → M Bool} {me : D → M D} (hc : X.calm = true) (hN : X.N.Nodup) (hi : DIR X E G tg iter mi) (ok : BlkOk X.N X.env.scope scope own) (ho : own.map (·.2) = [i])
    (hg : ∀ (s : Shared) (H : Hp) (C : Addr) (cl : List (Str × Addr)) (fp : List Addr), PG (X.blk s H scope (compEnvC scope cl C X.env) fp) tg (gName i))
    (ht : ∀ (s : Shared) (H : Hp) (C : Addr) (cl : List (Str × Addr)) (fp : List Addr) (d : D), DT (X.blk s H scope (compEnvC scope cl C X.env) fp) EN ((G.set i .any).set i (.val d)) c (mt d))
    (he : ∀ (s : Shared) (H : Hp) (C : Addr) (cl : List (Str × Addr)) (fp : List Addr) (d : D), DE (X.blk s H scope (compEnvC scope cl C X.env) fp) EN ((G.set i .any).set i (.val d)) e (me d))
    (hs : ∀ x, foldedSetIterable iter X.env x = pure x := by intro _; rfl) : DNL X E G (.ListComp e [⟨tg, iter, [c], 0⟩] scope pos) (mi >>= fun ds => compL (fElt mt me) ds) := by
  refine dn_lc (b := fun d => .ok ((G.set i .any).set i (.val d))) hc hN hi ok hg (fun x v B σ F H Q s g r k => ?_) (fun s H C cl fp => pts_if fun d G' e => ?_) (fun s H C cl fp => elt_of fun d G' e => ?_) (fun d y _ => ⟨_, rfl⟩) hs
  · obtain ⟨G', e, k⟩ := k
    cases e
    rw [ho] at g k
    exact k _ (g.set r) (fun j hj => List.getElem?_set_ne fun z => hj (by simp [z])) (by rw [List.length_set])
  · cases e
    exact ht s H C cl fp d
  · cases e
    exact he s H C cl fp d
/-- for x in iter, the state by Γ -/
theorem ds_for1 {S : Type} {tg iter : Expr} {mi : M (List D)} {i : Nat} {Γ : S → List Sl} {f : S → D → M S} (s0 : S) (hG : G = Γ s0) (cx : CtxOk X E) (hi : DI X E G tg iter mi) (pg : PG X tg (gName i))
    (hb : ∀ s d, DB X E ((Γ s).set i (.val d)) body (f s d) (fun s => .nx (Γ s))) (hs : ∀ x, foldedSetIterable iter X.env x = pure x := by intro _; rfl) : DS X E G (.For tg iter body [] pos) (mi >>= fun ds => loopF f ds s0) (fun s => .nx (Γ s)) :=
  ds_forF (vs := [i]) (bnd := fun s d => .ok ((Γ s).set i (.val d))) s0 hG cx.own cx.calm hi pg (fun s x v B σ F H Q sm g r ⟨G', e, k⟩ => by
    cases e
    exact k _ (g.set r) (fun j hj => List.getElem?_set_ne fun z => hj (by simp [z])) (by rw [List.length_set])) (fun _ _ _ _ => ⟨_, rfl⟩) (fun _ _ _ _ => ⟨_, rfl⟩) (fun s d G' e => by
    cases e
    exact hb s d) hs
theorem ds_for1R {S : Type} {tg iter : Expr} {mi : M (List D)} {i : Nat} {Γ : S → List Sl} {f : S → D → M (Rs S)} (s0 : S) (hG : G = Γ s0) (cx : CtxOk X E) (hi : DI X E G tg iter mi) (pg : PG X tg (gName i))
    (hb : ∀ s d, DB X E ((Γ s).set i (.val d)) body (f s d) (Rs.oc Γ)) (hs : ∀ x, foldedSetIterable iter X.env x = pure x := by intro _; rfl) : DS X E G (.For tg iter body [] pos) (mi >>= fun ds => loopR f ds s0) (sumOc Γ) :=
  ds_forR (vs := [i]) (bnd := fun s d => .ok ((Γ s).set i (.val d))) s0 hG cx.own cx.calm hi pg (fun s x v B σ F H Q sm g r ⟨G', e, k⟩ => by
    cases e
    exact k _ (g.set r) (fun j hj => List.getElem?_set_ne fun z => hj (by simp [z])) (by rw [List.length_set])) (fun _ _ _ _ => ⟨_, rfl⟩) (fun _ _ _ _ => ⟨_, rfl⟩) (fun s d G' e => by
    cases e
    exact hb s d) hs
/-- for a, b in iter -/
def on2 {α : Type} (f : D → D → M α) : D → M α
  | .tup [a, b] => f a b
  | _ => stuck
theorem on2_ok {α : Type} {f : D → D → M α} {d : D} (h : ∀ z, on2 f d ≠ .error z) : ∃ a b, d = .tup [a, b] := by
  unfold on2 at h
  split at h
  · exact ⟨_, _, rfl⟩
  · exact absurd rfl (h .stuck)
theorem on2_not {α : Type} {f : D → D → M α} {d : D} (h : on2 f d ≠ stuck) : ∃ a b, d = .tup [a, b] := by
  unfold on2 at h
  split at h
  · exact ⟨_, _, rfl⟩
  · exact absurd rfl h
theorem ds_for2 {S : Type} {tg iter : Expr} {mi : M (List D)} {i j : Nat} {Γ : S → List Sl} {f : S → D → D → M S} (s0 : S) (hG : G = Γ s0) (cx : CtxOk X E) (hi : DI X E G tg iter mi) (pg : PG X tg (gTup X.K 2 (gNames [i, j])))
    (hb : ∀ s d1 d2, DB X E (((Γ s).set i (.val d1)).set j (.val d2)) body (f s d1 d2) (fun s => .nx (Γ s))) (hs : ∀ x, foldedSetIterable iter X.env x = pure x := by intro _; rfl) : DS X E G (.For tg iter body [] pos) (mi >>= fun ds => loopF (fun s => on2 (f s)) ds s0) (fun s => .nx (Γ s)) :=
  ds_forF (vs := [i, j]) (bnd := fun s d => bindTup (Γ s) [i, j] d) s0 hG cx.own cx.calm hi pg (fun s x v B σ F H Q sm g r ⟨G', e, k⟩ => by
    cases x with
    | tup ds => cases r with
      | tup h hs => exact ⟨_, _, rfl, Same.seqT sm h, by rw [hs.length, setAll_len e]; rfl, gNames_run sm g hs e k⟩
    | _ => cases e) (fun s d r e => by
    obtain ⟨a, b, rfl⟩ := on2_not (f := f s) (d := d) (by rw [e]; exact fun z => nomatch z)
    exact ⟨_, rfl⟩) (fun s d r e => by
    obtain ⟨a, b, rfl⟩ := on2_not (f := f s) (d := d) (by rw [e]; exact fun z => nomatch z)
    exact ⟨_, rfl⟩) (fun s d G' e => by
    cases d with
    | tup ds => match ds, e with
      | [], e => cases e
      | [_], e => cases e
      | [a, b], e =>
        cases e
        exact hb s a b
      | _ :: _ :: _ :: _, e => cases e
    | _ => cases e) hs
theorem ds_for2R {S : Type} {tg iter : Expr} {mi : M (List D)} {i j : Nat} {Γ : S → List Sl} {f : S → D → D → M (Rs S)} (s0 : S) (hG : G = Γ s0) (cx : CtxOk X E) (hi : DI X E G tg iter mi) (pg : PG X tg (gTup X.K 2 (gNames [i, j])))
    (hb : ∀ s d1 d2, DB X E (((Γ s).set i (.val d1)).set j (.val d2)) body (f s d1 d2) (Rs.oc Γ)) (hs : ∀ x, foldedSetIterable iter X.env x = pure x := by intro _; rfl) : DS X E G (.For tg iter body [] pos) (mi >>= fun ds => loopR (fun s => on2 (f s)) ds s0) (sumOc Γ) :=
  ds_forR (vs := [i, j]) (bnd := fun s d => bindTup (Γ s) [i, j] d) s0 hG cx.own cx.calm hi pg (fun s x v B σ F H Q sm g r ⟨G', e, k⟩ => by
    cases x with
    | tup ds => cases r with
      | tup h hs => exact ⟨_, _, rfl, Same.seqT sm h, by rw [hs.length, setAll_len e]; rfl, gNames_run sm g hs e k⟩
    | _ => cases e) (fun s d r e => by
    obtain ⟨a, b, rfl⟩ := on2_not (f := f s) (d := d) (by rw [e]; exact fun z => nomatch z)
    exact ⟨_, rfl⟩) (fun s d r e => by
    obtain ⟨a, b, rfl⟩ := on2_not (f := f s) (d := d) (by rw [e]; exact fun z => nomatch z)
    exact ⟨_, rfl⟩) (fun s d G' e => by
    cases d with
    | tup ds => match ds, e with
      | [], e => cases e
      | [_], e => cases e
      | [a, b], e =>
        cases e
        exact hb s a b
      | _ :: _ :: _ :: _, e => cases e
    | _ => cases e) hs
/-- [elt for a, b in iter] -/
theorem dn_lcT {tg iter : Expr} {scope : Scope} {own : List (Str × Nat)} {i j : Nat} {mi : M (List D)} {me : D → D → M D} (hc : X.calm = true) (hN : X.N.Nodup) (hi : DIR X E G tg iter mi) (ok : BlkOk X.N X.env.scope scope own) (ho : own.map (·.2) = [i, j])
    (hg : ∀ (s : Shared) (H : Hp) (C : Addr) (cl : List (Str × Addr)) (fp : List Addr), PG (X.blk s H scope (compEnvC scope cl C X.env) fp) tg (gTup X.K 2 (gNames [i, j])))
    (he : ∀ (s : Shared) (H : Hp) (C : Addr) (cl : List (Str × Addr)) (fp : List Addr) (d1 d2 : D), DE (X.blk s H scope (compEnvC scope cl C X.env) fp) EN (((wipeG G [i, j]).set i (.val d1)).set j (.val d2)) e (me d1 d2))
    (hs : ∀ x, foldedSetIterable iter X.env x = pure x := by intro _; rfl) : DNL X E G (.ListComp e [⟨tg, iter, [], 0⟩] scope pos) (mi >>= fun ds => compL (fElt (fun _ => .ok true) (on2 me)) ds) := by
  refine dn_lc (b := fun d => bindTup (wipeG G [i, j]) [i, j] d) hc hN hi ok hg (fun x v B σ F H Q s g r k => ?_) (fun s H C cl fp => pts_no) (fun s H C cl fp => elt_of fun d G' e => ?_) (fun d y e => ?_) hs
  · obtain ⟨G', e, k⟩ := k
    rw [ho] at g k
    cases x with
    | tup ds => cases r with
      | tup h hs => exact ⟨_, _, rfl, Same.seqT s h, by rw [hs.length, setAll_len e]; rfl, gNames_run s g hs e k⟩
    | _ => cases e
  · cases d with
    | tup ds => match ds, e with
      | [], e => cases e
      | [_], e => cases e
      | [a, b], e =>
        cases e
        exact he s H C cl fp a b
      | _ :: _ :: _ :: _, e => cases e
    | _ => cases e
  · have q : ∃ a b, d = .tup [a, b] := by
      refine on2_not (f := me) (d := d) fun z => ?_
      have e : (on2 me d >>= fun y => (.ok (some y) : M (Option D))) = .ok y := e
      rw [z] at e
      cases e
    obtain ⟨a, b, rfl⟩ := q
    exact ⟨_, rfl⟩
end
end DL
set_option Elab.async false
set_option linter.all false
set_option maxRecDepth 100000
set_option maxHeartbeats 4000000
/-! DL11: short forms of the rules, for the walks that a program prints. -/
namespace DL
open PySem PySem.Spec L2

theorem _root_.L2.Room.u70 {k : Nat} {A : Around} (r : Room k A) : A.units + 70 < cLine := by have := r.un; omega
theorem _root_.L2.Room.u64 {k : Nat} {A : Around} (r : Room k A) : A.units + 64 < cLine := by have := r.un; omega
/-! ### short words for what is computed -/
@[simp] abbrev B2 {α β γ : Type} (f : α → β → M γ) (a : M α) (b : M β) : M γ := a >>= fun x => b >>= fun y => f x y
@[simp] abbrev B1 {α γ : Type} (f : α → M γ) (a : M α) : M γ := a >>= fun x => f x
@[simp] abbrev A0 : M (List D) := .ok []
@[simp] abbrev A1 (a : M D) (r : M (List D)) : M (List D) := a >>= fun x => r >>= fun xs => .ok (x :: xs)
@[simp] abbrev mIf {α : Type} (c : M Bool) (a b : M α) : M α := c >>= fun x => if x = true then a else b
@[simp] abbrev mAnd (a b : M Bool) : M Bool := a >>= fun x => if x = true then b else .ok false
@[simp] abbrev mOr (a b : M Bool) : M Bool := a >>= fun x => if x = true then .ok true else b
@[simp] abbrev mNot (a : M Bool) : M Bool := a >>= fun x => .ok (!x)
@[simp] abbrev vAnd (a b : M D) : M D := a >>= fun x => D.tru x >>= fun k => if k = true then b else .ok x
@[simp] abbrev vOr (a b : M D) : M D := a >>= fun x => D.tru x >>= fun k => if k = true then .ok x else b
@[simp] abbrev vNot (a : M D) : M D := a >>= fun x => D.tru x >>= fun k => .ok (.bl (!k))
@[simp] abbrev C2 (f : D → D → M Bool) (a b : M D) : M D := a >>= fun x => b >>= fun y => bD (f x y)
@[simp] abbrev C3 (f g : D → D → M Bool) (a b c : M D) : M D := a >>= fun x => b >>= fun y => f x y >>= fun k => if k = true then c >>= fun z => bD (g y z) else .ok (.bl false)
@[simp] abbrev T3 (f g : D → D → M Bool) (a b c : M D) : M Bool := a >>= fun x => b >>= fun y => f x y >>= fun k => if k = true then c >>= fun z => g y z else .ok false
@[simp] abbrev S3 (a : M D) (l h : M (Option Int)) : M D := a >>= fun x => l >>= fun l => h >>= fun h => D.sl x l h
@[simp] abbrev L1 (m : M (List D)) : M D := m >>= fun l => .ok (.lst l)
@[simp] abbrev oN : M (Option Int) := .ok none
@[simp] abbrev mPush (l : List D) (m : M D) : M (List D) := m >>= fun d => need (decide (l.length < sizeLine)) >>= fun _ => .ok (l ++ [d])
@[simp] abbrev mkIns (c : String) (m : List D → M (List (String × D))) (a : M (List D)) : M D := a >>= fun l => m l >>= fun l => .ok (.ins c l)
@[simp] abbrev noT : D → M Bool := fun _ => .ok true
@[simp] abbrev nLst (m : M (List D)) : M (List D) := m >>= fun l => need (decide (l.length ≤ sizeLine)) >>= fun _ => .ok l
abbrev nList (m : M (List D)) : M (List D) := m >>= fun l => match l with | [.lst l] => .ok l | [.tup l] => .ok l | _ => stuck
/-- functions of n arguments -/
@[simp] def a1 {α : Type} (f : D → M α) : List D → M α
  | [a] => f a
  | _ => stuck
@[simp] def a2 {α : Type} (f : D → D → M α) : List D → M α
  | [a, b] => f a b
  | _ => stuck
@[simp] def a3 {α : Type} (f : D → D → D → M α) : List D → M α
  | [a, b, c] => f a b c
  | _ => stuck
@[simp] def a4 {α : Type} (f : D → D → D → D → M α) : List D → M α
  | [a, b, c, d] => f a b c d
  | _ => stuck
@[simp] def a5 {α : Type} (f : D → D → D → D → D → M α) : List D → M α
  | [a, b, c, d, e] => f a b c d e
  | _ => stuck
@[simp] def a6 {α : Type} (f : D → D → D → D → D → D → M α) : List D → M α
  | [a, b, c, d, e, g] => f a b c d e g
  | _ => stuck
section
variable {X : Cx} {E : XK} {G : List Sl} {a b c e : Expr} {ma mb mc : M D} {ta tb : M Bool} {pos : Pos} {F H : Hp} {st : Stmt} {rest body : List Stmt}
theorem dr_val {i : Nat} {d : D} {x : Str} (h : G[i]? = some (.val d)) (p : PE X (.Name x pos) (tVar i)) : DR X E G (.Name x pos) (.ok d) := dr_var h p
theorem dr_own {i : Nat} {l : List D} {x : Str} (h : G[i]? = some (.own l)) (p : PE X (.Name x pos) (tVar i)) : DR X E G (.Name x pos) (.ok (.lst l)) := dr_var h p
theorem dr_ownd {i : Nat} {l : List (D × D)} {x : Str} (h : G[i]? = some (.ownd l)) (p : PE X (.Name x pos) (tVar i)) : DR X E G (.Name x pos) (.ok (.dct l)) := dr_var h p
theorem dr_bor {i : Nat} {d : D} {x : Str} (h : G[i]? = some (.bor d)) (p : PE X (.Name x pos) (tVar i)) : DR X E G (.Name x pos) (.ok d) := dr_var h p
theorem dr_obj {i : Nat} {l : List (String × D)} {x : Str} {a : Addr} {c : String} (h : G[i]? = some (.obj a c l)) (p : PE X (.Name x pos) (tVar i)) : DR X E G (.Name x pos) (.ok (.ins c l)) := dr_var h p
theorem de_gintE {x : Str} {i : Int} (hg : Gl X x) (hm : ∃ t, X.mg x = some (.int i t)) (hd : (x == ("__debug__" : Str)) = false := by decide) : DE X E G (.Name x pos) (.ok (.int i)) := let ⟨_, h⟩ := hm; de_gint hg h hd
theorem de_gstrE {x z : Str} (hg : Gl X x) (hm : ∃ t, X.mg x = some (.str z t)) (hz : PyData.strOk z = true := by decide) (hd : (x == ("__debug__" : Str)) = false := by decide) : DE X E G (.Name x pos) (.ok (.str z)) := let ⟨_, h⟩ := hm; de_gstr hg h hz hd
theorem DNL.de {m : M (List D)} (h : DNL X E G e m) : DE X E G e (m >>= fun l => .ok (.lst l)) := h.dn.de

/-! ### statements in a block, the slots told -/
theorem db_step {α β : Type} {m1 : M β} {G1 : β → List Sl} (G2 : β → List Sl) {k : β → M α} {post : α → Oc} (h1 : DS X E G st m1 (fun j => .nx (G1 j))) (e : ∀ j, G1 j = G2 j) (h2 : ∀ j, DB X E (G2 j) rest (k j) post) : DB X E G (st :: rest) (m1 >>= k) post :=
  db_then h1 fun j => by
    rw [e j]
    exact h2 j
theorem db_G {α : Type} (G2 : List Sl) {m : M α} {post : α → Oc} (e : G = G2) (h : DB X E G2 body m post) : DB X E G body m post := by
  rw [e]
  exact h
theorem db_fzO {α : Type} (i : Nat) {l : List D} {m : M α} {post : α → Oc} (hs : G[i]? = some (.own l)) (h : DB X E (G.set i (.val (.lst l))) body m post) : DB X E G body m post := db_fz hs h
theorem ds_pushO {x : Str} {i : Nat} {l : List D} {p1 p2 p3 : Pos} {m : M D} (hs : G[i]? = some (.own l)) (pv : PE X (.Name x p1) (tVar i)) (h : DE X E G e m)
    (hfew : ((backTo p3 (starEach [e] X.env)).all (fun x => !x.1) && (backToKw p3 (keywordEach [] X.env)).all (fun x => x.1.isSome)
      && decide (([e] : List Expr).length + ([] : List Keyword).length + (if ([] : List Keyword).isEmpty then 0 else 1) < 30)) = true := by rfl)
    (hbase : attributeBase (.Name x p1) "append" X.env (eval (.Name x p1) X.env) = eval (.Name x p1) X.env := by rfl)
    (hline : (p2.endLine == p3.line) = true := by rfl) (hst : starEach [e] X.env = (false, eval e X.env) :: starEach [] X.env := by rfl) (hplain : (backTo p3 (starEach [] X.env)).any (·.1) = false := by rfl) :
    DS X E G (.Expr (.Call (.Attribute (.Name x p1) "append" p2) [e] [] p3) pos) (m >>= fun d => need (decide (l.length < sizeLine)) >>= fun _ => .ok (l ++ [d])) (fun l' => .nx (G.set i (.own l'))) := by
  obtain ⟨t, ps, w⟩ := ds_push hs pv h hfew hbase hline hst hplain
  refine ⟨t, ps, fun B0 B σ F H D x0 g q => w B0 B σ F H D x0 g ?_⟩
  show WpB X.K E B0 B (fun s' => .nx (G.set i s')) (m >>= fun d => need (decide (l.length < sizeLine)) >>= fun _ => .ok (.own (l ++ [d]))) F D
  cases m with
  | error er => cases er with
    | stuck => exact q.elim
    | exc y => exact q
  | ok d =>
    have q : WpB X.K E B0 B (fun l' => .nx (G.set i (.own l'))) (need (decide (l.length < sizeLine)) >>= fun _ => .ok (l ++ [d])) F D := q
    show WpB X.K E B0 B (fun s' => .nx (G.set i s')) (need (decide (l.length < sizeLine)) >>= fun _ => .ok (.own (l ++ [d]))) F D
    cases hd : decide (l.length < sizeLine) with
    | false =>
      exfalso
      rw [hd] at q
      exact q
    | true =>
      rw [hd] at q
      exact q
theorem ds_setLc {i : Nat} {y : Str} {py : Pos} {m : M (List D)} (h : DNL X E G e m) (hy : X.N[i]? = some y) (hl : X.env.scope.names.lookup y = some .local) (hs : swapsWith e (some (.Name y py)) pos.line X.env = pure true) :
    DS X E G (.Assign [.Name y py] e pos) (m >>= fun l => .ok (.lst l)) (fun d => .nx (G.set i (.val d))) := by
  obtain ⟨t, _, ps, w⟩ := h
  refine ⟨_, ps hy hl hs, fun B0 B σ F H D x0 g q => w B σ F H _ x0.sFH g ?_⟩
  cases m with
  | ok l =>
    intro F' H' v x ⟨p, xs, ev, n, h, nf, r⟩
    subst ev
    exact q.ok _ _ H' (x.freeze n h nf).sF (x0.trans (x.freeze n h nf)) ((g.ext (x.freeze n h nf)).set (.lst upd_same (r.mono (same_new nf))))
  | error er => cases er with
    | stuck => exact q.elim
    | exc y => exact fun F' H' c d x r => q F' H' c d x.sF (x0.trans x) r
theorem ds_setLcN {i : Nat} {y : Str} {py : Pos} {m : M (List D)} (h : DNL X E G e m) (hy : X.N[i]? = some y) (hl : X.env.scope.names.lookup y = some .local) (hs : swapsWith e (some (.Name y py)) pos.line X.env = pure true) :
    DS X E G (.Assign [.Name y py] e pos) m (fun l => .nx (G.set i (.own l))) := by
  obtain ⟨t, _, ps, w⟩ := h
  refine ⟨_, ps hy hl hs, fun B0 B σ F H D x0 g q => w B σ F H _ x0.sFH g ?_⟩
  cases m with
  | ok l =>
    intro F' H' v x ⟨a, xs, ev, n, h1, f1, r1⟩
    subst ev
    have hB : B a = none := x0.sH.free n
    exact q.ok _ F' H' x.sF (x0.trans x) ((g.ext x).setOwn h1 f1 hB r1 fun j s hj oj ej => by
      obtain ⟨u, hu⟩ := g.owned hj oj ej
      rw [n] at hu
      cases hu)
  | error er => cases er with
    | stuck => exact q.elim
    | exc y => exact fun F' H' c d x r => q F' H' c d x.sF (x0.trans x) r

/-! ### several names -/
@[simp] def un2 {α : Type} (k : D → D → M α) : D → M α
  | .tup [a, b] => k a b
  | _ => stuck
@[simp] def un3 {α : Type} (k : D → D → D → M α) : D → M α
  | .tup [a, b, c] => k a b c
  | _ => stuck
@[simp] def un4 {α : Type} (k : D → D → D → D → M α) : D → M α
  | .tup [a, b, c, d] => k a b c d
  | _ => stuck
@[simp] def un5 {α : Type} (k : D → D → D → D → D → M α) : D → M α
  | .tup [a, b, c, d, e] => k a b c d e
  | _ => stuck
@[simp] def un6 {α : Type} (k : D → D → D → D → D → D → M α) : D → M α
  | .tup [a, b, c, d, e, f] => k a b c d e f
  | _ => stuck
/-- a, b, .. = e: the value is a tuple of as many -/
theorem db_tup {α : Type} {tg : Expr} {is : List Nat} {n : Nat} {m : M D} {k : D → M α} {post : α → Oc} (h : DE X E G e m) (hn : is.length = n) (p : PG X tg (gTup X.K n (gNames is)))
    (hs : swapsWithSole [tg] e pos.line X.env = pure false) (hw : swappedStores [tg] e X.env = pure none) (h1 : (assignEach [tg] X.env).map (·.2) = [assign tg X.env])
    (hk : ∀ d, (∃ ds, d = .tup ds ∧ ds.length = n ∧ DB X E (setT G is ds) rest (k d) post) ∨ k d = stuck) : DB X E G (.Assign [tg] e pos :: rest) (m >>= k) post := by
  have q := ds_tup (pos := pos) (tg := tg) (is := is) (n := n) h hn (fun {te} pe => ps_asg pe p hs hw h1)
  have eq : (m >>= k) = ((m >>= fun d => D.un n d) >>= fun ds => if ds.length = n then k (.tup ds) else stuck) := by
    cases m with
    | error er => rfl
    | ok d =>
      show k d = (D.un n d >>= fun ds => if ds.length = n then k (.tup ds) else stuck)
      cases d with
      | tup l =>
        show k (.tup l) = ((need (decide (l.length = n)) >>= fun _ => .ok l) >>= fun ds => if ds.length = n then k (.tup ds) else stuck)
        by_cases hl : l.length = n
        · rw [decide_eq_true hl]
          show _ = (if l.length = n then k (.tup l) else stuck)
          rw [if_pos hl]
        · rw [decide_eq_false hl]
          show _ = stuck
          rcases hk (.tup l) with ⟨ds, e1, e2, _⟩ | e1
          · cases e1
            exact absurd e2 hl
          · exact e1
      | _ =>
        refine Or.elim (hk _) (fun z => ?_) (fun z => z)
        obtain ⟨ds, e1, _⟩ := z
        cases e1
  rw [eq]
  refine db_then q fun ds => ?_
  by_cases hl : ds.length = n
  · rw [if_pos hl]
    rcases hk (.tup ds) with ⟨ds', e1, e2, h⟩ | e1
    · cases e1
      exact h
    · rw [e1]
      exact db_stuck
  · rw [if_neg hl]
    exact db_stuck
theorem db_un2' {α : Type} {tg : Expr} (is : List Nat) {m : M D} {k : D → D → M α} {post : α → Oc} (G2 : D → D → List Sl) (h : DE X E G e m) (hn : is.length = 2) (p : PG X tg (gTup X.K 2 (gNames is)))
    (hs : swapsWithSole [tg] e pos.line X.env = pure false) (hw : swappedStores [tg] e X.env = pure none) (h1 : (assignEach [tg] X.env).map (·.2) = [assign tg X.env])
    (e2 : ∀ a b, setT G is [a, b] = G2 a b) (hk : ∀ a b, DB X E (G2 a b) rest (k a b) post) : DB X E G (.Assign [tg] e pos :: rest) (m >>= un2 k) post :=
  db_tup h hn p hs hw h1 fun d => by
    unfold un2
    split
    · rename_i a b
      exact .inl ⟨[a, b], rfl, rfl, by rw [e2]; exact hk a b⟩
    · exact .inr rfl
theorem db_un3' {α : Type} {tg : Expr} (is : List Nat) {m : M D} {k : D → D → D → M α} {post : α → Oc} (G2 : D → D → D → List Sl) (h : DE X E G e m) (hn : is.length = 3) (p : PG X tg (gTup X.K 3 (gNames is)))
    (hs : swapsWithSole [tg] e pos.line X.env = pure false) (hw : swappedStores [tg] e X.env = pure none) (h1 : (assignEach [tg] X.env).map (·.2) = [assign tg X.env])
    (e2 : ∀ a b c, setT G is [a, b, c] = G2 a b c) (hk : ∀ a b c, DB X E (G2 a b c) rest (k a b c) post) : DB X E G (.Assign [tg] e pos :: rest) (m >>= un3 k) post :=
  db_tup h hn p hs hw h1 fun d => by
    unfold un3
    split
    · rename_i a b c
      exact .inl ⟨[a, b, c], rfl, rfl, by rw [e2]; exact hk a b c⟩
    · exact .inr rfl
theorem db_un4' {α : Type} {tg : Expr} (is : List Nat) {m : M D} {k : D → D → D → D → M α} {post : α → Oc} (G2 : D → D → D → D → List Sl) (h : DE X E G e m) (hn : is.length = 4) (p : PG X tg (gTup X.K 4 (gNames is)))
    (hs : swapsWithSole [tg] e pos.line X.env = pure false) (hw : swappedStores [tg] e X.env = pure none) (h1 : (assignEach [tg] X.env).map (·.2) = [assign tg X.env])
    (e2 : ∀ a b c d, setT G is [a, b, c, d] = G2 a b c d) (hk : ∀ a b c d, DB X E (G2 a b c d) rest (k a b c d) post) : DB X E G (.Assign [tg] e pos :: rest) (m >>= un4 k) post :=
  db_tup h hn p hs hw h1 fun d => by
    unfold un4
    split
    · rename_i a b c d
      exact .inl ⟨[a, b, c, d], rfl, rfl, by rw [e2]; exact hk a b c d⟩
    · exact .inr rfl
theorem db_un5' {α : Type} {tg : Expr} (is : List Nat) {m : M D} {k : D → D → D → D → D → M α} {post : α → Oc} (G2 : D → D → D → D → D → List Sl) (h : DE X E G e m) (hn : is.length = 5) (p : PG X tg (gTup X.K 5 (gNames is)))
    (hs : swapsWithSole [tg] e pos.line X.env = pure false) (hw : swappedStores [tg] e X.env = pure none) (h1 : (assignEach [tg] X.env).map (·.2) = [assign tg X.env])
    (e2 : ∀ a b c d e, setT G is [a, b, c, d, e] = G2 a b c d e) (hk : ∀ a b c d e, DB X E (G2 a b c d e) rest (k a b c d e) post) : DB X E G (.Assign [tg] e pos :: rest) (m >>= un5 k) post :=
  db_tup h hn p hs hw h1 fun d => by
    unfold un5
    split
    · rename_i a b c d e
      exact .inl ⟨[a, b, c, d, e], rfl, rfl, by rw [e2]; exact hk a b c d e⟩
    · exact .inr rfl
theorem db_un6' {α : Type} {tg : Expr} (is : List Nat) {m : M D} {k : D → D → D → D → D → D → M α} {post : α → Oc} (G2 : D → D → D → D → D → D → List Sl) (h : DE X E G e m) (hn : is.length = 6) (p : PG X tg (gTup X.K 6 (gNames is)))
    (hs : swapsWithSole [tg] e pos.line X.env = pure false) (hw : swappedStores [tg] e X.env = pure none) (h1 : (assignEach [tg] X.env).map (·.2) = [assign tg X.env])
    (e2 : ∀ a b c d e f, setT G is [a, b, c, d, e, f] = G2 a b c d e f) (hk : ∀ a b c d e f, DB X E (G2 a b c d e f) rest (k a b c d e f) post) : DB X E G (.Assign [tg] e pos :: rest) (m >>= un6 k) post :=
  db_tup h hn p hs hw h1 fun d => by
    unfold un6
    split
    · rename_i a b c d e f
      exact .inl ⟨[a, b, c, d, e, f], rfl, rfl, by rw [e2]; exact hk a b c d e f⟩
    · exact .inr rfl

/-! ### ifs and loops with ends -/
@[simp] def Rx.thn {S S' T : Type} (r : Rx S' T) (k : S' → M (Rx S T)) : M (Rx S T) := match r with
  | .go s => k s
  | .ct t => .ok (.ct t)
  | .bk t => .ok (.bk t)
  | .rt d => .ok (.rt d)
@[simp] def Rx.fin {S' : Type} (r : Rx S' Empty) (k : S' → M D) : M D := match r with
  | .go s => k s
  | .rt d => .ok d
@[simp] def Rx.up {S T : Type} (r : Rx Empty T) : Rx S T := match r with
  | .ct t => .ct t
  | .bk t => .bk t
  | .rt d => .rt d
def noG : Empty → List Sl := fun e => nomatch e
@[simp] def sThn {S S' T : Type} (r : S' ⊕ D) (k : S' → M (Rx S T)) : M (Rx S T) := match r with
  | .inl s => k s
  | .inr d => .ok (.rt d)
@[simp] def sFin {S' : Type} (r : S' ⊕ D) (k : S' → M D) : M D := match r with
  | .inl s => k s
  | .inr d => .ok d
theorem db_thnX {S S' T : Type} {Γ' : S' → List Sl} {Γ : S → List Sl} {Δ : T → List Sl} {m1 : M (Rx S' T)} {k : S' → M (Rx S T)} (h1 : DS X E G st m1 (Rx.oc Γ' Δ)) (h2 : ∀ s, DB X E (Γ' s) rest (k s) (Rx.oc Γ Δ)) :
    DB X E G (st :: rest) (m1 >>= fun r => r.thn k) (Rx.oc Γ Δ) := by
  refine db_cons h1 (fun j G' e => ?_) (fun j hj => ?_)
  · cases j with
    | go s =>
      injection e with e
      rw [← e]
      exact h2 s
    | _ => cases e
  · cases j with
    | go s => exact absurd rfl (hj _)
    | ct t => exact ⟨_, rfl, rfl⟩
    | bk t => exact ⟨_, rfl, rfl⟩
    | rt d => exact ⟨_, rfl, rfl⟩
theorem db_thnF {S' : Type} {Γ' : S' → List Sl} {m1 : M (Rx S' Empty)} {k : S' → M D} (h1 : DS X E G st m1 (Rx.oc Γ' noG)) (h2 : ∀ s, DB X E (Γ' s) rest (k s) .rt) :
    DB X E G (st :: rest) (m1 >>= fun r => r.fin k) .rt := by
  refine db_cons h1 (fun j G' e => ?_) (fun j hj => ?_)
  · cases j with
    | go s =>
      injection e with e
      rw [← e]
      exact h2 s
    | ct t => cases t
    | bk t => cases t
    | rt d => cases e
  · cases j with
    | go s => exact absurd rfl (hj _)
    | ct t => cases t
    | bk t => cases t
    | rt d => exact ⟨_, rfl, rfl⟩
theorem db_sumX {S S' T : Type} {Γ' : S' → List Sl} {Γ : S → List Sl} {Δ : T → List Sl} {m1 : M (S' ⊕ D)} {k : S' → M (Rx S T)} (h1 : DS X E G st m1 (sumOc Γ')) (h2 : ∀ s, DB X E (Γ' s) rest (k s) (Rx.oc Γ Δ)) :
    DB X E G (st :: rest) (m1 >>= fun r => sThn r k) (Rx.oc Γ Δ) := by
  refine db_cons h1 (fun j G' e => ?_) (fun j hj => ?_)
  · cases j with
    | inl s =>
      injection e with e
      rw [← e]
      exact h2 s
    | inr d => cases e
  · cases j with
    | inl s => exact absurd rfl (hj _)
    | inr d => exact ⟨_, rfl, rfl⟩
theorem db_sumF {S' : Type} {Γ' : S' → List Sl} {m1 : M (S' ⊕ D)} {k : S' → M D} (h1 : DS X E G st m1 (sumOc Γ')) (h2 : ∀ s, DB X E (Γ' s) rest (k s) .rt) :
    DB X E G (st :: rest) (m1 >>= fun r => sFin r k) .rt := by
  refine db_cons h1 (fun j G' e => ?_) (fun j hj => ?_)
  · cases j with
    | inl s =>
      injection e with e
      rw [← e]
      exact h2 s
    | inr d => cases e
  · cases j with
    | inl s => exact absurd rfl (hj _)
    | inr d => exact ⟨_, rfl, rfl⟩
/-- if c: continue -/
theorem db_ifCt {S T : Type} {Γ : S → List Sl} {Δ : T → List Sl} {p2 : Pos} (t : T) {mc : M Bool} {mR : M (Rx S T)} (hc : DT X E G c mc) (hA : DB X E G [.Continue p2] (.ok (.ct t) : M (Rx Empty T)) (Rx.oc noG Δ)) (hR : DB X E G rest mR (Rx.oc Γ Δ)) :
    DB X E G (.If c [.Continue p2] [] pos :: rest) (mc >>= fun b => if b = true then .ok (.ct t) else mR) (Rx.oc Γ Δ) :=
  db_cast (db_ift (Rx.up (S := S)) hc hA (fun a G' e => by cases a with | go s => cases s | _ => cases e) (fun a => by cases a with | go s => cases s | _ => rfl) hR) rfl
/-- if c: return e, in a loop -/
theorem db_ifRt {S T : Type} {Γ : S → List Sl} {Δ : T → List Sl} {A : List Stmt} {mA : M D} {mc : M Bool} {mR : M (Rx S T)} (hc : DT X E G c mc) (hA : DB X E G A mA .rt) (hR : DB X E G rest mR (Rx.oc Γ Δ)) :
    DB X E G (.If c A [] pos :: rest) (mc >>= fun b => if b = true then mA >>= fun d => .ok (.rt d) else mR) (Rx.oc Γ Δ) :=
  db_ift (Rx.rt (S := S) (T := T)) hc hA (fun a G' e => by cases e) (fun a => rfl) hR
/-- if c: .., which leaves in any way, in a loop -/
theorem db_ifUp {S T : Type} {Γ : S → List Sl} {Δ : T → List Sl} {A : List Stmt} {mA : M (Rx Empty T)} {mc : M Bool} {mR : M (Rx S T)} (hc : DT X E G c mc) (hA : DB X E G A mA (Rx.oc noG Δ)) (hR : DB X E G rest mR (Rx.oc Γ Δ)) :
    DB X E G (.If c A [] pos :: rest) (mc >>= fun b => if b = true then mA >>= fun d => .ok d.up else mR) (Rx.oc Γ Δ) :=
  db_ift (Rx.up (S := S)) hc hA (fun a G' e => by cases a with | go s => cases s | _ => cases e) (fun a => by cases a with | go s => cases s | _ => rfl) hR
/-- if c: raise .. -/
theorem db_ifRs {α : Type} {A : List Stmt} {mA : M Empty} {mc : M Bool} {mR : M α} {post : α → Oc} (hc : DT X E G c mc) (hA : DB X E G A mA (fun e => nomatch e)) (hR : DB X E G rest mR post) :
    DB X E G (.If c A [] pos :: rest) (mc >>= fun b => if b = true then mA >>= fun d => nomatch d else mR) post :=
  db_cast (db_ift (fun e : Empty => nomatch e) hc hA (fun a => nomatch a) (fun a => nomatch a) hR) (by
    congr 1
    funext b
    split
    · congr 1
      funext d
      cases d
    · rfl)
theorem db_ifSt {α : Type} {A : List Stmt} {mc : M Bool} {mR : M α} {post : α → Oc} (hc : DT X E G c mc) (hR : DB X E G rest mR post) :
    DB X E G (.If c A [] pos :: rest) (mc >>= fun b => if b = true then stuck else mR) post := db_cast (db_ifRs hc (mA := stuck) db_stuck hR) rfl
end
end DL
set_option Elab.async false
set_option linter.all false
set_option maxRecDepth 100000
set_option maxHeartbeats 4000000
/-! DL12: what the printed walks take besides: names of built-ins, a class's fields, its __init__, the head with one more word. -/
namespace DL
open PySem PySem.Spec L2

theorem boot_len_ : bootBuiltins ("len" : Str) = some (.builtin "len") := by decide +kernel
theorem boot_abs_ : bootBuiltins ("abs" : Str) = some (.builtin "abs") := by decide +kernel
theorem boot_max_ : bootBuiltins ("max" : Str) = some (.builtin "max") := by decide +kernel
theorem boot_min_ : bootBuiltins ("min" : Str) = some (.builtin "min") := by decide +kernel
theorem boot_all_ : bootBuiltins ("all" : Str) = some (.builtin "all") := by decide +kernel
theorem boot_any_ : bootBuiltins ("any" : Str) = some (.builtin "any") := by decide +kernel
theorem boot_sorted_ : bootBuiltins ("sorted" : Str) = some (.builtin "sorted") := by decide +kernel
theorem boot_repr_ : bootBuiltins ("repr" : Str) = some (.builtin "repr") := by decide +kernel
theorem boot_isinstance_ : bootBuiltins ("isinstance" : Str) = some (.builtin "isinstance") := by decide +kernel
theorem boot_int_ : bootBuiltins ("int" : Str) = some (.type "int") := by decide +kernel
theorem boot_bool_ : bootBuiltins ("bool" : Str) = some (.type "bool") := by decide +kernel
theorem boot_str_ : bootBuiltins ("str" : Str) = some (.type "str") := by decide +kernel
theorem boot_list_ : bootBuiltins ("list" : Str) = some (.type "list") := by decide +kernel
theorem boot_tuple_ : bootBuiltins ("tuple" : Str) = some (.type "tuple") := by decide +kernel
theorem boot_dict_ : bootBuiltins ("dict" : Str) = some (.type "dict") := by decide +kernel
theorem boot_set_ : bootBuiltins ("set" : Str) = some (.type "set") := by decide +kernel
theorem a1_ {α : Type} (f : D → M α) (a : D) : a1 f [a] = f a := rfl
theorem a2_ {α : Type} (f : D → D → M α) (a b : D) : a2 f [a, b] = f a b := rfl
theorem a3_ {α : Type} (f : D → D → D → M α) (a b c : D) : a3 f [a, b, c] = f a b c := rfl
theorem a4_ {α : Type} (f : D → D → D → D → M α) (a b c d : D) : a4 f [a, b, c, d] = f a b c d := rfl
theorem a5_ {α : Type} (f : D → D → D → D → D → M α) (a b c d e : D) : a5 f [a, b, c, d, e] = f a b c d e := rfl
theorem a6_ {α : Type} (f : D → D → D → D → D → D → M α) (a b c d e g : D) : a6 f [a, b, c, d, e, g] = f a b c d e g := rfl
def AllC (K : PySem.W.Frag) (f : String) : List String → Prop
  | [] => True
  | c :: cs => Cls K (He.ga K (Str.ofString c)) ∧ NoAttr K (He.ga K (Str.ofString c)) (Str.ofString f) ∧ AllC K f cs
theorem AllC.all {K : PySem.W.Frag} {f : String} : ∀ {cs : List String}, AllC K f cs → ∀ c ∈ cs, Cls K (He.ga K (Str.ofString c)) ∧ NoAttr K (He.ga K (Str.ofString c)) (Str.ofString f)
  | [], _, c, h => by cases h
  | d :: cs, ⟨h1, h2, h3⟩, c, h => by
    rcases List.mem_cons.mp h with rfl | h
    · exact ⟨h1, h2⟩
    · exact h3.all c h
section
variable {X : Cx} {E : XK} {G : List Sl} {a b c e : Expr} {ma mb mc : M D} {ta tb : M Bool} {pos : Pos} {F H : Hp} {st : Stmt} {rest body : List Stmt}
theorem pe_ty_ {T : String} {x : Str} (hg : Gl X x) (hm : X.mg x = none) (hv : bootBuiltins x = some (.type T)) (hn : x ≠ "__name__" := by decide) (hd : (x == ("__debug__" : Str)) = false := by decide) : PE X (.Name x pos) (tC (.ty T)) := pe_bltn hg hm hv rfl hn hd
theorem pe_cls_ {x : Str} {C : Addr} (hg : Gl X x) (hm : X.mg x = some (.ref C)) (hd : (x == ("__debug__" : Str)) = false := by decide) : PE X (.Name x pos) (tC (.ref C)) := pe_glob hg hm rfl hd
theorem dt_G (G2 : List Sl) {m : M Bool} (h0 : G = G2) (h : DT X E G2 e m) : DT X E G e m := by
  rw [h0]
  exact h
/-- self.f = e in an __init__ -/
@[simp] abbrev mField (f : String) (l : List (String × D)) (m : M D) : M (List (String × D)) := m >>= fun d => need (decide (l.length < 1000)) >>= fun _ => .ok (putD f d l)
theorem ds_fieldO {x : Str} {i : Nat} {a0 : Addr} {c f : String} {l : List (String × D)} {p1 p2 : Pos} {m : M D} (hs : G[i]? = some (.obj a0 c l)) (pv : PE X (.Name x p1) (tVar i)) (hc : Cls X.K (He.ga X.K (Str.ofString c)) ∧ NoAttr X.K (He.ga X.K (Str.ofString c)) (Str.ofString f)) (h : DE X E G e m)
    (hsw : swapsWith e (some (.Attribute (.Name x p1) (Str.ofString f) p2)) pos.line X.env = pure false) : DS X E G (.Assign [.Attribute (.Name x p1) (Str.ofString f) p2] e pos) (mField f l m) (fun l' => .nx (G.set i (.obj a0 c l'))) := by
  obtain ⟨t, ps, w⟩ := ds_field hs pv hc h hsw
  refine ⟨t, ps, fun B0 B σ F H D x0 g q => w B0 B σ F H D x0 g ?_⟩
  show WpB X.K E B0 B (fun s' => .nx (G.set i s')) (m >>= fun d => need (decide (l.length < 1000)) >>= fun _ => .ok (.obj a0 c (putD f d l))) F D
  cases m with
  | error er => cases er with
    | stuck => exact q.elim
    | exc y => exact q
  | ok d =>
    have q : WpB X.K E B0 B (fun l' => .nx (G.set i (.obj a0 c l'))) (need (decide (l.length < 1000)) >>= fun _ => .ok (putD f d l)) F D := q
    show WpB X.K E B0 B (fun s' => .nx (G.set i s')) (need (decide (l.length < 1000)) >>= fun _ => .ok (.obj a0 c (putD f d l))) F D
    cases hd : decide (l.length < 1000) with
    | false =>
      exfalso
      rw [hd] at q
      exact q
    | true =>
      rw [hd] at q
      exact q
end
/-! ### what a law may let out, whatever the world -/
def CXA (P : Program) : CXT := fun outer H s E u s' => ∃ w, L2.CX P w outer H s E u s'
theorem CXA.no {P : Program} {H : Hp} {s : Shared} {e : Value} {s' : Shared} (h : CXA P [] H s (fun _ _ _ => False) e s') : False := by
  obtain ⟨w, a, B, H', cls, d, h⟩ := h
  exact h.2.2.2.2.2.2.2
theorem fn_any {P : Program} {w : World} {K : PySem.W.Frag} {mg : Str → Option Value} {base : Heap} {k : Nat} {f : Addr} {fd : FuncData} {ps : List Str} {sp : Sp} (F : FnOk P w K mg base (L2.CX P w) k f fd ps sp) : FnOk P w K mg base (CXA P) k f fd ps sp :=
  ⟨F.len, fun A outer s H args us vs Q E h1 h2 h3 h4 h5 => codeAny_mono (F.run A outer s H args us vs Q E h1 h2 h3 h4 h5) fun r s' h => by
    cases r with
    | ok o => cases o with
      | ret u => exact h
      | _ => exact h.elim
    | error e => exact ⟨w, h⟩⟩
/-! ### the head's facts, with a word of one's own -/
abbrev AlE : Type := He.AlD × Bool
def obsE (n : Nat) (fa : List He.Fa) (fn : List He.DefD) (ex : PySem.W.Frag → Bool) (g : Addr → Option Obj) : AlE := (He.obsD fa fn (He.frG g (He.asD g n)), ex (He.frG g (He.asD g n)))
def SaysE (fa : List He.Fa) (fn : List He.DefD) (ex : PySem.W.Frag → Bool) (K : PySem.W.Frag) : Prop := He.SaysD fa fn K ∧ ex K = true
def hookE (n : Nat) (fa : List He.Fa) (fn : List He.DefD) (ex : PySem.W.Frag → Bool) : PySem.W.Hook where
  α := AlE
  obs := fun s => obsE n fa fn ex s.heap.get?
  val := fun _ => (He.valD fn, true)
  says := fun _ h => ∃ K : PySem.W.Frag, K.In h ∧ SaysE fa fn ex K
  of := fun _ _ e => ⟨_, He.frG_in, congrArg (fun z : AlE => z.1) e, congrArg (fun z : AlE => z.2) e⟩
  keeps := fun _ _ _ ⟨K, hK, c⟩ k => ⟨K, PySem.W.Frag.In.keeps hK k, c⟩
theorem obsE_eq {n : Nat} {fa : List He.Fa} {fn : List He.DefD} {ex : PySem.W.Frag → Bool} {g : Addr → Option Obj} {s : Shared} (h : ∀ a, g a = s.heap.get? a) : obsE n fa fn ex g = (hookE n fa fn ex).obs s := by
  have e : g = s.heap.get? := funext h
  rw [e] <;> rfl
/-- what isinstance(x, C) asks of a class C of one's own -/
def insB (K : PySem.W.Frag) (C : Addr) : Bool := decide (PySem.W.findIn K (.ref C) "__class__" = some (some (.builtin "object.__class__"))) && (decide (PySem.W.specialIn K (.builtin "object.__class__") "__get__" = some (some (.builtin "getset_descriptor.__get__"))) &&
  (decide (PySem.W.takesIn K (.builtin "object.__class__") = some true) && (decide (PySem.W.mroIn K C (.type "object") = some true) && decide (PySem.W.kitOne K (.ref C) (.ref C) = some true))))
theorem insB_ok {K : PySem.W.Frag} {C : Addr} (hc : Cls K C) (h : insB K C = true) : C8.InsC K C := by
  unfold insB at h
  obtain ⟨h1, h⟩ := and2 h
  obtain ⟨h2, h⟩ := and2 h
  obtain ⟨h3, h⟩ := and2 h
  obtain ⟨h4, h5⟩ := and2 h
  exact ⟨hc, of_decide_eq_true h1, of_decide_eq_true h2, of_decide_eq_true h3, of_decide_eq_true h4, of_decide_eq_true h5⟩
end DL
set_option Elab.async false
set_option linter.all false
set_option maxRecDepth 100000
set_option maxHeartbeats 4000000
/-! DM1: how the mirrors are read: plain laws. -/
namespace DL
open PySem L2
section
variable {α β : Type}
@[simp] theorem okb (a : α) (f : α → M β) : ((.ok a : M α) >>= f) = f a := rfl
@[simp] theorem erb (e : Er) (f : α → M β) : ((.error e : M α) >>= f) = .error e := rfl
@[simp] theorem need_t : need true = .ok () := rfl
@[simp] theorem need_f : need false = stuck := rfl

variable {i j : Int} {l m : List D} {x y : Str} {a b : Bool}
@[simp] theorem f1_1 (f : D → M D) (x : D) : f1 f [x] = f x := rfl
@[simp] theorem f2_2 (f : D → D → M D) (x y : D) : f2 f [x, y] = f x y := rfl
@[simp] theorem add_ii : D.add (.int i) (.int j) = .ok (.int (i + j)) := rfl
@[simp] theorem sub_ii : D.sub (.int i) (.int j) = .ok (.int (i - j)) := rfl
@[simp] theorem mul_ii : D.mul (.int i) (.int j) = (need (decide ((-(2 ^ 64) < i ∧ i < 2 ^ 64) ∨ (-(2 ^ 64) < j ∧ j < 2 ^ 64))) >>= fun _ => .ok (.int (i * j))) := rfl
@[simp] theorem mod_ii : D.mod (.int i) (.int j) = (need (decide (0 < j)) >>= fun _ => .ok (.int (i % j))) := rfl
@[simp] theorem fdiv_ii : D.fdiv (.int i) (.int j) = (need (decide (0 < j ∧ j < 1073741824)) >>= fun _ => .ok (.int (i / j))) := rfl
@[simp] theorem pow_ii : D.pow (.int i) (.int j) = (need (decide (0 ≤ j ∧ j ≤ 1000000 ∧ i.natAbs < 2 ^ 64)) >>= fun _ => .ok (.int (i ^ j.toNat))) := rfl
@[simp] theorem neg_i : D.neg (.int i) = .ok (.int (-i)) := rfl
@[simp] theorem toInt_i : D.toInt (.int i) = .ok (.int i) := rfl
@[simp] theorem abs_i : D.abs (.int i) = .ok (.int (if i < 0 then -i else i)) := rfl
@[simp] theorem lt_ii : D.lt (.int i) (.int j) = .ok (decide (i < j)) := rfl
@[simp] theorem le_ii : D.le (.int i) (.int j) = .ok (decide (i ≤ j)) := rfl
@[simp] theorem gt_ii : D.gt (.int i) (.int j) = .ok (decide (j < i)) := rfl
@[simp] theorem ge_ii : D.ge (.int i) (.int j) = .ok (decide (j ≤ i)) := rfl
@[simp] theorem max_ii : D.max2 (.int i) (.int j) = .ok (.int (if j > i then j else i)) := rfl
@[simp] theorem min_ii : D.min2 (.int i) (.int j) = .ok (.int (if j < i then j else i)) := rfl
@[simp] theorem len_l : D.len (.lst l) = .ok (.int l.length) := rfl
@[simp] theorem len_t : D.len (.tup l) = .ok (.int l.length) := rfl
@[simp] theorem len_scr {l : List Int} : D.len (.scr l) = .ok (.int l.length) := rfl
@[simp] theorem len_s : D.len (.str x) = (need (decide (x.length ≤ sizeLine)) >>= fun _ => .ok (.int x.length)) := rfl
@[simp] theorem tru_b : D.tru (.bl a) = .ok a := rfl
@[simp] theorem tru_i : D.tru (.int i) = .ok (i != 0) := rfl
@[simp] theorem tru_l : D.tru (.lst l) = .ok (!l.isEmpty) := rfl
@[simp] theorem tru_t : D.tru (.tup l) = .ok (!l.isEmpty) := rfl
@[simp] theorem items_l : D.items (.lst l) = .ok l := rfl
@[simp] theorem items_t : D.items (.tup l) = .ok l := rfl
@[simp] theorem items_s : D.items (.str x) = .ok (x.cps.toList.map fun c => D.str ⟨#[c]⟩) := rfl
@[simp] theorem bnd_i : D.bnd (.int i) = .ok (some i) := rfl
@[simp] theorem isN_n {d : D} : D.isN d .non = .ok d.isNon := rfl
@[simp] theorem notN_n {d : D} : D.notN d .non = .ok (!d.isNon) := rfl
@[simp] theorem isNon_n : D.isNon .non = true := rfl
@[simp] theorem isNon_l : D.isNon (.lst l) = false := rfl
@[simp] theorem isNon_t : D.isNon (.tup l) = false := rfl
@[simp] theorem isNon_i : D.isNon (.int i) = false := rfl
@[simp] theorem isNon_s : D.isNon (.str x) = false := rfl
@[simp] theorem bD_ok : bD (.ok a) = .ok (.bl a) := rfl
@[simp] theorem mkLst_l : D.mkLst l = (need (decide (l.length ≤ sizeLine)) >>= fun _ => .ok (.lst l)) := rfl
@[simp] theorem mkTup_l : D.mkTup l = (need (decide (l.length ≤ sizeLine)) >>= fun _ => .ok (.tup l)) := rfl
@[simp] theorem toTup_l : D.toTup (.lst l) = .ok (.tup l) := rfl
@[simp] theorem toTup_t : D.toTup (.tup l) = .ok (.tup l) := rfl
@[simp] theorem toList_l : D.toList (.lst l) = .ok (.lst l) := rfl
@[simp] theorem toList_t : D.toList (.tup l) = .ok (.lst l) := rfl
@[simp] theorem nList_l : nList (.ok [.lst l]) = .ok l := rfl
@[simp] theorem nList_t : nList (.ok [.tup l]) = .ok l := rfl
@[simp] theorem sl_l {lo hi : Option Int} : D.sl (.lst l) lo hi = .ok (.lst (cutL l lo hi)) := rfl
@[simp] theorem sl_t {lo hi : Option Int} : D.sl (.tup l) lo hi = .ok (.tup (cutL l lo hi)) := rfl
@[simp] theorem sl_scr {l : List Int} {lo hi : Option Int} : D.sl (.scr l) lo hi = .ok (.lst ((cutL l lo hi).map D.int)) := rfl
@[simp] theorem sl_s {lo hi : Option Int} : D.sl (.str x) lo hi = (need (decide (x.length ≤ sizeLine)) >>= fun _ => .ok (.str (cutS x lo hi))) := rfl
@[simp] theorem add_ss : D.add (.str x) (.str y) = (need (decide (x.length + y.length ≤ sizeLine)) >>= fun _ => .ok (.str (x ++ y))) := rfl
@[simp] theorem add_ll : D.add (.lst l) (.lst m) = (need (decide (l.length + m.length ≤ sizeLine)) >>= fun _ => .ok (.lst (l ++ m))) := rfl
@[simp] theorem add_tt : D.add (.tup l) (.tup m) = (need (decide (l.length + m.length ≤ sizeLine)) >>= fun _ => .ok (.tup (l ++ m))) := rfl
@[simp] theorem range1_i : D.range1 [.int j] = (need (smallI j) >>= fun _ => .ok (rangeL 0 j.toNat)) := rfl
@[simp] theorem range2_i : D.range2 [.int i, .int j] = (need (smallI i && smallI j) >>= fun _ => .ok (rangeL i (j - i).toNat)) := rfl
/-- an item -/
theorem ix_nat {n : Nat} {d : D} (h : l[n]? = some d) (e : i = (n : Int)) : D.ix (.lst l) (.int i) = .ok d := by
  subst e
  show (match atI l (n : Int) with | some d => (.ok d : M D) | none => stuck) = _
  have : atI l (n : Int) = some d := by
    have hl := (List.getElem?_eq_some_iff.mp h).1
    have e : ixN l.length (n : Int) = some n := by
      unfold ixN
      simp
      omega
    show (ixN l.length (n : Int)).bind (fun j => l[j]?) = some d
    rw [e]
    exact h
  rw [this]
theorem ix_natT {n : Nat} {d : D} (h : l[n]? = some d) (e : i = (n : Int)) : D.ix (.tup l) (.int i) = .ok d := ix_nat (l := l) h e
end
/-! ### slices -/
section
variable {α : Type}
theorem cut_take (xs : List α) {i : Int} (h : 0 ≤ i) : cutL xs none (some i) = xs.take i.toNat := by
  have e1 : HT.sIx xs.length 0 none = 0 := rfl
  have e2 : HT.sIx xs.length xs.length (some i) = min i.toNat xs.length := by
    unfold HT.sIx
    simp
    omega
  unfold cutL
  rw [e1, e2, List.drop_zero, Nat.sub_zero]
  apply List.ext_getElem?
  intro k
  rw [List.getElem?_take, List.getElem?_take]
  by_cases h1 : k < xs.length
  · by_cases h2 : k < i.toNat
    · rw [if_pos (by omega), if_pos h2]
    · rw [if_neg (by omega), if_neg h2]
  · rw [List.getElem?_eq_none (by omega)]
    simp
theorem cut_drop (xs : List α) {i : Int} (h : 0 ≤ i) : cutL xs (some i) none = xs.drop i.toNat := by
  have e1 : HT.sIx xs.length xs.length none = xs.length := rfl
  have e2 : HT.sIx xs.length 0 (some i) = min i.toNat xs.length := by
    unfold HT.sIx
    simp
    omega
  unfold cutL
  rw [e1, e2]
  by_cases h1 : i.toNat ≤ xs.length
  · rw [Nat.min_eq_left h1, List.take_of_length_le (by rw [List.length_drop]; omega)]
  · rw [Nat.min_eq_right (by omega), List.drop_eq_nil_of_le (Nat.le_refl _), List.drop_eq_nil_of_le (by omega), List.take_nil]
end
/-! ### loops -/
section
variable {S : Type}
theorem loopF_nil {f : S → D → M S} {s : S} : loopF f [] s = .ok s := rfl
theorem loopF_cons {f : S → D → M S} {s : S} {d : D} {ds : List D} : loopF f (d :: ds) s = (f s d >>= fun s => loopF f ds s) := rfl
/-- a loop whose turns all pass: the invariant by the number of turns -/
theorem loopF_inv {f : S → D → M S} (I : Nat → S → Prop) : ∀ (ds : List D) (k : Nat) (s0 : S), I k s0 → (∀ i d s, ds[i]? = some d → I (k + i) s → ∃ s', f s d = .ok s' ∧ I (k + i + 1) s') → ∃ s', loopF f ds s0 = .ok s' ∧ I (k + ds.length) s'
  | [], k, s0, h, _ => ⟨s0, rfl, h⟩
  | d :: ds, k, s0, h, st => by
    obtain ⟨s1, e1, h1⟩ := st 0 d s0 rfl h
    obtain ⟨s', e2, h2⟩ := loopF_inv I ds (k + 1) s1 h1 (fun i d' s hd hi => by
      have hi' : I (k + (i + 1)) s := by
        have e : k + (i + 1) = k + 1 + i := by omega
        rw [e]
        exact hi
      obtain ⟨s', e, h'⟩ := st (i + 1) d' s (by simpa using hd) hi'
      refine ⟨s', e, ?_⟩
      have e : k + 1 + i + 1 = k + (i + 1) + 1 := by omega
      rw [e]
      exact h')
    refine ⟨s', ?_, ?_⟩
    · rw [loopF_cons, e1]
      exact e2
    · have e : k + (d :: ds).length = k + 1 + ds.length := by simp; omega
      rw [e]
      exact h2
/-- each turn does what a plain step does -/
theorem loopF_fold {T : Type} {f : S → D → M S} (r : T → S) (g : T → D → T) (P : T → Prop) (Q : D → Prop) (hg : ∀ t d, P t → Q d → f (r t) d = .ok (r (g t d)) ∧ P (g t d)) : ∀ (ds : List D) (t : T), P t → (∀ d ∈ ds, Q d) → loopF f ds (r t) = .ok (r (ds.foldl g t)) ∧ P (ds.foldl g t)
  | [], t, h, _ => ⟨rfl, h⟩
  | d :: ds, t, h, q => by
    obtain ⟨e, h'⟩ := hg t d h (q d (List.mem_cons_self ..))
    obtain ⟨e2, h2⟩ := loopF_fold r g P Q hg ds (g t d) h' (fun x hx => q x (List.mem_cons_of_mem _ hx))
    exact ⟨by rw [loopF_cons, e]; exact e2, h2⟩
theorem rangeL_len (lo : Int) (n : Nat) : (rangeL lo n).length = n := by simp [rangeL]
theorem rangeL_get {lo : Int} {n i : Nat} {d : D} (h : (rangeL lo n)[i]? = some d) : d = .int (lo + (i : Int)) ∧ i < n := by
  unfold rangeL at h
  rw [List.getElem?_map] at h
  by_cases hi : i < n
  · rw [List.getElem?_range hi] at h
    cases h
    exact ⟨rfl, hi⟩
  · rw [List.getElem?_eq_none (by simpa using hi)] at h
    cases h
theorem small_of {i : Int} (h1 : -4611686018427387904 ≤ i) (h2 : i < 4611686018427387904) : smallI i = true := by
  unfold smallI
  exact decide_eq_true ⟨h1, h2⟩
/-- comprehensions -/
theorem comp_ok {f : D → M (Option D)} {g : D → Option D} : ∀ {ds : List D}, (∀ d ∈ ds, f d = .ok (g d)) → comp f ds = .ok (ds.filterMap g)
  | [], _ => rfl
  | d :: ds, h => by
    have h1 := h d (List.mem_cons_self ..)
    have h2 := comp_ok (f := f) (g := g) (ds := ds) fun x hx => h x (List.mem_cons_of_mem _ hx)
    unfold comp
    rw [h1]
    cases e : g d with
    | none => simp [h2, e]
    | some y =>
      show (comp f ds >>= fun ys => .ok (y :: ys)) = _
      rw [h2]
      simp [e]
theorem comp_map {f : D → M D} {g : D → D} {ds : List D} (h : ∀ d ∈ ds, f d = .ok (g d)) : comp (fElt noT f) ds = .ok (ds.map g) := by
  rw [comp_ok (g := fun d => some (g d)) (fun d hd => by unfold fElt; simp [h d hd])]
  congr 1
  induction ds with
  | nil => rfl
  | cons d ds ih => simp
theorem compL_map {f : D → M D} {g : D → D} {ds : List D} (hl : ds.length ≤ 16777216) (h : ∀ d ∈ ds, f d = .ok (g d)) : compL (fElt noT f) ds = .ok (ds.map g) := by
  unfold compL
  rw [PySem.sizeLine_eq, decide_eq_true hl]
  exact comp_map h
theorem compL_filter {t : D → M Bool} {f : D → M D} {p : D → Bool} {g : D → D} {ds : List D} (hl : ds.length ≤ 16777216) (ht : ∀ d ∈ ds, t d = .ok (p d)) (h : ∀ d ∈ ds, p d = true → f d = .ok (g d)) : compL (fElt t f) ds = .ok ((ds.filter p).map g) := by
  unfold compL
  rw [PySem.sizeLine_eq, decide_eq_true hl]
  show comp _ _ = _
  rw [comp_ok (g := fun d => if p d = true then some (g d) else none) (fun d hd => by
    unfold fElt
    rw [ht d hd]
    cases e : p d with
    | true => simp [h d hd e]
    | false => simp)]
  congr 1
  clear hl ht h
  induction ds with
  | nil => rfl
  | cons d ds ih =>
    rw [List.filterMap_cons]
    cases e : p d with
    | true => simp [e, ih]
    | false => simp [e, ih]
/-- a while loop with a measure -/
theorem whileF_inv {c : S → M Bool} {f : S → M S} (I : S → Prop) (μ : S → Nat) (hc : ∀ s, I s → ∃ b, c s = .ok b ∧ (b = true → ∃ s', f s = .ok s' ∧ I s' ∧ μ s' < μ s)) : ∀ (n : Nat) (s : S), I s → μ s < n → ∃ s', whileF c f n s = .ok s' ∧ I s' ∧ c s' = .ok false
  | 0, s, h, hm => absurd hm (Nat.not_lt_zero _)
  | n + 1, s, h, hm => by
    obtain ⟨b, e, hb⟩ := hc s h
    cases b with
    | false =>
      refine ⟨s, ?_, h, e⟩
      show (c s >>= fun b => if b = true then f s >>= fun s => whileF c f n s else .ok s) = _
      rw [e]
      rfl
    | true =>
      obtain ⟨s', e2, h2, h3⟩ := hb rfl
      obtain ⟨s'', e4, h4, h5⟩ := whileF_inv I μ hc n s' h2 (by omega)
      refine ⟨s'', ?_, h4, h5⟩
      show (c s >>= fun b => if b = true then f s >>= fun s => whileF c f n s else .ok s) = _
      rw [e]
      show (f s >>= fun s => whileF c f n s) = _
      rw [e2]
      exact e4
end
end DL
set_option Elab.async false
set_option linter.all false
set_option maxRecDepth 100000
set_option maxHeartbeats 4000000
/-! DM2: texts, comparisons, comprehensions by plain lists. -/
namespace DL
open PySem L2
theorem need_p {p : Prop} [Decidable p] (h : p) : need (decide p) = .ok () := by
  rw [decide_eq_true h]
  rfl
theorem mul_okl {i j : Int} (h1 : -(2 ^ 64) < i) (h2 : i < 2 ^ 64) : D.mul (.int i) (.int j) = .ok (.int (i * j)) := by
  rw [mul_ii, need_p (.inl ⟨h1, h2⟩)]
  rfl
theorem mul_okr {i j : Int} (h1 : -(2 ^ 64) < j) (h2 : j < 2 ^ 64) : D.mul (.int i) (.int j) = .ok (.int (i * j)) := by
  rw [mul_ii, need_p (.inr ⟨h1, h2⟩)]
  rfl
theorem mod_ok {i j : Int} (h : 0 < j) : D.mod (.int i) (.int j) = .ok (.int (i % j)) := by
  rw [mod_ii, need_p h]
  rfl
abbrev tl (x : Str) : List Nat := TL.tl x
/-- a text of the signs l -/
def mk (l : List Nat) : Str := ⟨l.toArray⟩
@[simp] theorem tl_mk (l : List Nat) : tl (mk l) = l := rfl
@[simp] theorem mk_tl (x : Str) : mk (tl x) = x := TL.mk_tl x
theorem len_mk (l : List Nat) : (mk l).length = l.length := TL.len_tl _
theorem mk_app (l m : List Nat) : mk l ++ mk m = mk (l ++ m) := TL.ext_tl (TL.tl_append _ _)
@[simp] theorem mk_inj {l m : List Nat} : mk l = mk m ↔ l = m := ⟨fun h => congrArg tl h, fun h => h ▸ rfl⟩
theorem str_len (x : Str) : x.length = (tl x).length := TL.len_tl x
theorem tl_cut (z : Str) (lo hi : Option Int) : tl (cutS z lo hi) = cutL (tl z) lo hi := by
  unfold cutS cutL
  rw [TL.len_tl z]
theorem cutS_mk (l : List Nat) (lo hi : Option Int) : cutS (mk l) lo hi = mk (cutL l lo hi) := TL.ext_tl (tl_cut _ _ _)
theorem mem_char (c : Nat) (z : Str) : D.mem (.str ⟨#[c]⟩) (.str z) = .ok (decide (c ∈ tl z)) := rfl
theorem mem_char' (c : Nat) (z : Str) : D.mem (.str (mk [c])) (.str z) = .ok (decide (c ∈ tl z)) := rfl
theorem items_mk (l : List Nat) : D.items (.str (mk l)) = .ok (l.map fun c => D.str (mk [c])) := rfl
theorem items_tl (x : Str) : D.items (.str x) = .ok ((tl x).map fun c => D.str (mk [c])) := rfl
theorem ix_str {x : Str} {n : Nat} {c : Nat} {i : Int} (hl : x.length ≤ 16777216) (h : (tl x)[n]? = some c) (e : i = (n : Int)) : D.ix (.str x) (.int i) = .ok (.str (mk [c])) := by
  subst e
  have hn := (List.getElem?_eq_some_iff.mp h).1
  have e : atI x.cps.toList (n : Int) = some c := by
    have e : ixN (tl x).length (n : Int) = some n := by
      unfold ixN
      simp
      omega
    show (ixN (tl x).length (n : Int)).bind (fun j => (tl x)[j]?) = some c
    rw [e]
    exact h
  show (need (decide (x.length ≤ sizeLine)) >>= fun _ => match atI x.cps.toList (n : Int) with | some c => (.ok (.str ⟨#[c]⟩) : M D) | none => stuck) = _
  rw [PySem.sizeLine_eq, decide_eq_true hl, e]
  rfl
/-! ### comprehensions over a mapped list -/
section
variable {α : Type}
theorem compL_mapA {f : D → M D} {k : α → D} {g : α → D} {l : List α} (hl : l.length ≤ 16777216) (h : ∀ a ∈ l, f (k a) = .ok (g a)) : compL (fElt noT f) (l.map k) = .ok (l.map g) := by
  unfold compL
  rw [PySem.sizeLine_eq, List.length_map, decide_eq_true hl]
  show comp _ _ = _
  clear hl
  induction l with
  | nil => rfl
  | cons a l ih =>
    have h1 := h a (List.mem_cons_self ..)
    have h2 := ih fun x hx => h x (List.mem_cons_of_mem _ hx)
    rw [List.map_cons]
    unfold comp
    have e : fElt noT f (k a) = .ok (some (g a)) := by
      unfold fElt
      simp [h1]
    rw [e]
    show (comp (fElt noT f) (l.map k) >>= fun ys => .ok (g a :: ys)) = _
    rw [h2]
    rfl
theorem compL_filterA {t : D → M Bool} {f : D → M D} {k : α → D} {p : α → Bool} {g : α → D} {l : List α} (hl : l.length ≤ 16777216) (ht : ∀ a ∈ l, t (k a) = .ok (p a)) (h : ∀ a ∈ l, p a = true → f (k a) = .ok (g a)) : compL (fElt t f) (l.map k) = .ok ((l.filter p).map g) := by
  unfold compL
  rw [PySem.sizeLine_eq, List.length_map, decide_eq_true hl]
  show comp _ _ = _
  clear hl
  induction l with
  | nil => rfl
  | cons a l ih =>
    have t1 := ht a (List.mem_cons_self ..)
    have h1 := h a (List.mem_cons_self ..)
    have h2 := ih (fun x hx => ht x (List.mem_cons_of_mem _ hx)) fun x hx => h x (List.mem_cons_of_mem _ hx)
    rw [List.map_cons]
    unfold comp
    cases e : p a with
    | true =>
      have e2 : fElt t f (k a) = .ok (some (g a)) := by
        unfold fElt
        simp [h1 e, t1, e]
      rw [e2, List.filter_cons, if_pos e]
      show (comp (fElt t f) (l.map k) >>= fun ys => .ok (g a :: ys)) = _
      rw [h2]
      rfl
    | false =>
      have e2 : fElt t f (k a) = .ok none := by
        unfold fElt
        simp [t1, e]
      rw [e2, List.filter_cons, if_neg (by rw [e]; exact Bool.false_ne_true)]
      exact h2
theorem bools_map {p : α → Bool} : ∀ l : List α, D.bools (l.map fun a => D.bl (p a)) = some (l.map p)
  | [] => rfl
  | a :: l => by
    show (D.bools (l.map fun a => D.bl (p a))).map (p a :: ·) = _
    rw [bools_map l]
    rfl
theorem all_map {p : α → Bool} (l : List α) : D.all (.lst (l.map fun a => D.bl (p a))) = .ok (.bl (l.all p)) := by
  show (match D.bools (l.map fun a => D.bl (p a)) with | some bs => (.ok (.bl (bs.all id)) : M D) | none => stuck) = _
  rw [bools_map]
  simp
theorem any_map {p : α → Bool} (l : List α) : D.any (.lst (l.map fun a => D.bl (p a))) = .ok (.bl (l.any p)) := by
  show (match D.bools (l.map fun a => D.bl (p a)) with | some bs => (.ok (.bl (bs.any id)) : M D) | none => stuck) = _
  rw [bools_map]
  simp
theorem strs_map : ∀ l : List Str, D.strs (l.map D.str) = some l
  | [] => rfl
  | a :: l => by
    show (D.strs (l.map D.str)).map (a :: ·) = _
    rw [strs_map l]
    rfl
end
/-! ### joined and split -/
@[simp] theorem isStr_s {x : Str} : D.isStr (.str x) = true := rfl
@[simp] theorem meth_s {x : Str} {l : List D} {f : D → List D → M D} : meth D.isStr (.ok (.str x)) (.ok l) f = f (.str x) l := rfl
@[simp] theorem m1_1 {x y : D} {f : D → D → M D} : m1 f x [y] = f x y := rfl
theorem join_ok {y : Str} {l : List Str} (h : (l.map (·.length)).sum + l.length * y.length ≤ 16777216) : D.join (.str y) (.lst (l.map D.str)) = .ok (.str (Str.join y l)) := by
  unfold D.join
  simp only [strs_map]
  show (need (decide ((l.map (·.length)).sum + l.length * y.length ≤ 16777216)) >>= fun _ => (.ok (.str (Txt.join y l)) : M D)) = _
  rw [decide_eq_true h, TL.join_eq]
  rfl
theorem join_okT {y : Str} {l : List Str} (h : (l.map (·.length)).sum + l.length * y.length ≤ 16777216) : D.join (.str y) (.tup (l.map D.str)) = .ok (.str (Str.join y l)) := join_ok h
theorem split_ok {x y : Str} (hy : y.length ≠ 0) (h : x.length + 2 ≤ 16777216) : D.split (.str x) (.str y) = .ok (.lst ((Txt.split x y).map D.str)) := by
  show (need (!(y.length == 0) && decide (x.length + 2 ≤ sizeLine)) >>= fun _ => (.ok (.lst ((Txt.split x y).map D.str)) : M D)) = _
  have e : (!(y.length == 0) && decide (x.length + 2 ≤ sizeLine)) = true := by
    rw [PySem.sizeLine_eq, decide_eq_true h]
    simp [hy]
  rw [e]
  rfl
theorem joinL_nil : ∀ l : List (List Nat), TL.joinL [] l = l.flatten
  | [] => rfl
  | [p] => by simp [TL.joinL]
  | p :: q :: r => by
    show p ++ ([] ++ TL.joinL [] (q :: r)) = _
    rw [joinL_nil (q :: r)]
    simp
theorem join0 (l : List Str) : Str.join "" l = mk (l.map tl).flatten := by
  apply TL.ext_tl
  rw [TL.tl_join]
  have : TL.tl ("" : Str) = [] := by decide
  rw [this, joinL_nil]
  rfl
theorem joinL_len (S : List Nat) : ∀ l : List (List Nat), (TL.joinL S l).length ≤ (l.map fun p : List Nat => p.length).sum + l.length * S.length
  | [] => by simp [TL.joinL]
  | [p] => by simp [TL.joinL]
  | p :: q :: r => by
    have := joinL_len S (q :: r)
    have e : TL.joinL S (p :: q :: r) = p ++ (S ++ TL.joinL S (q :: r)) := rfl
    rw [e, List.length_append, List.length_append]
    simp only [List.map_cons, List.sum_cons, List.length_cons] at this ⊢
    have e2 : (r.length + 1 + 1) * S.length = (r.length + 1) * S.length + S.length := Nat.succ_mul _ _
    omega
/-! ### equal -/
theorem eq_ss {x y : Str} : D.eq (.str x) (.str y) = .ok (decide (x = y)) := by
  unfold D.eq
  simp [D.shp, D.leaf, D.beq]
theorem eq_ii {i j : Int} : D.eq (.int i) (.int j) = .ok (decide (i = j)) := by
  unfold D.eq
  simp [D.shp, D.leaf, D.beq]
theorem eq_of {x y : D} (hx : x.shp 20 = true) (hy : y.shp 20 = true) : D.eq x y = .ok (D.beq x y) := by
  unfold D.eq
  rw [hx, hy]
  rfl
theorem ne_of {x y : D} (hx : x.shp 20 = true) (hy : y.shp 20 = true) : D.ne x y = .ok (!D.beq x y) := by
  unfold D.ne
  rw [eq_of hx hy]
  rfl
theorem ne_ss {x y : Str} : D.ne (.str x) (.str y) = .ok (!decide (x = y)) := by
  unfold D.ne
  rw [eq_ss]
  rfl
theorem ne_ii {x y : Int} : D.ne (.int x) (.int y) = .ok (!decide (x = y)) := by
  unfold D.ne
  rw [eq_ii]
  rfl
theorem shp_leaf {d : D} (h : d.leaf = true) : ∀ n, d.shp n = true
  | 0 => h
  | n + 1 => by cases d <;> first | exact h | cases h
theorem shp_mono : ∀ {n : Nat} {d : D}, d.shp n = true → d.shp (n + 1) = true
  | n, d, h => by
    induction n generalizing d with
    | zero => exact shp_leaf h 1
    | succ n ih =>
      rcases D.shp_cases h with h1 | ⟨m, l, e, hd, hl⟩
      · exact shp_leaf h1 _
      · cases e
        have : l.all (D.shp (n + 1)) = true := List.all_eq_true.mpr fun x hx => ih _ (List.all_eq_true.mp hl x hx)
        rcases hd with rfl | rfl <;> exact this
theorem shp_le {n m : Nat} {d : D} (h : d.shp n = true) (hm : n ≤ m) : d.shp m = true := by
  induction m with
  | zero =>
    have : n = 0 := by omega
    subst this
    exact h
  | succ m ih =>
    by_cases e : n = m + 1
    · subst e
      exact h
    · exact shp_mono (ih (by omega))
theorem beq_refl : ∀ {n : Nat} {d : D}, d.shp n = true → D.beq d d = true
  | n, d, h => by
    induction n generalizing d with
    | zero => rcases D.leaf_cases h with rfl | ⟨b, rfl⟩ | ⟨i, rfl⟩ | ⟨x, rfl⟩ <;> simp [D.beq]
    | succ n ih =>
      have q : ∀ l : List D, l.all (D.shp n) = true → D.beqL l l = true := by
        intro l
        induction l with
        | nil => intro _; rfl
        | cons a l ihl =>
          intro h
          rw [List.all_cons, Bool.and_eq_true] at h
          simp only [D.beqL]
          rw [ih _ h.1, ihl h.2]
          rfl
      rcases D.shp_cases h with h1 | ⟨m, l, e, hd, hl⟩
      · rcases D.leaf_cases h1 with rfl | ⟨b, rfl⟩ | ⟨i, rfl⟩ | ⟨x, rfl⟩ <;> simp [D.beq]
      · cases e
        rcases hd with rfl | rfl <;> (simp only [D.beq]; exact q l hl)
theorem ne_self {d : D} (h : d.shp 20 = true) : D.ne d d = .ok false := by
  rw [ne_of h h, beq_refl h]
  rfl
theorem eq_self {d : D} (h : d.shp 20 = true) : D.eq d d = .ok true := by rw [eq_of h h, beq_refl h]
theorem shp_lst {l : List D} {n : Nat} (h : ∀ d ∈ l, d.shp n = true) : (D.lst l).shp (n + 1) = true := List.all_eq_true.mpr h
theorem shp_tup {l : List D} {n : Nat} (h : ∀ d ∈ l, d.shp n = true) : (D.tup l).shp (n + 1) = true := List.all_eq_true.mpr h
@[simp] theorem shp_str {x : Str} {n : Nat} : (D.str x).shp n = true := shp_leaf rfl n
@[simp] theorem shp_int {x : Int} {n : Nat} : (D.int x).shp n = true := shp_leaf rfl n
@[simp] theorem shp_non {n : Nat} : (D.non).shp n = true := shp_leaf rfl n
@[simp] theorem shp_bl {b : Bool} {n : Nat} : (D.bl b).shp n = true := shp_leaf rfl n
/-! ### numbers in texts -/
theorem toStr_nat {n : Nat} (h : n < 1000000000000) : D.toStr (.int n) = .ok (.str (mk (TL.numL n))) := by
  have hl : (n : Int).natAbs.log2 < 1920 := by
    have h2 : n.log2 ≤ n := Nat.log2_le_self n
    by_cases h0 : n = 0
    · subst h0
      decide
    · have : n.log2 < 40 := (Nat.log2_lt h0).mpr (by omega)
      simp
      omega
  show (need (decide ((n : Int).natAbs.log2 < 1920)) >>= fun _ => (.ok (.str (toString (n : Int))) : M D)) = _
  rw [decide_eq_true hl]
  show (.ok (.str (Str.ofString (toString (n : Int)))) : M D) = _
  congr 2
  exact TL.ext_tl (TL.tl_num n)
theorem fmt_nat {n : Nat} (h : n < 1000000000000) : D.fmt (.int n) = .ok (.str (mk (TL.numL n))) := toStr_nat h
theorem fmt_str {x : Str} (h : x.length ≤ 16777216) : D.fmt (.str x) = .ok (.str x) := by
  show (need (decide (x.length ≤ sizeLine)) >>= fun _ => (.ok (.str x) : M D)) = _
  rw [PySem.sizeLine_eq, decide_eq_true h]
  rfl
theorem toInt_num {n : Nat} (h : n < 10 ^ 600) : D.toInt (.str (mk (TL.numL n))) = .ok (.int n) := by
  have hl : (TL.numL n).length ≤ 600 := TL.numL_len (by decide) h
  have e : PySem.intText? (mk (TL.numL n)) = some (n : Int) := by
    have : mk (TL.numL n) = Str.ofString (toString ((n : Nat) : Int)) := TL.ext_tl (TL.tl_num n).symm
    rw [this]
    exact TL.int_num (by omega)
  show (match PySem.intText? (mk (TL.numL n)) with | some n' => (need (decide ((mk (TL.numL n)).length ≤ 640)) >>= fun _ => (.ok (.int n') : M D)) | none => stuck) = _
  rw [e]
  show (need (decide ((mk (TL.numL n)).length ≤ 640)) >>= fun _ => (.ok (.int n) : M D)) = _
  rw [len_mk, decide_eq_true (by omega : (TL.numL n).length ≤ 640)]
  rfl
/-! ### f-strings -/
theorem fjoin_nil {acc : Str} : fjoin acc [] = .ok (.str acc) := rfl
theorem fjoin_cons {acc x : Str} {ms : List (M D)} (h : (acc ++ x).length ≤ 16777216) : fjoin acc (.ok (.str x) :: ms) = fjoin (acc ++ x) ms := by
  show (need (decide ((acc ++ x).length ≤ sizeLine)) >>= fun _ => fjoin (acc ++ x) ms) = _
  rw [PySem.sizeLine_eq, decide_eq_true h]
  rfl
end DL
set_option Elab.async false
set_option linter.all false
set_option maxRecDepth 100000
set_option maxHeartbeats 4000000
namespace LawWalk
open PySem PySem.Spec L2 DL
def top (i : Nat) : Stmt := PySem.Challenge.pw_waypapers_k67_paper_texts.main.body.getD i (.Pass ⟨0, 0, 0, 0⟩)
def d_law_row : He.DefD := ⟨("_law_row", none), "_law_row", "_law_row", defArgs (top 16), defBody (top 16), defScope (top 16), [], []⟩
def d_law_numbers : He.DefD := ⟨("_law_numbers", none), "_law_numbers", "_law_numbers", defArgs (top 17), defBody (top 17), defScope (top 17), [], []⟩
def d_law_names : He.DefD := ⟨("_law_names", none), "_law_names", "_law_names", defArgs (top 18), defBody (top 18), defScope (top 18), [], []⟩
def d_law_paper : He.DefD := ⟨("_law_paper", none), "_law_paper", "_law_paper", defArgs (top 19), defBody (top 19), defScope (top 19), [], []⟩
def d_law_text : He.DefD := ⟨("_law_text", none), "_law_text", "_law_text", defArgs (top 20), defBody (top 20), defScope (top 20), [], []⟩
def d_Paper_init : He.DefD := ⟨("Paper", some "__init__"), "__init__", "Paper.__init__", defArgs (inClass (top 8) 0), defBody (inClass (top 8) 0), defScope (inClass (top 8) 0), [], []⟩
def d_paper_text : He.DefD := ⟨("paper_text", none), "paper_text", "paper_text", defArgs (top 12), defBody (top 12), defScope (top 12), [], []⟩
def d_read_number : He.DefD := ⟨("read_number", none), "read_number", "read_number", defArgs (top 13), defBody (top 13), defScope (top 13), [], []⟩
def d_is_name : He.DefD := ⟨("is_name", none), "is_name", "is_name", defArgs (top 6), defBody (top 6), defScope (top 6), [], []⟩
def d_parse_paper : He.DefD := ⟨("parse_paper", none), "parse_paper", "parse_paper", defArgs (top 14), defBody (top 14), defScope (top 14), [], []⟩
def d_law : He.DefD := ⟨("law", none), "law", "law", defArgs (top 21), defBody (top 21), defScope (top 21), [], []⟩
def fn : List He.DefD := [d_law_row, d_law_numbers, d_law_names, d_law_paper, d_law_text, d_Paper_init, d_paper_text, d_read_number, d_is_name, d_parse_paper, d_law]
def fa : List He.Fa := [.free "abs", .free "int", .free "range", .free "len", .free "max", .glo "_law_row", .free "min", .glo "_law_names", .free "str", .free "tuple", .cls "Paper", .noat "Paper" "lows", .noat "Paper" "arrival", .noat "Paper" "roads", .str "DIGITS" "0123456789", .free "all", .int "MOST_DIGITS" (9), .int "MOST_NAME_CHARS" (12), .str "NAME_CHARS" "abcdefghijklmnopqrstuvwxyz0123456789", .glo "read_number", .free "enumerate", .glo "is_name", .mkr "Paper", .glo "Paper", .glo "_law_numbers", .glo "_law_paper", .glo "_law_text", .glo "paper_text", .free "isinstance", .glo "parse_paper", .free "list", .free "bool", .glo "law"]
theorem fa_0 : fa[0]? = some (.free "abs") := rfl
theorem fa_1 : fa[1]? = some (.free "int") := rfl
theorem fa_2 : fa[2]? = some (.free "range") := rfl
theorem fa_3 : fa[3]? = some (.free "len") := rfl
theorem fa_4 : fa[4]? = some (.free "max") := rfl
theorem fa_5 : fa[5]? = some (.glo "_law_row") := rfl
theorem fa_6 : fa[6]? = some (.free "min") := rfl
theorem fa_7 : fa[7]? = some (.glo "_law_names") := rfl
theorem fa_8 : fa[8]? = some (.free "str") := rfl
theorem fa_9 : fa[9]? = some (.free "tuple") := rfl
theorem fa_10 : fa[10]? = some (.cls "Paper") := rfl
theorem fa_11 : fa[11]? = some (.noat "Paper" "lows") := rfl
theorem fa_12 : fa[12]? = some (.noat "Paper" "arrival") := rfl
theorem fa_13 : fa[13]? = some (.noat "Paper" "roads") := rfl
theorem fa_14 : fa[14]? = some (.str "DIGITS" "0123456789") := rfl
theorem fa_15 : fa[15]? = some (.free "all") := rfl
theorem fa_16 : fa[16]? = some (.int "MOST_DIGITS" (9)) := rfl
theorem fa_17 : fa[17]? = some (.int "MOST_NAME_CHARS" (12)) := rfl
theorem fa_18 : fa[18]? = some (.str "NAME_CHARS" "abcdefghijklmnopqrstuvwxyz0123456789") := rfl
theorem fa_19 : fa[19]? = some (.glo "read_number") := rfl
theorem fa_20 : fa[20]? = some (.free "enumerate") := rfl
theorem fa_21 : fa[21]? = some (.glo "is_name") := rfl
theorem fa_22 : fa[22]? = some (.mkr "Paper") := rfl
theorem fa_23 : fa[23]? = some (.glo "Paper") := rfl
theorem fa_24 : fa[24]? = some (.glo "_law_numbers") := rfl
theorem fa_25 : fa[25]? = some (.glo "_law_paper") := rfl
theorem fa_26 : fa[26]? = some (.glo "_law_text") := rfl
theorem fa_27 : fa[27]? = some (.glo "paper_text") := rfl
theorem fa_28 : fa[28]? = some (.free "isinstance") := rfl
theorem fa_29 : fa[29]? = some (.glo "parse_paper") := rfl
theorem fa_30 : fa[30]? = some (.free "list") := rfl
theorem fa_31 : fa[31]? = some (.free "bool") := rfl
theorem fa_32 : fa[32]? = some (.glo "law") := rfl
def insC : List Str := ["Paper"]
abbrev DefOk (K : PySem.W.Frag) (d : He.DefD) (fd : FuncData) : Prop := FunD K d.name d.qual d.params d.body d.scope (d.dvs K) (d.kws K) (He.fAd K d.at_) fd
structure Lw (K : PySem.W.Frag) (mg : Str → Option Value) : Prop where
  h : ∃ hp : Heap, K.In hp ∧ hp.Ns mainGlobals mg
  c : He.SaysD fa fn K
  ex : insC.all (fun x => insB K (He.ga K x)) = true
section
variable {K : PySem.W.Frag} {mg : Str → Option Value} (L : Lw K mg) {i : Nat}
include L
theorem Lw.glo {x : Str} (e : fa[i]? = some (.glo x)) : mg x = some (.ref (He.ga K x)) := let ⟨_, X, G⟩ := L.h; He.glo_ok X G (L.c.fact i e)
theorem Lw.free {x : Str} (e : fa[i]? = some (.free x)) : mg x = none := let ⟨_, X, G⟩ := L.h; He.free_ok X G (L.c.fact i e)
theorem Lw.int {x : Str} {v : Int} (e : fa[i]? = some (.int x v)) : ∃ t, mg x = some (.int v t) := let ⟨_, X, G⟩ := L.h; He.int_ok X G (L.c.fact i e)
theorem Lw.str {x z : Str} (e : fa[i]? = some (.str x z)) : ∃ t, mg x = some (.str z t) := let ⟨_, X, G⟩ := L.h; He.str_ok X G (L.c.fact i e)
theorem Lw.cls {x : Str} (e : fa[i]? = some (.cls x)) : Cls K (He.ga K x) := He.cls_ok (L.c.fact i e)
theorem Lw.noat {x f : Str} (e : fa[i]? = some (.noat x f)) : NoAttr K (He.ga K x) f := He.noat_ok (L.c.fact i e)
theorem Lw.mkr {x : Str} (e : fa[i]? = some (.mkr x)) : Mk K (He.ga K x) (He.ma K (He.ga K x) "__init__") := He.mkr_ok (L.c.fact i e)
theorem Lw.insc {x : Str} (e : fa[i]? = some (.cls x)) (h : x ∈ insC) : C8.InsC K (He.ga K x) := insB_ok (L.cls e) (List.all_eq_true.mp L.ex x h)
theorem Lw.ats {cs : List String} {f : String} (h : AllC K f cs) : ∀ c ∈ cs, Cls K (He.ga K (Str.ofString c)) ∧ NoAttr K (He.ga K (Str.ofString c)) (Str.ofString f) := h.all
end
def m_law_row_l1 (cell_1 : D) : (List D × D × D) → D → M (List D × D × D) := fun s k_1 => match s with | (row_here_2, rest_2, mixed_2) => ((B2 D.mod (B1 (f1 D.toInt) (A1 (B2 D.add (B2 D.mul (.ok mixed_2) (.ok (.int 16807))) (B2 D.mul (.ok (.int 271)) (B2 D.add (.ok k_1) (.ok (.int 3))))) A0)) (.ok (.int 2147483629))) >>= fun mixed_3 => (mIf (B2 D.ge (B1 (f1 D.abs) (A1 (.ok cell_1) A0)) (B2 D.pow (.ok (.int 10)) (.ok (.int 18)))) (mPush row_here_2 (B2 D.mod (B1 (f1 D.toInt) (A1 (.ok rest_2) A0)) (.ok (.int 1009))) >>= fun row_here_3 => ((B2 D.fdiv (.ok rest_2) (.ok (.int 1009))) >>= fun rest_3 => (.ok (row_here_3, rest_3, mixed_3)))) (mPush row_here_2 (B2 D.mod (B1 (f1 D.toInt) (A1 (B2 D.fdiv (.ok mixed_3) (.ok (.int 7))) A0)) (.ok (.int 1009))) >>= fun row_here_4 => (.ok (row_here_4, rest_2, mixed_3)))))
def g_law_row : D → D → M (D) := fun cell_1 many_1 => ((nLst A0) >>= fun row_here_1 => ((B1 (f1 D.abs) (A1 (.ok cell_1) A0)) >>= fun rest_1 => ((B2 D.mod (B1 (f1 D.toInt) (A1 (B2 D.add (B2 D.mul (.ok rest_1) (.ok (.int 48271))) (.ok (.int 69621))) A0)) (.ok (.int 2147483647))) >>= fun mixed_1 => (((B1 D.range1 (A1 (.ok many_1) A0)) >>= fun ds => loopF (m_law_row_l1 cell_1) ds (row_here_1, rest_1, mixed_1)) >>= fun s => match s with | (row_here_5, rest_4, mixed_4) => (.ok (.lst row_here_5))))))
def m_law_row : List D → M (D) := a2 g_law_row
theorem e_law_row (cell_1 many_1 : D) : m_law_row [cell_1, many_1] = g_law_row cell_1 many_1 := a2_ g_law_row cell_1 many_1
theorem sc_law_row : FnScope ["_law_cell", "_law_many", "_law_row_here", "_law_rest", "_law_mixed", "_law_k"] ["_law_cell", "_law_many"] (d_law_row).scope := ⟨rfl, rfl, rfl, by decide +kernel, rfl, by decide +kernel, by decide +kernel⟩
theorem ok_law_row {P : Program} {w : World} {K : PySem.W.Frag} {mg : Str → Option Value} {base : Heap} (L : Lw K mg) {fd : FuncData} (F : DefOk K d_law_row fd) : FnOk P w K mg base (L2.CX P w) 1 (He.fAd K d_law_row.at_) fd ["_law_cell", "_law_many"] (spD K [true, true] m_law_row) := by
  refine fn_def F sc_law_row rfl (fun cdv A outer s H E hr ds hl => ?_)
  match ds, hl with
  | [cell_1, many_1], _ =>
    exact db_G [.bor cell_1, .bor many_1, .un, .un, .un, .un] rfl <| db_step (fun row_here_1 => [.bor cell_1, .bor many_1, .own row_here_1, .un, .un, .un]) (ds_setN (dn_lst da_nil) (fun pe => ps_set (i := 2) sc_law_row.nd rfl (Or.inl rfl) pe)) (fun _ => rfl) fun row_here_1 => db_step (fun rest_1 => [.bor cell_1, .bor many_1, .own row_here_1, .val rest_1, .un, .un]) (ds_set (de_callB call_abs abs_op rfl (L.free (fa_0)) boot_abs_ (dra_cons (dr_bor (i := 0) rfl (pv 0)) dra_nil)) (fun pe => ps_set (i := 3) sc_law_row.nd rfl (Or.inl rfl) pe)) (fun _ => rfl) fun rest_1 => db_step (fun mixed_1 => [.bor cell_1, .bor many_1, .own row_here_1, .val rest_1, .val mixed_1, .un]) (ds_set (de_mod (DR.of (de_callTy int_R int_op rfl (L.free (fa_1)) boot_int_ (dra_cons (DR.of (de_add (DR.of (de_mul (dr_val (i := 3) rfl (pv 3)) (DR.of de_int))) (DR.of de_int))) dra_nil))) (DR.of de_int)) (fun pe => ps_set (i := 4) sc_law_row.nd rfl (Or.inl rfl) pe)) (fun _ => rfl) fun mixed_1 => db_any 5 <| db_step (fun (s : List D × D × D) => [.bor cell_1, .bor many_1, .own s.1, .val s.2.1, .val s.2.2, .any]) (ds_for1 (i := 5) (S := List D × D × D) (Γ := (fun (s : List D × D × D) => [.bor cell_1, .bor many_1, .own s.1, .val s.2.1, .val s.2.2, .any])) (f := (m_law_row_l1 cell_1)) (row_here_1, rest_1, mixed_1) rfl ctx_def (di_range1 rfl (L.free (fa_2)) (dra_cons (dr_bor (i := 1) rfl (pv 1)) dra_nil)) (pg_name (i := 5) sc_law_row.nd rfl (Or.inl rfl)) (fun s k_1 => match s with | (row_here_2, rest_2, mixed_2) => db_G [.bor cell_1, .bor many_1, .own row_here_2, .val rest_2, .val mixed_2, .val k_1] rfl <| db_step (fun mixed_3 => [.bor cell_1, .bor many_1, .own row_here_2, .val rest_2, .val mixed_3, .val k_1]) (ds_set (de_mod (DR.of (de_callTy int_R int_op rfl (L.free (fa_1)) boot_int_ (dra_cons (DR.of (de_add (DR.of (de_mul (dr_val (i := 4) rfl (pv 4)) (DR.of de_int))) (DR.of (de_mul (DR.of de_int) (DR.of (de_add (dr_val (i := 5) rfl (pv 5)) (DR.of de_int))))))) dra_nil))) (DR.of de_int)) (fun pe => ps_set (i := 4) sc_law_row.nd rfl (Or.inl rfl) pe)) (fun _ => rfl) fun mixed_3 => db_last (ds_if (dt_cmp op_ge cmp_ge (DR.of (de_callB call_abs abs_op rfl (L.free (fa_0)) boot_abs_ (dra_cons (dr_bor (i := 0) rfl (pv 0)) dra_nil))) (DR.of (de_pow (DR.of de_int) (DR.of de_int))) (nomark _)) (db_step (fun row_here_3 => [.bor cell_1, .bor many_1, .own row_here_3, .val rest_2, .val mixed_3, .val k_1]) (ds_pushO (i := 2) rfl (pv 2) (de_mod (DR.of (de_callTy int_R int_op rfl (L.free (fa_1)) boot_int_ (dra_cons (dr_val (i := 3) rfl (pv 3)) dra_nil))) (DR.of de_int))) (fun _ => rfl) fun row_here_3 => db_step (fun rest_3 => [.bor cell_1, .bor many_1, .own row_here_3, .val rest_3, .val mixed_3, .val k_1]) (ds_set (de_fdiv (dr_val (i := 3) rfl (pv 3)) (DR.of de_int)) (fun pe => ps_set (i := 3) sc_law_row.nd rfl (Or.inl rfl) pe)) (fun _ => rfl) fun rest_3 => db_any 5 <| db_nil rfl) (db_step (fun row_here_4 => [.bor cell_1, .bor many_1, .own row_here_4, .val rest_2, .val mixed_3, .val k_1]) (ds_pushO (i := 2) rfl (pv 2) (de_mod (DR.of (de_callTy int_R int_op rfl (L.free (fa_1)) boot_int_ (dra_cons (DR.of (de_fdiv (dr_val (i := 4) rfl (pv 4)) (DR.of de_int))) dra_nil))) (DR.of de_int))) (fun _ => rfl) fun row_here_4 => db_any 5 <| db_nil rfl)))) (fun _ => rfl) (fun s => match s with | (row_here_5, rest_4, mixed_4) => db_G [.bor cell_1, .bor many_1, .own row_here_5, .val rest_4, .val mixed_4, .any] rfl <| db_fzO 2 rfl <| db_last (ds_ret (de_val (i := 2) rfl (pv 2))))
def m_law_numbers_l1 : (List D) → D → M (List D) := fun numbers_here_3 number_1 => (mPush numbers_here_3 (.ok number_1) >>= fun numbers_here_4 => (.ok numbers_here_4))
def m_law_numbers_l2 (each_1 : D) : (List D) → D → M (List D) := fun numbers_here_2 cell_1 => (((B1 D.items (B1 m_law_row (A1 (.ok cell_1) (A1 (.ok each_1) A0)))) >>= fun ds => loopF m_law_numbers_l1 ds numbers_here_2) >>= fun numbers_here_5 => (.ok numbers_here_5))
def m_law_numbers_l3_c (many_1 : D) : (List D) → M Bool := fun numbers_here_7 => (B2 D.lt (B1 (f1 D.len) (A1 (.ok (.lst numbers_here_7)) A0)) (.ok many_1))
def m_law_numbers_l3 : (List D) → M (List D) := fun numbers_here_7 => (mPush numbers_here_7 (.ok (.int 0)) >>= fun numbers_here_8 => (.ok numbers_here_8))
def g_law_numbers : D → D → M (D) := fun script_1 many_1 => ((S3 (.ok script_1) oN (B1 D.bnd (.ok (.int 63)))) >>= fun cells_1 => ((B2 D.add (.ok (.int 1)) (B2 D.fdiv (.ok many_1) (B1 (f2 D.max2) (A1 (.ok (.int 1)) (A1 (B1 (f1 D.len) (A1 (.ok cells_1) A0)) A0))))) >>= fun each_1 => ((nLst A0) >>= fun numbers_here_1 => (((B1 D.items (.ok cells_1)) >>= fun ds => loopF (m_law_numbers_l2 each_1) ds numbers_here_1) >>= fun numbers_here_6 => ((whileF (m_law_numbers_l3_c many_1) m_law_numbers_l3 100000 numbers_here_6) >>= fun numbers_here_9 => (S3 (.ok (.lst numbers_here_9)) oN (B1 D.bnd (.ok many_1))))))))
def m_law_numbers : List D → M (D) := a2 g_law_numbers
theorem e_law_numbers (script_1 many_1 : D) : m_law_numbers [script_1, many_1] = g_law_numbers script_1 many_1 := a2_ g_law_numbers script_1 many_1
theorem sc_law_numbers : FnScope ["_law_script", "_law_many", "_law_cells", "_law_each", "_law_numbers_here", "_law_cell", "_law_number"] ["_law_script", "_law_many"] (d_law_numbers).scope := ⟨rfl, rfl, rfl, by decide +kernel, rfl, by decide +kernel, by decide +kernel⟩
theorem ok_law_numbers {P : Program} {w : World} {K : PySem.W.Frag} {mg : Str → Option Value} {base : Heap} (L : Lw K mg) {fd : FuncData} (F : DefOk K d_law_numbers fd) : FnOk P w K mg base (L2.CX P w) 2 (He.fAd K d_law_numbers.at_) fd ["_law_script", "_law_many"] (spD K [true, true] m_law_numbers) := by
  obtain ⟨fd_law_row, F_law_row⟩ := L.c.def_ 0 (d := d_law_row) rfl
  have k_law_row := ok_law_row (P := P) (w := w) (base := base) L F_law_row
  have b_law_row : Binds K fd_law_row ["_law_cell", "_law_many"] [] := F_law_row.bindsN fun _ _ _ _ _ _ us hl => match us, hl with | [_, _], _ => rfl
  refine fn_def F sc_law_numbers rfl (fun cdv A outer s H E hr ds hl => ?_)
  match ds, hl with
  | [script_1, many_1], _ =>
    exact db_G [.bor script_1, .bor many_1, .un, .un, .un, .un, .un] rfl <| db_step (fun cells_1 => [.bor script_1, .bor many_1, .val cells_1, .un, .un, .un, .un]) (ds_set (de_sl (dr_bor (i := 0) rfl (pv 0)) do_none (do_some (DR.of de_int))) (fun pe => ps_set (i := 2) sc_law_numbers.nd rfl (Or.inl rfl) pe)) (fun _ => rfl) fun cells_1 => db_step (fun each_1 => [.bor script_1, .bor many_1, .val cells_1, .val each_1, .un, .un, .un]) (ds_set (de_add (DR.of de_int) (DR.of (de_fdiv (dr_bor (i := 1) rfl (pv 1)) (DR.of (de_callB (call_max2 (CtxOk.calm ctx_def)) max_op rfl (L.free (fa_4)) boot_max_ (dra_cons (DR.of de_int) (dra_cons (DR.of (de_callB lenR len_op rfl (L.free (fa_3)) boot_len_ (dra_cons (dr_val (i := 2) rfl (pv 2)) dra_nil))) dra_nil))))))) (fun pe => ps_set (i := 3) sc_law_numbers.nd rfl (Or.inl rfl) pe)) (fun _ => rfl) fun each_1 => db_step (fun numbers_here_1 => [.bor script_1, .bor many_1, .val cells_1, .val each_1, .own numbers_here_1, .un, .un]) (ds_setN (dn_lst da_nil) (fun pe => ps_set (i := 4) sc_law_numbers.nd rfl (Or.inl rfl) pe)) (fun _ => rfl) fun numbers_here_1 => db_any 5 <| db_any 6 <| db_step (fun (s : List D) => [.bor script_1, .bor many_1, .val cells_1, .val each_1, .own s, .any, .any]) (ds_for1 (i := 5) (S := List D) (Γ := (fun (s : List D) => [.bor script_1, .bor many_1, .val cells_1, .val each_1, .own s, .any, .any])) (f := (m_law_numbers_l2 each_1)) numbers_here_1 rfl ctx_def (di_seq (de_val (i := 2) rfl (pv 2))) (pg_name (i := 5) sc_law_numbers.nd rfl (Or.inl rfl)) (fun numbers_here_2 cell_1 => db_G [.bor script_1, .bor many_1, .val cells_1, .val each_1, .own numbers_here_2, .val cell_1, .any] rfl <| db_step (fun (s : List D) => [.bor script_1, .bor many_1, .val cells_1, .val each_1, .own s, .val cell_1, .any]) (ds_for1 (i := 6) (S := List D) (Γ := (fun (s : List D) => [.bor script_1, .bor many_1, .val cells_1, .val each_1, .own s, .val cell_1, .any])) (f := m_law_numbers_l1) numbers_here_2 rfl ctx_def (di_seq (de_call ctx_def k_law_row (hr.mono (by decide)) rfl (L.glo (fa_5)) F_law_row.kp b_law_row (dam_bor (dr_val (i := 5) rfl (pv 5)) (dam_bor (dr_val (i := 3) rfl (pv 3)) dam_nil)))) (pg_name (i := 6) sc_law_numbers.nd rfl (Or.inl rfl)) (fun numbers_here_3 number_1 => db_G [.bor script_1, .bor many_1, .val cells_1, .val each_1, .own numbers_here_3, .val cell_1, .val number_1] rfl <| db_step (fun numbers_here_4 => [.bor script_1, .bor many_1, .val cells_1, .val each_1, .own numbers_here_4, .val cell_1, .val number_1]) (ds_pushO (i := 4) rfl (pv 4) (de_val (i := 6) rfl (pv 6))) (fun _ => rfl) fun numbers_here_4 => db_any 6 <| db_nil rfl)) (fun _ => rfl) (fun numbers_here_5 => db_G [.bor script_1, .bor many_1, .val cells_1, .val each_1, .own numbers_here_5, .val cell_1, .any] rfl <| db_any 5 <| db_nil rfl))) (fun _ => rfl) (fun numbers_here_6 => db_G [.bor script_1, .bor many_1, .val cells_1, .val each_1, .own numbers_here_6, .any, .any] rfl <| db_step (fun (s : List D) => [.bor script_1, .bor many_1, .val cells_1, .val each_1, .own s, .any, .any]) (ds_whileF (S := List D) (Γ := (fun (s : List D) => [.bor script_1, .bor many_1, .val cells_1, .val each_1, .own s, .any, .any])) (mc := (m_law_numbers_l3_c many_1)) (f := m_law_numbers_l3) 100000 numbers_here_6 rfl (CtxOk.own ctx_def) (fun numbers_here_7 => dt_G [.bor script_1, .bor many_1, .val cells_1, .val each_1, .own numbers_here_7, .any, .any] rfl <| (dt_cmp (op_lt.or op_lt_str) cmp_lt (DR.of (de_callB lenR len_op rfl (L.free (fa_3)) boot_len_ (dra_cons (dr_own (i := 4) rfl (pv 4)) dra_nil))) (dr_bor (i := 1) rfl (pv 1)) (nomark _))) (fun numbers_here_7 => db_G [.bor script_1, .bor many_1, .val cells_1, .val each_1, .own numbers_here_7, .any, .any] rfl <| db_step (fun numbers_here_8 => [.bor script_1, .bor many_1, .val cells_1, .val each_1, .own numbers_here_8, .any, .any]) (ds_pushO (i := 4) rfl (pv 4) de_int) (fun _ => rfl) fun numbers_here_8 => db_nil rfl)) (fun _ => rfl) (fun numbers_here_9 => db_G [.bor script_1, .bor many_1, .val cells_1, .val each_1, .own numbers_here_9, .any, .any] rfl <| db_last (ds_ret (de_sl (dr_own (i := 4) rfl (pv 4)) do_none (do_some (dr_bor (i := 1) rfl (pv 1)))))))
def m_law_names_l1 (number_1 : D) (letters_1 : D) (rest_1 : D) (place_1 : D) : (List D) → D → M (List D) := fun names_here_2 k_2 => ((.ok rest_1) >>= fun own_1 => ((mIf (B2 D.eq (B2 D.mod (B1 (f1 D.toInt) (A1 (B2 D.add (B2 D.fdiv (.ok number_1) (.ok (.int 121))) (.ok k_2)) A0)) (.ok (.int 3))) (.ok (.int 0))) ((S3 (.ok rest_1) (B1 D.bnd (.ok (.int 1))) oN) >>= fun own_2 => (.ok own_2)) (.ok own_1) : M (D)) >>= fun own_3 => ((B1 (f2 D.min2) (A1 (.ok place_1) (A1 (B1 (f1 D.len) (A1 (.ok own_3) A0)) A0))) >>= fun spot_1 => ((.ok (.int 5)) >>= fun step_1 => ((mIf (B2 D.eq (B2 D.mod (B2 D.fdiv (.ok number_1) (.ok (.int 363))) (.ok (.int 2))) (.ok (.int 1))) ((.ok (.int 31)) >>= fun step_2 => (.ok step_2)) (.ok step_1) : M (D)) >>= fun step_3 => (mPush names_here_2 (B2 D.add (B2 D.add (B2 D.add (B2 D.ix (.ok letters_1) (B2 D.mod (B1 (f1 D.toInt) (A1 (B2 D.add (.ok number_1) (B2 D.mul (.ok (.int 3)) (.ok k_2))) A0)) (.ok (.int 26)))) (S3 (.ok own_3) oN (B1 D.bnd (.ok spot_1)))) (B2 D.ix (.ok letters_1) (B2 D.mod (B1 (f1 D.toInt) (A1 (B2 D.add (.ok number_1) (B2 D.mul (.ok step_3) (.ok k_2))) A0)) (.ok (.int 36))))) (S3 (.ok own_3) (B1 D.bnd (.ok spot_1)) oN)) >>= fun names_here_3 => (.ok names_here_3)))))))
def g_law_names : D → D → M (D) := fun number_1 many_1 => ((.ok (.str "abcdefghijklmnopqrstuvwxyz0123456789")) >>= fun letters_1 => ((B2 D.mod (B1 (f1 D.toInt) (A1 (.ok number_1) A0)) (.ok (.int 11))) >>= fun size_1 => ((meth D.isStr (.ok (.str "")) (A1 (L1 ((B1 D.range1 (A1 (.ok size_1) A0)) >>= fun ds => compL (fElt noT (fun k_1 => (B2 D.ix (.ok letters_1) (B2 D.mod (B1 (f1 D.toInt) (A1 (B2 D.add (.ok number_1) (B2 D.mul (B2 D.mul (.ok (.int 7)) (.ok k_1)) (.ok k_1))) A0)) (.ok (.int 36)))))) ds)) A0) (m1 D.join)) >>= fun rest_1 => ((B2 D.mod (B2 D.fdiv (.ok number_1) (.ok (.int 11))) (B2 D.add (.ok size_1) (.ok (.int 1)))) >>= fun place_1 => ((nLst A0) >>= fun names_here_1 => (((B1 D.range1 (A1 (.ok many_1) A0)) >>= fun ds => loopF (m_law_names_l1 number_1 letters_1 rest_1 place_1) ds names_here_1) >>= fun names_here_4 => (.ok (.lst names_here_4))))))))
def m_law_names : List D → M (D) := a2 g_law_names
theorem e_law_names (number_1 many_1 : D) : m_law_names [number_1, many_1] = g_law_names number_1 many_1 := a2_ g_law_names number_1 many_1
theorem sc_law_names : FnScope ["_law_number", "_law_many", "_law_letters", "_law_size", "_law_rest", "_law_place", "_law_names_here", "_law_k", "_law_own", "_law_spot", "_law_step"] ["_law_number", "_law_many"] (d_law_names).scope := ⟨rfl, rfl, rfl, by decide +kernel, rfl, by decide +kernel, by decide +kernel⟩
theorem ok_law_names {P : Program} {w : World} {K : PySem.W.Frag} {mg : Str → Option Value} {base : Heap} (L : Lw K mg) {fd : FuncData} (F : DefOk K d_law_names fd) : FnOk P w K mg base (L2.CX P w) 1 (He.fAd K d_law_names.at_) fd ["_law_number", "_law_many"] (spD K [true, true] m_law_names) := by
  refine fn_def F sc_law_names rfl (fun cdv A outer s H E hr ds hl => ?_)
  match ds, hl with
  | [number_1, many_1], _ =>
    exact db_G [.bor number_1, .bor many_1, .un, .un, .un, .un, .un, .un, .un, .un, .un] rfl <| db_step (fun letters_1 => [.bor number_1, .bor many_1, .val letters_1, .un, .un, .un, .un, .un, .un, .un, .un]) (ds_set (de_str (by decide +kernel)) (fun pe => ps_set (i := 2) sc_law_names.nd rfl (Or.inr rfl) pe)) (fun _ => rfl) fun letters_1 => db_step (fun size_1 => [.bor number_1, .bor many_1, .val letters_1, .val size_1, .un, .un, .un, .un, .un, .un, .un]) (ds_set (de_mod (DR.of (de_callTy int_R int_op rfl (L.free (fa_1)) boot_int_ (dra_cons (dr_bor (i := 0) rfl (pv 0)) dra_nil))) (DR.of de_int)) (fun pe => ps_set (i := 3) sc_law_names.nd rfl (Or.inl rfl) pe)) (fun _ => rfl) fun size_1 => db_step (fun rest_1 => [.bor number_1, .bor many_1, .val letters_1, .val size_1, .val rest_1, .un, .un, .un, .un, .un, .un]) (ds_set (de_join (DR.of (de_str (by decide +kernel))) (dra_cons (DR.of (DNL.de (dn_lc1 (own := [("_law_k", 7)]) (i := 7) (me := fun k_1 => (B2 D.ix (.ok letters_1) (B2 D.mod (B1 (f1 D.toInt) (A1 (B2 D.add (.ok number_1) (B2 D.mul (B2 D.mul (.ok (.int 7)) (.ok k_1)) (.ok k_1))) A0)) (.ok (.int 36))))) (CtxOk.calm ctx_def) sc_law_names.nd (DIR.of (di_range1 rfl (L.free (fa_2)) (dra_cons (dr_val (i := 3) rfl (pv 3)) dra_nil))) (blkOk_by (by kernel_rfl)) rfl (fun _ _ _ _ _ => pg_name (i := 7) sc_law_names.nd rfl (Or.inl rfl)) (fun _ _ _ _ _ k_1 => (de_ix hr.u70 (dr_val (i := 2) rfl (pv 2)) (DR.of (de_mod (DR.of (de_callTy int_R int_op rfl (L.free (fa_1)) boot_int_ (dra_cons (DR.of (de_add (dr_bor (i := 0) rfl (pv 0)) (DR.of (de_mul (DR.of (de_mul (DR.of de_int) (dr_val (i := 7) rfl (pv 7)))) (dr_val (i := 7) rfl (pv 7)))))) dra_nil))) (DR.of de_int)))))))) dra_nil)) (fun pe => ps_set (i := 4) sc_law_names.nd rfl (Or.inl rfl) pe)) (fun _ => rfl) fun rest_1 => db_step (fun place_1 => [.bor number_1, .bor many_1, .val letters_1, .val size_1, .val rest_1, .val place_1, .un, .un, .un, .un, .un]) (ds_set (de_mod (DR.of (de_fdiv (dr_bor (i := 0) rfl (pv 0)) (DR.of de_int))) (DR.of (de_add (dr_val (i := 3) rfl (pv 3)) (DR.of de_int)))) (fun pe => ps_set (i := 5) sc_law_names.nd rfl (Or.inl rfl) pe)) (fun _ => rfl) fun place_1 => db_step (fun names_here_1 => [.bor number_1, .bor many_1, .val letters_1, .val size_1, .val rest_1, .val place_1, .own names_here_1, .un, .un, .un, .un]) (ds_setN (dn_lst da_nil) (fun pe => ps_set (i := 6) sc_law_names.nd rfl (Or.inl rfl) pe)) (fun _ => rfl) fun names_here_1 => db_any 7 <| db_any 8 <| db_any 9 <| db_any 10 <| db_step (fun (s : List D) => [.bor number_1, .bor many_1, .val letters_1, .val size_1, .val rest_1, .val place_1, .own s, .any, .any, .any, .any]) (ds_for1 (i := 7) (S := List D) (Γ := (fun (s : List D) => [.bor number_1, .bor many_1, .val letters_1, .val size_1, .val rest_1, .val place_1, .own s, .any, .any, .any, .any])) (f := (m_law_names_l1 number_1 letters_1 rest_1 place_1)) names_here_1 rfl ctx_def (di_range1 rfl (L.free (fa_2)) (dra_cons (dr_bor (i := 1) rfl (pv 1)) dra_nil)) (pg_name (i := 7) sc_law_names.nd rfl (Or.inl rfl)) (fun names_here_2 k_2 => db_G [.bor number_1, .bor many_1, .val letters_1, .val size_1, .val rest_1, .val place_1, .own names_here_2, .val k_2, .any, .any, .any] rfl <| db_step (fun own_1 => [.bor number_1, .bor many_1, .val letters_1, .val size_1, .val rest_1, .val place_1, .own names_here_2, .val k_2, .val own_1, .any, .any]) (ds_set (de_val (i := 4) rfl (pv 4)) (fun pe => ps_set (i := 8) sc_law_names.nd rfl (Or.inl rfl) pe)) (fun _ => rfl) fun own_1 => db_step (fun (s : D) => [.bor number_1, .bor many_1, .val letters_1, .val size_1, .val rest_1, .val place_1, .own names_here_2, .val k_2, .val s, .any, .any]) (ds_if (dt_cmp (op_eqD hr.u64) cmp_eq (DR.of (de_mod (DR.of (de_callTy int_R int_op rfl (L.free (fa_1)) boot_int_ (dra_cons (DR.of (de_add (DR.of (de_fdiv (dr_bor (i := 0) rfl (pv 0)) (DR.of de_int))) (dr_val (i := 7) rfl (pv 7)))) dra_nil))) (DR.of de_int))) (DR.of de_int) (nomark _)) (db_step (fun own_2 => [.bor number_1, .bor many_1, .val letters_1, .val size_1, .val rest_1, .val place_1, .own names_here_2, .val k_2, .val own_2, .any, .any]) (ds_set (de_sl (dr_val (i := 4) rfl (pv 4)) (do_some (DR.of de_int)) do_none) (fun pe => ps_set (i := 8) sc_law_names.nd rfl (Or.inl rfl) pe)) (fun _ => rfl) fun own_2 => db_nil rfl) (db_nil rfl)) (fun _ => rfl) (fun own_3 => db_G [.bor number_1, .bor many_1, .val letters_1, .val size_1, .val rest_1, .val place_1, .own names_here_2, .val k_2, .val own_3, .any, .any] rfl <| db_step (fun spot_1 => [.bor number_1, .bor many_1, .val letters_1, .val size_1, .val rest_1, .val place_1, .own names_here_2, .val k_2, .val own_3, .val spot_1, .any]) (ds_set (de_callB (call_min2 (CtxOk.calm ctx_def)) min_op rfl (L.free (fa_6)) boot_min_ (dra_cons (dr_val (i := 5) rfl (pv 5)) (dra_cons (DR.of (de_callB lenR len_op rfl (L.free (fa_3)) boot_len_ (dra_cons (dr_val (i := 8) rfl (pv 8)) dra_nil))) dra_nil))) (fun pe => ps_set (i := 9) sc_law_names.nd rfl (Or.inl rfl) pe)) (fun _ => rfl) fun spot_1 => db_step (fun step_1 => [.bor number_1, .bor many_1, .val letters_1, .val size_1, .val rest_1, .val place_1, .own names_here_2, .val k_2, .val own_3, .val spot_1, .val step_1]) (ds_set de_int (fun pe => ps_set (i := 10) sc_law_names.nd rfl (Or.inl rfl) pe)) (fun _ => rfl) fun step_1 => db_step (fun (s : D) => [.bor number_1, .bor many_1, .val letters_1, .val size_1, .val rest_1, .val place_1, .own names_here_2, .val k_2, .val own_3, .val spot_1, .val s]) (ds_if (dt_cmp (op_eqD hr.u64) cmp_eq (DR.of (de_mod (DR.of (de_fdiv (dr_bor (i := 0) rfl (pv 0)) (DR.of de_int))) (DR.of de_int))) (DR.of de_int) (nomark _)) (db_step (fun step_2 => [.bor number_1, .bor many_1, .val letters_1, .val size_1, .val rest_1, .val place_1, .own names_here_2, .val k_2, .val own_3, .val spot_1, .val step_2]) (ds_set de_int (fun pe => ps_set (i := 10) sc_law_names.nd rfl (Or.inl rfl) pe)) (fun _ => rfl) fun step_2 => db_nil rfl) (db_nil rfl)) (fun _ => rfl) (fun step_3 => db_G [.bor number_1, .bor many_1, .val letters_1, .val size_1, .val rest_1, .val place_1, .own names_here_2, .val k_2, .val own_3, .val spot_1, .val step_3] rfl <| db_step (fun names_here_3 => [.bor number_1, .bor many_1, .val letters_1, .val size_1, .val rest_1, .val place_1, .own names_here_3, .val k_2, .val own_3, .val spot_1, .val step_3]) (ds_pushO (i := 6) rfl (pv 6) (de_add (DR.of (de_add (DR.of (de_add (DR.of (de_ix hr.u70 (dr_val (i := 2) rfl (pv 2)) (DR.of (de_mod (DR.of (de_callTy int_R int_op rfl (L.free (fa_1)) boot_int_ (dra_cons (DR.of (de_add (dr_bor (i := 0) rfl (pv 0)) (DR.of (de_mul (DR.of de_int) (dr_val (i := 7) rfl (pv 7)))))) dra_nil))) (DR.of de_int))))) (DR.of (de_sl (dr_val (i := 8) rfl (pv 8)) do_none (do_some (dr_val (i := 9) rfl (pv 9))))))) (DR.of (de_ix hr.u70 (dr_val (i := 2) rfl (pv 2)) (DR.of (de_mod (DR.of (de_callTy int_R int_op rfl (L.free (fa_1)) boot_int_ (dra_cons (DR.of (de_add (dr_bor (i := 0) rfl (pv 0)) (DR.of (de_mul (dr_val (i := 10) rfl (pv 10)) (dr_val (i := 7) rfl (pv 7)))))) dra_nil))) (DR.of de_int))))))) (DR.of (de_sl (dr_val (i := 8) rfl (pv 8)) (do_some (dr_val (i := 9) rfl (pv 9))) do_none)))) (fun _ => rfl) fun names_here_3 => db_any 7 <| db_any 8 <| db_any 9 <| db_any 10 <| db_nil rfl)))) (fun _ => rfl) (fun names_here_4 => db_G [.bor number_1, .bor many_1, .val letters_1, .val size_1, .val rest_1, .val place_1, .own names_here_4, .any, .any, .any, .any] rfl <| db_fzO 6 rfl <| db_last (ds_ret (de_val (i := 6) rfl (pv 6))))
def m_law_paper_l1 (numbers_here_1 : D) (names_here_1 : D) : (List D) → D → M (List D) := fun lows_2 k_2 => (mPush lows_2 (B1 D.mkTup (A1 (B2 D.ix (.ok names_here_1) (B2 D.mod (B1 (f1 D.toInt) (A1 (B2 D.ix (.ok numbers_here_1) (B2 D.add (.ok (.int 20)) (.ok k_2))) A0)) (.ok (.int 9)))) (A1 (B2 D.ix (B1 D.mkLst (A1 (.ok (.int 0)) (A1 (.ok (.int 999999999)) (A1 (B1 (f1 D.toInt) (A1 (B2 D.ix (.ok numbers_here_1) (B2 D.add (.ok (.int 30)) (.ok k_2))) A0)) (A1 (B2 D.mul (B1 (f1 D.toInt) (A1 (B2 D.ix (.ok numbers_here_1) (B2 D.add (.ok (.int 30)) (.ok k_2))) A0)) (.ok (.int 977))) A0))))) (B2 D.mod (B1 (f1 D.toInt) (A1 (B2 D.ix (.ok numbers_here_1) (B2 D.add (.ok (.int 40)) (.ok k_2))) A0)) (.ok (.int 4)))) A0))) >>= fun lows_3 => (.ok lows_3))
def g_law_paper : D → M (D) := fun numbers_here_1 => ((B2 D.add (B1 m_law_names (A1 (B2 D.ix (.ok numbers_here_1) (.ok (.int 0))) (A1 (.ok (.int 7)) A0))) (B1 D.mkLst (A1 (.ok (.str "z")) (A1 (.ok (.str "a1")) A0)))) >>= fun names_here_1 => ((.ok .non) >>= fun roads_1 => ((.ok .non) >>= fun arrival_1 => ((mIf (B2 D.gt (B2 D.mod (B1 (f1 D.toInt) (A1 (B2 D.ix (.ok numbers_here_1) (.ok (.int 1))) A0)) (.ok (.int 4))) (.ok (.int 0))) ((L1 ((B1 D.range1 (A1 (B2 D.mod (B1 (f1 D.toInt) (A1 (B2 D.ix (.ok numbers_here_1) (.ok (.int 2))) A0)) (.ok (.int 7))) A0)) >>= fun ds => compL (fElt noT (fun k_1 => (B2 D.ix (.ok names_here_1) (B2 D.mod (B1 (f1 D.toInt) (A1 (B2 D.ix (.ok numbers_here_1) (B2 D.add (.ok (.int 10)) (.ok k_1))) A0)) (.ok (.int 9)))))) ds)) >>= fun roads_2 => ((B2 D.ix (B1 D.mkLst (A1 (.ok (.int 0)) (A1 (.ok (.int 999999999)) (A1 (B1 (f1 D.toInt) (A1 (B2 D.ix (.ok numbers_here_1) (.ok (.int 3))) A0)) (A1 (B2 D.mul (B1 (f1 D.toInt) (A1 (B2 D.ix (.ok numbers_here_1) (.ok (.int 3))) A0)) (.ok (.int 991))) A0))))) (B2 D.mod (B1 (f1 D.toInt) (A1 (B2 D.ix (.ok numbers_here_1) (.ok (.int 4))) A0)) (.ok (.int 4)))) >>= fun arrival_2 => (.ok (roads_2, arrival_2)))) (.ok (roads_1, arrival_1)) : M (D × D)) >>= fun s => match s with | (roads_3, arrival_3) => ((nLst A0) >>= fun lows_1 => (((B1 D.range1 (A1 (B2 D.mod (B1 (f1 D.toInt) (A1 (B2 D.ix (.ok numbers_here_1) (.ok (.int 5))) A0)) (.ok (.int 9))) A0)) >>= fun ds => loopF (m_law_paper_l1 numbers_here_1 names_here_1) ds lows_1) >>= fun lows_4 => (B1 D.mkTup (A1 (.ok roads_3) (A1 (.ok arrival_3) (A1 (.ok (.lst lows_4)) A0))))))))))
def m_law_paper : List D → M (D) := a1 g_law_paper
theorem e_law_paper (numbers_here_1 : D) : m_law_paper [numbers_here_1] = g_law_paper numbers_here_1 := a1_ g_law_paper numbers_here_1
theorem sc_law_paper : FnScope ["_law_numbers_here", "_law_names_here", "_law_roads", "_law_arrival", "_law_lows", "_law_k"] ["_law_numbers_here"] (d_law_paper).scope := ⟨rfl, rfl, rfl, by decide +kernel, rfl, by decide +kernel, by decide +kernel⟩
theorem ok_law_paper {P : Program} {w : World} {K : PySem.W.Frag} {mg : Str → Option Value} {base : Heap} (L : Lw K mg) {fd : FuncData} (F : DefOk K d_law_paper fd) : FnOk P w K mg base (L2.CX P w) 2 (He.fAd K d_law_paper.at_) fd ["_law_numbers_here"] (spD K [true] m_law_paper) := by
  obtain ⟨fd_law_names, F_law_names⟩ := L.c.def_ 2 (d := d_law_names) rfl
  have k_law_names := ok_law_names (P := P) (w := w) (base := base) L F_law_names
  have b_law_names : Binds K fd_law_names ["_law_number", "_law_many"] [] := F_law_names.bindsN fun _ _ _ _ _ _ us hl => match us, hl with | [_, _], _ => rfl
  refine fn_def F sc_law_paper rfl (fun cdv A outer s H E hr ds hl => ?_)
  match ds, hl with
  | [numbers_here_1], _ =>
    exact db_G [.bor numbers_here_1, .un, .un, .un, .un, .un] rfl <| db_step (fun names_here_1 => [.bor numbers_here_1, .val names_here_1, .un, .un, .un, .un]) (ds_set (de_add (DR.of (de_call ctx_def k_law_names (hr.mono (by decide)) rfl (L.glo (fa_7)) F_law_names.kp b_law_names (dam_bor (DR.of (de_ix hr.u70 (dr_bor (i := 0) rfl (pv 0)) (DR.of de_int))) (dam_bor (DR.of de_int) dam_nil)))) (DR.of (de_lst (da_cons (de_str (by decide +kernel)) (da_cons (de_str (by decide +kernel)) da_nil))))) (fun pe => ps_set (i := 1) sc_law_paper.nd rfl (Or.inr rfl) pe)) (fun _ => rfl) fun names_here_1 => db_step (fun roads_1 => [.bor numbers_here_1, .val names_here_1, .val roads_1, .un, .un, .un]) (ds_set de_non (fun pe => ps_set (i := 2) sc_law_paper.nd rfl (Or.inl rfl) pe)) (fun _ => rfl) fun roads_1 => db_step (fun arrival_1 => [.bor numbers_here_1, .val names_here_1, .val roads_1, .val arrival_1, .un, .un]) (ds_set de_non (fun pe => ps_set (i := 3) sc_law_paper.nd rfl (Or.inl rfl) pe)) (fun _ => rfl) fun arrival_1 => db_step (fun (s : D × D) => [.bor numbers_here_1, .val names_here_1, .val s.1, .val s.2, .un, .un]) (ds_if (dt_cmp op_gt cmp_gt (DR.of (de_mod (DR.of (de_callTy int_R int_op rfl (L.free (fa_1)) boot_int_ (dra_cons (DR.of (de_ix hr.u70 (dr_bor (i := 0) rfl (pv 0)) (DR.of de_int))) dra_nil))) (DR.of de_int))) (DR.of de_int) (nomark _)) (db_step (fun roads_2 => [.bor numbers_here_1, .val names_here_1, .val roads_2, .val arrival_1, .un, .un]) (ds_setLc (i := 2) (dn_lc1 (own := [("_law_k", 5)]) (i := 5) (me := fun k_1 => (B2 D.ix (.ok names_here_1) (B2 D.mod (B1 (f1 D.toInt) (A1 (B2 D.ix (.ok numbers_here_1) (B2 D.add (.ok (.int 10)) (.ok k_1))) A0)) (.ok (.int 9))))) (CtxOk.calm ctx_def) sc_law_paper.nd (DIR.of (di_range1 rfl (L.free (fa_2)) (dra_cons (DR.of (de_mod (DR.of (de_callTy int_R int_op rfl (L.free (fa_1)) boot_int_ (dra_cons (DR.of (de_ix hr.u70 (dr_bor (i := 0) rfl (pv 0)) (DR.of de_int))) dra_nil))) (DR.of de_int))) dra_nil))) (blkOk_by (by kernel_rfl)) rfl (fun _ _ _ _ _ => pg_name (i := 5) sc_law_paper.nd rfl (Or.inl rfl)) (fun _ _ _ _ _ k_1 => (de_ix hr.u70 (dr_val (i := 1) rfl (pv 1)) (DR.of (de_mod (DR.of (de_callTy int_R int_op rfl (L.free (fa_1)) boot_int_ (dra_cons (DR.of (de_ix hr.u70 (dr_bor (i := 0) rfl (pv 0)) (DR.of (de_add (DR.of de_int) (dr_val (i := 5) rfl (pv 5)))))) dra_nil))) (DR.of de_int)))))) rfl rfl rfl) (fun _ => rfl) fun roads_2 => db_step (fun arrival_2 => [.bor numbers_here_1, .val names_here_1, .val roads_2, .val arrival_2, .un, .un]) (ds_set (de_ix hr.u70 (DR.of (de_lst (da_cons de_int (da_cons de_int (da_cons (de_callTy int_R int_op rfl (L.free (fa_1)) boot_int_ (dra_cons (DR.of (de_ix hr.u70 (dr_bor (i := 0) rfl (pv 0)) (DR.of de_int))) dra_nil)) (da_cons (de_mul (DR.of (de_callTy int_R int_op rfl (L.free (fa_1)) boot_int_ (dra_cons (DR.of (de_ix hr.u70 (dr_bor (i := 0) rfl (pv 0)) (DR.of de_int))) dra_nil))) (DR.of de_int)) da_nil)))))) (DR.of (de_mod (DR.of (de_callTy int_R int_op rfl (L.free (fa_1)) boot_int_ (dra_cons (DR.of (de_ix hr.u70 (dr_bor (i := 0) rfl (pv 0)) (DR.of de_int))) dra_nil))) (DR.of de_int)))) (fun pe => ps_set (i := 3) sc_law_paper.nd rfl (Or.inl rfl) pe)) (fun _ => rfl) fun arrival_2 => db_nil rfl) (db_nil rfl)) (fun _ => rfl) (fun s => match s with | (roads_3, arrival_3) => db_G [.bor numbers_here_1, .val names_here_1, .val roads_3, .val arrival_3, .un, .un] rfl <| db_step (fun lows_1 => [.bor numbers_here_1, .val names_here_1, .val roads_3, .val arrival_3, .own lows_1, .un]) (ds_setN (dn_lst da_nil) (fun pe => ps_set (i := 4) sc_law_paper.nd rfl (Or.inl rfl) pe)) (fun _ => rfl) fun lows_1 => db_any 5 <| db_step (fun (s : List D) => [.bor numbers_here_1, .val names_here_1, .val roads_3, .val arrival_3, .own s, .any]) (ds_for1 (i := 5) (S := List D) (Γ := (fun (s : List D) => [.bor numbers_here_1, .val names_here_1, .val roads_3, .val arrival_3, .own s, .any])) (f := (m_law_paper_l1 numbers_here_1 names_here_1)) lows_1 rfl ctx_def (di_range1 rfl (L.free (fa_2)) (dra_cons (DR.of (de_mod (DR.of (de_callTy int_R int_op rfl (L.free (fa_1)) boot_int_ (dra_cons (DR.of (de_ix hr.u70 (dr_bor (i := 0) rfl (pv 0)) (DR.of de_int))) dra_nil))) (DR.of de_int))) dra_nil)) (pg_name (i := 5) sc_law_paper.nd rfl (Or.inl rfl)) (fun lows_2 k_2 => db_G [.bor numbers_here_1, .val names_here_1, .val roads_3, .val arrival_3, .own lows_2, .val k_2] rfl <| db_step (fun lows_3 => [.bor numbers_here_1, .val names_here_1, .val roads_3, .val arrival_3, .own lows_3, .val k_2]) (ds_pushO (i := 4) rfl (pv 4) (de_tup (da_cons (de_ix hr.u70 (dr_val (i := 1) rfl (pv 1)) (DR.of (de_mod (DR.of (de_callTy int_R int_op rfl (L.free (fa_1)) boot_int_ (dra_cons (DR.of (de_ix hr.u70 (dr_bor (i := 0) rfl (pv 0)) (DR.of (de_add (DR.of de_int) (dr_val (i := 5) rfl (pv 5)))))) dra_nil))) (DR.of de_int)))) (da_cons (de_ix hr.u70 (DR.of (de_lst (da_cons de_int (da_cons de_int (da_cons (de_callTy int_R int_op rfl (L.free (fa_1)) boot_int_ (dra_cons (DR.of (de_ix hr.u70 (dr_bor (i := 0) rfl (pv 0)) (DR.of (de_add (DR.of de_int) (dr_val (i := 5) rfl (pv 5)))))) dra_nil)) (da_cons (de_mul (DR.of (de_callTy int_R int_op rfl (L.free (fa_1)) boot_int_ (dra_cons (DR.of (de_ix hr.u70 (dr_bor (i := 0) rfl (pv 0)) (DR.of (de_add (DR.of de_int) (dr_val (i := 5) rfl (pv 5)))))) dra_nil))) (DR.of de_int)) da_nil)))))) (DR.of (de_mod (DR.of (de_callTy int_R int_op rfl (L.free (fa_1)) boot_int_ (dra_cons (DR.of (de_ix hr.u70 (dr_bor (i := 0) rfl (pv 0)) (DR.of (de_add (DR.of de_int) (dr_val (i := 5) rfl (pv 5)))))) dra_nil))) (DR.of de_int)))) da_nil)))) (fun _ => rfl) fun lows_3 => db_any 5 <| db_nil rfl)) (fun _ => rfl) (fun lows_4 => db_G [.bor numbers_here_1, .val names_here_1, .val roads_3, .val arrival_3, .own lows_4, .any] rfl <| db_fzO 4 rfl <| db_last (ds_ret (de_tup (da_cons (de_val (i := 2) rfl (pv 2)) (da_cons (de_val (i := 3) rfl (pv 3)) (da_cons (de_val (i := 4) rfl (pv 4)) da_nil)))))))
def g_law_text : D → D → D → M (D) := fun roads_1 arrival_1 lows_1 => ((B1 D.mkLst (A1 (.ok (.str "none")) A0)) >>= fun lines_1 => ((mIf (B2 D.notN (.ok roads_1) (.ok .non)) ((B2 D.add (B1 D.mkLst (A1 (B2 D.add (.ok (.str "arrives ")) (B1 (f1 D.toStr) (A1 (.ok arrival_1) A0))) A0)) (L1 ((B1 D.items (.ok roads_1)) >>= fun ds => compL (fElt noT (fun name_1 => (B2 D.add (.ok (.str "by ")) (.ok name_1)))) ds))) >>= fun lines_2 => (.ok lines_2)) (.ok lines_1) : M (D)) >>= fun lines_3 => (meth D.isStr (.ok (.str "\n")) (A1 (B2 D.add (.ok lines_3) (L1 ((B1 D.items (.ok lows_1)) >>= fun ds => compL (fElt noT (fun low_1 => (B2 D.add (B2 D.add (B2 D.add (.ok (.str "low ")) (B2 D.ix (.ok low_1) (.ok (.int 0)))) (.ok (.str " "))) (B1 (f1 D.toStr) (A1 (B2 D.ix (.ok low_1) (.ok (.int 1))) A0))))) ds))) A0) (m1 D.join))))
def m_law_text : List D → M (D) := a3 g_law_text
theorem e_law_text (roads_1 arrival_1 lows_1 : D) : m_law_text [roads_1, arrival_1, lows_1] = g_law_text roads_1 arrival_1 lows_1 := a3_ g_law_text roads_1 arrival_1 lows_1
theorem sc_law_text : FnScope ["_law_roads", "_law_arrival", "_law_lows", "_law_lines", "_law_name", "_law_low"] ["_law_roads", "_law_arrival", "_law_lows"] (d_law_text).scope := ⟨rfl, rfl, rfl, by decide +kernel, rfl, by decide +kernel, by decide +kernel⟩
theorem ok_law_text {P : Program} {w : World} {K : PySem.W.Frag} {mg : Str → Option Value} {base : Heap} (L : Lw K mg) {fd : FuncData} (F : DefOk K d_law_text fd) : FnOk P w K mg base (L2.CX P w) 1 (He.fAd K d_law_text.at_) fd ["_law_roads", "_law_arrival", "_law_lows"] (spD K [true, true, true] m_law_text) := by
  refine fn_def F sc_law_text rfl (fun cdv A outer s H E hr ds hl => ?_)
  match ds, hl with
  | [roads_1, arrival_1, lows_1], _ =>
    exact db_G [.bor roads_1, .bor arrival_1, .bor lows_1, .un, .un, .un] rfl <| db_step (fun lines_1 => [.bor roads_1, .bor arrival_1, .bor lows_1, .val lines_1, .un, .un]) (ds_set (de_lst (da_cons (de_str (by decide +kernel)) da_nil)) (fun pe => ps_set (i := 3) sc_law_text.nd rfl (Or.inl rfl) pe)) (fun _ => rfl) fun lines_1 => db_step (fun (s : D) => [.bor roads_1, .bor arrival_1, .bor lows_1, .val s, .un, .un]) (ds_if (dt_cmp op_notN cmp_notN (dr_bor (i := 0) rfl (pv 0)) (DR.of de_non) (nomark _)) (db_step (fun lines_2 => [.bor roads_1, .bor arrival_1, .bor lows_1, .val lines_2, .un, .un]) (ds_set (de_add (DR.of (de_lst (da_cons (de_add (DR.of (de_str (by decide +kernel))) (DR.of (de_callTy call_str_int str_op rfl (L.free (fa_8)) boot_str_ (dra_cons (dr_bor (i := 1) rfl (pv 1)) dra_nil)))) da_nil))) (DR.of (DNL.de (dn_lc1 (own := [("_law_name", 4)]) (i := 4) (me := fun name_1 => (B2 D.add (.ok (.str "by ")) (.ok name_1))) (CtxOk.calm ctx_def) sc_law_text.nd (dir_seq (dr_bor (i := 0) rfl (pv 0))) (blkOk_by (by kernel_rfl)) rfl (fun _ _ _ _ _ => pg_name (i := 4) sc_law_text.nd rfl (Or.inl rfl)) (fun _ _ _ _ _ name_1 => (de_add (DR.of (de_str (by decide +kernel))) (dr_val (i := 4) rfl (pv 4)))))))) (fun pe => ps_set (i := 3) sc_law_text.nd rfl (Or.inl rfl) pe)) (fun _ => rfl) fun lines_2 => db_nil rfl) (db_nil rfl)) (fun _ => rfl) (fun lines_3 => db_G [.bor roads_1, .bor arrival_1, .bor lows_1, .val lines_3, .un, .un] rfl <| db_last (ds_ret (de_join (DR.of (de_str (by decide +kernel))) (dra_cons (DR.of (de_add (dr_val (i := 3) rfl (pv 3)) (DR.of (DNL.de (dn_lc1 (own := [("_law_low", 5)]) (i := 5) (me := fun low_1 => (B2 D.add (B2 D.add (B2 D.add (.ok (.str "low ")) (B2 D.ix (.ok low_1) (.ok (.int 0)))) (.ok (.str " "))) (B1 (f1 D.toStr) (A1 (B2 D.ix (.ok low_1) (.ok (.int 1))) A0)))) (CtxOk.calm ctx_def) sc_law_text.nd (dir_seq (dr_bor (i := 2) rfl (pv 2))) (blkOk_by (by kernel_rfl)) rfl (fun _ _ _ _ _ => pg_name (i := 5) sc_law_text.nd rfl (Or.inl rfl)) (fun _ _ _ _ _ low_1 => (de_add (DR.of (de_add (DR.of (de_add (DR.of (de_str (by decide +kernel))) (DR.of (de_ix hr.u70 (dr_val (i := 5) rfl (pv 5)) (DR.of de_int))))) (DR.of (de_str (by decide +kernel))))) (DR.of (de_callTy call_str_int str_op rfl (L.free (fa_8)) boot_str_ (dra_cons (DR.of (de_ix hr.u70 (dr_val (i := 5) rfl (pv 5)) (DR.of de_int))) dra_nil)))))))))) dra_nil))))
def g_Paper_init : D → D → D → M (List (String × D)) := fun roads_1 arrival_1 lows_1 => (mField "roads" [] (mIf (B2 D.isN (.ok roads_1) (.ok .non)) (.ok .non) (B1 (f1 D.toTup) (A1 (.ok roads_1) A0))) >>= fun flds_1 => (mField "arrival" flds_1 (.ok arrival_1) >>= fun flds_2 => (mField "lows" flds_2 (L1 ((B1 D.items (.ok lows_1)) >>= fun ds => compL (fElt noT (fun label_1 => (B1 (f1 D.toTup) (A1 (.ok label_1) A0)))) ds)) >>= fun flds_3 => (.ok flds_3))))
def m_Paper_init : List D → M (List (String × D)) := a3 g_Paper_init
theorem e_Paper_init (roads_1 arrival_1 lows_1 : D) : m_Paper_init [roads_1, arrival_1, lows_1] = g_Paper_init roads_1 arrival_1 lows_1 := a3_ g_Paper_init roads_1 arrival_1 lows_1
theorem sc_Paper_init : FnScope ["self", "roads", "arrival", "lows", "label"] ["self", "roads", "arrival", "lows"] (d_Paper_init).scope := ⟨rfl, rfl, rfl, by decide +kernel, rfl, by decide +kernel, by decide +kernel⟩
theorem ok_Paper_init {P : Program} {w : World} {K : PySem.W.Frag} {mg : Str → Option Value} {base : Heap} (L : Lw K mg) {fd : FuncData} (F : DefOk K d_Paper_init fd) : FnOk P w K mg base (L2.CX P w) 1 (He.fAd K d_Paper_init.at_) fd ["self", "roads", "arrival", "lows"] (spI K "Paper" [true, false, true] m_Paper_init) := by
  refine fn_init (c := "Paper") F sc_Paper_init rfl (by decide) (fun cdv A outer s H E hr sf ds hl => ?_)
  match ds, hl with
  | [roads_1, arrival_1, lows_1], _ =>
    exact db_G [.obj sf "Paper" [], .bor roads_1, .val arrival_1, .bor lows_1, .un] rfl <| db_step (fun flds_1 => [.obj sf "Paper" flds_1, .bor roads_1, .val arrival_1, .bor lows_1, .un]) (ds_fieldO (f := "roads") (i := 0) rfl (pv 0) ⟨L.cls (fa_10), L.noat (fa_13)⟩ (de_if (dt_cmp op_isN cmp_isN (dr_bor (i := 1) rfl (pv 1)) (DR.of de_non) (nomark _)) de_non (de_callTy call_tuple_of tup_op rfl (L.free (fa_9)) boot_tuple_ (dra_cons (dr_bor (i := 1) rfl (pv 1)) dra_nil))) rfl) (fun _ => rfl) fun flds_1 => db_step (fun flds_2 => [.obj sf "Paper" flds_2, .bor roads_1, .val arrival_1, .bor lows_1, .un]) (ds_fieldO (f := "arrival") (i := 0) rfl (pv 0) ⟨L.cls (fa_10), L.noat (fa_12)⟩ (de_val (i := 2) rfl (pv 2)) rfl) (fun _ => rfl) fun flds_2 => db_step (fun flds_3 => [.obj sf "Paper" flds_3, .bor roads_1, .val arrival_1, .bor lows_1, .un]) (ds_fieldO (f := "lows") (i := 0) rfl (pv 0) ⟨L.cls (fa_10), L.noat (fa_11)⟩ (DNL.de (dn_lc1 (own := [("label", 4)]) (i := 4) (me := fun label_1 => (B1 (f1 D.toTup) (A1 (.ok label_1) A0))) (CtxOk.calm ctx_def) sc_Paper_init.nd (dir_seq (dr_bor (i := 3) rfl (pv 3))) (blkOk_by (by kernel_rfl)) rfl (fun _ _ _ _ _ => pg_name (i := 4) sc_Paper_init.nd rfl (Or.inl rfl)) (fun _ _ _ _ _ label_1 => (de_callTy call_tuple_of tup_op rfl (L.free (fa_9)) boot_tuple_ (dra_cons (dr_val (i := 4) rfl (pv 4)) dra_nil))))) rfl) (fun _ => rfl) fun flds_3 => db_any 1 <| db_any 2 <| db_any 3 <| db_any 4 <| db_nil rfl
def g_paper_text : D → M (D) := fun told_1 => ((B1 D.mkLst (A1 (.ok (.str "none")) A0)) >>= fun lines_1 => ((mIf (B2 D.notN (B1 (D.attrC ["Paper"] "roads") (.ok told_1)) (.ok .non)) ((B2 D.add (B1 D.mkLst (A1 (fjoin Str.empty [(.ok (.str "arrives ")), (B1 D.fmt (B1 (D.attrC ["Paper"] "arrival") (.ok told_1)))]) A0)) (L1 ((B1 D.items (B1 (D.attrC ["Paper"] "roads") (.ok told_1))) >>= fun ds => compL (fElt noT (fun name_1 => (fjoin Str.empty [(.ok (.str "by ")), (B1 D.fmt (.ok name_1))]))) ds))) >>= fun lines_2 => (.ok lines_2)) (.ok lines_1) : M (D)) >>= fun lines_3 => (meth D.isStr (.ok (.str "\n")) (A1 (B2 D.add (.ok lines_3) (L1 ((B1 D.items (B1 (D.attrC ["Paper"] "lows") (.ok told_1))) >>= fun ds => compL (fElt noT (on2 (fun name_2 number_1 => (fjoin Str.empty [(.ok (.str "low ")), (B1 D.fmt (.ok name_2)), (.ok (.str " ")), (B1 D.fmt (.ok number_1))])))) ds))) A0) (m1 D.join))))
def m_paper_text : List D → M (D) := a1 g_paper_text
theorem e_paper_text (told_1 : D) : m_paper_text [told_1] = g_paper_text told_1 := a1_ g_paper_text told_1
theorem sc_paper_text : FnScope ["told", "lines", "name", "number"] ["told"] (d_paper_text).scope := ⟨rfl, rfl, rfl, by decide +kernel, rfl, by decide +kernel, by decide +kernel⟩
theorem ok_paper_text {P : Program} {w : World} {K : PySem.W.Frag} {mg : Str → Option Value} {base : Heap} (L : Lw K mg) {fd : FuncData} (F : DefOk K d_paper_text fd) : FnOk P w K mg base (L2.CX P w) 1 (He.fAd K d_paper_text.at_) fd ["told"] (spD K [true] m_paper_text) := by
  refine fn_def F sc_paper_text rfl (fun cdv A outer s H E hr ds hl => ?_)
  match ds, hl with
  | [told_1], _ =>
    exact db_G [.bor told_1, .un, .un, .un] rfl <| db_step (fun lines_1 => [.bor told_1, .val lines_1, .un, .un]) (ds_set (de_lst (da_cons (de_str (by decide +kernel)) da_nil)) (fun pe => ps_set (i := 1) sc_paper_text.nd rfl (Or.inl rfl) pe)) (fun _ => rfl) fun lines_1 => db_step (fun (s : D) => [.bor told_1, .val s, .un, .un]) (ds_if (dt_cmp op_notN cmp_notN (DR.of (de_attr (cs := ["Paper"]) (f := "roads") (by first | exact L.ats (f := "roads") ⟨L.cls (fa_10), L.noat (fa_13), True.intro⟩) (dr_bor (i := 0) rfl (pv 0)))) (DR.of de_non) (nomark _)) (db_step (fun lines_2 => [.bor told_1, .val lines_2, .un, .un]) (ds_set (de_add (DR.of (de_lst (da_cons (de_joined (DJ.cons (de_str (by decide +kernel)) (DJ.cons (de_fmt (DR.of (de_attr (cs := ["Paper"]) (f := "arrival") (by first | exact L.ats (f := "arrival") ⟨L.cls (fa_10), L.noat (fa_12), True.intro⟩) (dr_bor (i := 0) rfl (pv 0))))) DJ.nil))) da_nil))) (DR.of (DNL.de (dn_lc1 (own := [("name", 2)]) (i := 2) (me := fun name_1 => (fjoin Str.empty [(.ok (.str "by ")), (B1 D.fmt (.ok name_1))])) (CtxOk.calm ctx_def) sc_paper_text.nd (dir_seq (DR.of (de_attr (cs := ["Paper"]) (f := "roads") (by first | exact L.ats (f := "roads") ⟨L.cls (fa_10), L.noat (fa_13), True.intro⟩) (dr_bor (i := 0) rfl (pv 0))))) (blkOk_by (by kernel_rfl)) rfl (fun _ _ _ _ _ => pg_name (i := 2) sc_paper_text.nd rfl (Or.inl rfl)) (fun _ _ _ _ _ name_1 => (de_joined (DJ.cons (de_str (by decide +kernel)) (DJ.cons (de_fmt (dr_val (i := 2) rfl (pv 2))) DJ.nil)))))))) (fun pe => ps_set (i := 1) sc_paper_text.nd rfl (Or.inl rfl) pe)) (fun _ => rfl) fun lines_2 => db_nil rfl) (db_nil rfl)) (fun _ => rfl) (fun lines_3 => db_G [.bor told_1, .val lines_3, .un, .un] rfl <| db_last (ds_ret (de_join (DR.of (de_str (by decide +kernel))) (dra_cons (DR.of (de_add (dr_val (i := 1) rfl (pv 1)) (DR.of (DNL.de (dn_lcT (own := [("name", 2), ("number", 3)]) (i := 2) (j := 3) (me := fun name_2 number_1 => (fjoin Str.empty [(.ok (.str "low ")), (B1 D.fmt (.ok name_2)), (.ok (.str " ")), (B1 D.fmt (.ok number_1))])) (CtxOk.calm ctx_def) sc_paper_text.nd (dir_seq (DR.of (de_attr (cs := ["Paper"]) (f := "lows") (by first | exact L.ats (f := "lows") ⟨L.cls (fa_10), L.noat (fa_11), True.intro⟩) (dr_bor (i := 0) rfl (pv 0))))) (blkOk_by (by kernel_rfl)) rfl (fun _ _ _ _ _ => pg_tup rfl (pgs_cons (pg_name (i := 2) sc_paper_text.nd rfl (Or.inl rfl)) (pgs_cons (pg_name (i := 3) sc_paper_text.nd rfl (Or.inl rfl)) pgs_nil))) (fun _ _ _ _ _ name_2 number_1 => (de_joined (DJ.cons (de_str (by decide +kernel)) (DJ.cons (de_fmt (dr_val (i := 2) rfl (pv 2))) (DJ.cons (de_str (by decide +kernel)) (DJ.cons (de_fmt (dr_val (i := 3) rfl (pv 3))) DJ.nil))))))))))) dra_nil))))
def g_read_number : D → D → M (D) := fun word_1 line_1 => (mIf (mOr (mNot (T3 D.le D.le (.ok (.int 1)) (B1 (f1 D.len) (A1 (.ok word_1) A0)) (.ok (.int 9)))) (mNot (B1 D.tru (B1 (f1 D.all) (A1 (L1 ((B1 D.items (.ok word_1)) >>= fun ds => compL (fElt noT (fun char_1 => (C2 D.mem (.ok char_1) (.ok (.str "0123456789"))))) ds)) A0))))) stuck (mIf (mAnd (B2 D.eq (B2 D.ix (.ok word_1) (.ok (.int 0))) (.ok (.str "0"))) (B2 D.gt (B1 (f1 D.len) (A1 (.ok word_1) A0)) (.ok (.int 1)))) stuck (B1 (f1 D.toInt) (A1 (.ok word_1) A0))))
def m_read_number : List D → M (D) := a2 g_read_number
theorem e_read_number (word_1 line_1 : D) : m_read_number [word_1, line_1] = g_read_number word_1 line_1 := a2_ g_read_number word_1 line_1
theorem sc_read_number : FnScope ["word", "line", "char"] ["word", "line"] (d_read_number).scope := ⟨rfl, rfl, rfl, by decide +kernel, rfl, by decide +kernel, by decide +kernel⟩
theorem ok_read_number {P : Program} {w : World} {K : PySem.W.Frag} {mg : Str → Option Value} {base : Heap} (L : Lw K mg) {fd : FuncData} (F : DefOk K d_read_number fd) : FnOk P w K mg base (L2.CX P w) 1 (He.fAd K d_read_number.at_) fd ["word", "line"] (spD K [true, false] m_read_number) := by
  refine fn_def F sc_read_number rfl (fun cdv A outer s H E hr ds hl => ?_)
  match ds, hl with
  | [word_1, line_1], _ =>
    exact db_G [.bor word_1, .val line_1, .un] rfl <| db_ifSt (DW.dt (dw_or (dt_not (dt_chain op_le op_le cmp_le cmp_le (DR.of de_int) (DR.of (de_callB lenR len_op rfl (L.free (fa_3)) boot_len_ (dra_cons (dr_bor (i := 0) rfl (pv 0)) dra_nil))) (DR.of (de_gintE rfl (L.int (fa_16)))))) (dw_or1 (dt_not (dt_val (DR.of (de_callB (cr_all (CtxOk.calm ctx_def)) all_op rfl (L.free (fa_15)) boot_all_ (dra_cons (DR.of (DNL.de (dn_lc1 (own := [("char", 2)]) (i := 2) (me := fun char_1 => (C2 D.mem (.ok char_1) (.ok (.str "0123456789")))) (CtxOk.calm ctx_def) sc_read_number.nd (dir_seq (dr_bor (i := 0) rfl (pv 0))) (blkOk_by (by kernel_rfl)) rfl (fun _ _ _ _ _ => pg_name (i := 2) sc_read_number.nd rfl (Or.inl rfl)) (fun _ _ _ _ _ char_1 => (de_cmp (op_inAll hr.u70) cmp_in (dr_val (i := 2) rfl (pv 2)) (DR.of (de_gstrE rfl (L.str (fa_14)) (by decide +kernel))) rfl))))) dra_nil)))))))) (db_ifSt (DW.dt (dw_and (dt_cmp (op_eqD hr.u64) cmp_eq (DR.of (de_ix hr.u70 (dr_bor (i := 0) rfl (pv 0)) (DR.of de_int))) (DR.of (de_str (by decide +kernel))) (nomark _)) (dw_and1 (dt_cmp op_gt cmp_gt (DR.of (de_callB lenR len_op rfl (L.free (fa_3)) boot_len_ (dra_cons (dr_bor (i := 0) rfl (pv 0)) dra_nil))) (DR.of de_int) (nomark _))))) (db_last (ds_ret (de_callTy int_R int_op rfl (L.free (fa_1)) boot_int_ (dra_cons (dr_bor (i := 0) rfl (pv 0)) dra_nil)))))
def g_is_name : D → M (D) := fun text_1 => (mIf (mOr (mNot (T3 D.le D.le (.ok (.int 1)) (B1 (f1 D.len) (A1 (.ok text_1) A0)) (.ok (.int 12)))) (B2 D.mem (B2 D.ix (.ok text_1) (.ok (.int 0))) (.ok (.str "0123456789")))) (.ok (.bl false)) (B1 (f1 D.all) (A1 (L1 ((B1 D.items (.ok text_1)) >>= fun ds => compL (fElt noT (fun char_1 => (C2 D.mem (.ok char_1) (.ok (.str "abcdefghijklmnopqrstuvwxyz0123456789"))))) ds)) A0)))
def m_is_name : List D → M (D) := a1 g_is_name
theorem e_is_name (text_1 : D) : m_is_name [text_1] = g_is_name text_1 := a1_ g_is_name text_1
theorem sc_is_name : FnScope ["text", "char"] ["text"] (d_is_name).scope := ⟨rfl, rfl, rfl, by decide +kernel, rfl, by decide +kernel, by decide +kernel⟩
theorem ok_is_name {P : Program} {w : World} {K : PySem.W.Frag} {mg : Str → Option Value} {base : Heap} (L : Lw K mg) {fd : FuncData} (F : DefOk K d_is_name fd) : FnOk P w K mg base (L2.CX P w) 1 (He.fAd K d_is_name.at_) fd ["text"] (spD K [true] m_is_name) := by
  refine fn_def F sc_is_name rfl (fun cdv A outer s H E hr ds hl => ?_)
  match ds, hl with
  | [text_1], _ =>
    exact db_G [.bor text_1, .un] rfl <| db_ifr (DW.dt (dw_or (dt_not (dt_chain op_le op_le cmp_le cmp_le (DR.of de_int) (DR.of (de_callB lenR len_op rfl (L.free (fa_3)) boot_len_ (dra_cons (dr_bor (i := 0) rfl (pv 0)) dra_nil))) (DR.of (de_gintE rfl (L.int (fa_17)))))) (dw_or1 (dt_cmp (op_inAll hr.u70) cmp_in (DR.of (de_ix hr.u70 (dr_bor (i := 0) rfl (pv 0)) (DR.of de_int))) (DR.of (de_str (by decide +kernel))) rfl)))) (db_last (ds_ret de_bl)) (db_last (ds_ret (de_callB (cr_all (CtxOk.calm ctx_def)) all_op rfl (L.free (fa_15)) boot_all_ (dra_cons (DR.of (DNL.de (dn_lc1 (own := [("char", 1)]) (i := 1) (me := fun char_1 => (C2 D.mem (.ok char_1) (.ok (.str "abcdefghijklmnopqrstuvwxyz0123456789")))) (CtxOk.calm ctx_def) sc_is_name.nd (dir_seq (dr_bor (i := 0) rfl (pv 0))) (blkOk_by (by kernel_rfl)) rfl (fun _ _ _ _ _ => pg_name (i := 1) sc_is_name.nd rfl (Or.inl rfl)) (fun _ _ _ _ _ char_1 => (de_cmp (op_inAll hr.u70) cmp_in (dr_val (i := 1) rfl (pv 1)) (DR.of (de_gstrE rfl (L.str (fa_18)) (by decide +kernel))) rfl))))) dra_nil))))
def m_parse_paper_l1 : (Sl × List D) → D → D → M (Sl × List D) := fun s line_2 words_1 => match s with | (roads_4, lows_2) => (mIf (mAnd (B2 D.notN (roads_4).rd (.ok .non)) (mAnd (B2 D.eq (B1 (f1 D.len) (A1 (.ok (.lst lows_2)) A0)) (.ok (.int 0))) (mAnd (B2 D.eq (B1 (f1 D.len) (A1 (.ok words_1) A0)) (.ok (.int 2))) (mAnd (B2 D.eq (B2 D.ix (.ok words_1) (.ok (.int 0))) (.ok (.str "by"))) (B1 D.tru (B1 m_is_name (A1 (B2 D.ix (.ok words_1) (.ok (.int 1))) A0))))))) ((roads_4).push (B2 D.ix (.ok words_1) (.ok (.int 1))) >>= fun roads_5 => (.ok (roads_5, lows_2))) (mIf (mAnd (B2 D.eq (B1 (f1 D.len) (A1 (.ok words_1) A0)) (.ok (.int 3))) (mAnd (B2 D.eq (B2 D.ix (.ok words_1) (.ok (.int 0))) (.ok (.str "low"))) (B1 D.tru (B1 m_is_name (A1 (B2 D.ix (.ok words_1) (.ok (.int 1))) A0))))) (mPush lows_2 (B1 D.mkTup (A1 (B2 D.ix (.ok words_1) (.ok (.int 1))) (A1 (B1 m_read_number (A1 (B2 D.ix (.ok words_1) (.ok (.int 2))) (A1 (.ok line_2) A0))) A0))) >>= fun lows_3 => (.ok (roads_4, lows_3))) stuck))
def g_parse_paper : D → M (D) := fun text_1 => ((L1 ((B1 D.items (meth D.isStr (.ok text_1) (A1 (.ok (.str "\n")) A0) (m1 D.split))) >>= fun ds => compL (fElt noT (fun line_1 => (meth D.isStr (.ok line_1) (A1 (.ok (.str " ")) A0) (m1 D.split)))) ds)) >>= fun lines_1 => ((.ok .non) >>= fun roads_1 => ((.ok .non) >>= fun arrival_1 => ((mIf (mAnd (B2 D.eq (B1 (f1 D.len) (A1 (B2 D.ix (.ok lines_1) (.ok (.int 0))) A0)) (.ok (.int 2))) (B2 D.eq (B2 D.ix (B2 D.ix (.ok lines_1) (.ok (.int 0))) (.ok (.int 0))) (.ok (.str "arrives")))) ((B1 m_read_number (A1 (B2 D.ix (B2 D.ix (.ok lines_1) (.ok (.int 0))) (.ok (.int 1))) (A1 (.ok (.int 1)) A0))) >>= fun arrival_2 => ((nLst A0) >>= fun roads_2 => (.ok ((Sl.own roads_2), arrival_2)))) (mIf (B2 D.ne (B2 D.ix (.ok lines_1) (.ok (.int 0))) (B1 D.mkLst (A1 (.ok (.str "none")) A0))) stuck (.ok ((Sl.val roads_1), arrival_1))) : M (Sl × D)) >>= fun s => match s with | (roads_3, arrival_3) => ((nLst A0) >>= fun lows_1 => (((B1 D.enum2 (A1 (S3 (.ok lines_1) (B1 D.bnd (.ok (.int 1))) oN) (A1 (.ok (.int 2)) A0))) >>= fun ds => loopF (fun s => on2 (m_parse_paper_l1 s)) ds (roads_3, lows_1)) >>= fun s => match s with | (roads_6, lows_4) => (mkIns "Paper" m_Paper_init (A1 (roads_6).rd (A1 (.ok arrival_3) (A1 (.ok (.lst lows_4)) A0))))))))))
def m_parse_paper : List D → M (D) := a1 g_parse_paper
theorem e_parse_paper (text_1 : D) : m_parse_paper [text_1] = g_parse_paper text_1 := a1_ g_parse_paper text_1
theorem sc_parse_paper : FnScope ["text", "lines", "roads", "arrival", "lows", "line", "words"] ["text"] (d_parse_paper).scope := ⟨rfl, rfl, rfl, by decide +kernel, rfl, by decide +kernel, by decide +kernel⟩
theorem ok_parse_paper {P : Program} {w : World} {K : PySem.W.Frag} {mg : Str → Option Value} {base : Heap} (L : Lw K mg) {fd : FuncData} (F : DefOk K d_parse_paper fd) : FnOk P w K mg base (L2.CX P w) 3 (He.fAd K d_parse_paper.at_) fd ["text"] (spD K [true] m_parse_paper) := by
  obtain ⟨fd_read_number, F_read_number⟩ := L.c.def_ 7 (d := d_read_number) rfl
  have k_read_number := ok_read_number (P := P) (w := w) (base := base) L F_read_number
  have b_read_number : Binds K fd_read_number ["word", "line"] [] := F_read_number.bindsN fun _ _ _ _ _ _ us hl => match us, hl with | [_, _], _ => rfl
  obtain ⟨fd_is_name, F_is_name⟩ := L.c.def_ 8 (d := d_is_name) rfl
  have k_is_name := ok_is_name (P := P) (w := w) (base := base) L F_is_name
  have b_is_name : Binds K fd_is_name ["text"] [] := F_is_name.bindsN fun _ _ _ _ _ _ us hl => match us, hl with | [_], _ => rfl
  obtain ⟨fd_Paper_init, F_Paper_init⟩ := L.c.def_ 5 (d := d_Paper_init) rfl
  have k_Paper_init := ok_Paper_init (P := P) (w := w) (base := base) L F_Paper_init
  have b_Paper_init : Binds K fd_Paper_init ["self", "roads", "arrival", "lows"] [] := F_Paper_init.bindsN fun _ _ _ _ _ _ us hl => match us, hl with | [_, _, _, _], _ => rfl
  refine fn_def F sc_parse_paper rfl (fun cdv A outer s H E hr ds hl => ?_)
  match ds, hl with
  | [text_1], _ =>
    exact db_G [.bor text_1, .un, .un, .un, .un, .un, .un] rfl <| db_step (fun lines_1 => [.bor text_1, .val lines_1, .un, .un, .un, .un, .un]) (ds_setLc (i := 1) (dn_lc1 (own := [("line", 5)]) (i := 5) (me := fun line_1 => (meth D.isStr (.ok line_1) (A1 (.ok (.str " ")) A0) (m1 D.split))) (CtxOk.calm ctx_def) sc_parse_paper.nd (dir_seq (DR.of (de_split (dr_bor (i := 0) rfl (pv 0)) (dra_cons (DR.of (de_str (by decide +kernel))) dra_nil)))) (blkOk_by (by kernel_rfl)) rfl (fun _ _ _ _ _ => pg_name (i := 5) sc_parse_paper.nd rfl (Or.inl rfl)) (fun _ _ _ _ _ line_1 => (de_split (dr_val (i := 5) rfl (pv 5)) (dra_cons (DR.of (de_str (by decide +kernel))) dra_nil)))) rfl rfl rfl) (fun _ => rfl) fun lines_1 => db_step (fun roads_1 => [.bor text_1, .val lines_1, .val roads_1, .un, .un, .un, .un]) (ds_set de_non (fun pe => ps_set (i := 2) sc_parse_paper.nd rfl (Or.inl rfl) pe)) (fun _ => rfl) fun roads_1 => db_step (fun arrival_1 => [.bor text_1, .val lines_1, .val roads_1, .val arrival_1, .un, .un, .un]) (ds_set de_non (fun pe => ps_set (i := 3) sc_parse_paper.nd rfl (Or.inl rfl) pe)) (fun _ => rfl) fun arrival_1 => db_step (fun (s : Sl × D) => [.bor text_1, .val lines_1, s.1, .val s.2, .un, .un, .un]) (ds_if (DW.dt (dw_and (dt_cmp (op_eqD hr.u64) cmp_eq (DR.of (de_callB lenR len_op rfl (L.free (fa_3)) boot_len_ (dra_cons (DR.of (de_ix hr.u70 (dr_val (i := 1) rfl (pv 1)) (DR.of de_int))) dra_nil))) (DR.of de_int) (nomark _)) (dw_and1 (dt_cmp (op_eqD hr.u64) cmp_eq (DR.of (de_ix hr.u70 (DR.of (de_ix hr.u70 (dr_val (i := 1) rfl (pv 1)) (DR.of de_int))) (DR.of de_int))) (DR.of (de_str (by decide +kernel))) (nomark _))))) (db_step (fun arrival_2 => [.bor text_1, .val lines_1, .val roads_1, .val arrival_2, .un, .un, .un]) (ds_set (de_call ctx_def k_read_number (hr.mono (by decide)) rfl (L.glo (fa_19)) F_read_number.kp b_read_number (dam_bor (DR.of (de_ix hr.u70 (DR.of (de_ix hr.u70 (dr_val (i := 1) rfl (pv 1)) (DR.of de_int))) (DR.of de_int))) (dam_frz de_int dam_nil))) (fun pe => ps_set (i := 3) sc_parse_paper.nd rfl (Or.inl rfl) pe)) (fun _ => rfl) fun arrival_2 => db_step (fun roads_2 => [.bor text_1, .val lines_1, .own roads_2, .val arrival_2, .un, .un, .un]) (ds_setN (dn_lst da_nil) (fun pe => ps_set (i := 2) sc_parse_paper.nd rfl (Or.inl rfl) pe)) (fun _ => rfl) fun roads_2 => db_nil rfl) (db_last (ds_if (dt_cmp (op_neD hr.u64) cmp_ne (DR.of (de_ix hr.u70 (dr_val (i := 1) rfl (pv 1)) (DR.of de_int))) (DR.of (de_lst (da_cons (de_str (by decide +kernel)) da_nil))) (nomark _)) (db_stuck) (db_nil rfl)))) (fun _ => rfl) (fun s => match s with | (roads_3, arrival_3) => db_G [.bor text_1, .val lines_1, roads_3, .val arrival_3, .un, .un, .un] rfl <| db_step (fun lows_1 => [.bor text_1, .val lines_1, roads_3, .val arrival_3, .own lows_1, .un, .un]) (ds_setN (dn_lst da_nil) (fun pe => ps_set (i := 4) sc_parse_paper.nd rfl (Or.inl rfl) pe)) (fun _ => rfl) fun lows_1 => db_any 5 <| db_any 6 <| db_step (fun (s : Sl × List D) => [.bor text_1, .val lines_1, s.1, .val arrival_3, .own s.2, .any, .any]) (ds_for2 (i := 5) (j := 6) (S := Sl × List D) (Γ := (fun (s : Sl × List D) => [.bor text_1, .val lines_1, s.1, .val arrival_3, .own s.2, .any, .any])) (f := m_parse_paper_l1) (roads_3, lows_1) rfl ctx_def (di_enum2 rfl (L.free (fa_20)) (da_cons (de_sl (dr_val (i := 1) rfl (pv 1)) (do_some (DR.of de_int)) do_none) (da_cons de_int da_nil))) (pg_tup rfl (pgs_cons (pg_name (i := 5) sc_parse_paper.nd rfl (Or.inl rfl)) (pgs_cons (pg_name (i := 6) sc_parse_paper.nd rfl (Or.inl rfl)) pgs_nil))) (fun s line_2 words_1 => match s with | (roads_4, lows_2) => db_G [.bor text_1, .val lines_1, roads_4, .val arrival_3, .own lows_2, .val line_2, .val words_1] rfl <| db_last (ds_if (DW.dt (dw_and (dt_cmp op_notN cmp_notN (dr_var (i := 2) (s := roads_4) rfl (pv 2)) (DR.of de_non) (nomark _)) (dw_and (dt_cmp (op_eqD hr.u64) cmp_eq (DR.of (de_callB lenR len_op rfl (L.free (fa_3)) boot_len_ (dra_cons (dr_own (i := 4) rfl (pv 4)) dra_nil))) (DR.of de_int) (nomark _)) (dw_and (dt_cmp (op_eqD hr.u64) cmp_eq (DR.of (de_callB lenR len_op rfl (L.free (fa_3)) boot_len_ (dra_cons (dr_val (i := 6) rfl (pv 6)) dra_nil))) (DR.of de_int) (nomark _)) (dw_and (dt_cmp (op_eqD hr.u64) cmp_eq (DR.of (de_ix hr.u70 (dr_val (i := 6) rfl (pv 6)) (DR.of de_int))) (DR.of (de_str (by decide +kernel))) (nomark _)) (dw_and1 (dt_val (DR.of (de_call ctx_def k_is_name (hr.mono (by decide)) rfl (L.glo (fa_21)) F_is_name.kp b_is_name (dam_bor (DR.of (de_ix hr.u70 (dr_val (i := 6) rfl (pv 6)) (DR.of de_int))) dam_nil)))))))))) (db_step (fun roads_5 => [.bor text_1, .val lines_1, roads_5, .val arrival_3, .own lows_2, .val line_2, .val words_1]) (ds_push (i := 2) (s := roads_4) rfl (pv 2) (de_ix hr.u70 (dr_val (i := 6) rfl (pv 6)) (DR.of de_int))) (fun _ => rfl) fun roads_5 => db_any 5 <| db_any 6 <| db_nil rfl) (db_last (ds_if (DW.dt (dw_and (dt_cmp (op_eqD hr.u64) cmp_eq (DR.of (de_callB lenR len_op rfl (L.free (fa_3)) boot_len_ (dra_cons (dr_val (i := 6) rfl (pv 6)) dra_nil))) (DR.of de_int) (nomark _)) (dw_and (dt_cmp (op_eqD hr.u64) cmp_eq (DR.of (de_ix hr.u70 (dr_val (i := 6) rfl (pv 6)) (DR.of de_int))) (DR.of (de_str (by decide +kernel))) (nomark _)) (dw_and1 (dt_val (DR.of (de_call ctx_def k_is_name (hr.mono (by decide)) rfl (L.glo (fa_21)) F_is_name.kp b_is_name (dam_bor (DR.of (de_ix hr.u70 (dr_val (i := 6) rfl (pv 6)) (DR.of de_int))) dam_nil)))))))) (db_step (fun lows_3 => [.bor text_1, .val lines_1, roads_4, .val arrival_3, .own lows_3, .val line_2, .val words_1]) (ds_pushO (i := 4) rfl (pv 4) (de_tup (da_cons (de_ix hr.u70 (dr_val (i := 6) rfl (pv 6)) (DR.of de_int)) (da_cons (de_call ctx_def k_read_number (hr.mono (by decide)) rfl (L.glo (fa_19)) F_read_number.kp b_read_number (dam_bor (DR.of (de_ix hr.u70 (dr_val (i := 6) rfl (pv 6)) (DR.of de_int))) (dam_frz (de_val (i := 5) rfl (pv 5)) dam_nil))) da_nil)))) (fun _ => rfl) fun lows_3 => db_any 5 <| db_any 6 <| db_nil rfl) (db_stuck)))))) (fun _ => rfl) (fun s => match s with | (roads_6, lows_4) => db_G [.bor text_1, .val lines_1, roads_6, .val arrival_3, .own lows_4, .any, .any] rfl <| db_last (ds_ret (de_make (c := "Paper") ctx_def (L.mkr (fa_22)) k_Paper_init (hr.mono (by decide)) rfl (L.glo (fa_23)) b_Paper_init (dam_bor (dr_var (i := 2) (s := roads_6) rfl (pv 2)) (dam_frz (de_val (i := 3) rfl (pv 3)) (dam_bor (dr_own (i := 4) rfl (pv 4)) dam_nil)))))))
def g_law : D → M (D) := fun script_1 => ((B1 m_law_numbers (A1 (.ok script_1) (A1 (.ok (.int 50)) A0))) >>= fun numbers_here_1 => ((B1 m_law_paper (A1 (.ok numbers_here_1) A0)) >>= un3 fun roads_1 arrival_1 lows_1 => ((B1 m_law_text (A1 (.ok roads_1) (A1 (.ok arrival_1) (A1 (.ok lows_1) A0)))) >>= fun text_here_1 => ((mkIns "Paper" m_Paper_init (A1 (.ok roads_1) (A1 (.ok arrival_1) (A1 (.ok lows_1) A0)))) >>= fun told_1 => ((B1 m_paper_text (A1 (.ok told_1) A0)) >>= fun actual_1 => (mIf (mOr (mNot (B1 D.tru (B1 (D.isB "str") (.ok actual_1)))) (B2 D.ne (.ok actual_1) (.ok text_here_1))) (.ok (.bl false)) ((B1 m_parse_paper (A1 (.ok text_here_1) A0)) >>= fun read_1 => ((.ok .non) >>= fun due_1 => ((mIf (B2 D.notN (.ok roads_1) (.ok .non)) ((B1 (f1 D.toTup) (A1 (.ok roads_1) A0)) >>= fun due_2 => (.ok due_2)) (.ok due_1) : M (D)) >>= fun due_3 => (mIf (mOr (B2 D.ne (B1 (D.attrC ["Paper"] "roads") (.ok read_1)) (.ok due_3)) (mOr (B2 D.ne (B1 (D.attrC ["Paper"] "arrival") (.ok read_1)) (.ok arrival_1)) (mOr (B1 D.tru (B1 (D.isB "bool") (B1 (D.attrC ["Paper"] "arrival") (.ok read_1)))) (B2 D.ne (B1 (f1 D.toList) (A1 (B1 (D.attrC ["Paper"] "lows") (.ok read_1)) A0)) (.ok lows_1))))) (.ok (.bl false)) ((B1 m_parse_paper (A1 (.ok (.str "none")) A0)) >>= fun small_1 => (mIf (mOr (B2 D.notN (B1 (D.attrC ["Paper"] "roads") (.ok small_1)) (.ok .non)) (mOr (B2 D.notN (B1 (D.attrC ["Paper"] "arrival") (.ok small_1)) (.ok .non)) (B2 D.ne (B1 (f1 D.toList) (A1 (B1 (D.attrC ["Paper"] "lows") (.ok small_1)) A0)) (B1 D.mkLst A0)))) (.ok (.bl false)) (vAnd (B1 (D.isC "Paper") (.ok read_1)) (vAnd (C2 D.eq (B1 m_paper_text (A1 (.ok read_1) A0)) (.ok text_here_1)) (C2 D.eq (B1 m_paper_text (A1 (.ok told_1) A0)) (.ok text_here_1))))))))))))))))
def m_law : List D → M (D) := a1 g_law
theorem e_law (script_1 : D) : m_law [script_1] = g_law script_1 := a1_ g_law script_1
theorem sc_law : FnScope ["_law_script", "_law_numbers_here", "_law_roads", "_law_arrival", "_law_lows", "_law_text_here", "_law_told", "_law_actual", "_law_read", "_law_due", "_law_small"] ["_law_script"] (d_law).scope := ⟨rfl, rfl, rfl, by decide +kernel, rfl, by decide +kernel, by decide +kernel⟩
theorem ok_law {P : Program} {w : World} {K : PySem.W.Frag} {mg : Str → Option Value} {base : Heap} (L : Lw K mg) {fd : FuncData} (F : DefOk K d_law fd) : FnOk P w K mg base (L2.CX P w) 4 (He.fAd K d_law.at_) fd ["_law_script"] (spD K [true] m_law) := by
  obtain ⟨fd_law_numbers, F_law_numbers⟩ := L.c.def_ 1 (d := d_law_numbers) rfl
  have k_law_numbers := ok_law_numbers (P := P) (w := w) (base := base) L F_law_numbers
  have b_law_numbers : Binds K fd_law_numbers ["_law_script", "_law_many"] [] := F_law_numbers.bindsN fun _ _ _ _ _ _ us hl => match us, hl with | [_, _], _ => rfl
  obtain ⟨fd_law_paper, F_law_paper⟩ := L.c.def_ 3 (d := d_law_paper) rfl
  have k_law_paper := ok_law_paper (P := P) (w := w) (base := base) L F_law_paper
  have b_law_paper : Binds K fd_law_paper ["_law_numbers_here"] [] := F_law_paper.bindsN fun _ _ _ _ _ _ us hl => match us, hl with | [_], _ => rfl
  obtain ⟨fd_law_text, F_law_text⟩ := L.c.def_ 4 (d := d_law_text) rfl
  have k_law_text := ok_law_text (P := P) (w := w) (base := base) L F_law_text
  have b_law_text : Binds K fd_law_text ["_law_roads", "_law_arrival", "_law_lows"] [] := F_law_text.bindsN fun _ _ _ _ _ _ us hl => match us, hl with | [_, _, _], _ => rfl
  obtain ⟨fd_Paper_init, F_Paper_init⟩ := L.c.def_ 5 (d := d_Paper_init) rfl
  have k_Paper_init := ok_Paper_init (P := P) (w := w) (base := base) L F_Paper_init
  have b_Paper_init : Binds K fd_Paper_init ["self", "roads", "arrival", "lows"] [] := F_Paper_init.bindsN fun _ _ _ _ _ _ us hl => match us, hl with | [_, _, _, _], _ => rfl
  obtain ⟨fd_paper_text, F_paper_text⟩ := L.c.def_ 6 (d := d_paper_text) rfl
  have k_paper_text := ok_paper_text (P := P) (w := w) (base := base) L F_paper_text
  have b_paper_text : Binds K fd_paper_text ["told"] [] := F_paper_text.bindsN fun _ _ _ _ _ _ us hl => match us, hl with | [_], _ => rfl
  obtain ⟨fd_parse_paper, F_parse_paper⟩ := L.c.def_ 9 (d := d_parse_paper) rfl
  have k_parse_paper := ok_parse_paper (P := P) (w := w) (base := base) L F_parse_paper
  have b_parse_paper : Binds K fd_parse_paper ["text"] [] := F_parse_paper.bindsN fun _ _ _ _ _ _ us hl => match us, hl with | [_], _ => rfl
  refine fn_def F sc_law rfl (fun cdv A outer s H E hr ds hl => ?_)
  match ds, hl with
  | [script_1], _ =>
    exact db_G [.bor script_1, .un, .un, .un, .un, .un, .un, .un, .un, .un, .un] rfl <| db_step (fun numbers_here_1 => [.bor script_1, .val numbers_here_1, .un, .un, .un, .un, .un, .un, .un, .un, .un]) (ds_set (de_call ctx_def k_law_numbers (hr.mono (by decide)) rfl (L.glo (fa_24)) F_law_numbers.kp b_law_numbers (dam_bor (dr_bor (i := 0) rfl (pv 0)) (dam_bor (DR.of de_int) dam_nil))) (fun pe => ps_set (i := 1) sc_law.nd rfl (Or.inl rfl) pe)) (fun _ => rfl) fun numbers_here_1 => db_un3' [2, 3, 4] (fun roads_1 arrival_1 lows_1 => [.bor script_1, .val numbers_here_1, .val roads_1, .val arrival_1, .val lows_1, .un, .un, .un, .un, .un, .un]) (de_call ctx_def k_law_paper (hr.mono (by decide)) rfl (L.glo (fa_25)) F_law_paper.kp b_law_paper (dam_bor (dr_val (i := 1) rfl (pv 1)) dam_nil)) rfl (pg_tup rfl (pgs_cons (pg_name (i := 2) sc_law.nd rfl (Or.inl rfl)) (pgs_cons (pg_name (i := 3) sc_law.nd rfl (Or.inl rfl)) (pgs_cons (pg_name (i := 4) sc_law.nd rfl (Or.inl rfl)) pgs_nil)))) rfl rfl rfl (fun _ _ _ => rfl) fun roads_1 arrival_1 lows_1 => db_step (fun text_here_1 => [.bor script_1, .val numbers_here_1, .val roads_1, .val arrival_1, .val lows_1, .val text_here_1, .un, .un, .un, .un, .un]) (ds_set (de_call ctx_def k_law_text (hr.mono (by decide)) rfl (L.glo (fa_26)) F_law_text.kp b_law_text (dam_bor (dr_val (i := 2) rfl (pv 2)) (dam_bor (dr_val (i := 3) rfl (pv 3)) (dam_bor (dr_val (i := 4) rfl (pv 4)) dam_nil)))) (fun pe => ps_set (i := 5) sc_law.nd rfl (Or.inl rfl) pe)) (fun _ => rfl) fun text_here_1 => db_step (fun told_1 => [.bor script_1, .val numbers_here_1, .val roads_1, .val arrival_1, .val lows_1, .val text_here_1, .val told_1, .un, .un, .un, .un]) (ds_set (de_make (c := "Paper") ctx_def (L.mkr (fa_22)) k_Paper_init (hr.mono (by decide)) rfl (L.glo (fa_23)) b_Paper_init (dam_bor (dr_val (i := 2) rfl (pv 2)) (dam_frz (de_val (i := 3) rfl (pv 3)) (dam_bor (dr_val (i := 4) rfl (pv 4)) dam_nil)))) (fun pe => ps_set (i := 6) sc_law.nd rfl (Or.inl rfl) pe)) (fun _ => rfl) fun told_1 => db_step (fun actual_1 => [.bor script_1, .val numbers_here_1, .val roads_1, .val arrival_1, .val lows_1, .val text_here_1, .val told_1, .val actual_1, .un, .un, .un]) (ds_set (de_call ctx_def k_paper_text (hr.mono (by decide)) rfl (L.glo (fa_27)) F_paper_text.kp b_paper_text (dam_bor (dr_val (i := 6) rfl (pv 6)) dam_nil)) (fun pe => ps_set (i := 7) sc_law.nd rfl (Or.inl rfl) pe)) (fun _ => rfl) fun actual_1 => db_ifr (DW.dt (dw_or (dt_not (dt_val (DR.of (de_isB (T := "str") rfl (L.free (fa_28)) boot_isinstance_ (pe_ty_ rfl (L.free (fa_8)) boot_str_) (dr_val (i := 7) rfl (pv 7)))))) (dw_or1 (dt_cmp (op_neD hr.u64) cmp_ne (dr_val (i := 7) rfl (pv 7)) (dr_val (i := 5) rfl (pv 5)) (nomark _))))) (db_last (ds_ret de_bl)) (db_step (fun read_1 => [.bor script_1, .val numbers_here_1, .val roads_1, .val arrival_1, .val lows_1, .val text_here_1, .val told_1, .val actual_1, .val read_1, .un, .un]) (ds_set (de_call ctx_def k_parse_paper (hr.mono (by decide)) rfl (L.glo (fa_29)) F_parse_paper.kp b_parse_paper (dam_bor (dr_val (i := 5) rfl (pv 5)) dam_nil)) (fun pe => ps_set (i := 8) sc_law.nd rfl (Or.inl rfl) pe)) (fun _ => rfl) fun read_1 => db_step (fun due_1 => [.bor script_1, .val numbers_here_1, .val roads_1, .val arrival_1, .val lows_1, .val text_here_1, .val told_1, .val actual_1, .val read_1, .val due_1, .un]) (ds_set de_non (fun pe => ps_set (i := 9) sc_law.nd rfl (Or.inl rfl) pe)) (fun _ => rfl) fun due_1 => db_step (fun (s : D) => [.bor script_1, .val numbers_here_1, .val roads_1, .val arrival_1, .val lows_1, .val text_here_1, .val told_1, .val actual_1, .val read_1, .val s, .un]) (ds_if (dt_cmp op_notN cmp_notN (dr_val (i := 2) rfl (pv 2)) (DR.of de_non) (nomark _)) (db_step (fun due_2 => [.bor script_1, .val numbers_here_1, .val roads_1, .val arrival_1, .val lows_1, .val text_here_1, .val told_1, .val actual_1, .val read_1, .val due_2, .un]) (ds_set (de_callTy call_tuple_of tup_op rfl (L.free (fa_9)) boot_tuple_ (dra_cons (dr_val (i := 2) rfl (pv 2)) dra_nil)) (fun pe => ps_set (i := 9) sc_law.nd rfl (Or.inl rfl) pe)) (fun _ => rfl) fun due_2 => db_nil rfl) (db_nil rfl)) (fun _ => rfl) (fun due_3 => db_G [.bor script_1, .val numbers_here_1, .val roads_1, .val arrival_1, .val lows_1, .val text_here_1, .val told_1, .val actual_1, .val read_1, .val due_3, .un] rfl <| db_ifr (DW.dt (dw_or (dt_cmp (op_neD hr.u64) cmp_ne (DR.of (de_attr (cs := ["Paper"]) (f := "roads") (by first | exact L.ats (f := "roads") ⟨L.cls (fa_10), L.noat (fa_13), True.intro⟩) (dr_val (i := 8) rfl (pv 8)))) (dr_val (i := 9) rfl (pv 9)) (nomark _)) (dw_or (dt_cmp (op_neD hr.u64) cmp_ne (DR.of (de_attr (cs := ["Paper"]) (f := "arrival") (by first | exact L.ats (f := "arrival") ⟨L.cls (fa_10), L.noat (fa_12), True.intro⟩) (dr_val (i := 8) rfl (pv 8)))) (dr_val (i := 3) rfl (pv 3)) (nomark _)) (dw_or (dt_val (DR.of (de_isB (T := "bool") rfl (L.free (fa_28)) boot_isinstance_ (pe_ty_ rfl (L.free (fa_31)) boot_bool_) (DR.of (de_attr (cs := ["Paper"]) (f := "arrival") (by first | exact L.ats (f := "arrival") ⟨L.cls (fa_10), L.noat (fa_12), True.intro⟩) (dr_val (i := 8) rfl (pv 8))))))) (dw_or1 (dt_cmp (op_neD hr.u64) cmp_ne (DR.of (de_callTy call_list_of list_op rfl (L.free (fa_30)) boot_list_ (dra_cons (DR.of (de_attr (cs := ["Paper"]) (f := "lows") (by first | exact L.ats (f := "lows") ⟨L.cls (fa_10), L.noat (fa_11), True.intro⟩) (dr_val (i := 8) rfl (pv 8)))) dra_nil))) (dr_val (i := 4) rfl (pv 4)) (nomark _))))))) (db_last (ds_ret de_bl)) (db_step (fun small_1 => [.bor script_1, .val numbers_here_1, .val roads_1, .val arrival_1, .val lows_1, .val text_here_1, .val told_1, .val actual_1, .val read_1, .val due_3, .val small_1]) (ds_set (de_call ctx_def k_parse_paper (hr.mono (by decide)) rfl (L.glo (fa_29)) F_parse_paper.kp b_parse_paper (dam_bor (DR.of (de_str (by decide +kernel))) dam_nil)) (fun pe => ps_set (i := 10) sc_law.nd rfl (Or.inl rfl) pe)) (fun _ => rfl) fun small_1 => db_ifr (DW.dt (dw_or (dt_cmp op_notN cmp_notN (DR.of (de_attr (cs := ["Paper"]) (f := "roads") (by first | exact L.ats (f := "roads") ⟨L.cls (fa_10), L.noat (fa_13), True.intro⟩) (dr_val (i := 10) rfl (pv 10)))) (DR.of de_non) (nomark _)) (dw_or (dt_cmp op_notN cmp_notN (DR.of (de_attr (cs := ["Paper"]) (f := "arrival") (by first | exact L.ats (f := "arrival") ⟨L.cls (fa_10), L.noat (fa_12), True.intro⟩) (dr_val (i := 10) rfl (pv 10)))) (DR.of de_non) (nomark _)) (dw_or1 (dt_cmp (op_neD hr.u64) cmp_ne (DR.of (de_callTy call_list_of list_op rfl (L.free (fa_30)) boot_list_ (dra_cons (DR.of (de_attr (cs := ["Paper"]) (f := "lows") (by first | exact L.ats (f := "lows") ⟨L.cls (fa_10), L.noat (fa_11), True.intro⟩) (dr_val (i := 10) rfl (pv 10)))) dra_nil))) (DR.of (de_lst da_nil)) (nomark _)))))) (db_last (ds_ret de_bl)) (db_last (ds_ret (de_and (de_isC (c := "Paper") rfl (L.free (fa_28)) boot_isinstance_ (L.insc (x := "Paper") (fa_10) (by decide)) (pe_cls_ rfl (L.glo (fa_23))) (dr_val (i := 8) rfl (pv 8))) (de_and (de_cmp (op_eqD hr.u64) cmp_eq (DR.of (de_call ctx_def k_paper_text (hr.mono (by decide)) rfl (L.glo (fa_27)) F_paper_text.kp b_paper_text (dam_bor (dr_val (i := 8) rfl (pv 8)) dam_nil))) (dr_val (i := 5) rfl (pv 5)) (nomark _)) (de_one (de_cmp (op_eqD hr.u64) cmp_eq (DR.of (de_call ctx_def k_paper_text (hr.mono (by decide)) rfl (L.glo (fa_27)) F_paper_text.kp b_paper_text (dam_bor (dr_val (i := 6) rfl (pv 6)) dam_nil))) (dr_val (i := 5) rfl (pv 5)) (nomark _))))))))))
end LawWalk
set_option Elab.async false
set_option linter.all false
set_option maxRecDepth 100000
set_option maxHeartbeats 4000000
namespace LawMath
open PySem DL LawWalk
/-- numbers as data -/
def nums (l : List Int) : List D := l.map D.int
theorem nums_len (l : List Int) : (nums l).length = l.length := by simp [nums]
theorem nums_app (l m : List Int) : nums (l ++ m) = nums l ++ nums m := by simp [nums]
theorem nums_get {l : List Int} {i : Nat} {x : Int} (h : l[i]? = some x) : (nums l)[i]? = some (.int x) := by simp [nums, h]
/-- small numbers -/
def Sm (l : List Int) : Prop := ∀ x ∈ l, 0 ≤ x ∧ x < 1009
theorem Sm.app {l m : List Int} (h : Sm l) (h2 : Sm m) : Sm (l ++ m) := fun x hx => by
  rcases List.mem_append.mp hx with h1 | h1
  · exact h x h1
  · exact h2 x h1
theorem Sm.one {x : Int} (h : 0 ≤ x ∧ x < 1009) : Sm [x] := fun y hy => by
  rw [List.mem_singleton.mp hy]
  exact h
theorem row_ok (c n : Int) (h0 : 0 ≤ n) (h1 : n < 100000) : ∃ l : List Int, m_law_row [.int c, .int n] = .ok (.lst (nums l)) ∧ l.length = n.toNat ∧ Sm l := by
  rw [e_law_row]
  unfold g_law_row
  have hr : smallI n = true := small_of (by omega) (by omega)
  obtain ⟨s', e, hI⟩ := loopF_inv (f := m_law_row_l1 (.int c)) (fun k s => ∃ (l : List Int) (r m : Int), s = (nums l, .int r, .int m) ∧ l.length = k ∧ Sm l ∧ 0 ≤ m) (rangeL 0 n.toNat) 0 ([], .int (if c < 0 then -c else c), .int (((if c < 0 then -c else c) * 48271 + 69621) % 2147483647))
    ⟨[], _, _, rfl, rfl, (fun x hx => by cases hx), by omega⟩ (fun i d s hd hi => by
      obtain ⟨l, r, m, rfl, hl, hs, hm⟩ := hi
      obtain ⟨rfl, hin⟩ := rangeL_get hd
      have hlt : l.length < sizeLine := by
        rw [PySem.sizeLine_eq]
        omega
      unfold m_law_row_l1
      by_cases hc : (10 : Int) ^ 18 ≤ (if c < 0 then -c else c)
      · refine ⟨(nums (l ++ [r % 1009]), .int (r / 1009), .int ((m * 16807 + 271 * (0 + (i : Int) + 3)) % 2147483629)), ?_, _, _, _, rfl, by simp [hl], hs.app (.one (by omega)), by omega⟩
        have hc' : decide ((10 : Int) ^ 18 ≤ (if c < 0 then -c else c)) = true := decide_eq_true hc
        simp at hc'
        simp [hlt, nums_app, nums, hc']
      · refine ⟨(nums (l ++ [(m * 16807 + 271 * (0 + (i : Int) + 3)) % 2147483629 / 7 % 1009]), .int r, .int ((m * 16807 + 271 * (0 + (i : Int) + 3)) % 2147483629)), ?_, _, _, _, rfl, by simp [hl], hs.app (.one (by omega)), by omega⟩
        have hc' : ¬ ((10 : Int) ^ 18 ≤ (if c < 0 then -c else c)) := hc
        simp at hc'
        simp [hlt, nums_app, nums, Int.not_le.mpr hc'])
  obtain ⟨l, r, m, rfl, hl, hs, _⟩ := hI
  refine ⟨l, ?_, by rw [hl, rangeL_len]; omega, hs⟩
  simp [hr, e]
theorem push1_ok (l : List D) (d : D) (h : l.length < 16777216) : m_law_numbers_l1 l d = .ok (l ++ [d]) := by
  unfold m_law_numbers_l1
  have : l.length < sizeLine := by rw [PySem.sizeLine_eq]; exact h
  simp [this]
theorem push3_ok (l : List D) (h : l.length < 16777216) : m_law_numbers_l3 l = .ok (l ++ [.int 0]) := by
  unfold m_law_numbers_l3
  have : l.length < sizeLine := by rw [PySem.sizeLine_eq]; exact h
  simp [this]
theorem pushAll (ds l : List D) (h : l.length + ds.length ≤ 16777216) : loopF m_law_numbers_l1 ds l = .ok (l ++ ds) := by
  obtain ⟨s', e, hI⟩ := loopF_inv (f := m_law_numbers_l1) (fun k s => s = l ++ ds.take k) ds 0 l (by simp) (fun i d s hd hi => by
    subst hi
    have hi := (List.getElem?_eq_some_iff.mp hd).1
    refine ⟨_, push1_ok _ _ (by rw [List.length_append, List.length_take]; omega), ?_⟩
    rw [List.append_assoc]
    congr 1
    have : 0 + i + 1 = i + 1 := by omega
    rw [this, Nat.zero_add, List.take_add_one, hd]
    rfl)
  rw [e, hI]
  simp
/-- the numbers that a law draws -/
theorem numbers_ok (l : List Int) (h : l.length ≤ 63) (n : Int) (h0 : 0 ≤ n) (h1 : n ≤ 1000) : ∃ ns : List Int, m_law_numbers [.scr l, .int n] = .ok (.lst (nums ns)) ∧ ns.length = n.toNat ∧ Sm ns := by
  rw [e_law_numbers]
  have hc : (cutL l none (some 63)).length ≤ 63 := by
    rw [cut_take l (by omega), List.length_take]
    omega
  generalize hcs : cutL l none (some 63) = cs at hc
  have hm : ∀ c : Nat, (0 : Int) < (if (1 : Int) < (c : Int) then (c : Int) else 1) ∧ (c ≤ 63 → (if (1 : Int) < (c : Int) then (c : Int) else 1) < 1073741824) := fun c => by
    split <;> omega
  obtain ⟨hm1, hm2⟩ := hm cs.length
  have hm2 := hm2 hc
  generalize hmm : (if (1 : Int) < (cs.length : Int) then (cs.length : Int) else 1) = mm at hm1 hm2
  have hq0 : 0 ≤ n / mm := Int.ediv_nonneg h0 (by omega)
  have hq1 : n / mm ≤ n := Int.ediv_le_self _ h0
  generalize hq : n / mm = q at hq0 hq1
  obtain ⟨s1, e1, l1, rfl, hl1, hs1⟩ := loopF_inv (f := m_law_numbers_l2 (.int (1 + q))) (fun k s => ∃ ns : List Int, s = nums ns ∧ ns.length = k * (1 + q).toNat ∧ Sm ns) (nums cs) 0 [] ⟨[], rfl, by simp, fun x hx => by cases hx⟩ (fun i d s hd hi => by
    obtain ⟨ns, rfl, hl, hs⟩ := hi
    have hi := (List.getElem?_eq_some_iff.mp hd).1
    rw [nums_len] at hi
    have hd' : ∃ c, d = .int c := by
      unfold nums at hd
      rw [List.getElem?_map] at hd
      cases e : cs[i]? with
      | none => rw [e] at hd; cases hd
      | some c =>
        rw [e] at hd
        cases hd
        exact ⟨c, rfl⟩
    obtain ⟨c, rfl⟩ := hd'
    obtain ⟨r, er, hr, hrs⟩ := row_ok c (1 + q) (by omega) (by omega)
    have hb : i * (1 + q).toNat ≤ 63 * 1001 := Nat.mul_le_mul (by omega) (by omega)
    refine ⟨nums (ns ++ r), ?_, ns ++ r, rfl, ?_, hs.app hrs⟩
    · unfold m_law_numbers_l2
      simp only [B1, A1, A0, okb]
      rw [er]
      simp only [okb, items_l]
      rw [pushAll _ _ (by
        rw [nums_len, nums_len, hl, hr]
        have : (0 + i) * (1 + q).toNat = i * (1 + q).toNat := by rw [Nat.zero_add]
        omega), nums_app]
      rfl
    · rw [List.length_append, hl, hr, Nat.zero_add, Nat.succ_mul])
  have hb : cs.length * (1 + q).toNat ≤ 63 * 1001 := Nat.mul_le_mul (by omega) (by omega)
  rw [nums_len, Nat.zero_add] at hl1
  obtain ⟨s2, e2, ⟨l2, rfl, hl2, hs2⟩, hf⟩ := whileF_inv (c := m_law_numbers_l3_c (.int n)) (f := m_law_numbers_l3) (fun s => ∃ ns : List Int, s = nums ns ∧ ns.length ≤ 100000 ∧ Sm ns) (fun s => n.toNat - s.length) (fun s hs => by
    obtain ⟨ns, rfl, hl, hs⟩ := hs
    refine ⟨decide ((ns.length : Int) < n), ?_, fun hb => ?_⟩
    · unfold m_law_numbers_l3_c
      simp [nums_len]
    · have hb := of_decide_eq_true hb
      refine ⟨nums (ns ++ [0]), ?_, ⟨_, rfl, by simp; omega, hs.app (.one (by omega))⟩, ?_⟩
      · rw [push3_ok _ (by rw [nums_len]; omega), nums_app]
        rfl
      · rw [nums_len, nums_len, List.length_append, List.length_singleton]
        omega) 100000 (nums l1) ⟨l1, rfl, by omega, hs1⟩ (by rw [nums_len]; omega)
  have hge : n ≤ (l2.length : Int) := by
    unfold m_law_numbers_l3_c at hf
    simp [nums_len] at hf
    exact hf
  refine ⟨l2.take n.toNat, ?_, by rw [List.length_take]; omega, fun x hx => hs2 x (List.mem_of_mem_take hx)⟩
  have hcl : (cs.map D.int) = nums cs := rfl
  unfold g_law_numbers
  simp [hcs, hmm, hm1, hm2, hq]
  rw [hcl, e1]
  simp [e2, cut_take _ h0]
  simp [nums]
end LawMath
set_option Elab.async false
set_option linter.all false
set_option maxRecDepth 100000
set_option maxHeartbeats 4000000
namespace LawMath
open PySem DL LawWalk
def letS : Str := "abcdefghijklmnopqrstuvwxyz0123456789"
def lets : List Nat := tl letS
def digs : List Nat := tl "0123456789"
theorem lets_eq : lets = [97, 98, 99, 100, 101, 102, 103, 104, 105, 106, 107, 108, 109, 110, 111, 112, 113, 114, 115, 116, 117, 118, 119, 120, 121, 122, 48, 49, 50, 51, 52, 53, 54, 55, 56, 57] := by decide +kernel
theorem digs_eq : digs = [48, 49, 50, 51, 52, 53, 54, 55, 56, 57] := by decide +kernel
def isNm (l : List Nat) : Bool := match l with
  | [] => false
  | c :: r => decide (r.length < 12) && (!decide (c ∈ digs) && (c :: r).all fun c => decide (c ∈ lets))
def Nm (x : Str) : Prop := isNm (tl x) = true
theorem is_name_eq (l : List Nat) (h : l.length ≤ 16777216) : m_is_name [.str (mk l)] = .ok (.bl (isNm l)) := by
  rw [e_is_name]
  unfold g_is_name
  have hs' : ("abcdefghijklmnopqrstuvwxyz0123456789" : Str) = letS := rfl
  rw [hs']
  cases l with
  | nil => simp [len_mk, isNm]
  | cons c r =>
    have hs : r.length + 1 ≤ sizeLine := by rw [PySem.sizeLine_eq]; exact h
    have hc : compL (fElt noT fun char_1 => bD (D.mem char_1 (.str letS))) (D.str (mk [c]) :: r.map fun c => D.str (mk [c])) = .ok (D.bl (decide (c ∈ lets)) :: r.map fun c => D.bl (decide (c ∈ lets))) := compL_mapA (l := c :: r) (k := fun c => D.str (mk [c])) (g := fun c => D.bl (decide (c ∈ lets))) h fun a _ => by
      simp [mem_char', lets]
    have ha : D.all (.lst (D.bl (decide (c ∈ lets)) :: r.map fun c => D.bl (decide (c ∈ lets)))) = .ok (.bl ((c :: r).all fun c => decide (c ∈ lets))) := all_map (c :: r)
    have hi : D.ix (.str (mk (c :: r))) (.int 0) = .ok (.str (mk [c])) := ix_str (n := 0) (by rw [len_mk]; exact h) rfl rfl
    have h1 : (1 : Int) ≤ (r.length : Int) + 1 := by omega
    have hx : ((r.length : Int) + 1 ≤ 12) ↔ r.length < 12 := by omega
    by_cases h12 : r.length < 12
    · by_cases hd : c ∈ digs
      · have hd' : c ∈ tl "0123456789" := hd
        simp [len_mk, hs, h1, hx, h12, hi, mem_char', isNm, hd, hd']
      · have hd' : ¬ c ∈ tl "0123456789" := hd
        have hi2 : D.items (.str (mk (c :: r))) = .ok ((c :: r).map fun c => D.str (mk [c])) := items_mk _
        simp [len_mk, hs, h1, hx, h12, hi, mem_char', isNm, hd, hd', hi2, hc, ha]
    · simp [len_mk, hs, h1, hx, h12, isNm]
end LawMath
set_option Elab.async false
set_option linter.all false
set_option maxRecDepth 100000
set_option maxHeartbeats 4000000
namespace LawMath
open PySem DL LawWalk L2
theorem let_at {i : Int} (h0 : 0 ≤ i) (h1 : i < 36) : ∃ c, D.ix (.str letS) (.int i) = .ok (.str (mk [c])) ∧ c ∈ lets ∧ (i < 26 → ¬ c ∈ digs) := by
  have hl : i.toNat < lets.length := by rw [lets_eq]; simp; omega
  refine ⟨lets[i.toNat], ix_str (n := i.toNat) (by decide +kernel) (List.getElem?_eq_getElem hl) (by omega), List.getElem_mem hl, fun h => ?_⟩
  have q : ∀ k : Fin 26, ¬ lets.getD k.val 0 ∈ digs := by rw [lets_eq, digs_eq]; decide
  have := q ⟨i.toNat, by omega⟩
  rwa [List.getD_eq_getElem?_getD, List.getElem?_eq_getElem hl] at this
/-- letters and digits -/
def Al (l : List Nat) : Prop := ∀ c ∈ l, c ∈ lets
theorem nm_of {a b : Nat} {l : List Nat} {k : Nat} (ha : a ∈ lets) (hd : ¬ a ∈ digs) (hb : b ∈ lets) (hl : Al l) (h : l.length ≤ 10) : isNm ([a] ++ l.take k ++ [b] ++ l.drop k) = true := by
  have e : [a] ++ l.take k ++ [b] ++ l.drop k = a :: (l.take k ++ ([b] ++ l.drop k)) := by simp
  rw [e]
  unfold isNm
  have h1 : (l.take k ++ ([b] ++ l.drop k)).length < 12 := by simp; omega
  have h2 : (a :: (l.take k ++ ([b] ++ l.drop k))).all (fun c => decide (c ∈ lets)) = true := by
    apply List.all_eq_true.mpr
    intro x hx
    apply decide_eq_true
    rcases List.mem_cons.mp hx with rfl | hx
    · exact ha
    · rcases List.mem_append.mp hx with hx | hx
      · exact hl x (List.mem_of_mem_take hx)
      · rcases List.mem_append.mp hx with hx | hx
        · rw [List.mem_singleton.mp hx]
          exact hb
        · exact hl x (List.mem_of_mem_drop hx)
  show (decide ((l.take k ++ ([b] ++ l.drop k)).length < 12) && (!decide (a ∈ digs) && (a :: (l.take k ++ ([b] ++ l.drop k))).all (fun c => decide (c ∈ lets)))) = true
  rw [decide_eq_true h1, decide_eq_false hd, h2]
  rfl
theorem name1 (n : Int) (h0 : 0 ≤ n) (cs : List Nat) (hcs : Al cs) (hl : cs.length ≤ 10) (p : Int) (hp : 0 ≤ p) (k : Int) (hk : 0 ≤ k) (xs : List D) (hx : xs.length < 16777216) : ∃ x : Str, Nm x ∧ m_law_names_l1 (.int n) (.str letS) (.str (mk cs)) (.int p) xs (.int k) = .ok (xs ++ [.str x]) := by
  obtain ⟨a, ea, ha, had⟩ := let_at (i := (n + 3 * k) % 26) (by omega) (by omega)
  obtain ⟨b5, e5, h5, _⟩ := let_at (i := (n + 5 * k) % 36) (by omega) (by omega)
  obtain ⟨b31, e31, h31, _⟩ := let_at (i := (n + 31 * k) % 36) (by omega) (by omega)
  have e1 : cutS (mk cs) (some 1) none = mk (cs.drop 1) := by rw [cutS_mk, cut_drop _ (by omega)]; rfl
  have hd1 : Al (cs.drop 1) := fun c hc => hcs c (List.mem_of_mem_drop hc)
  have hl1 : (cs.drop 1).length ≤ 10 := by rw [List.length_drop]; omega
  unfold m_law_names_l1
  by_cases c1 : (n / 121 + k) % 3 = 0
  · have hsp : 0 ≤ (if ((cs.length - 1 : Nat) : Int) < p then ((cs.length - 1 : Nat) : Int) else p) := by split <;> omega
    by_cases c2 : n / 363 % 2 = 1
    · refine ⟨mk ([a] ++ (cs.drop 1).take (if ((cs.length - 1 : Nat) : Int) < p then ((cs.length - 1 : Nat) : Int) else p).toNat ++ [b31] ++ (cs.drop 1).drop (if ((cs.length - 1 : Nat) : Int) < p then ((cs.length - 1 : Nat) : Int) else p).toNat), nm_of ha (had (by omega)) h31 hd1 hl1, ?_⟩
      simp [eq_ii, c1, c2, len_mk, e1, ea, e5, e31, cutS_mk, cut_take _ hsp, cut_drop _ hsp, mk_app]
      simp (disch := omega) only [PySem.sizeLine_eq, need_p, okb]
    · refine ⟨mk ([a] ++ (cs.drop 1).take (if ((cs.length - 1 : Nat) : Int) < p then ((cs.length - 1 : Nat) : Int) else p).toNat ++ [b5] ++ (cs.drop 1).drop (if ((cs.length - 1 : Nat) : Int) < p then ((cs.length - 1 : Nat) : Int) else p).toNat), nm_of ha (had (by omega)) h5 hd1 hl1, ?_⟩
      simp [eq_ii, c1, c2, len_mk, e1, ea, e5, e31, cutS_mk, cut_take _ hsp, cut_drop _ hsp, mk_app]
      simp (disch := omega) only [PySem.sizeLine_eq, need_p, okb]
  · have hsp : 0 ≤ (if (cs.length : Int) < p then (cs.length : Int) else p) := by split <;> omega
    by_cases c2 : n / 363 % 2 = 1
    · refine ⟨mk ([a] ++ cs.take (if (cs.length : Int) < p then (cs.length : Int) else p).toNat ++ [b31] ++ cs.drop (if (cs.length : Int) < p then (cs.length : Int) else p).toNat), nm_of ha (had (by omega)) h31 hcs hl, ?_⟩
      simp [eq_ii, c1, c2, len_mk, e1, ea, e5, e31, cutS_mk, cut_take _ hsp, cut_drop _ hsp, mk_app]
      simp (disch := omega) only [PySem.sizeLine_eq, need_p, okb]
    · refine ⟨mk ([a] ++ cs.take (if (cs.length : Int) < p then (cs.length : Int) else p).toNat ++ [b5] ++ cs.drop (if (cs.length : Int) < p then (cs.length : Int) else p).toNat), nm_of ha (had (by omega)) h5 hcs hl, ?_⟩
      simp [eq_ii, c1, c2, len_mk, e1, ea, e5, e31, cutS_mk, cut_take _ hsp, cut_drop _ hsp, mk_app]
      simp (disch := omega) only [PySem.sizeLine_eq, need_p, okb]
end LawMath
set_option Elab.async false
set_option linter.all false
set_option maxRecDepth 100000
set_option maxHeartbeats 4000000
namespace LawMath
open PySem DL LawWalk L2
def restL (n : Int) : List Nat := (List.range (n % 11).toNat).map fun (k : Nat) => lets.getD ((n + 7 * (k : Int) * (k : Int)) % 36).toNat 0
theorem rest_lt (n : Int) (k : Nat) : ((n + 7 * (k : Int) * (k : Int)) % 36).toNat < lets.length := by
  have : lets.length = 36 := by rw [lets_eq]; rfl
  rw [this]
  omega
theorem let_nat (n : Nat) (h : n < lets.length) : D.ix (.str letS) (.int (n : Int)) = .ok (.str (mk [lets.getD n 0])) := by
  have h1 : (tl letS)[n]? = some (lets.getD n 0) := by
    have h2 : lets[n]? = some (lets.getD n 0) := by
      rw [List.getD_eq_getElem?_getD, List.getElem?_eq_getElem h]
      rfl
    exact h2
  exact ix_str (by decide +kernel) h1 rfl
theorem rest_elt (s d : D) (n : Int) (k : Nat) (hk : k < 100) (hi : D.ix s (.int ((n + 7 * (k : Int) * (k : Int)) % 36)) = .ok d) : ((D.int 7).mul (.int (0 + (k : Int))) >>= fun x => x.mul (.int (0 + (k : Int))) >>= fun x => (D.int n).add x >>= fun x => x.toInt >>= fun x => x.mod (.int 36) >>= fun y => s.ix y) = .ok d := by
  have m1 : (D.int 7).mul (.int (k : Int)) = .ok (.int (7 * (k : Int))) := mul_okl (by omega) (by omega)
  have m2 : (D.int (7 * (k : Int))).mul (.int (k : Int)) = .ok (.int (7 * (k : Int) * (k : Int))) := mul_okl (by omega) (by omega)
  have m3 : (D.int (n + 7 * (k : Int) * (k : Int))).mod (.int 36) = .ok (.int ((n + 7 * (k : Int) * (k : Int)) % 36)) := mod_ok (by omega)
  rw [Int.zero_add, m1, okb, m2, okb, add_ii, okb, toInt_i, okb, m3, okb, hi]
theorem rest_comp (n : Int) (h0 : 0 ≤ n) : compL (fElt noT (fun k => (D.int 7).mul k >>= fun x => x.mul k >>= fun x => (D.int n).add x >>= fun x => x.toInt >>= fun x => x.mod (.int 36) >>= fun y => (D.str letS).ix y)) (rangeL 0 (n % 11).toNat) = .ok (((restL n).map fun c => mk [c]).map D.str) := by
  unfold restL
  rw [List.map_map, List.map_map]
  exact compL_mapA (by rw [List.length_range]; omega) fun k hk => rest_elt _ _ n k (by have := List.mem_range.mp hk; omega) (by
    have e := let_nat _ (rest_lt n k)
    have e2 : (((n + 7 * (k : Int) * (k : Int)) % 36).toNat : Int) = (n + 7 * (k : Int) * (k : Int)) % 36 := by omega
    rw [e2] at e
    exact e)
theorem flat1 : ∀ cs : List Nat, (cs.map fun c => [c]).flatten = cs
  | [] => rfl
  | c :: cs => by rw [List.map_cons, List.flatten_cons, flat1 cs]; rfl
theorem join1 (cs : List Nat) (h : cs.length ≤ 1000) : D.join (.str "") (.lst ((cs.map fun c => mk [c]).map D.str)) = .ok (.str (mk cs)) := by
  have e1 : (((cs.map fun c => mk [c]).map (·.length)).sum) = cs.length := by
    rw [List.map_map]
    clear h
    induction cs with
    | nil => rfl
    | cons c cs ih =>
      rw [List.map_cons, List.sum_cons, ih, List.length_cons]
      have : (Str.length ∘ fun c => mk [c]) c = 1 := len_mk [c]
      rw [this]
      omega
  have e0 : ("" : Str).length = 0 := by decide +kernel
  rw [join_ok (by rw [e1, e0]; omega), join0]
  have e2 : (cs.map fun c => mk [c]).map tl = cs.map fun c => [c] := by
    rw [List.map_map]
    exact List.map_congr_left fun x _ => tl_mk _
  rw [e2, flat1]
theorem rest_al (n : Int) : Al (restL n) := fun c hc => by
  unfold restL at hc
  obtain ⟨k, hk, rfl⟩ := List.mem_map.mp hc
  rw [List.getD_eq_getElem?_getD, List.getElem?_eq_getElem (rest_lt n k)]
  exact List.getElem_mem (rest_lt n k)
theorem rest_len (n : Int) : (restL n).length ≤ 10 := by
  unfold restL
  rw [List.length_map, List.length_range]
  omega
theorem names_ok (n m : Int) (h0 : 0 ≤ n) (hm : 0 ≤ m) (hm2 : m ≤ 1000) : ∃ xs : List Str, m_law_names [.int n, .int m] = .ok (.lst (xs.map D.str)) ∧ xs.length = m.toNat ∧ ∀ x ∈ xs, Nm x := by
  rw [e_law_names]
  have hz : smallI (n % 11) = true := small_of (by omega) (by omega)
  have hzm : smallI m = true := small_of (by omega) (by omega)
  have ecs := rest_comp n h0
  have hj := join1 (restL n) (by have := rest_len n; omega)
  have hfl := rest_len n
  have hfa := rest_al n
  generalize (restL n).map (fun c => mk [c]) = rs at ecs hj
  generalize restL n = fl at hj hfl hfa
  obtain ⟨s, es, xs, rfl, hxl, hxn⟩ := loopF_inv (f := m_law_names_l1 (.int n) (.str letS) (.str (mk fl)) (.int (n / 11 % (n % 11 + 1)))) (fun k s => ∃ xs : List Str, s = xs.map D.str ∧ xs.length = k ∧ ∀ x ∈ xs, Nm x) (rangeL 0 m.toNat) 0 [] ⟨[], rfl, rfl, fun x hx => by cases hx⟩ (fun i d s hd hs => by
    obtain ⟨xs, rfl, hl, hn⟩ := hs
    obtain ⟨rfl, hi⟩ := rangeL_get hd
    obtain ⟨x, hx, ex⟩ := name1 n h0 fl hfa hfl (n / 11 % (n % 11 + 1)) (Int.emod_nonneg _ (by omega)) (0 + (i : Int)) (by omega) (xs.map D.str) (by rw [List.length_map]; omega)
    refine ⟨_, ex, xs ++ [x], by simp, by simp [hl], fun y hy => ?_⟩
    rcases List.mem_append.mp hy with h | h
    · exact hn y h
    · rw [List.mem_singleton.mp h]
      exact hx)
  refine ⟨xs, ?_, by rw [hxl, rangeL_len]; omega, hxn⟩
  have hs' : ("abcdefghijklmnopqrstuvwxyz0123456789" : Str) = letS := rfl
  have hp : (0 : Int) < n % 11 + 1 := by omega
  unfold g_law_names
  rw [hs']
  simp [hz, hzm, ecs, hj, hp, es]
end LawMath
set_option Elab.async false
set_option linter.all false
set_option maxRecDepth 100000
set_option maxHeartbeats 4000000
namespace LawMath
open PySem DL LawWalk L2
/-- labels -/
def lowD (q : Str × Nat) : D := .tup [.str q.1, .int q.2]
def roadsD : Option (List Str × Nat) → D
  | none => .non
  | some (r, _) => .lst (r.map D.str)
def arrD : Option (List Str × Nat) → D
  | none => .non
  | some (_, a) => .int a
structure Ok (r : Option (List Str × Nat)) (ls : List (Str × Nat)) : Prop where
  rd : ∀ x a, r = some (x, a) → x.length ≤ 6 ∧ (∀ y ∈ x, Nm y) ∧ a ≤ 999999999
  ll : ls.length ≤ 8
  ln : ∀ q ∈ ls, Nm q.1 ∧ q.2 ≤ 999999999
theorem nums_ix {ns : List Int} (h : ns.length = 50) (hs : Sm ns) {i : Int} (h0 : 0 ≤ i) (h1 : i < 50) : ∃ x : Int, D.ix (.lst (nums ns)) (.int i) = .ok (.int x) ∧ 0 ≤ x ∧ x < 1009 := by
  have hl : i.toNat < ns.length := by omega
  refine ⟨ns[i.toNat], ix_nat (n := i.toNat) (nums_get (List.getElem?_eq_getElem hl)) (by omega), hs _ (List.getElem_mem hl)⟩
theorem strs_ix {xs : List Str} {i : Int} (h0 : 0 ≤ i) (h1 : i < (xs.length : Int)) : ∃ x, D.ix (.lst (xs.map D.str)) (.int i) = .ok (.str x) ∧ x ∈ xs := by
  have hl : i.toNat < xs.length := by omega
  refine ⟨xs[i.toNat], ix_nat (n := i.toNat) (by rw [List.getElem?_map, List.getElem?_eq_getElem hl]; rfl) (by omega), List.getElem_mem hl⟩
theorem pick4 (a b : Int) (n : Int) (h0 : 0 ≤ n) (ha : 0 ≤ a ∧ a ≤ 999999999) (hb : 0 ≤ b ∧ b ≤ 999999999) : ∃ k : Nat, D.ix (.lst [.int 0, .int 999999999, .int a, .int b]) (.int (n % 4)) = .ok (.int (k : Int)) ∧ k ≤ 999999999 := by
  have h : n % 4 = 0 ∨ n % 4 = 1 ∨ n % 4 = 2 ∨ n % 4 = 3 := by omega
  rcases h with h | h | h | h
  · exact ⟨0, by rw [h]; exact ix_nat (n := 0) rfl rfl, by omega⟩
  · exact ⟨999999999, by rw [h]; exact ix_nat (n := 1) rfl rfl, by omega⟩
  · exact ⟨a.toNat, by rw [h, Int.toNat_of_nonneg ha.1]; exact ix_nat (n := 2) rfl rfl, by omega⟩
  · exact ⟨b.toNat, by rw [h, Int.toNat_of_nonneg hb.1]; exact ix_nat (n := 3) rfl rfl, by omega⟩
theorem nm_z : Nm "z" := by
  show isNm (tl "z") = true
  decide +kernel
theorem nm_a1 : Nm "a1" := by
  show isNm (tl "a1") = true
  decide +kernel
theorem low1 {ns : List Int} (h : ns.length = 50) (hs : Sm ns) {xs : List Str} (hx : xs.length = 9) (hn : ∀ x ∈ xs, Nm x) (k : Int) (h0 : 0 ≤ k) (h1 : k < 9) (l : List D) (hl : l.length < 100) : ∃ q : Str × Nat, m_law_paper_l1 (.lst (nums ns)) (.lst (xs.map D.str)) l (.int k) = .ok (l ++ [lowD q]) ∧ Nm q.1 ∧ q.2 ≤ 999999999 := by
  obtain ⟨a, ea, ha⟩ := nums_ix h hs (i := 20 + k) (by omega) (by omega)
  obtain ⟨b, eb, hb⟩ := nums_ix h hs (i := 30 + k) (by omega) (by omega)
  obtain ⟨c, ec, hc⟩ := nums_ix h hs (i := 40 + k) (by omega) (by omega)
  obtain ⟨x, ex, hxm⟩ := strs_ix (xs := xs) (i := a % 9) (by omega) (by omega)
  obtain ⟨n, en, hn2⟩ := pick4 b (b * 977) c (by omega) (by omega) (by omega)
  have hl' : l.length < sizeLine := by rw [PySem.sizeLine_eq]; omega
  have s4 : 4 ≤ sizeLine := by decide
  have s2 : 2 ≤ sizeLine := by decide
  refine ⟨(x, n), ?_, hn x hxm, hn2⟩
  unfold m_law_paper_l1
  simp [ea, eb, ec, ex, en, hl', lowD, s4, s2]
theorem paper_ok {ns : List Int} (h : ns.length = 50) (hs : Sm ns) : ∃ r ls, Ok r ls ∧ m_law_paper [.lst (nums ns)] = .ok (.tup [roadsD r, arrD r, .lst (ls.map lowD)]) := by
  rw [e_law_paper]
  obtain ⟨a0, e0, h0⟩ := nums_ix h hs (i := 0) (by omega) (by omega)
  obtain ⟨a1, e1, h1⟩ := nums_ix h hs (i := 1) (by omega) (by omega)
  obtain ⟨a2, e2, h2⟩ := nums_ix h hs (i := 2) (by omega) (by omega)
  obtain ⟨a3, e3, h3⟩ := nums_ix h hs (i := 3) (by omega) (by omega)
  obtain ⟨a4, e4, h4⟩ := nums_ix h hs (i := 4) (by omega) (by omega)
  obtain ⟨a5, e5, h5⟩ := nums_ix h hs (i := 5) (by omega) (by omega)
  obtain ⟨xs7, ex, hx7, hn7⟩ := names_ok a0 7 (by omega) (by omega) (by omega)
  obtain ⟨xs, exs, hx, hn⟩ : ∃ xs : List Str, xs7.map D.str ++ [D.str "z", D.str "a1"] = xs.map D.str ∧ xs.length = 9 ∧ ∀ x ∈ xs, Nm x := ⟨xs7 ++ ([("z" : Str), ("a1" : Str)] : List Str), by simp, by simp [hx7], fun x hx => by
    rcases List.mem_append.mp hx with hx | hx
    · exact hn7 x hx
    · rcases List.mem_cons.mp hx with rfl | hx
      · exact nm_z
      · rw [List.mem_singleton.mp hx]
        exact nm_a1⟩
  have z2 : smallI (a2 % 7) = true := small_of (by omega) (by omega)
  have z5 : smallI (a5 % 9) = true := small_of (by omega) (by omega)
  have s4 : 4 ≤ sizeLine := by decide
  have s2 : 2 ≤ sizeLine := by decide
  have s3 : 3 ≤ sizeLine := by decide
  have s9 : xs7.length + 2 ≤ sizeLine := by rw [PySem.sizeLine_eq]; omega
  -- labels
  obtain ⟨s, es, ls, rfl, hll, hln⟩ := loopF_inv (f := m_law_paper_l1 (.lst (nums ns)) (.lst (xs.map D.str))) (fun k s => ∃ ls : List (Str × Nat), s = ls.map lowD ∧ ls.length = k ∧ ∀ q ∈ ls, Nm q.1 ∧ q.2 ≤ 999999999) (rangeL 0 (a5 % 9).toNat) 0 [] ⟨[], rfl, rfl, fun x hx => by cases hx⟩ (fun i d s hd hi => by
    obtain ⟨ls, rfl, hl, hq⟩ := hi
    obtain ⟨rfl, hi⟩ := rangeL_get hd
    obtain ⟨q, eq, q1, q2⟩ := low1 h hs hx hn (0 + (i : Int)) (by omega) (by omega) (ls.map lowD) (by rw [List.length_map]; omega)
    refine ⟨_, eq, ls ++ [q], by simp, by simp [hl], fun y hy => ?_⟩
    rcases List.mem_append.mp hy with h | h
    · exact hq y h
    · rw [List.mem_singleton.mp h]
      exact ⟨q1, q2⟩)
  rw [rangeL_len] at hll
  by_cases hr : 0 < a1 % 4
  · obtain ⟨n, en, hn2⟩ := pick4 a3 (a3 * 991) a4 (by omega) (by omega) (by omega)
    -- roads
    obtain ⟨rs, ers, hrl, hrn⟩ : ∃ rs : List Str, compL (fElt noT fun k => (D.int 10).add k >>= fun y => D.ix (.lst (nums ns)) y >>= fun x => x.toInt >>= fun x => x.mod (.int 9) >>= fun y => D.ix (.lst (xs.map D.str)) y) (rangeL 0 (a2 % 7).toNat) = .ok (rs.map D.str) ∧ rs.length ≤ 6 ∧ ∀ x ∈ rs, Nm x := by
      have q : ∀ k : Nat, k < 7 → ∃ x, Nm x ∧ ((D.int 10).add (.int (0 + (k : Int))) >>= fun y => D.ix (.lst (nums ns)) y >>= fun x => x.toInt >>= fun x => x.mod (.int 9) >>= fun y => D.ix (.lst (xs.map D.str)) y) = .ok (.str x) := fun k hk => by
        obtain ⟨a, ea, ha⟩ := nums_ix h hs (i := 10 + (0 + (k : Int))) (by omega) (by omega)
        obtain ⟨x, ex, hxm⟩ := strs_ix (xs := xs) (i := a % 9) (by omega) (by omega)
        refine ⟨x, hn x hxm, ?_⟩
        rw [add_ii, okb, ea, okb, toInt_i, okb, mod_ok (by omega), okb, ex]
      refine ⟨(List.range (a2 % 7).toNat).map fun k => if hk : k < 7 then (q k hk).choose else "z", ?_, by rw [List.length_map, List.length_range]; omega, fun x hx => ?_⟩
      · rw [List.map_map]
        refine compL_mapA (by rw [List.length_range]; omega) fun k hk => ?_
        have hk7 : k < 7 := by have := List.mem_range.mp hk; omega
        have := (q k hk7).choose_spec.2
        rw [this]
        simp [hk7]
      · obtain ⟨k, hk, rfl⟩ := List.mem_map.mp hx
        have hk7 : k < 7 := by have := List.mem_range.mp hk; omega
        simp only [dif_pos hk7]
        exact (q k hk7).choose_spec.1
    refine ⟨some (rs, n), ls, ⟨fun x a e => (by cases e; exact ⟨hrl, hrn, hn2⟩), by omega, hln⟩, ?_⟩
    unfold g_law_paper
    simp -implicitDefEqProofs [e0, e1, e2, e3, e4, e5, ex, exs, s2, s9, z2, z5, hr, ers, s4, en, es, s3, roadsD, arrD]
  · refine ⟨none, ls, ⟨fun x a e => (by cases e), by omega, hln⟩, ?_⟩
    have hr' : a1 % 4 ≤ 0 := by omega
    unfold g_law_paper
    simp -implicitDefEqProofs [e0, e1, e2, e3, e4, e5, ex, exs, s2, s9, z2, z5, hr, s4, es, s3, roadsD, arrD]
end LawMath
set_option Elab.async false
set_option linter.all false
set_option maxRecDepth 100000
set_option maxHeartbeats 4000000
namespace LawMath
open PySem DL LawWalk L2
def num (n : Nat) : Str := mk (TL.numL n)
def ln (ws : List Str) : Str := Str.join " " ws
def headW : Option (List Str × Nat) → List (List Str)
  | none => [["none"]]
  | some (rs, a) => ["arrives", num a] :: rs.map fun x => ["by", x]
def lowW (q : Str × Nat) : List Str := ["low", q.1, num q.2]
def linesW (r : Option (List Str × Nat)) (ls : List (Str × Nat)) : List (List Str) := headW r ++ ls.map lowW
def text (r : Option (List Str × Nat)) (ls : List (Str × Nat)) : Str := Str.join "\n" ((linesW r ls).map ln)
theorem tl_sp : tl " " = [32] := by decide +kernel
theorem tl_nl : tl "\n" = [10] := by decide +kernel
theorem ln_two (a b : Str) : ln [a, b] = a ++ " " ++ b := by
  apply TL.ext_tl
  unfold ln
  rw [TL.tl_join, TL.tl_append, TL.tl_append]
  show TL.tl a ++ (TL.tl " " ++ TL.tl b) = _
  rw [List.append_assoc]
theorem ln_three (a b c : Str) : ln [a, b, c] = a ++ " " ++ b ++ " " ++ c := by
  apply TL.ext_tl
  unfold ln
  rw [TL.tl_join, TL.tl_append, TL.tl_append, TL.tl_append, TL.tl_append]
  show TL.tl a ++ (TL.tl " " ++ (TL.tl b ++ (TL.tl " " ++ TL.tl c))) = _
  simp only [List.append_assoc]
theorem by_eq (x : Str) : ("by " : Str) ++ x = ln ["by", x] := by
  rw [ln_two]
  congr 1
theorem arr_eq (x : Str) : ("arrives " : Str) ++ x = ln ["arrives", x] := by
  rw [ln_two]
  congr 1
theorem low_eq (x y : Str) : ("low " : Str) ++ x ++ " " ++ y = ln ["low", x, y] := by
  rw [ln_three]
  congr 1
theorem nm_len {x : Str} (h : Nm x) : 1 ≤ x.length ∧ x.length ≤ 12 := by
  unfold Nm isNm at h
  rw [TL.len_tl]
  cases e : TL.tl x with
  | nil =>
    have e : tl x = [] := e
    rw [e] at h
    cases h
  | cons c r =>
    have e : tl x = c :: r := e
    rw [e] at h
    have h := (and2 h).1
    have h := of_decide_eq_true h
    simp
    omega
theorem nm_al {x : Str} (h : Nm x) : Al (tl x) := by
  unfold Nm isNm at h
  cases e : tl x with
  | nil =>
    rw [e] at h
    cases h
  | cons c r =>
    rw [e] at h
    have h := (and2 (and2 h).2).2
    intro y hy
    exact of_decide_eq_true (List.all_eq_true.mp h y hy)
theorem al_no {l : List Nat} (h : Al l) : 32 ∉ l ∧ 10 ∉ l := by
  refine ⟨fun q => ?_, fun q => ?_⟩ <;> have := h _ q <;> rw [lets_eq] at this <;> revert this <;> decide
theorem num_len {n : Nat} (h : n ≤ 999999999) : (num n).length ≤ 9 := by
  unfold num
  rw [len_mk]
  exact TL.numL_len (by decide) (by omega)
theorem num_no (n : Nat) : 32 ∉ tl (num n) ∧ 10 ∉ tl (num n) := ⟨TL.numL_free (by omega), TL.numL_free (by omega)⟩
theorem app_len (a b : Str) : (a ++ b).length = a.length + b.length := by rw [TL.len_tl, TL.tl_append, List.length_append, ← TL.len_tl, ← TL.len_tl]
theorem len_by : ("by " : Str).length = 3 := by decide +kernel
theorem len_arr : ("arrives " : Str).length = 8 := by decide +kernel
theorem len_low : ("low " : Str).length = 4 := by decide +kernel
theorem len_sp : (" " : Str).length = 1 := by decide +kernel
theorem len_nl : ("\n" : Str).length = 1 := by decide +kernel
theorem len_none : ("none" : Str).length = 4 := by decide +kernel
theorem ln_one (a : Str) : ln [a] = a := by
  apply TL.ext_tl
  unfold ln
  rw [TL.tl_join]
  rfl
/-- each line is short -/
theorem line_len {r : Option (List Str × Nat)} {ls : List (Str × Nat)} (ok : Ok r ls) : ∀ w ∈ linesW r ls, (ln w).length ≤ 26 := by
  intro w hw
  unfold linesW at hw
  rcases List.mem_append.mp hw with h | h
  · cases r with
    | none =>
      rw [List.mem_singleton.mp h, ln_one, len_none]
      omega
    | some q =>
      obtain ⟨rs, a⟩ := q
      obtain ⟨h1, h2, h3⟩ := ok.rd rs a rfl
      rcases List.mem_cons.mp h with rfl | h
      · rw [← arr_eq, app_len, len_arr]
        have := num_len h3
        omega
      · obtain ⟨x, hx, rfl⟩ := List.mem_map.mp h
        rw [← by_eq, app_len, len_by]
        have := (nm_len (h2 x hx)).2
        omega
  · obtain ⟨q, hq, rfl⟩ := List.mem_map.mp h
    obtain ⟨h1, h2⟩ := ok.ln q hq
    show (ln ["low", q.1, num q.2]).length ≤ 26
    rw [← low_eq, app_len, app_len, app_len, len_low, len_sp]
    have := (nm_len h1).2
    have := num_len h2
    omega
theorem lines_count {r : Option (List Str × Nat)} {ls : List (Str × Nat)} (ok : Ok r ls) : (linesW r ls).length ≤ 15 ∧ linesW r ls ≠ [] := by
  have h8 := ok.ll
  unfold linesW
  cases r with
  | none => exact ⟨by simp [headW]; omega, by simp [headW]⟩
  | some q =>
    obtain ⟨rs, a⟩ := q
    obtain ⟨h1, h2, h3⟩ := ok.rd rs a rfl
    exact ⟨by simp [headW]; omega, by simp [headW]⟩
theorem sum_le {l : List Nat} {k : Nat} (h : ∀ x ∈ l, x ≤ k) : l.sum ≤ l.length * k := by
  induction l with
  | nil => simp
  | cons a l ih =>
    have h1 := h a (List.mem_cons_self ..)
    have h2 := ih fun x hx => h x (List.mem_cons_of_mem _ hx)
    rw [List.sum_cons, List.length_cons, Nat.succ_mul]
    omega
theorem join_lines {r : Option (List Str × Nat)} {ls : List (Str × Nat)} (ok : Ok r ls) : D.join (.str "\n") (.lst (((linesW r ls).map ln).map D.str)) = .ok (.str (text r ls)) := by
  refine join_ok ?_
  have h1 := (lines_count ok).1
  have h2 : ((((linesW r ls).map ln)).map (·.length)).sum ≤ 15 * 26 := by
    refine Nat.le_trans (sum_le (k := 26) fun x hx => ?_) ?_
    · obtain ⟨y, hy, rfl⟩ := List.mem_map.mp hx
      obtain ⟨w, hw, rfl⟩ := List.mem_map.mp hy
      exact line_len ok w hw
    · rw [List.length_map, List.length_map]
      omega
  rw [len_nl, List.length_map]
  omega
theorem lines_none (ls : List (Str × Nat)) : ((linesW none ls).map ln).map D.str = D.str "none" :: (ls.map fun q => ln (lowW q)).map D.str := by
  unfold linesW headW
  rw [List.map_append, List.map_append, List.map_cons, List.map_cons, ln_one, List.map_map (g := ln)]
  rfl
theorem lines_some (rs : List Str) (a : Nat) (ls : List (Str × Nat)) : ((linesW (some (rs, a)) ls).map ln).map D.str = D.str (ln ["arrives", num a]) :: ((rs.map fun x => ln ["by", x]).map D.str ++ (ls.map fun q => ln (lowW q)).map D.str) := by
  unfold linesW headW
  rw [List.map_append, List.map_append, List.map_cons, List.map_cons, List.map_map (g := ln), List.map_map (g := ln)]
  rfl
theorem text_ok {r : Option (List Str × Nat)} {ls : List (Str × Nat)} (ok : Ok r ls) : m_law_text [roadsD r, arrD r, .lst (ls.map lowD)] = .ok (.str (text r ls)) := by
  rw [e_law_text]
  have hj := join_lines ok
  have hc := (lines_count ok).1
  have hlow : compL (fElt noT fun low => low.ix (.int 0) >>= fun y => (D.str "low ").add y >>= fun x => x.add (.str " ") >>= fun x => low.ix (.int 1) >>= fun x_1 => x_1.toStr >>= fun y => x.add y) (ls.map lowD) = .ok ((ls.map fun q => ln (lowW q)).map D.str) := by
    rw [List.map_map]
    refine compL_mapA (by have := ok.ll; omega) fun q hq => ?_
    obtain ⟨h1, h2⟩ := ok.ln q hq
    have h3 := nm_len h1
    have h4 := num_len h2
    have e0 : (lowD q).ix (.int 0) = .ok (.str q.1) := ix_natT (n := 0) rfl rfl
    have e1 : (lowD q).ix (.int 1) = .ok (.int q.2) := ix_natT (n := 1) rfl rfl
    have e2 : (D.int q.2).toStr = .ok (.str (num q.2)) := toStr_nat (by omega)
    have a1 : ("low " : Str).length + q.1.length ≤ sizeLine := by rw [PySem.sizeLine_eq, len_low]; omega
    have a2 : (("low " : Str) ++ q.1).length + (" " : Str).length ≤ sizeLine := by rw [PySem.sizeLine_eq, app_len, len_low, len_sp]; omega
    have a3 : (("low " : Str) ++ q.1 ++ " ").length + (num q.2).length ≤ sizeLine := by rw [PySem.sizeLine_eq, app_len, app_len, len_low, len_sp]; omega
    rw [e0, okb, add_ss, need_p a1, okb, okb, add_ss, need_p a2, okb, okb, e1, okb, e2, okb, add_ss, need_p a3, okb, low_eq]
    rfl
  have s1 : 1 ≤ sizeLine := by decide
  have hl8 := ok.ll
  unfold g_law_text
  cases r with
  | none =>
    have hj' : D.join (.str "\n") (.lst (D.str "none" :: (ls.map fun q => ln (lowW q)).map D.str)) = .ok (.str (text none ls)) := by
      rw [← hj, lines_none]
    have hlw : (ls.map fun q => ln (lowW q)).length = ls.length := List.length_map _
    generalize (ls.map fun q => ln (lowW q)) = lw at hlow hj' hlw
    have a4 : 1 + lw.length ≤ sizeLine := by rw [PySem.sizeLine_eq]; omega
    simp -implicitDefEqProofs [roadsD, hlow, a4, hj', s1]
  | some q =>
    obtain ⟨rs, a⟩ := q
    obtain ⟨h1, h2, h3⟩ := ok.rd rs a rfl
    have hby : compL (fElt noT fun name => (D.str "by ").add name) (rs.map D.str) = .ok ((rs.map fun x => ln ["by", x]).map D.str) := by
      rw [List.map_map]
      refine compL_mapA (by omega) fun x hx => ?_
      have h3 := nm_len (h2 x hx)
      rw [add_ss, need_p (by rw [PySem.sizeLine_eq, len_by]; omega), okb, by_eq]
      rfl
    have hj' : D.join (.str "\n") (.lst (D.str (ln ["arrives", num a]) :: ((rs.map fun x => ln ["by", x]).map D.str ++ (ls.map fun q => ln (lowW q)).map D.str))) = .ok (.str (text (some (rs, a)) ls)) := by
      rw [← hj, lines_some]
    have e2 : (D.int a).toStr = .ok (.str (num a)) := toStr_nat (by omega)
    have a1 : ("arrives " : Str).length + (num a).length ≤ sizeLine := by rw [PySem.sizeLine_eq, len_arr]; have := num_len h3; omega
    have hlw : (ls.map fun q => ln (lowW q)).length = ls.length := List.length_map _
    have hlr : (rs.map fun x => ln ["by", x]).length = rs.length := List.length_map _
    generalize (ls.map fun q => ln (lowW q)) = lw at hlow hj' hlw
    generalize (rs.map fun x => ln ["by", x]) = rw1 at hby hj' hlr
    have a4 : rw1.length + 1 + lw.length ≤ sizeLine := by rw [PySem.sizeLine_eq]; omega
    have a5 : 1 + rw1.length ≤ sizeLine := by rw [PySem.sizeLine_eq]; omega
    simp -implicitDefEqProofs [roadsD, arrD, hlow, hby, a4, a5, hj', s1, e2, a1, arr_eq]
/-! ### the paper -/
def roadsT : Option (List Str × Nat) → D
  | none => .non
  | some (r, _) => .tup (r.map D.str)
def flds (r : Option (List Str × Nat)) (ls : List (Str × Nat)) : List (String × D) := [("roads", roadsT r), ("arrival", arrD r), ("lows", .lst (ls.map lowD))]
theorem init_ok {r : Option (List Str × Nat)} {ls : List (Str × Nat)} (ok : Ok r ls) : m_Paper_init [roadsD r, arrD r, .lst (ls.map lowD)] = .ok (flds r ls) := by
  rw [e_Paper_init]
  have hl : compL (fElt noT fun l => l.toTup) (ls.map lowD) = .ok (ls.map lowD) := compL_mapA (by have := ok.ll; omega) fun q hq => rfl
  have k1 : (1 : Nat) < 1000 := by omega
  unfold g_Paper_init
  cases r with
  | none => simp -implicitDefEqProofs [roadsD, roadsT, arrD, hl, putD, flds]
  | some q =>
    obtain ⟨rs, a⟩ := q
    simp -implicitDefEqProofs [roadsD, roadsT, arrD, hl, putD, flds]
theorem ptext_ok {r : Option (List Str × Nat)} {ls : List (Str × Nat)} (ok : Ok r ls) : m_paper_text [.ins "Paper" (flds r ls)] = .ok (.str (text r ls)) := by
  rw [e_paper_text]
  have hj := join_lines ok
  have e1 : D.attrC ["Paper"] "roads" (.ins "Paper" (flds r ls)) = .ok (roadsT r) := rfl
  have e2 : D.attrC ["Paper"] "arrival" (.ins "Paper" (flds r ls)) = .ok (arrD r) := rfl
  have e3 : D.attrC ["Paper"] "lows" (.ins "Paper" (flds r ls)) = .ok (.lst (ls.map lowD)) := rfl
  generalize D.ins "Paper" (flds r ls) = P at e1 e2 e3
  have ee : ∀ x : Str, Str.empty ++ x = x := fun x => TL.ext_tl (TL.tl_append _ _)
  have hlow : compL (fElt noT (on2 fun name number => fjoin Str.empty [.ok (.str "low "), D.fmt name, .ok (.str " "), D.fmt number])) (ls.map lowD) = .ok ((ls.map fun q => ln (lowW q)).map D.str) := by
    rw [List.map_map]
    refine compL_mapA (by have := ok.ll; omega) fun q hq => ?_
    obtain ⟨h1, h2⟩ := ok.ln q hq
    have h3 := nm_len h1
    have h4 := num_len h2
    have f1 : D.fmt (.str q.1) = .ok (.str q.1) := fmt_str (by omega)
    have f2 : D.fmt (.int q.2) = .ok (.str (num q.2)) := fmt_nat (by omega)
    show fjoin Str.empty [.ok (.str "low "), D.fmt (.str q.1), .ok (.str " "), D.fmt (.int q.2)] = _
    rw [f1, f2, fjoin_cons (by rw [ee, len_low]; omega), fjoin_cons (by rw [ee, app_len, len_low]; omega), fjoin_cons (by rw [ee, app_len, app_len, len_low, len_sp]; omega), fjoin_cons (by rw [ee, app_len, app_len, app_len, len_low, len_sp]; omega), fjoin_nil, ee, low_eq]
    rfl
  have s1 : 1 ≤ sizeLine := by decide
  have hl8 := ok.ll
  unfold g_paper_text
  cases r with
  | none =>
    have hj' : D.join (.str "\n") (.lst (D.str "none" :: (ls.map fun q => ln (lowW q)).map D.str)) = .ok (.str (text none ls)) := by
      rw [← hj, lines_none]
    have hlw : (ls.map fun q => ln (lowW q)).length = ls.length := List.length_map _
    generalize (ls.map fun q => ln (lowW q)) = lw at hlow hj' hlw
    have a4 : 1 + lw.length ≤ sizeLine := by rw [PySem.sizeLine_eq]; omega
    simp -implicitDefEqProofs [e1, e2, e3, roadsT, hlow, a4, hj', s1]
  | some q =>
    obtain ⟨rs, a⟩ := q
    obtain ⟨h1, h2, h3⟩ := ok.rd rs a rfl
    have hby : compL (fElt noT fun name => fjoin Str.empty [.ok (.str "by "), D.fmt name]) (rs.map D.str) = .ok ((rs.map fun x => ln ["by", x]).map D.str) := by
      rw [List.map_map]
      refine compL_mapA (by omega) fun x hx => ?_
      have h3 := nm_len (h2 x hx)
      have f1 : D.fmt (.str x) = .ok (.str x) := fmt_str (by omega)
      rw [f1, fjoin_cons (by rw [ee, len_by]; omega), fjoin_cons (by rw [ee, app_len, len_by]; omega), fjoin_nil, ee, by_eq]
      rfl
    have hj' : D.join (.str "\n") (.lst (D.str (ln ["arrives", num a]) :: ((rs.map fun x => ln ["by", x]).map D.str ++ (ls.map fun q => ln (lowW q)).map D.str))) = .ok (.str (text (some (rs, a)) ls)) := by
      rw [← hj, lines_some]
    have fa : fjoin Str.empty [.ok (.str "arrives "), D.fmt (.int a)] = .ok (.str (ln ["arrives", num a])) := by
      have f2 : D.fmt (.int a) = .ok (.str (num a)) := fmt_nat (by omega)
      have h4 := num_len h3
      rw [f2, fjoin_cons (by rw [ee, len_arr]; omega), fjoin_cons (by rw [ee, app_len, len_arr]; omega), fjoin_nil, ee, arr_eq]
    have hlw : (ls.map fun q => ln (lowW q)).length = ls.length := List.length_map _
    have hlr : (rs.map fun x => ln ["by", x]).length = rs.length := List.length_map _
    generalize (ls.map fun q => ln (lowW q)) = lw at hlow hj' hlw
    generalize (rs.map fun x => ln ["by", x]) = rw1 at hby hj' hlr
    have a4 : rw1.length + 1 + lw.length ≤ sizeLine := by rw [PySem.sizeLine_eq]; omega
    have a5 : 1 + rw1.length ≤ sizeLine := by rw [PySem.sizeLine_eq]; omega
    simp -implicitDefEqProofs [e1, e2, e3, roadsT, arrD, hlow, hby, a4, a5, hj', s1, fa]
end LawMath
set_option Elab.async false
set_option linter.all false
set_option maxRecDepth 100000
set_option maxHeartbeats 4000000
namespace LawMath
open PySem DL LawWalk L2
/-! ### numbers read -/
theorem numL_head : ∀ (n : Nat), 0 < n → (TL.numL n).head? ≠ some 48 := by
  intro n
  induction n using Nat.strongRecOn with
  | ind n ih =>
    intro h
    by_cases h10 : n < 10
    · rw [TL.numL_lt h10]
      simp
      omega
    · rw [TL.numL_step (by omega)]
      have h1 := ih (n / 10) (by omega) (by omega)
      have h2 := TL.numL_ne (n / 10)
      cases e : TL.numL (n / 10) with
      | nil => exact absurd e h2
      | cons c r =>
        rw [e] at h1
        exact h1
theorem read_ok {n : Nat} (h : n ≤ 999999999) (k : D) : m_read_number [.str (num n), k] = .ok (.int n) := by
  rw [e_read_number]
  have hl := num_len h
  have hne := TL.numL_ne n
  have hi : D.toInt (.str (num n)) = .ok (.int n) := toInt_num (by
    refine Nat.lt_of_le_of_lt h ?_
    decide +kernel)
  cases e : TL.numL n with
  | nil => exact absurd e hne
  | cons c r =>
    have en : num n = mk (c :: r) := by unfold num; rw [e]
    have hlen : (num n).length = r.length + 1 := by rw [en, len_mk]; rfl
    have hs : r.length + 1 ≤ sizeLine := by rw [PySem.sizeLine_eq]; omega
    have h9 : (r.length : Int) + 1 ≤ 9 := by omega
    have h1 : (1 : Int) ≤ (r.length : Int) + 1 := by omega
    have hd : ∀ a ∈ c :: r, a ∈ digs := by
      intro a ha
      have := TL.numL_digits n a (by rw [e]; exact ha)
      rw [digs_eq]
      have : 48 ≤ a ∧ a ≤ 57 := this
      simp
      omega
    have hc : compL (fElt noT fun char_1 => bD (D.mem char_1 (.str "0123456789"))) (D.str (mk [c]) :: r.map fun c => D.str (mk [c])) = .ok (D.bl (decide (c ∈ digs)) :: r.map fun c => D.bl (decide (c ∈ digs))) := compL_mapA (l := c :: r) (k := fun c => D.str (mk [c])) (g := fun c => D.bl (decide (c ∈ digs))) (by rw [List.length_cons]; omega) fun a _ => by
      rw [mem_char']
      rfl
    have ha : D.all (.lst (D.bl (decide (c ∈ digs)) :: r.map fun c => D.bl (decide (c ∈ digs)))) = .ok (.bl true) := by
      refine (all_map (c :: r)).trans ?_
      congr 2
      exact List.all_eq_true.mpr fun a ha => decide_eq_true (hd a ha)
    have hx : D.ix (.str (mk (c :: r))) (.int 0) = .ok (.str (mk [c])) := ix_str (n := 0) (by rw [len_mk, List.length_cons]; omega) rfl rfl
    have hit : D.items (.str (mk (c :: r))) = .ok (D.str (mk [c]) :: r.map fun c => D.str (mk [c])) := items_mk _
    have h0 : ("0" : Str) = mk [48] := TL.ext_tl (by decide +kernel)
    have hz : ¬ (c = 48 ∧ 1 < (r.length : Int) + 1) := fun ⟨z, z2⟩ => by
      by_cases hn : n = 0
      · subst hn
        rw [TL.numL_lt (by omega)] at e
        cases e
        simp at z2
      · refine numL_head n (by omega) ?_
        rw [e, z]
        rfl
    rw [en] at hi
    obtain ⟨v, hv⟩ : ∃ v : Bool, decide (mk [c] = mk [48]) = v := ⟨_, rfl⟩
    have hv2 : v = true → ¬ 1 < (r.length : Int) + 1 := fun z z2 => hz ⟨by
      rw [← hv] at z
      have := of_decide_eq_true z
      simpa using this, z2⟩
    have hit' : ∀ z : Bool, D.tru (.bl z) = .ok z := fun _ => rfl
    have he : D.eq (.str (mk [c])) (.str (mk [48])) = .ok v := by rw [eq_ss, hv]
    unfold g_read_number
    rw [en]
    cases v with
    | true =>
      have hr := hv2 rfl
      simp -implicitDefEqProofs [len_mk, hs, h9, h1, hit, hc, ha, hx, h0, he, hr, hi]
    | false => simp -implicitDefEqProofs [len_mk, hs, h9, h1, hit, hc, ha, hx, h0, he, hi]
/-! ### lines and words -/
theorem al_str {x : Str} (h : Al (tl x)) : 32 ∉ tl x ∧ 10 ∉ tl x := al_no h
theorem w_none : 32 ∉ tl "none" ∧ 10 ∉ tl "none" := by decide +kernel
theorem w_arr : 32 ∉ tl "arrives" ∧ 10 ∉ tl "arrives" := by decide +kernel
theorem w_by : 32 ∉ tl "by" ∧ 10 ∉ tl "by" := by decide +kernel
theorem w_low : 32 ∉ tl "low" ∧ 10 ∉ tl "low" := by decide +kernel
theorem words_no {r : Option (List Str × Nat)} {ls : List (Str × Nat)} (ok : Ok r ls) : ∀ w ∈ linesW r ls, w ≠ [] ∧ ∀ x ∈ w, 32 ∉ tl x ∧ 10 ∉ tl x := by
  intro w hw
  unfold linesW at hw
  rcases List.mem_append.mp hw with h | h
  · cases r with
    | none =>
      rw [List.mem_singleton.mp h]
      refine ⟨by simp, fun x hx => ?_⟩
      rw [List.mem_singleton.mp hx]
      exact w_none
    | some q =>
      obtain ⟨rs, a⟩ := q
      obtain ⟨h1, h2, h3⟩ := ok.rd rs a rfl
      rcases List.mem_cons.mp h with rfl | h
      · refine ⟨by simp, fun x hx => ?_⟩
        rcases List.mem_cons.mp hx with rfl | hx
        · exact w_arr
        · rw [List.mem_singleton.mp hx]
          exact num_no a
      · obtain ⟨y, hy, rfl⟩ := List.mem_map.mp h
        refine ⟨by simp, fun x hx => ?_⟩
        rcases List.mem_cons.mp hx with rfl | hx
        · exact w_by
        · rw [List.mem_singleton.mp hx]
          exact al_str (nm_al (h2 y hy))
  · obtain ⟨q, hq, rfl⟩ := List.mem_map.mp h
    obtain ⟨h1, h2⟩ := ok.ln q hq
    refine ⟨by simp [lowW], fun x hx => ?_⟩
    rcases List.mem_cons.mp hx with rfl | hx
    · exact w_low
    · rcases List.mem_cons.mp hx with rfl | hx
      · exact al_str (nm_al h1)
      · rw [List.mem_singleton.mp hx]
        exact num_no q.2
theorem joinL_no {c : Nat} {S : List Nat} {l : List (List Nat)} (hS : c ∉ S) (h : ∀ p ∈ l, c ∉ p) : c ∉ TL.joinL S l := fun hc => by
  rcases joinL_mem hc with h1 | ⟨p, hp, h1⟩
  · exact hS h1
  · exact h p hp h1
theorem line_split {w : List Str} (h0 : w ≠ []) (h : ∀ x ∈ w, 32 ∉ tl x ∧ 10 ∉ tl x) : Txt.split (ln w) " " = w := by
  unfold ln
  rw [← TL.join_eq]
  exact TL.split_join (s := 32) (S := []) tl_sp (by decide +kernel) h0 fun p hp => (h p hp).1
theorem line_nl {w : List Str} (h : ∀ x ∈ w, 32 ∉ tl x ∧ 10 ∉ tl x) : 10 ∉ tl (ln w) := by
  unfold ln
  show 10 ∉ TL.tl (Str.join " " w)
  rw [TL.tl_join]
  refine joinL_no ?_ fun p hp => ?_
  · have := tl_sp
    rw [show TL.tl " " = [32] from this]
    decide
  · obtain ⟨x, hx, rfl⟩ := List.mem_map.mp hp
    exact (h x hx).2
theorem text_split {r : Option (List Str × Nat)} {ls : List (Str × Nat)} (ok : Ok r ls) : Txt.split (text r ls) "\n" = (linesW r ls).map ln := by
  unfold text
  rw [← TL.join_eq]
  refine TL.split_join (s := 10) (S := []) tl_nl (by decide +kernel) (fun e => (lines_count ok).2 (List.map_eq_nil_iff.mp e)) fun p hp => ?_
  obtain ⟨w, hw, rfl⟩ := List.mem_map.mp hp
  exact line_nl (words_no ok w hw).2
theorem text_len {r : Option (List Str × Nat)} {ls : List (Str × Nat)} (ok : Ok r ls) : (text r ls).length ≤ 1000 := by
  unfold text
  rw [TL.len_tl, TL.tl_join]
  refine Nat.le_trans (joinL_len _ _) ?_
  have h1 := (lines_count ok).1
  have h2 : ((((linesW r ls).map ln).map TL.tl).map fun p : List Nat => p.length).sum ≤ 15 * 26 := by
    refine Nat.le_trans (sum_le (k := 26) fun x hx => ?_) ?_
    · obtain ⟨y, hy, rfl⟩ := List.mem_map.mp hx
      obtain ⟨z, hz, rfl⟩ := List.mem_map.mp hy
      obtain ⟨w, hw, rfl⟩ := List.mem_map.mp hz
      rw [← TL.len_tl]
      exact line_len ok w hw
    · rw [List.length_map, List.length_map, List.length_map]
      omega
  have h3 : (TL.tl "\n").length = 1 := by rw [show TL.tl "\n" = [10] from tl_nl]; rfl
  rw [h3, List.length_map, List.length_map]
  omega
def wD (w : List Str) : D := .lst (w.map D.str)
theorem lines_ok {r : Option (List Str × Nat)} {ls : List (Str × Nat)} (ok : Ok r ls) : compL (fElt noT fun line => meth D.isStr (.ok line) (.ok [.str " "]) (m1 D.split)) (((linesW r ls).map ln).map D.str) = .ok ((linesW r ls).map wD) := by
  rw [List.map_map]
  refine compL_mapA (by have := (lines_count ok).1; omega) fun w hw => ?_
  obtain ⟨h0, h⟩ := words_no ok w hw
  have hl := line_len ok w hw
  show meth D.isStr (.ok (.str (ln w))) (.ok [.str " "]) (m1 D.split) = _
  rw [meth_s, m1_1, split_ok (by rw [len_sp]; omega) (by omega), line_split h0 h]
  rfl
end LawMath
set_option Elab.async false
set_option linter.all false
set_option maxRecDepth 100000
set_option maxHeartbeats 4000000
namespace LawMath
open PySem DL LawWalk L2
theorem loopF_app {S : Type} {f : S → D → M S} : ∀ (a b : List D) (s : S), loopF f (a ++ b) s = (loopF f a s >>= fun s => loopF f b s)
  | [], b, s => rfl
  | d :: a, b, s => by
    rw [List.cons_append, loopF_cons, loopF_cons]
    cases e : f s d with
    | error z => rfl
    | ok s' => exact loopF_app a b s'
theorem enumL_app : ∀ (k : Int) (a b : List D), enumL k (a ++ b) = enumL k a ++ enumL (k + a.length) b
  | k, [], b => by simp [enumL]
  | k, d :: a, b => by
    show _ :: enumL (k + 1) (a ++ b) = _ :: (enumL (k + 1) a ++ _)
    rw [enumL_app]
    congr 3
    rw [List.length_cons]
    omega
theorem w0 (a : Str) (r : List Str) : (wD (a :: r)).ix (.int 0) = .ok (.str a) := ix_nat (n := 0) rfl rfl
theorem w1 (a b : Str) (r : List Str) : (wD (a :: b :: r)).ix (.int 1) = .ok (.str b) := ix_nat (n := 1) rfl rfl
theorem w2 (a b c : Str) (r : List Str) : (wD (a :: b :: c :: r)).ix (.int 2) = .ok (.str c) := ix_nat (n := 2) rfl rfl
theorem wl (w : List Str) : (wD w).len = .ok (.int w.length) := by
  unfold wD
  rw [len_l, List.length_map]
theorem nm_ok {x : Str} (h : Nm x) : m_is_name [.str x] = .ok (.bl true) := by
  have := is_name_eq (tl x) (by have := (nm_len h).2; rw [TL.len_tl] at this; show (TL.tl x).length ≤ _; omega)
  rw [mk_tl] at this
  rw [this, h]
theorem by_turn (rs : List D) (hl : rs.length < 1000) (k : D) {x : Str} (hx : Nm x) : m_parse_paper_l1 (.own rs, []) k (wD ["by", x]) = .ok (.own (rs ++ [.str x]), []) := by
  have h1 := w0 "by" [x]
  have h2 := w1 "by" x []
  have h3 := wl ["by", x]
  generalize wD ["by", x] = w at h1 h2 h3
  have hl' : rs.length < sizeLine := by rw [PySem.sizeLine_eq]; omega
  have hs : Sl.rd (.own rs) = .ok (.lst rs) := rfl
  have hp : Sl.push (.own rs) (.ok (.str x)) = .ok (.own (rs ++ [.str x])) := by
    show (need (decide (rs.length < sizeLine)) >>= fun _ => (.ok (.own (rs ++ [.str x])) : M Sl)) = _
    rw [need_p hl']
    rfl
  unfold m_parse_paper_l1
  simp -implicitDefEqProofs [hs, eq_ii, h1, h2, h3, eq_ss, nm_ok hx, hp]
theorem low_turn (s : Sl) {d : D} (hs : s.rd = .ok d) (l : List D) (hl : l.length < 1000) (k : D) {q : Str × Nat} (hx : Nm q.1) (hn : q.2 ≤ 999999999) : m_parse_paper_l1 (s, l) k (wD (lowW q)) = .ok (s, l ++ [lowD q]) := by
  have h1 := w0 "low" [q.1, num q.2]
  have h2 := w1 "low" q.1 [num q.2]
  have h4 := w2 "low" q.1 (num q.2) []
  have h3 := wl ["low", q.1, num q.2]
  have hr := read_ok hn k
  show m_parse_paper_l1 (s, l) k (wD ["low", q.1, num q.2]) = _
  generalize wD ["low", q.1, num q.2] = w at h1 h2 h3 h4
  have hl' : l.length < sizeLine := by rw [PySem.sizeLine_eq]; omega
  have s2 : 2 ≤ sizeLine := by decide
  unfold m_parse_paper_l1
  cases hd : d.isNon with
  | true => simp -implicitDefEqProofs [hs, hd, eq_ii, h1, h2, h3, h4, eq_ss, nm_ok hx, hr, hl', lowD, s2]
  | false =>
    by_cases h0 : (l.length : Int) = 0
    · have h0' : l = [] := by
        cases l with
        | nil => rfl
        | cons a l => simp at h0; omega
      subst h0'
      have s00 : 0 < sizeLine := by decide
      simp -implicitDefEqProofs [s00, hs, hd, eq_ii, h1, h2, h3, h4, eq_ss, nm_ok hx, hr, hl', lowD, s2]
    · have h0' : ¬ l = [] := fun z => by subst z; exact h0 rfl
      simp -implicitDefEqProofs [hs, hd, eq_ii, h0', h1, h2, h3, h4, eq_ss, nm_ok hx, hr, hl', lowD, s2]
theorem by_loop : ∀ (rs : List Str) (k : Int) (acc : List D), (∀ x ∈ rs, Nm x) → acc.length + rs.length < 1000 → loopF (fun s => on2 (m_parse_paper_l1 s)) (enumL k (rs.map fun x => wD ["by", x])) (.own acc, []) = .ok (.own (acc ++ rs.map D.str), [])
  | [], k, acc, _, _ => by simp [enumL, loopF_nil]
  | x :: rs, k, acc, h, hl => by
    have e : on2 (m_parse_paper_l1 (.own acc, [])) (.tup [.int k, wD ["by", x]]) = .ok (.own (acc ++ [.str x]), []) := by_turn acc (by omega) _ (h x (List.mem_cons_self ..))
    show loopF _ (.tup [.int k, wD ["by", x]] :: enumL (k + 1) (rs.map fun x => wD ["by", x])) _ = _
    rw [loopF_cons, e, okb, by_loop rs (k + 1) (acc ++ [D.str x]) (fun y hy => h y (List.mem_cons_of_mem _ hy)) (by rw [List.length_append]; simp at hl ⊢; omega)]
    simp
theorem low_loop (s : Sl) {d : D} (hs : s.rd = .ok d) : ∀ (ls : List (Str × Nat)) (k : Int) (acc : List D), (∀ q ∈ ls, Nm q.1 ∧ q.2 ≤ 999999999) → acc.length + ls.length < 1000 → loopF (fun s => on2 (m_parse_paper_l1 s)) (enumL k (ls.map fun q => wD (lowW q))) (s, acc) = .ok (s, acc ++ ls.map lowD)
  | [], k, acc, _, _ => by simp [enumL, loopF_nil]
  | q :: ls, k, acc, h, hl => by
    obtain ⟨h1, h2⟩ := h q (List.mem_cons_self ..)
    have e : on2 (m_parse_paper_l1 (s, acc)) (.tup [.int k, wD (lowW q)]) = .ok (s, acc ++ [lowD q]) := low_turn s hs acc (by omega) _ h1 h2
    show loopF _ (.tup [.int k, wD (lowW q)] :: enumL (k + 1) (ls.map fun q => wD (lowW q))) _ = _
    rw [loopF_cons, e, okb, low_loop s hs ls (k + 1) (acc ++ [lowD q]) (fun y hy => h y (List.mem_cons_of_mem _ hy)) (by rw [List.length_append]; simp at hl ⊢; omega)]
    simp
def paper (r : Option (List Str × Nat)) (ls : List (Str × Nat)) : D := .ins "Paper" (flds r ls)
theorem parse_ok {r : Option (List Str × Nat)} {ls : List (Str × Nat)} (ok : Ok r ls) : m_parse_paper [.str (text r ls)] = .ok (paper r ls) := by
  rw [e_parse_paper]
  have hsp : D.split (.str (text r ls)) (.str "\n") = .ok (.lst (((linesW r ls).map ln).map D.str)) := by
    rw [split_ok (by rw [len_nl]; omega) (by have := text_len ok; omega), text_split ok]
  have hli := lines_ok ok
  have hin := init_ok ok
  have hl8 := ok.ll
  have s0 : 0 ≤ sizeLine := by decide
  have s1 : 1 ≤ sizeLine := by decide
  generalize ((linesW r ls).map ln).map D.str = tls at hsp hli
  unfold g_parse_paper
  cases r with
  | none =>
    have hw : (linesW none ls).map wD = wD ["none"] :: ls.map fun q => wD (lowW q) := by
      unfold linesW headW
      rw [List.map_append, List.map_map]
      rfl
    rw [hw] at hli
    have hlen : (ls.map fun q => wD (lowW q)).length = ls.length := List.length_map _
    have hloop := low_loop (.val .non) (d := .non) rfl ls 2 [] ok.ln (by simp; omega)
    generalize (ls.map fun q => wD (lowW q)) = lws at hli hloop hlen
    have hx0 : D.ix (.lst (wD ["none"] :: lws)) (.int 0) = .ok (wD ["none"]) := ix_nat (n := 0) rfl rfl
    have hwl := wl ["none"]
    have hne : D.ne (wD ["none"]) (.lst [.str "none"]) = .ok false := ne_self (shp_lst (n := 19) fun d hd => by
      rw [List.mem_singleton.mp hd]
      exact shp_str)
    have hen : D.enum2 [.lst lws, .int 2] = .ok (enumL 2 lws) := rfl
    generalize wD ["none"] = wn at hli hx0 hwl hne
    have hv : (Sl.val D.non).rd = .ok .non := rfl
    simp only [roadsD, arrD] at hin
    simp -implicitDefEqProofs [hsp, hli, hx0, hwl, eq_ii, hne, s1, cut_drop, hen, hloop, hv, hin, paper]
  | some q =>
    obtain ⟨rs, a⟩ := q
    obtain ⟨h1, h2, h3⟩ := ok.rd rs a rfl
    have hw : (linesW (some (rs, a)) ls).map wD = wD ["arrives", num a] :: ((rs.map fun x => wD ["by", x]) ++ ls.map fun q => wD (lowW q)) := by
      unfold linesW headW
      rw [List.map_append, List.map_map, List.map_cons, List.map_map]
      rfl
    rw [hw] at hli
    have hl1 := by_loop rs 2 [] h2 (by simp; omega)
    have hl2 := low_loop (.own (rs.map D.str)) (d := .lst (rs.map D.str)) rfl ls (2 + ((rs.map fun x => wD ["by", x]).length : Int)) [] ok.ln (by simp; omega)
    have hloop : loopF (fun s => on2 (m_parse_paper_l1 s)) (enumL 2 ((rs.map fun x => wD ["by", x]) ++ ls.map fun q => wD (lowW q))) (.own [], []) = .ok (.own (rs.map D.str), ls.map lowD) := by
      rw [enumL_app, loopF_app, hl1, okb, List.nil_append, hl2, List.nil_append]
    generalize ((rs.map fun x => wD ["by", x]) ++ ls.map fun q => wD (lowW q)) = lws at hli hloop
    have hx0 : D.ix (.lst (wD ["arrives", num a] :: lws)) (.int 0) = .ok (wD ["arrives", num a]) := ix_nat (n := 0) rfl rfl
    have hwl := wl ["arrives", num a]
    have hw0 := w0 "arrives" [num a]
    have hw1 := w1 "arrives" (num a) []
    have hrd := read_ok h3 (.int 1)
    have hen : D.enum2 [.lst lws, .int 2] = .ok (enumL 2 lws) := rfl
    generalize wD ["arrives", num a] = wn at hli hx0 hwl hw0 hw1
    have hv : (Sl.own (rs.map D.str)).rd = .ok (.lst (rs.map D.str)) := rfl
    simp only [roadsD, arrD] at hin
    simp -implicitDefEqProofs [hsp, hli, hx0, hwl, eq_ii, eq_ss, hw0, hw1, hrd, s1, cut_drop, hen, hloop, hv, hin, paper]
end LawMath
set_option Elab.async false
set_option linter.all false
set_option maxRecDepth 100000
set_option maxHeartbeats 4000000
namespace LawMath
open PySem DL LawWalk L2
theorem text_none : text none [] = "none" := by
  apply TL.ext_tl
  unfold text
  rw [TL.tl_join]
  show TL.tl (ln ["none"]) = _
  rw [ln_one]
theorem law_true (l : List Int) (h : l.length ≤ 63) : m_law [.scr l] = .ok (.bl true) := by
  rw [e_law]
  obtain ⟨ns, en, hl, hs⟩ := numbers_ok l h 50 (by omega) (by omega)
  obtain ⟨r, ls, ok, ep⟩ := paper_ok hl hs
  have et := text_ok ok
  have ei := init_ok ok
  have eq := ptext_ok ok
  have er := parse_ok ok
  have ok0 : Ok none [] := ⟨fun _ _ e => (by cases e), by simp, fun q hq => by cases hq⟩
  have er0 := parse_ok ok0
  rw [text_none] at er0
  have a1 : D.attrC ["Paper"] "roads" (paper r ls) = .ok (roadsT r) := rfl
  have a2 : D.attrC ["Paper"] "arrival" (paper r ls) = .ok (arrD r) := rfl
  have a3 : D.attrC ["Paper"] "lows" (paper r ls) = .ok (.lst (ls.map lowD)) := rfl
  have b1 : D.attrC ["Paper"] "roads" (paper none []) = .ok .non := rfl
  have b2 : D.attrC ["Paper"] "arrival" (paper none []) = .ok .non := rfl
  have b3 : D.attrC ["Paper"] "lows" (paper none []) = .ok (.lst []) := rfl
  have c1 : D.isC "Paper" (paper r ls) = .ok (.bl true) := rfl
  have hp : D.ins "Paper" (flds r ls) = paper r ls := rfl
  rw [hp] at eq
  have t1 : D.isB "str" (.str (text r ls)) = .ok (.bl true) := rfl
  have n1 : D.ne (.str (text r ls)) (.str (text r ls)) = .ok false := ne_self shp_str
  have n0 : D.eq (.str (text r ls)) (.str (text r ls)) = .ok true := eq_self shp_str
  have n3 : D.ne (.lst (ls.map lowD)) (.lst (ls.map lowD)) = .ok false := ne_self (shp_lst (n := 19) fun d hd => by
    obtain ⟨q, hq, rfl⟩ := List.mem_map.mp hd
    exact shp_tup (n := 18) fun d hd => by
      rcases List.mem_cons.mp hd with rfl | hd
      · exact shp_str
      · rw [List.mem_singleton.mp hd]
        exact shp_int)
  have n4 : D.ne (.lst []) (.lst []) = .ok false := ne_self rfl
  have n5 : D.ne (roadsT r) (roadsT r) = .ok false := ne_self (by
    cases r with
    | none => exact shp_non
    | some q =>
      refine shp_tup (n := 19) fun d hd => ?_
      obtain ⟨q, hq, rfl⟩ := List.mem_map.mp hd
      exact shp_str)
  have n6 : D.ne (arrD r) (arrD r) = .ok false := ne_self (by
    cases r with
    | none => exact shp_non
    | some q => exact shp_int)
  have t2 : D.isB "bool" (arrD r) = .ok (.bl false) := by
    cases r with
    | none => rfl
    | some q => rfl
  have s0 : 0 ≤ sizeLine := by decide
  have due : ∃ b : Bool, (roadsD r).isNon = b ∧ (b = false → (roadsD r).toTup = .ok (roadsT r)) ∧ (b = true → roadsT r = .non) := by
    cases r with
    | none => exact ⟨true, rfl, (fun z => by cases z), fun _ => rfl⟩
    | some q => exact ⟨false, rfl, (fun _ => rfl), fun z => by cases z⟩
  obtain ⟨b, d1, d2, d3⟩ := due
  generalize paper none [] = P0 at er0 b1 b2 b3
  generalize hP : paper r ls = P at er a1 a2 a3 c1 eq
  rw [hP] at hp
  unfold g_law
  cases b with
  | false =>
    have d2 := d2 rfl
    simp -implicitDefEqProofs [en, ep, et, ei, hp, eq, t1, n1, er, d1, d2, a1, n5, a2, n6, t2, a3, n3, er0, b1, b2, b3, n4, s0, c1, n0]
  | true =>
    have d3 := d3 rfl
    rw [d3] at a1 n5
    simp -implicitDefEqProofs [en, ep, et, ei, hp, eq, t1, n1, er, d1, a1, n5, a2, n6, t2, a3, n3, er0, b1, b2, b3, n4, s0, c1, n0]
end LawMath
set_option Elab.async false
set_option linter.all false
set_option maxRecDepth 100000
set_option maxHeartbeats 0
namespace LawHead
open PySem PySem.Spec PyProof.Rows L2
abbrev R : PySem.W.OpenRow := PySem.W.OpenLaw.row PySem.Challenge.rw_waypapers_k67_paper_texts
def exW (K : PySem.W.Frag) : Bool := LawWalk.insC.all (fun x => DL.insB K (He.ga K x))
abbrev hk : PySem.W.Hook := DL.hookE 4 LawWalk.fa LawWalk.fn exW
def ob (s : PySem.W.SharedT) : DL.AlE := DL.obsE 4 LawWalk.fa LawWalk.fn exW (HandSHeadRun.getT s)
theorem ob_eq (s : PySem.W.SharedT) : ob s = hk.obs s.abs := DL.obsE_eq (HandSHeadRun.getT_eq s)
def loose : List PySem.Str := (["WaypapersError", "InvalidPaper", "NAME_CHARS", "MOST_NAME_CHARS", "is_name", "Paper", "DIGITS", "MOST_DIGITS", "paper_text", "read_number", "parse_paper", "_law_row"] : List PySem.Str) ++ (["_law_numbers", "_law_names", "_law_paper", "_law_text"] : List PySem.Str)
theorem run (w : World) : HandSHeadRun.RunEq R (PySem.W.view R.prog [21]) hk ob 20000 loose w := by
  intro os
  kernel_rfl
theorem facts {P : Program} {w : World} {K : PySem.W.Frag} {h : Heap} {mg : Str → Option Value} {f : Addr} (X : K.In h) (G : h.Ns mainGlobals mg) (hfa : mg ("law" : Str) = some (.ref f)) (c : DL.SaysE LawWalk.fa LawWalk.fn exW K) :
    ∃ fd : FuncData, (∀ (s : Shared) (v : Value), BindsTo s fd ⟨[v], []⟩ [("_law_script", v)]) ∧ ∀ base : Heap, K.In base → base.Ns mainGlobals mg → FnOk P w K mg base (DL.CXA P) 4 f fd ["_law_script"] (DL.spD K [true] LawWalk.m_law) := by
  have L : LawWalk.Lw K mg := ⟨⟨h, X, G⟩, c.1, c.2⟩
  obtain ⟨fd, F⟩ := c.1.def_ 10 (d := LawWalk.d_law) rfl
  have e := hfa.symm.trans (L.glo LawWalk.fa_32)
  cases e
  have b := FunD.bindsA (ps := ["_law_script"]) F fun _ _ _ _ _ _ us hl => match us, hl with | [_], _ => rfl
  exact ⟨fd, fun s v => b s [v] rfl, fun base _ _ => DL.fn_any (LawWalk.ok_law L F)⟩
end LawHead
open PySem PySem.W PySem.Calls PyProof.Rows
theorem PySem.Challenge.cw_waypapers_k67_paper_texts_holds : PySem.Challenge.rw_waypapers_k67_paper_texts.Holds := by
  w_on; o_law
  refine HandSHeadRun.head_any (r := OpenLaw.row PySem.Challenge.rw_waypapers_k67_paper_texts) (q := view (OpenLaw.row PySem.Challenge.rw_waypapers_k67_paper_texts).prog [21]) (H := LawHead.hk) (ob := LawHead.ob) (M := 20000) (loose := LawHead.loose) (d := HandSHeadRun.topDef (OpenLaw.row PySem.Challenge.rw_waypapers_k67_paper_texts).prog 21) (kwd := []) LawHead.ob_eq
    (by kernel_rfl) (fun s => by kernel_rfl) LawHead.run (by kernel_rfl) (by kernel_rfl) (by kernel_rfl) (by rfl) (by first | assumption | decide +kernel) (by decide +kernel) ⟨rfl, rfl, rfl, rfl, rfl, by decide +kernel⟩ ?hw ?hc
  case hw => w_witness2
  case hc =>
    refine L2.walk_ofE (l := PySem.Challenge.rw_waypapers_k67_paper_texts) (n := 63) (k := 4) (x := "_law_script") (CX := DL.CXA (PySem.Challenge.rw_waypapers_k67_paper_texts).prog) rfl (by decide) (by kernel_rfl) ⟨rfl, by decide, by decide⟩ ?F (fun _ _ _ _ z => z.no)
    intro w mg fa h Y G hmg0
    obtain ⟨K, KX, c⟩ := Y
    have hmg : mg ("law" : PySem.Str) = some (.ref fa) := by
      have e : (HandSHeadRun.topDef (OpenLaw.row PySem.Challenge.rw_waypapers_k67_paper_texts).prog 21).name = ("law" : PySem.Str) := by kernel_rfl
      rw [← e]
      exact hmg0
    obtain ⟨fd, hb, hF⟩ := LawHead.facts (P := (PySem.Challenge.rw_waypapers_k67_paper_texts).prog) (w := w) KX G hmg c
    exact ⟨K, fd, DL.spD K [true] LawWalk.m_law, KX, hb, fun H a ns hl _ hS => ⟨H, [.scr ns], L2.Same.refl H, .bor (.of (.scr hS)) .nil, by
      rw [LawMath.law_true ns hl]
      exact fun F' H' v _ r => by cases r; rfl⟩, hF⟩
