import PyProof.Rows.All
import Wide.All
import OpenK.AllK
import Wide.FinOn
import HandS.ForMost
import HandS.More
import HandS.Exc
import HandS.ExcOwn
import HandS.TupAny
import HandS.TupLe
import HandS.CallSlots
import HandS.WordsExc
import HandS.IsInst
import HandS.Wide
import HandS.Text
import HandS.Style
import HandS.Defaults
import HandS.HeadHook1
import HandS.HeadHook2
import KE.KStateDown
import HandS.Base
import HandS.Call
import HandS.Ends
import HandS.Words
import HandS.Head0
import HandS.Head1
import HandS.Head2
import HandS.HeadEnd
import HandS.Zip
import PyProof.EnumMake
import KE.GoesMore
import HandS.Iter
import HandS.HeadHook3
import HandS.HeadHook4
import HandS.ExcInit
import KE.KExcSuper
import HandS.TryMany
import HandS.TryOnly
import HandS.ExcField
import HandS.ExcIs
import KE.KExcIs
import KE.SortKeyHeap
import KE.SortData
import KE.KSortKey
import HandS.SortKw
import HandS.RaiseMore
import HandS.TupSets
import KE.GoesSet
import PyProof.ListStr
import PySem.Challenge.RW_sailloft_k71_whole_merge_without_order
set_option Elab.async false
set_option linter.all false
set_option maxRecDepth 100000
set_option maxHeartbeats 0
/-! DL1: pure data over the hand layer: representation, growth, results, expressions. -/
namespace DL
open PySem PySem.Spec PyProof.Rows L2

abbrev D := PyData

/-! ### representation -/
/-- a dict with text keys, of the written part -/
def DicAt (K : PySem.W.Frag) (w : World) (a : Addr) (kvs : List (Str × V)) : Prop :=
  ∃ es n, L2.KDict K w a es n ∧ ∀ q ∈ kvs, ∃ u, PySem.W.nsIn K a q.1 = some (some u) ∧ RelV q.2 u
mutual
inductive Rp (K : PySem.W.Frag) (w : World) (H : Hp) : V → D → Prop
  | non : Rp K w H .non .none
  | bl (b : Bool) : Rp K w H (.bl b) (.bool b)
  | int (i : Int) : Rp K w H (.int i) (.int i)
  | str (x : Str) : Rp K w H (.str x) (.str x)
  | lst {a : Addr} {xs : List V} {ds : List D} : H a = some (.lst xs) → RpAll K w H xs ds → Rp K w H (.ref a) (.list ds)
  | tup {a : Addr} {xs : List V} {ds : List D} : SqT K H a xs → RpAll K w H xs ds → Rp K w H (.ref a) (.tuple ds)
  | scr {a : Addr} {xs : List V} {ds : List D} : SqL K H a xs → RpAll K w H xs ds → Rp K w H (.ref a) (.dict [(.none, .list ds)])
  | dic {a : Addr} {kvs : List (Str × V)} {ds : List D} : DicAt K w a kvs → RpAll K w H (kvs.map (·.2)) ds → Rp K w H (.ref a) (.dict ((kvs.map fun q => PyData.str q.1).zip ds))
inductive RpAll (K : PySem.W.Frag) (w : World) (H : Hp) : List V → List D → Prop
  | nil : RpAll K w H [] []
  | cons {v : V} {vs : List V} {d : D} {ds : List D} : Rp K w H v d → RpAll K w H vs ds → RpAll K w H (v :: vs) (d :: ds)
end
theorem seqT {K : PySem.W.Frag} {H H' : Hp} {a : Addr} {xs : List V} (e : Same H H') (h : SqT K H a xs) : SqT K H' a xs := by
  rcases h with (h | ⟨o, h⟩) | h
  · exact .inl (.inl (e _ _ h))
  · exact .inl (.inr ⟨o, e _ _ h⟩)
  · exact .inr h
section
variable {K : PySem.W.Frag} {w : World} {H H' : Hp}
mutual
theorem Rp.mono (e : Same H H') : ∀ {v : V} {d : D}, Rp K w H v d → Rp K w H' v d
  | _, _, .non => .non
  | _, _, .bl b => .bl b
  | _, _, .int i => .int i
  | _, _, .str x => .str x
  | _, _, .lst h r => .lst (e _ _ h) (RpAll.mono e r)
  | _, _, .tup h r => .tup (seqT e h) (RpAll.mono e r)
  | _, _, .scr h r => .scr (e.seq h) (RpAll.mono e r)
  | _, _, .dic h r => .dic h (RpAll.mono e r)
theorem RpAll.mono (e : Same H H') : ∀ {vs : List V} {ds : List D}, RpAll K w H vs ds → RpAll K w H' vs ds
  | _, _, .nil => .nil
  | _, _, .cons h r => .cons (Rp.mono e h) (RpAll.mono e r)
end
theorem RpAll.length : ∀ {vs : List V} {ds : List D}, RpAll K w H vs ds → vs.length = ds.length
  | _, _, .nil => rfl
  | _, _, .cons _ r => congrArg Nat.succ r.length
theorem RpAll.get : ∀ {vs : List V} {ds : List D} {i : Nat} {d : D}, RpAll K w H vs ds → ds[i]? = some d → ∃ v, vs[i]? = some v ∧ Rp K w H v d
  | _, _, _, _, .nil, e => by simp at e
  | _, _, 0, _, .cons h _, e => by
    simp at e
    subst e
    exact ⟨_, rfl, h⟩
  | _, _, i + 1, d, .cons _ r, e => by
    obtain ⟨v, h1, h2⟩ := RpAll.get (i := i) (d := d) r (by simpa using e)
    exact ⟨v, by simpa using h1, h2⟩
theorem RpAll.getV : ∀ {vs : List V} {ds : List D} {i : Nat} {v : V}, RpAll K w H vs ds → vs[i]? = some v → ∃ d, ds[i]? = some d ∧ Rp K w H v d
  | _, _, _, _, .nil, e => by simp at e
  | _, _, 0, _, .cons h _, e => by
    simp at e
    subst e
    exact ⟨_, rfl, h⟩
  | _, _, i + 1, d, .cons _ r, e => by
    obtain ⟨v, h1, h2⟩ := RpAll.getV (i := i) (v := d) r (by simpa using e)
    exact ⟨v, by simpa using h1, h2⟩
theorem RpAll.append : ∀ {vs us : List V} {ds es : List D}, RpAll K w H vs ds → RpAll K w H us es → RpAll K w H (vs ++ us) (ds ++ es)
  | _, _, _, _, .nil, s => s
  | _, _, _, _, .cons h r, s => .cons h (RpAll.append r s)
theorem RpAll.take : ∀ {vs : List V} {ds : List D} (n : Nat), RpAll K w H vs ds → RpAll K w H (vs.take n) (ds.take n)
  | _, _, 0, _ => .nil
  | _, _, _ + 1, .nil => .nil
  | _, _, n + 1, .cons h r => .cons h (RpAll.take n r)
theorem RpAll.drop : ∀ {vs : List V} {ds : List D} (n : Nat), RpAll K w H vs ds → RpAll K w H (vs.drop n) (ds.drop n)
  | _, _, 0, r => r
  | _, _, _ + 1, .nil => .nil
  | _, _, n + 1, .cons _ r => RpAll.drop n r
theorem RpAll.set : ∀ {vs : List V} {ds : List D} {v : V} {d : D} (i : Nat), RpAll K w H vs ds → Rp K w H v d → RpAll K w H (vs.set i v) (ds.set i d)
  | _, _, _, _, _, .nil, _ => .nil
  | _, _, _, _, 0, .cons _ r, q => .cons q r
  | _, _, _, _, i + 1, .cons h r, q => .cons h (RpAll.set i r q)
theorem RpAll.reverse {vs : List V} {ds : List D} (h : RpAll K w H vs ds) : RpAll K w H vs.reverse ds.reverse := by
  induction vs generalizing ds with
  | nil => cases h; exact .nil
  | cons v vs ih =>
    cases h with
    | cons h r =>
      rw [List.reverse_cons, List.reverse_cons]
      exact (ih r).append (.cons h .nil)
/-- data without objects: what is true of it in no heap -/
theorem Rp.ints (w : World) (H : Hp) : ∀ ns : List Int, RpAll K w H (ns.map V.int) (ns.map PyData.int)
  | [] => .nil
  | n :: ns => .cons (.int n) (Rp.ints w H ns)
/-! ### as the library has it: data without dicts -/
mutual
theorem Rp.dp : ∀ (d : D) (v : V), Rp K w H v d → d.canLay0 = true → Dp K H v d
  | .none, _, h, _ => by cases h; exact .non
  | .bool b, _, h, _ => by cases h; exact .bl b
  | .int i, _, h, _ => by cases h; exact .int i
  | .str x, _, h, _ => by cases h; exact .str x
  | .list ds, _, h, c => by
    cases h with
    | lst e r => exact .lst (SqL.of e) (Rp.dpAll ds _ r (by simpa only [PyData.canLay0] using c))
  | .tuple ds, _, h, c => by
    cases h with
    | tup e r => exact .tup e (Rp.dpAll ds _ r (by simpa only [PyData.canLay0] using c))
  | .dict _, _, _, c => by simp only [PyData.canLay0] at c; cases c
theorem Rp.dpAll : ∀ (ds : List D) (vs : List V), RpAll K w H vs ds → PyData.canLayAll0 ds = true → DpAll K H vs ds
  | [], _, h, _ => by cases h; exact .nil
  | d :: ds, _, h, c => by
    cases h with
    | cons h1 h2 =>
      have c' : d.canLay0 = true ∧ PyData.canLayAll0 ds = true := by simpa [PyData.canLayAll0] using c
      exact .cons (Rp.dp d _ h1 c'.1) (Rp.dpAll ds _ h2 c'.2)
end
end

/-! ### growth -/
/-- G: what is read for ever; H: all that is tracked -/
structure Gr (G H G' H' : Hp) : Prop where
  g : Same G G'
  s : Same G' H'
  h : Same H H'
  o : ∀ a, H a ≠ none → G a = none → G' a = none
theorem Gr.refl {G H : Hp} (s : Same G H) : Gr G H G H := ⟨Same.refl _, s, Same.refl _, fun _ _ h => h⟩
theorem Gr.trans {G H G1 H1 G2 H2 : Hp} (a : Gr G H G1 H1) (b : Gr G1 H1 G2 H2) : Gr G H G2 H2 :=
  ⟨a.g.trans b.g, b.s, a.h.trans b.h, fun c h1 h2 => b.o c (fun e => by
    cases q : H c with
    | none => exact h1 q
    | some o => rw [a.h c o q] at e; cases e) (a.o c h1 h2)⟩
theorem same_upd {H : Hp} {p : Addr} {o : HO} (h : H p = none) : Same H (upd H p o) := fun b x e => by
  rw [upd_ne (ne_of_none e h)]
  exact e
theorem upd2 {G H : Hp} {p : Addr} {o : HO} (s : Same G H) : Same (upd G p o) (upd H p o) := fun b x e => by
  by_cases hb : b = p
  · subst hb; rw [upd_same] at e ⊢; exact e
  · rw [upd_ne hb] at e ⊢; exact s b x e
theorem Gr.new {G H : Hp} {p : Addr} {o : HO} (s : Same G H) (h : H p = none) : Gr G H (upd G p o) (upd H p o) :=
  ⟨same_upd (s.free h), upd2 s, same_upd h, fun a h1 h2 => by
    have ne : a ≠ p := fun e => h1 (e ▸ h)
    rw [upd_ne ne]; exact h2⟩

/-! ### results -/
structure Er where
  cls : Str
  arg : Option (Str × D) := none
inductive Res (α : Type) where
  | ok (a : α)
  | er (e : Er)
  | no
theorem nr {α : Sort _} {a b : α} (h : a = b) : a = b := h
def Res.bind {α β : Type} : Res α → (α → Res β) → Res β
  | .ok a, f => f a
  | .er e, _ => .er e
  | .no, _ => .no
def Res.of {α : Type} : Option α → Res α
  | some a => .ok a
  | none => .no
@[simp] theorem Res.bind_ok {α β : Type} (a : α) (f : α → Res β) : (Res.ok a).bind f = f a := nr rfl
@[simp] theorem Res.bind_er {α β : Type} (e : Er) (f : α → Res β) : (Res.er e : Res α).bind f = .er e := nr rfl
@[simp] theorem Res.bind_no {α β : Type} (f : α → Res β) : (Res.no : Res α).bind f = .no := nr rfl
@[simp] theorem Res.of_some {α : Type} (a : α) : Res.of (some a) = .ok a := nr rfl
@[simp] theorem Res.of_none {α : Type} : Res.of (none : Option α) = .no := nr rfl
theorem Res.of_ok {α : Type} {o : Option α} {a : α} (h : Res.of o = .ok a) : o = some a := by
  cases o with
  | none => cases h
  | some b => cases h; rfl
theorem Res.of_er {α : Type} {o : Option α} {e : Er} (h : Res.of o = .er e) : False := by
  cases o <;> cases h

/-! ### slots -/
abbrev Bt := List (Option D)
/-- what is wished of an exception; what is known besides, of what is read and of the slots: it stands while the heap grows and while other slots are stored -/
structure WA where
  x : WX
  am : Hp → L2.St → Prop
  mono : ∀ G G' σ, Same G G' → am G σ → am G' σ
  ok : Nat → Bool
  set : ∀ (j : Nat) (v : Option V) (G : Hp) (σ : L2.St), ok j = true → am G σ → am G (σ.set j v)
def WA.of (x : WX) : WA := ⟨x, fun _ _ => True, fun _ _ _ _ h => h, fun _ => true, fun _ _ _ _ _ h => h⟩
def W0 : WA := WA.of fun _ _ _ _ => False
/-- an exception of ours -/
def ErR (K : PySem.W.Frag) (w : World) (mg : Str → Option Value) (e : Er) (cls : Value) (dd : Option Addr) (Hs G H : Hp) : Prop :=
  ∃ C, mg e.cls = some (.ref C) ∧ cls = .ref C ∧ match e.arg with
    | none => dd = none
    | some (f, x) => ∃ a v, dd = some a ∧ Hs a = none ∧ H a = some (.xd [(f, v)]) ∧ Rp K w G v x
theorem ErR.back {K : PySem.W.Frag} {w : World} {mg : Str → Option Value} {e : Er} {cls : Value} {dd : Option Addr} {H1 H2 G H : Hp} (s : Same H1 H2) (z : ErR K w mg e cls dd H2 G H) : ErR K w mg e cls dd H1 G H := by
  obtain ⟨C, h1, h2, h3⟩ := z
  refine ⟨C, h1, h2, ?_⟩
  split at h3
  · exact h3
  · rename_i f x q
    obtain ⟨a, v, q1, q2, q3, q4⟩ := h3
    exact ⟨a, v, q1, s.free q2, q3, q4⟩
def Ev (K : PySem.W.Frag) (w : World) (W : WA) (G : Hp) (σ : L2.St) (β : Bt) : Prop := β.length ≤ σ.length ∧ (∀ (i : Nat) (d : D), β[i]? = some (some d) → ∃ v, σ[i]? = some (some v) ∧ Rp K w G v d) ∧ W.am G σ
theorem Ev.mono {K : PySem.W.Frag} {w : World} {W : WA} {G G' : Hp} {σ : L2.St} {β : Bt} (h : Ev K w W G σ β) (e : Same G G') : Ev K w W G' σ β := ⟨h.1, fun i d q => by
  obtain ⟨v, h1, h2⟩ := h.2.1 i d q
  exact ⟨v, h1, h2.mono e⟩, W.mono _ _ _ e h.2.2⟩
/-- what an expression gives -/
def RP {α : Type} (K : PySem.W.Frag) (w : World) (mg : Str → Option Value) (W : WA) (σ : L2.St) (G H : Hp) (good : α → Hp → Hp → Prop) : Res α → Prop
  | .ok a => ∀ G' H', Gr G H G' H' → good a G' H'
  | .er e => ∀ cls dd G' H', Gr G H G' H' → ErR K w mg e cls dd H G' H' → W.x cls dd σ H'
  | .no => False
def TR (X : Cx) (W : WA) (den : Bt → Res D) : TE := fun σ H Q => ∃ G β, Same G H ∧ Ev X.K X.w W G σ β ∧ RP X.K X.w X.mg W σ G H (fun d G' H' => ∀ v, Rp X.K X.w G' v d → Q v H') (den β)
def TRt (X : Cx) (W : WA) (den : Bt → Res Bool) : TT := fun σ H Q => ∃ G β, Same G H ∧ Ev X.K X.w W G σ β ∧ RP X.K X.w X.mg W σ G H (fun b _ H' => Q b H') (den β)
def TRa (X : Cx) (W : WA) (den : Bt → Res (List D)) : TA := fun σ H Q => ∃ G β, Same G H ∧ Ev X.K X.w W G σ β ∧ RP X.K X.w X.mg W σ G H (fun ds G' H' => ∀ vs, RpAll X.K X.w G' vs ds → Q vs H') (den β)
/-- the expression e gives what den says -/
def RE (X : Cx) (W : WA) (e : Expr) (den : Bt → Res D) : Prop := PE X e (TR X W den)
def RT (X : Cx) (W : WA) (e : Expr) (den : Bt → Res Bool) : Prop := PT X e (TRt X W den)
def RW (X : Cx) (W : WA) (e : Expr) (den : Bt → Res Bool) : Prop := PW X e (TRt X W den)
def RA (X : Cx) (W : WA) (es : List Expr) (den : Bt → Res (List D)) : Prop := PA X es (TRa X W den)
theorem PE.imp {X : Cx} {e : Expr} {t t' : TE} (h : PE X e t) (i : ∀ σ H Q, t' σ H Q → t σ H Q) : PE X e t' := ⟨fun pins s σ H Q I q => h.run pins s σ H Q I (i σ H Q q)⟩
theorem PT.imp {X : Cx} {e : Expr} {t t' : TT} (h : PT X e t) (i : ∀ σ H Q, t' σ H Q → t σ H Q) : PT X e t' := ⟨fun pins s σ H Q I q => h.run pins s σ H Q I (i σ H Q q)⟩
theorem PW.imp {X : Cx} {e : Expr} {t t' : TT} (h : PW X e t) (i : ∀ σ H Q, t' σ H Q → t σ H Q) : PW X e t' := ⟨fun wh pins s σ H Q I q => h.run wh pins s σ H Q I (i σ H Q q)⟩
theorem PA.imp {X : Cx} {es : List Expr} {t t' : TA} (h : PA X es t) (i : ∀ σ H Q, t' σ H Q → t σ H Q) : PA X es t' := ⟨fun pos pins s σ H Q I q => h.run pos pins s σ H Q I (i σ H Q q)⟩
section
variable {K : PySem.W.Frag} {w : World} {mg : Str → Option Value} {W : WA} {σ : L2.St} {G H : Hp}
/-- a bind: the first part's wish from the whole's -/
theorem RP.bind {α β : Type} {good : α → Hp → Hp → Prop} {good2 : β → Hp → Hp → Prop} {r : Res α} {f : α → Res β} (h : RP K w mg W σ G H good2 (r.bind f))
    (k : ∀ a, r = .ok a → ∀ G' H', Gr G H G' H' → RP K w mg W σ G' H' good2 (f a) → good a G' H') : RP K w mg W σ G H good r := by
  cases r with
  | no => exact h
  | er e => exact h
  | ok a =>
    have h' : RP K w mg W σ G H good2 (f a) := h
    intro G' H' g
    refine k a rfl G' H' g ?_
    cases q : f a with
    | no => rw [q] at h'; exact h'
    | er e => rw [q] at h'; exact fun cls dd G2 H2 g2 z => h' cls dd G2 H2 (g.trans g2) (z.back g.h)
    | ok b => rw [q] at h'; exact fun G2 H2 g2 => h' G2 H2 (g.trans g2)
theorem RP.here {α : Type} {good : α → Hp → Hp → Prop} {a : α} (h : RP K w mg W σ G H good (.ok a)) {G' H' : Hp} (g : Gr G H G' H') : good a G' H' := h G' H' g
theorem RP.ofOpt {α : Type} {good : α → Hp → Hp → Prop} {o : Option α} (h : RP K w mg W σ G H good (Res.of o)) : ∃ a, o = some a ∧ ∀ G' H', Gr G H G' H' → good a G' H' := by
  cases o with
  | none => exact h.elim
  | some a => exact ⟨a, rfl, h⟩
end
end DL

/-! DL2: expressions: names, constants, operators, comparisons, displays, tests. -/
namespace DL
open PySem PySem.Spec PyProof.Rows L2

/-! ### what they compute -/
def dV (i : Nat) : Bt → Res D := fun β => match β[i]? with
  | some (some d) => .ok d
  | _ => .no
def dC (d : D) : Bt → Res D := fun _ => .ok d
def d1 (f : D → Option D) (a : Bt → Res D) : Bt → Res D := fun β => (a β).bind fun x => Res.of (f x)
def d2 (f : D → D → Option D) (a b : Bt → Res D) : Bt → Res D := fun β => (a β).bind fun x => (b β).bind fun y => Res.of (f x y)
def aNil : Bt → Res (List D) := fun _ => .ok []
def aCons (a : Bt → Res D) (r : Bt → Res (List D)) : Bt → Res (List D) := fun β => (a β).bind fun x => (r β).bind fun xs => .ok (x :: xs)
def dTup (a : Bt → Res (List D)) : Bt → Res D := fun β => (a β).bind fun xs => if xs.length ≤ sizeLine then .ok (.tuple xs) else .no
def dLst (a : Bt → Res (List D)) : Bt → Res D := fun β => (a β).bind fun xs => if xs.length ≤ sizeLine then .ok (.list xs) else .no
def dN (f : List D → Option D) (a : Bt → Res (List D)) : Bt → Res D := fun β => (a β).bind fun xs => Res.of (f xs)
def asB : D → Option Bool
  | .bool b => some b
  | _ => none
def tV (a : Bt → Res D) : Bt → Res Bool := fun β => (a β).bind fun x => Res.of (asB x)
def tNot (a : Bt → Res Bool) : Bt → Res Bool := fun β => (a β).bind fun x => .ok (!x)
def tAnd (a b : Bt → Res Bool) : Bt → Res Bool := fun β => (a β).bind fun x => if x = true then b β else .ok false
def tOr (a b : Bt → Res Bool) : Bt → Res Bool := fun β => (a β).bind fun x => if x = true then .ok true else b β
def dNot (a : Bt → Res D) : Bt → Res D := fun β => (a β).bind fun x => (Res.of (asB x)).bind fun x => .ok (.bool !x)
def dAnd (a b : Bt → Res D) : Bt → Res D := fun β => (a β).bind fun x => (Res.of (asB x)).bind fun x => if x = true then b β else .ok (.bool false)
def dOr (a b : Bt → Res D) : Bt → Res D := fun β => (a β).bind fun x => (Res.of (asB x)).bind fun x => if x = true then .ok (.bool true) else b β
def dIf (t : Bt → Res Bool) (a b : Bt → Res D) : Bt → Res D := fun β => (t β).bind fun x => if x = true then a β else b β

/-! ### the rules' common part -/
section
variable {X : Cx} {W : WA}
/-- r gives what f computes -/
def OkR1 (X : Cx) (r : V → Hp → VK → Prop) (f : D → Option D) : Prop := ∀ x d, f x = some d → ∀ v G H Q, Same G H → Rp X.K X.w G v x → (∀ G' H', Gr G H G' H' → ∀ u, Rp X.K X.w G' u d → Q u H') → r v H Q
def OkR2 (X : Cx) (r : R2) (f : D → D → Option D) : Prop := ∀ x y d, f x y = some d → ∀ v u G H Q, Same G H → Rp X.K X.w G v x → Rp X.K X.w G u y → (∀ G' H', Gr G H G' H' → ∀ u, Rp X.K X.w G' u d → Q u H') → r v u H Q
def OkRN (X : Cx) (r : List V → Hp → VK → Prop) (f : List D → Option D) : Prop := ∀ xs d, f xs = some d → ∀ vs G H Q, Same G H → RpAll X.K X.w G vs xs → (∀ G' H', Gr G H G' H' → ∀ u, Rp X.K X.w G' u d → Q u H') → r vs H Q
theorem op2D {r : R2} {f : D → D → Option D} {da db : Bt → Res D} (k : OkR2 X r f) (σ : L2.St) (H : Hp) (Q : VK) (h : TR X W (d2 f da db) σ H Q) : tOp r (TR X W da) (TR X W db) σ H Q := by
  obtain ⟨G, β, s, ev, rp⟩ := h
  refine ⟨G, β, s, ev, rp.bind fun x ex G1 H1 g1 rp1 v rv => ?_⟩
  refine ⟨G1, β, g1.s, ev.mono g1.g, rp1.bind fun y ey G2 H2 g2 rp2 u ru => ?_⟩
  obtain ⟨d, ed, q⟩ := rp2.ofOpt
  exact k x y d ed v u G2 H2 Q g2.s (rv.mono g2.g) ru q
theorem op1D {r : V → Hp → VK → Prop} {f : D → Option D} {da : Bt → Res D} (k : OkR1 X r f) (σ : L2.St) (H : Hp) (Q : VK) (h : TR X W (d1 f da) σ H Q) : tUn r (TR X W da) σ H Q := by
  obtain ⟨G, β, s, ev, rp⟩ := h
  refine ⟨G, β, s, ev, rp.bind fun x ex G1 H1 g1 rp1 v rv => ?_⟩
  obtain ⟨d, ed, q⟩ := rp1.ofOpt
  exact k x d ed v G1 H1 Q g1.s rv q
theorem opND {r : List V → Hp → VK → Prop} {f : List D → Option D} {da : Bt → Res (List D)} (k : OkRN X r f) (σ : L2.St) (H : Hp) (Q : VK) (h : TR X W (dN f da) σ H Q) : tCB r (TRa X W da) σ H Q := by
  obtain ⟨G, β, s, ev, rp⟩ := h
  refine ⟨G, β, s, ev, rp.bind fun x ex G1 H1 g1 rp1 v rv => ?_⟩
  obtain ⟨d, ed, q⟩ := rp1.ofOpt
  exact k x d ed v G1 H1 Q g1.s rv q
theorem OkR2.or1 {r r' : R2} {f g : D → D → Option D} (h : OkR2 X r f) (h' : OkR2 X r' g) : OkR2 X (fun x y H Q => r x y H Q ∨ r' x y H Q) (fun x y => (f x y).or (g x y)) := fun x y d e0 v u G H Q s rv ru q => by
  have e : (f x y).or (g x y) = some d := e0
  cases ef : f x y with
  | some z =>
    rw [ef] at e
    exact .inl (h x y d (ef.trans e) v u G H Q s rv ru q)
  | none =>
    rw [ef] at e
    exact .inr (h' x y d e v u G H Q s rv ru q)
theorem OkR2.from {r : R2} {f g : D → D → Option D} (h : OkR2 X r f) (e : ∀ x y d, g x y = some d → f x y = some d) : OkR2 X r g := fun x y d q => h x y d (e x y d q)
theorem OkR1.from {r : V → Hp → VK → Prop} {f g : D → Option D} (h : OkR1 X r f) (e : ∀ x d, g x = some d → f x = some d) : OkR1 X r g := fun x d q => h x d (e x d q)

/-! ### names, constants -/
theorem rv (i : Nat) {x : Str} {pos : Pos} (hN : X.N[i]? = some x := by rfl) (hv : Vis X.env.scope x := by first | exact Or.inl rfl | exact Or.inr (Or.inl rfl) | exact Or.inr (Or.inr rfl)) (hd : (x == ("__debug__" : Str)) = false := by decide)
    (hcd : (x == ("__classdict__" : Str)) = false := by decide) : RE X W (.Name x pos) (dV i) := by
  refine PE.imp (pe_var hN hv hd hcd) fun σ H Q h => ?_
  obtain ⟨G, β, s, ev, rp⟩ := h
  unfold dV at rp
  split at rp
  · rename_i d e
    obtain ⟨v, e1, e2⟩ := ev.2.1 i d e
    exact ⟨v, e1, rp.here (Gr.refl s) v e2⟩
  · exact rp.elim
theorem rconst {e : Expr} {v : V} {d : D} (h : PE X e (tC v)) (r : ∀ G, Rp X.K X.w G v d) : RE X W e (dC d) := by
  refine PE.imp h fun σ H Q h => ?_
  obtain ⟨G, β, s, ev, rp⟩ := h
  exact rp.here (Gr.refl s) v (r G)
theorem rint {i j pos} : RE X W (.Constant (.int i) j pos) (dC (.int i)) := rconst pe_int fun _ => .int _
theorem rstr {i j pos} : RE X W (.Constant (.str i) j pos) (dC (.str i)) := rconst pe_str fun _ => .str _
theorem rbl {i j pos} : RE X W (.Constant (.bool i) j pos) (dC (.bool i)) := rconst pe_bl fun _ => .bl _
theorem rnone {j pos} : RE X W (.Constant .none j pos) (dC .none) := rconst pe_non fun _ => .non
/-- a constant of the module -/
theorem rglob {x : Str} {v : V} {u : Value} {d : D} {pos : Pos} (hm : X.mg x = some u) (r : RelV v u) (rp : ∀ G, Rp X.K X.w G v d) (hg : Gl X x := by rfl) (hd : (x == ("__debug__" : Str)) = false := by decide) : RE X W (.Name x pos) (dC d) :=
  rconst (pe_glob hg hm r hd) rp

/-! ### operators -/
theorem rop {a b : Expr} {da db : Bt → Res D} {op : Operator} {pos : Pos} {r : R2} {f : D → D → Option D} (ho : OpR X (binaryOp op) r) (k : OkR2 X r f) (ha : RE X W a da) (hb : RE X W b db) : RE X W (.BinOp a op b pos) (d2 f da db) :=
  PE.imp (pe_op ho ha hb) (op2D k)
theorem rcmp {a b : Expr} {da db : Bt → Res D} {op : CmpOp} {pos : Pos} {r : R2} {f : D → D → Option D} (ho : OpR X (compareOp op) r) (k : OkR2 X r f) (ha : RE X W a da) (hb : RE X W b db) (hm : behindInMarks op b = false := by rfl) : RE X W (.Compare a [op] [b] pos) (d2 f da db) :=
  PE.imp (pe_cmpR ho ha hb hm) (op2D k)
theorem rix {a b : Expr} {da db : Bt → Res D} {pos : Pos} {r : R2} {f : D → D → Option D} (ho : IxR X r) (k : OkR2 X r f) (ha : RE X W a da) (hb : RE X W b db) (hs : PlainIx b := by exact fun _ _ => rfl) : RE X W (.Subscript a b pos) (d2 f da db) :=
  PE.imp (pe_ix ho ha hb hs) (op2D k)
theorem runo {a : Expr} {da : Bt → Res D} {op : UnaryOp} {pos : Pos} {r : V → Hp → VK → Prop} {f : D → Option D} (ho : UnR X (unaryOp op) r) (k : OkR1 X r f) (ha : RE X W a da) : RE X W (.UnaryOp op a pos) (d1 f da) :=
  PE.imp (pe_un ho ha) (op1D k)

/-! ### arguments, displays -/
theorem ranil : RA X W [] aNil := PA.imp pa_nil fun σ H Q h => by
  obtain ⟨G, β, s, ev, rp⟩ := h
  exact rp.here (Gr.refl s) [] .nil
theorem racons {e : Expr} {es : List Expr} {da : Bt → Res D} {dr : Bt → Res (List D)} (ha : RE X W e da) (hr : RA X W es dr) (hs : starEach (e :: es) X.env = (false, eval e X.env) :: starEach es X.env := by rfl) : RA X W (e :: es) (aCons da dr) :=
  PA.imp (pa_cons ha hr hs) fun σ H Q h => by
    obtain ⟨G, β, s, ev, rp⟩ := h
    refine ⟨G, β, s, ev, rp.bind fun x ex G1 H1 g1 rp1 v rv => ?_⟩
    refine ⟨G1, β, g1.s, ev.mono g1.g, rp1.bind fun y ey G2 H2 g2 rp2 u ru => ?_⟩
    exact rp2.here (Gr.refl g2.s) (v :: u) (.cons (rv.mono g2.g) ru)
theorem rtup {es : List Expr} {da : Bt → Res (List D)} {x1} {pos : Pos} (h : RA X W es da) : RE X W (.Tuple es x1 pos) (dTup da) :=
  PE.imp (pe_tup h) fun σ H Q h => by
    obtain ⟨G, β, s, ev, rp⟩ := h
    refine ⟨G, β, s, ev, rp.bind fun x ex G1 H1 g1 rp1 vs rv => ?_⟩
    have hl := rv.length
    by_cases hz : x.length ≤ sizeLine
    · rw [if_pos hz] at rp1
      refine ⟨by omega, fun p hp => ?_⟩
      exact rp1.here (Gr.new g1.s hp) (.ref p) (.tup (.inl (.inl upd_same)) (RpAll.mono (same_upd (g1.s.free hp)) rv))
    · rw [if_neg hz] at rp1
      exact rp1.elim
theorem rlst {es : List Expr} {da : Bt → Res (List D)} {pos : Pos} (h : RA X W es da) : RE X W (.List es pos) (dLst da) :=
  PE.imp (pe_lst h) fun σ H Q h => by
    obtain ⟨G, β, s, ev, rp⟩ := h
    refine ⟨G, β, s, ev, rp.bind fun x ex G1 H1 g1 rp1 vs rv => ?_⟩
    have hl := rv.length
    by_cases hz : x.length ≤ sizeLine
    · rw [if_pos hz] at rp1
      refine ⟨by omega, fun p hp => ?_⟩
      exact rp1.here (Gr.new g1.s hp) (.ref p) (.lst upd_same (RpAll.mono (same_upd (g1.s.free hp)) rv))
    · rw [if_neg hz] at rp1
      exact rp1.elim

/-! ### tests and bools -/
theorem asB_ok {d : D} {b : Bool} (h : asB d = some b) : d = .bool b := by
  cases d <;> simp [asB] at h
  rw [h]
theorem rt {e : Expr} {da : Bt → Res D} (h : RE X W e da) (he : ∀ whole, isTrue e X.env whole = (do let v ← whole; standAt e.pos; holding [v] (truthy v)) := by intro _; rfl) : RT X W e (tV da) :=
  PT.imp (pt_val h he) fun σ H Q h => by
    obtain ⟨G, β, s, ev, rp⟩ := h
    refine ⟨G, β, s, ev, rp.bind fun x ex G1 H1 g1 rp1 v rv => ?_⟩
    obtain ⟨b, eb, q⟩ := rp1.ofOpt
    cases asB_ok eb
    cases rv
    exact ⟨b, rfl, q _ _ (Gr.refl g1.s)⟩
theorem rtcmp {a b : Expr} {da db : Bt → Res D} {op : CmpOp} {pos : Pos} {r : R2} {f : D → D → Option D} (ho : OpR X (compareOp op) r) (k : OkR2 X r f) (ha : RE X W a da) (hb : RE X W b db) (hm : behindInMarks op b = false := by rfl) : RT X W (.Compare a [op] [b] pos) (tV (d2 f da db)) :=
  PT.imp (pt_cmpR ho ha hb hm) fun σ H Q h => by
    obtain ⟨G, β, s, ev, rp⟩ := h
    refine op2D (W := W) (da := da) (db := db) k σ H (fun x H' => ∃ k, x = .bl k ∧ Q k H') ⟨G, β, s, ev, rp.bind fun x ex G1 H1 g1 rp1 v rv => ?_⟩
    obtain ⟨b, eb, q⟩ := rp1.ofOpt
    cases asB_ok eb
    cases rv
    exact ⟨b, rfl, q _ _ (Gr.refl g1.s)⟩
theorem rtnot {a : Expr} {da : Bt → Res Bool} {pos : Pos} (h : RT X W a da) : RT X W (.UnaryOp .Not a pos) (tNot da) :=
  PT.imp (pt_not h) fun σ H Q h => by
    obtain ⟨G, β, s, ev, rp⟩ := h
    refine ⟨G, β, s, ev, rp.bind fun x ex G1 H1 g1 rp1 => ?_⟩
    exact rp1.here (Gr.refl g1.s)
theorem rw1 {a : Expr} {da : Bt → Res Bool} {pos : Pos} (h : RT X W a da) : RW X W (.BoolOp .And [a] pos) da := pw_and1 h
theorem rwo1 {a : Expr} {da : Bt → Res Bool} {pos : Pos} (h : RT X W a da) : RW X W (.BoolOp .Or [a] pos) da := pw_or1 h
theorem rwand {a b : Expr} {rest : List Expr} {da db : Bt → Res Bool} {pos : Pos} (ha : RT X W a da) (hb : RW X W (.BoolOp .And (b :: rest) pos) db) : RW X W (.BoolOp .And (a :: b :: rest) pos) (tAnd da db) :=
  PW.imp (pw_and ha hb) fun σ H Q h => by
    obtain ⟨G, β, s, ev, rp⟩ := h
    refine ⟨G, β, s, ev, rp.bind fun x ex G1 H1 g1 rp1 => ?_⟩
    cases x with
    | true => exact ⟨G1, β, g1.s, ev.mono g1.g, rp1⟩
    | false => exact rp1.here (Gr.refl g1.s)
theorem rwor {a b : Expr} {rest : List Expr} {da db : Bt → Res Bool} {pos : Pos} (ha : RT X W a da) (hb : RW X W (.BoolOp .Or (b :: rest) pos) db) : RW X W (.BoolOp .Or (a :: b :: rest) pos) (tOr da db) :=
  PW.imp (pw_or ha hb) fun σ H Q h => by
    obtain ⟨G, β, s, ev, rp⟩ := h
    refine ⟨G, β, s, ev, rp.bind fun x ex G1 H1 g1 rp1 => ?_⟩
    cases x with
    | true => exact rp1.here (Gr.refl g1.s)
    | false => exact ⟨G1, β, g1.s, ev.mono g1.g, rp1⟩
theorem rtw {e : Expr} {d : Bt → Res Bool} (h : RW X W e d) : RT X W e d := PW.pt h
theorem rnot {a : Expr} {da : Bt → Res D} {pos : Pos} (h : RE X W a da) : RE X W (.UnaryOp .Not a pos) (dNot da) :=
  PE.imp (pe_not h) fun σ H Q h => by
    obtain ⟨G, β, s, ev, rp⟩ := h
    refine ⟨G, β, s, ev, rp.bind fun x ex G1 H1 g1 rp1 v rv => ?_⟩
    cases eb : asB x with
    | none => rw [eb] at rp1; exact rp1.elim
    | some b =>
      rw [eb] at rp1
      cases asB_ok eb
      cases rv
      exact ⟨b, rfl, rp1.here (Gr.refl g1.s) _ (.bl _)⟩
theorem rbone {op} {a : Expr} {da : Bt → Res D} {pos : Pos} (h : RE X W a da) : RE X W (.BoolOp op [a] pos) da := pe_one h
theorem rand {a b : Expr} {rest : List Expr} {da db : Bt → Res D} {pos : Pos} (ha : RE X W a da) (hb : RE X W (.BoolOp .And (b :: rest) pos) db) : RE X W (.BoolOp .And (a :: b :: rest) pos) (dAnd da db) :=
  PE.imp (pe_and ha hb) fun σ H Q h => by
    obtain ⟨G, β, s, ev, rp⟩ := h
    refine ⟨G, β, s, ev, rp.bind fun x ex G1 H1 g1 rp1 v rv => ?_⟩
    cases eb : asB x with
    | none => rw [eb] at rp1; exact rp1.elim
    | some b =>
      rw [eb] at rp1
      cases asB_ok eb
      cases rv
      refine ⟨b, rfl, ?_⟩
      cases b with
      | true => exact ⟨G1, β, g1.s, ev.mono g1.g, rp1⟩
      | false => exact rp1.here (Gr.refl g1.s) _ (.bl _)
theorem ror {a b : Expr} {rest : List Expr} {da db : Bt → Res D} {pos : Pos} (ha : RE X W a da) (hb : RE X W (.BoolOp .Or (b :: rest) pos) db) : RE X W (.BoolOp .Or (a :: b :: rest) pos) (dOr da db) :=
  PE.imp (pe_or ha hb) fun σ H Q h => by
    obtain ⟨G, β, s, ev, rp⟩ := h
    refine ⟨G, β, s, ev, rp.bind fun x ex G1 H1 g1 rp1 v rv => ?_⟩
    cases eb : asB x with
    | none => rw [eb] at rp1; exact rp1.elim
    | some b =>
      rw [eb] at rp1
      cases asB_ok eb
      cases rv
      refine ⟨b, rfl, ?_⟩
      cases b with
      | true => exact rp1.here (Gr.refl g1.s) _ (.bl _)
      | false => exact ⟨G1, β, g1.s, ev.mono g1.g, rp1⟩
theorem rif {c a b : Expr} {dc : Bt → Res Bool} {da db : Bt → Res D} {pos : Pos} (hc : RT X W c dc) (ha : RE X W a da) (hb : RE X W b db) : RE X W (.IfExp c a b pos) (dIf dc da db) :=
  PE.imp (pe_ifExp hc ha hb) fun σ H Q h => by
    obtain ⟨G, β, s, ev, rp⟩ := h
    refine ⟨G, β, s, ev, rp.bind fun x ex G1 H1 g1 rp1 => ?_⟩
    cases x with
    | true => exact ⟨G1, β, g1.s, ev.mono g1.g, rp1⟩
    | false => exact ⟨G1, β, g1.s, ev.mono g1.g, rp1⟩
end
end DL

/-! DL3: the operators on data. -/
namespace DL
open PySem PySem.Spec PyProof.Rows L2
section
variable {X : Cx} {W : WA} {a b : Expr} {da db : Bt → Res D} {pos : Pos}
/-! ### arithmetic -/
def fAdd : D → D → Option D
  | .int i, .int j => some (.int (i + j))
  | .str x, .str y => if x.length + y.length ≤ sizeLine then some (.str (x ++ y)) else none
  | .tuple xs, .tuple ys => if xs.length + ys.length ≤ sizeLine then some (.tuple (xs ++ ys)) else none
  | .list xs, .list ys => if xs.length + ys.length ≤ sizeLine then some (.list (xs ++ ys)) else none
  | _, _ => none
abbrev rAddStr : R2 := fun x y H Q => ∃ i j, x = .str i ∧ y = .str j ∧ i.length + j.length ≤ sizeLine ∧ Q (.str (i ++ j)) H
theorem ok_add : OkR2 X (fun x y H Q => rI0 (fun i j => .int (i + j)) x y H Q ∨ (rAddStr x y H Q ∨ (rCatA X.K x y H Q ∨ rCat x y H Q))) fAdd := by
  intro x y d e v u G H Q s rv ru q
  cases rv with
  | int i =>
    cases ru <;> simp only [fAdd, Option.some.injEq, reduceCtorEq] at e
    subst e
    exact .inl ⟨_, _, rfl, rfl, q _ _ (Gr.refl s) _ (.int _)⟩
  | str i =>
    cases ru <;> simp only [fAdd, reduceCtorEq] at e
    split at e
    · cases e
      rename_i h
      exact .inr (.inl ⟨_, _, rfl, rfl, h, q _ _ (Gr.refl s) _ (.str _)⟩)
    · cases e
  | tup hx rx =>
    cases ru with
    | tup hy ry =>
      simp only [fAdd] at e
      split at e
      · cases e
        rename_i h
        have l1 := rx.length
        have l2 := ry.length
        refine .inr (.inr (.inl ⟨_, _, _, _, rfl, rfl, seqT s hx, seqT s hy, by omega, fun e0 => ?_, fun _ e0 => ?_, fun _ _ p hp => ?_⟩))
        · subst e0
          cases rx
          exact q _ _ (Gr.refl s) _ (.tup hy ry)
        · subst e0
          cases ry
          rw [List.append_nil] at q
          exact q _ _ (Gr.refl s) _ (.tup hx rx)
        · exact q _ _ (Gr.new s hp) _ (.tup (.inl (.inl upd_same)) (RpAll.mono (same_upd (s.free hp)) (rx.append ry)))
      · cases e
    | _ => simp only [fAdd, reduceCtorEq] at e
  | lst hx rx =>
    cases ru with
    | lst hy ry =>
      simp only [fAdd] at e
      split at e
      · cases e
        rename_i h
        have l1 := rx.length
        have l2 := ry.length
        refine .inr (.inr (.inr ⟨_, _, _, _, rfl, rfl, s _ _ hx, s _ _ hy, by omega, fun p hp => ?_⟩))
        exact q _ _ (Gr.new s hp) _ (.lst upd_same (RpAll.mono (same_upd (s.free hp)) (rx.append ry)))
      · cases e
    | _ => simp only [fAdd, reduceCtorEq] at e
  | _ => cases ru <;> simp only [fAdd, reduceCtorEq] at e
theorem radd (ha : RE X W a da) (hb : RE X W b db) : RE X W (.BinOp a .Add b pos) (d2 fAdd da db) := rop (op_add.or (op_add_str.or (op_catA.or op_cat))) ok_add ha hb
def fSub : D → D → Option D
  | .int i, .int j => some (.int (i - j))
  | _, _ => none
theorem ok_sub : OkR2 X (rI0 fun i j => .int (i - j)) fSub := by
  intro x y d e v u G H Q s rv ru q
  cases rv <;> cases ru <;> simp only [fSub, Option.some.injEq, reduceCtorEq] at e
  subst e
  exact ⟨_, _, rfl, rfl, q _ _ (Gr.refl s) _ (.int _)⟩
theorem rsub (ha : RE X W a da) (hb : RE X W b db) : RE X W (.BinOp a .Sub b pos) (d2 fSub da db) := rop op_sub ok_sub ha hb
def small64 (i : Int) : Bool := decide (-(2 ^ 64) < i) && decide (i < 2 ^ 64)
def mulOk (i j : Int) : Bool := small64 i || (small64 j || decide (i.natAbs.log2 + j.natAbs.log2 < 1000000))
def fMul : D → D → Option D
  | .int i, .int j => if mulOk i j = true then some (.int (i * j)) else none
  | .list xs, .int k => if -(2 ^ 63) ≤ k ∧ k < 2 ^ 63 ∧ xs.length * k.toNat ≤ sizeLine then some (.list (List.replicate k.toNat xs).flatten) else none
  | _, _ => none
theorem RpAll.flat {K : PySem.W.Frag} {w : World} {H : Hp} {vs : List V} {ds : List D} (r : RpAll K w H vs ds) : ∀ n : Nat, RpAll K w H (List.replicate n vs).flatten (List.replicate n ds).flatten
  | 0 => .nil
  | n + 1 => by
    rw [List.replicate_succ, List.replicate_succ, List.flatten_cons, List.flatten_cons]
    exact r.append (RpAll.flat r n)
theorem ok_mul : OkR2 X (fun x y H Q => rI CMul (fun i j => .int (i * j)) x y H Q ∨ (rI CMulW (fun i j => .int (i * j)) x y H Q ∨ rRep x y H Q)) fMul := by
  intro x y d e v u G H Q s rv ru q
  cases rv with
  | int i =>
    cases ru with
    | int j =>
      simp only [fMul] at e
      split at e
      · cases e
        rename_i h
        simp only [mulOk, small64, Bool.or_eq_true, Bool.and_eq_true, decide_eq_true_eq] at h
        rcases h with h | h | h
        · exact .inl ⟨_, _, rfl, rfl, .inl h, q _ _ (Gr.refl s) _ (.int _)⟩
        · exact .inl ⟨_, _, rfl, rfl, .inr h, q _ _ (Gr.refl s) _ (.int _)⟩
        · exact .inr (.inl ⟨_, _, rfl, rfl, h, q _ _ (Gr.refl s) _ (.int _)⟩)
      · cases e
    | _ => simp only [fMul, reduceCtorEq] at e
  | lst hx rx =>
    cases ru with
    | int j =>
      simp only [fMul] at e
      split at e
      · cases e
        rename_i h
        have l1 := rx.length
        refine .inr (.inr ⟨_, _, _, rfl, rfl, s _ _ hx, h.1, h.2.1, by rw [l1]; exact h.2.2, fun p hp => ?_⟩)
        exact q _ _ (Gr.new s hp) _ (.lst upd_same (RpAll.mono (same_upd (s.free hp)) (rx.flat _)))
      · cases e
    | _ => simp only [fMul, reduceCtorEq] at e
  | _ => cases ru <;> simp only [fMul, reduceCtorEq] at e
theorem rmul (ha : RE X W a da) (hb : RE X W b db) : RE X W (.BinOp a .Mult b pos) (d2 fMul da db) := rop (op_mul.or (op_mulW.or op_rep)) ok_mul ha hb
def divOk (j : Int) : Bool := (decide (j ≠ 0) && decide (j.natAbs < 1073741824)) || (decide (0 < j) && decide (j.natAbs.log2 < 9000))
def fDiv : D → D → Option D
  | .int i, .int j => if divOk j = true then some (.int (i.fdiv j)) else none
  | _, _ => none
theorem ok_div : OkR2 X (fun x y H Q => rI CDivN (fun i j => .int (i.fdiv j)) x y H Q ∨ rI CDivW (fun i j => .int (i / j)) x y H Q) fDiv := by
  intro x y d e v u G H Q s rv ru q
  cases rv with
  | int i =>
    cases ru with
    | int j =>
      simp only [fDiv] at e
      split at e
      · cases e
        rename_i h
        simp only [divOk, Bool.or_eq_true, Bool.and_eq_true, decide_eq_true_eq] at h
        rcases h with h | h
        · exact .inl ⟨_, _, rfl, rfl, h, q _ _ (Gr.refl s) _ (.int _)⟩
        · refine .inr ⟨_, _, rfl, rfl, h, ?_⟩
          have e2 : i / j = i.fdiv j := (Int.fdiv_eq_ediv_of_nonneg i (by omega)).symm
          show Q (.int (i / j)) H
          rw [e2]
          exact q _ _ (Gr.refl s) _ (.int _)
      · cases e
    | _ => simp only [fDiv, reduceCtorEq] at e
  | _ => cases ru <;> simp only [fDiv, reduceCtorEq] at e
theorem rdiv (ha : RE X W a da) (hb : RE X W b db) : RE X W (.BinOp a .FloorDiv b pos) (d2 fDiv da db) := rop (op_fdivN.or op_fdivW) ok_div ha hb
def fMod : D → D → Option D
  | .int i, .int j => if j ≠ 0 then some (.int (i.fmod j)) else none
  | _, _ => none
theorem ok_mod : OkR2 X (rI (fun _ j => j ≠ 0) fun i j => .int (i.fmod j)) fMod := by
  intro x y d e v u G H Q s rv ru q
  cases rv <;> cases ru <;> simp only [fMod, reduceCtorEq] at e
  split at e
  · cases e
    rename_i h
    exact ⟨_, _, rfl, rfl, h, q _ _ (Gr.refl s) _ (.int _)⟩
  · cases e
theorem rmod (ha : RE X W a da) (hb : RE X W b db) : RE X W (.BinOp a .Mod b pos) (d2 fMod da db) := rop op_modN ok_mod ha hb
def fPow : D → D → Option D
  | .int i, .int j => if 0 ≤ j ∧ j ≤ 1000000 ∧ i.natAbs < 2 ^ 64 then some (.int (i ^ j.toNat)) else none
  | _, _ => none
theorem ok_pow : OkR2 X (rI CPow fun i j => .int (i ^ j.toNat)) fPow := by
  intro x y d e v u G H Q s rv ru q
  cases rv <;> cases ru <;> simp only [fPow, reduceCtorEq] at e
  split at e
  · cases e
    rename_i h
    exact ⟨_, _, rfl, rfl, h, q _ _ (Gr.refl s) _ (.int _)⟩
  · cases e
theorem rpow (ha : RE X W a da) (hb : RE X W b db) : RE X W (.BinOp a .Pow b pos) (d2 fPow da db) := rop op_pow ok_pow ha hb
def fNeg : D → Option D
  | .int i => some (.int (-i))
  | _ => none
theorem ok_neg : OkR1 X (rU fun i => .int (-i)) fNeg := by
  intro x d e v G H Q s rv q
  cases rv <;> simp only [fNeg, Option.some.injEq, reduceCtorEq] at e
  subst e
  exact ⟨_, rfl, q _ _ (Gr.refl s) _ (.int _)⟩
theorem rneg (ha : RE X W a da) : RE X W (.UnaryOp .USub a pos) (d1 fNeg da) := runo un_neg ok_neg ha

/-! ### == and != -/
def eqD : D → D → Option Bool
  | .int i, .int j => some (i == j)
  | .str i, .str j => some (i == j)
  | .bool i, .bool j => some (i == j)
  | x, y => if SeqAt.shaped x = true ∧ SeqAt.shaped y = true then some (PyData.eqv x y) else none
def fEq (x y : D) : Option D := (eqD x y).map .bool
def fNe (x y : D) : Option D := (eqD x y).map fun b => .bool !b
theorem eqD_cases {x y : D} {b : Bool} (h : eqD x y = some b) : (∃ i j, x = .int i ∧ y = .int j ∧ b = (i == j)) ∨ (∃ i j, x = .str i ∧ y = .str j ∧ b = (i == j)) ∨ (∃ i j, x = .bool i ∧ y = .bool j ∧ b = (i == j)) ∨
    (SeqAt.shaped x = true ∧ SeqAt.shaped y = true ∧ b = PyData.eqv x y) := by
  unfold eqD at h
  split at h
  · cases h; exact .inl ⟨_, _, rfl, rfl, rfl⟩
  · cases h; exact .inr (.inl ⟨_, _, rfl, rfl, rfl⟩)
  · cases h; exact .inr (.inr (.inl ⟨_, _, rfl, rfl, rfl⟩))
  · split at h
    · rename_i q
      cases h
      exact .inr (.inr (.inr ⟨q.1, q.2, rfl⟩))
    · cases h
theorem ok_eq : OkR2 X (fun x y H Q => L2.rEq x y H Q ∨ rEqD X.K x y H Q) fEq := by
  intro x y d e v u G H Q s rv ru q
  obtain ⟨b, e1, rfl⟩ := Option.map_eq_some_iff.mp (show (eqD x y).map PyData.bool = some d from e)
  have q' := q _ _ (Gr.refl s) _ (.bl b)
  rcases eqD_cases e1 with ⟨i, j, rfl, rfl, rfl⟩ | ⟨i, j, rfl, rfl, rfl⟩ | ⟨i, j, rfl, rfl, rfl⟩ | ⟨h1, h2, rfl⟩
  · cases rv; cases ru
    exact .inl ⟨rfl, by rw [dec_int]; exact q'⟩
  · cases rv; cases ru
    exact .inl ⟨rfl, by rw [dec_str]; exact q'⟩
  · cases rv; cases ru
    exact .inl ⟨rfl, by rw [dec_bl]; exact q'⟩
  · exact .inr ⟨x, y, (rv.mono s).dp _ _ (SeqAt.canLay_of_shaped h1), (ru.mono s).dp _ _ (SeqAt.canLay_of_shaped h2), h1, h2, q'⟩
theorem ok_ne : OkR2 X (fun x y H Q => L2.rNe x y H Q ∨ rNeD X.K x y H Q) fNe := by
  intro x y d e v u G H Q s rv ru q
  obtain ⟨b, e1, rfl⟩ := Option.map_eq_some_iff.mp (show (eqD x y).map (fun b => PyData.bool !b) = some d from e)
  have q' := q _ _ (Gr.refl s) _ (.bl !b)
  rcases eqD_cases e1 with ⟨i, j, rfl, rfl, rfl⟩ | ⟨i, j, rfl, rfl, rfl⟩ | ⟨i, j, rfl, rfl, rfl⟩ | ⟨h1, h2, rfl⟩
  · cases rv; cases ru
    exact .inl ⟨rfl, by rw [dec_int]; exact q'⟩
  · cases rv; cases ru
    exact .inl ⟨rfl, by rw [dec_str]; exact q'⟩
  · cases rv; cases ru
    exact .inl ⟨rfl, by rw [dec_bl]; exact q'⟩
  · exact .inr ⟨x, y, (rv.mono s).dp _ _ (SeqAt.canLay_of_shaped h1), (ru.mono s).dp _ _ (SeqAt.canLay_of_shaped h2), h1, h2, q'⟩
theorem okO_eq {k : Nat} (hr : Room k X.A) : OpR X (compareOp .Eq) (fun x y H Q => L2.rEq x y H Q ∨ rEqD X.K x y H Q) := op_eq.or (op_eqD hr.units)
theorem okO_ne {k : Nat} (hr : Room k X.A) : OpR X (compareOp .NotEq) (fun x y H Q => L2.rNe x y H Q ∨ rNeD X.K x y H Q) := op_ne.or (op_neD hr.units)

/-! ### order -/
def ltS : D → D → Option Bool
  | .int i, .int j => some (decide (i < j))
  | .str i, .str j => some (decide (i.cps.toList < j.cps.toList))
  | _, _ => none
/-- lexicographic, on numbers and texts that stand on like places -/
def lexD : List D → List D → Option Bool
  | [], [] => some false
  | [], _ :: _ => some true
  | _ :: _, [] => some false
  | x :: xs, y :: ys => match x, y with
    | .int i, .int j => if i = j then lexD xs ys else some (decide (i < j))
    | .str i, .str j => if i = j then lexD xs ys else some (decide (i.cps.toList < j.cps.toList))
    | _, _ => none
def fCmp (f : Int → Int → Bool) : D → D → Option D
  | .int i, .int j => some (.bool (f i j))
  | _, _ => none
theorem ok_cmp (f : Int → Int → Bool) : OkR2 X (rI0 fun i j => .bl (f i j)) (fCmp f) := by
  intro x y d e v u G H Q s rv ru q
  cases rv <;> cases ru <;> simp only [fCmp, Option.some.injEq, reduceCtorEq] at e
  subst e
  exact ⟨_, _, rfl, rfl, q _ _ (Gr.refl s) _ (.bl _)⟩
abbrev fLe : D → D → Option D := fCmp fun i j => decide (i ≤ j)
abbrev fGt : D → D → Option D := fCmp fun i j => decide (j < i)
abbrev fGe : D → D → Option D := fCmp fun i j => decide (j ≤ i)
end
end DL

/-! DL4: order of texts and tuples, is, in, subscripts, slices. -/
namespace DL
open PySem PySem.Spec PyProof.Rows L2
/-! ### < of tuples of numbers and texts -/
def kin : D → D → Bool
  | .int _, .int _ => true
  | .str _, .str _ => true
  | _, _ => false
def eqS : D → D → Bool
  | .int i, .int j => i == j
  | .str i, .str j => i == j
  | _, _ => false
def ltB : D → D → Bool
  | .int i, .int j => decide (i < j)
  | .str i, .str j => decide (i.cps.toList < j.cps.toList)
  | _, _ => false
def lexB : List D → List D → Bool
  | [], [] => false
  | [], _ :: _ => true
  | _ :: _, [] => false
  | x :: xs, y :: ys => if eqS x y = true then lexB xs ys else ltB x y
def kinAll : List D → List D → Bool
  | x :: xs, y :: ys => kin x y && kinAll xs ys
  | _, _ => true
theorem kinAll_at : ∀ {xs ys : List D} {j : Nat} {x y : D}, kinAll xs ys = true → xs[j]? = some x → ys[j]? = some y → kin x y = true
  | [], _, _, _, _, _, h, _ => by simp at h
  | _ :: _, [], _, _, _, _, _, h => by simp at h
  | a :: xs, b :: ys, 0, x, y, k, h1, h2 => by
    simp at h1 h2
    subst h1 h2
    simp only [kinAll, Bool.and_eq_true] at k
    exact k.1
  | a :: xs, b :: ys, j + 1, x, y, k, h1, h2 => by
    simp only [kinAll, Bool.and_eq_true] at k
    exact kinAll_at (j := j) k.2 (by simpa using h1) (by simpa using h2)
theorem lexAt_lex (xs ys : List D) : ∀ k i, k = min xs.length ys.length - i → i ≤ min xs.length ys.length →
    Ob.lexAt (fun j => eqS (xs.getD j .none) (ys.getD j .none)) (fun j => ltB (xs.getD j .none) (ys.getD j .none)) (decide (xs.length < ys.length)) i k = lexB (xs.drop i) (ys.drop i)
  | 0, i, hk, hi => by
    have e : i = min xs.length ys.length := by omega
    rw [Ob.lexAt_zero]
    by_cases h : xs.length < ys.length
    · have h1 : xs.drop i = [] := List.drop_of_length_le (by omega)
      have h2 : i < ys.length := by omega
      rw [h1, List.drop_eq_getElem_cons h2, decide_eq_true h]
      rfl
    · have h1 : ys.drop i = [] := List.drop_of_length_le (by omega)
      rw [h1, decide_eq_false h]
      cases xs.drop i <;> rfl
  | k + 1, i, hk, hi => by
    have h1 : i < xs.length := by omega
    have h2 : i < ys.length := by omega
    rw [Ob.lexAt_succ, List.drop_eq_getElem_cons h1, List.drop_eq_getElem_cons h2]
    have ex : xs.getD i .none = xs[i] := by rw [List.getD_eq_getElem?_getD, List.getElem?_eq_getElem h1]; rfl
    have ey : ys.getD i .none = ys[i] := by rw [List.getD_eq_getElem?_getD, List.getElem?_eq_getElem h2]; rfl
    rw [ex, ey, lexAt_lex xs ys k (i + 1) (by omega) (by omega)]
    rfl
section
variable {X : Cx} {W : WA} {a b : Expr} {da db : Bt → Res D} {pos : Pos}
def rLtD (K : PySem.W.Frag) (w : World) : R2 := fun x y H Q => ∃ p q xs ys ds es, x = .ref p ∧ y = .ref q ∧ SqT K H p xs ∧ SqT K H q ys ∧ RpAll K w H xs ds ∧ RpAll K w H ys es ∧ kinAll ds es = true ∧ Q (.bl (lexB ds es)) H
theorem at_rel {K : PySem.W.Frag} {w : World} {H : Hp} {its : List Value} {xs : List V} {ds : List D} (r : Vals xs its) (h : RpAll K w H xs ds) (j : Nat) (hj : j < its.toArray.size) :
    ∃ v d, ds[j]? = some d ∧ ds.getD j .none = d ∧ Rp K w H v d ∧ RelV v its.toArray[j] := by
  have l1 := r.length
  have l2 := h.length
  have hj' : j < its.length := by simpa using hj
  have hx : j < xs.length := by omega
  have hd : j < ds.length := by omega
  obtain ⟨v, e1, e2⟩ := h.get (List.getElem?_eq_getElem hd)
  obtain ⟨u, e3, e4⟩ := r.get e1
  rw [List.getElem?_eq_getElem hj'] at e3
  cases e3
  exact ⟨v, ds[j], List.getElem?_eq_getElem hd, by rw [List.getD_eq_getElem?_getD, List.getElem?_eq_getElem hd]; rfl, e2, by simpa using e4⟩
theorem lt_strO {A : Around} {s : Shared} (i j : Str) (t u : Tok) : Ob.RcOp .Lt A s (.str i t) (.str j u) (decide (i.cps.toList < j.cps.toList)) := fun prog w E Q h => lt_str h
theorem op_ltD (hu : X.A.units < cLine) : OpR X (compareOp .Lt) (rLtD X.K X.w) := by
  intro pins s σ H x y v u Q I rx ry h
  obtain ⟨p, q, xs, ys, ds, es, rfl, rfl, hp, hq, hd, he, hk, h⟩ := h
  cases rx
  cases ry
  obtain ⟨its, r1, p1, _⟩ := I.tuple hp
  obtain ⟨its2, r2, p2, _⟩ := I.tuple hq
  have l1 : its.toArray.size = ds.length := by rw [List.size_toArray, ← r1.length, hd.length]
  have l2 : its2.toArray.size = es.length := by rw [List.size_toArray, ← r2.length, he.length]
  have R := Ob.RcOp.tuples_lt (A := X.A) (s := s) (e := fun j => eqS (ds.getD j .none) (es.getD j .none)) (r := fun j => ltB (ds.getD j .none) (es.getD j .none)) p1 p2 hu (fun j h1 h2 => by
    obtain ⟨v1, d1, x1, x2, x3, x4⟩ := at_rel r1 hd j h1
    obtain ⟨v2, d2, y1, y2, y3, y4⟩ := at_rel r2 he j h2
    have k := kinAll_at hk x1 y1
    simp only [x2, y2]
    cases x3 with
    | int i =>
      cases y3 <;> simp only [kin, reduceCtorEq] at k
      obtain ⟨t, et⟩ := x4
      obtain ⟨t', et'⟩ := y4
      rw [et, et']
      exact SeqAt.EqAt.int_int _ _ _ _
    | str i =>
      cases y3 <;> simp only [kin, reduceCtorEq] at k
      obtain ⟨t, et⟩ := x4
      obtain ⟨t', et'⟩ := y4
      rw [et, et']
      exact SeqAt.EqAt.str_str _ _ _ _
    | _ => cases y3 <;> simp only [kin, reduceCtorEq] at k) (fun j h1 h2 _ => by
    obtain ⟨v1, d1, x1, x2, x3, x4⟩ := at_rel r1 hd j h1
    obtain ⟨v2, d2, y1, y2, y3, y4⟩ := at_rel r2 he j h2
    have k := kinAll_at hk x1 y1
    simp only [x2, y2]
    cases x3 with
    | int i =>
      cases y3 <;> simp only [kin, reduceCtorEq] at k
      obtain ⟨t, et⟩ := x4
      obtain ⟨t', et'⟩ := y4
      rw [et, et']
      exact Ob.RcOp.lt_int _ _ _ _
    | str i =>
      cases y3 <;> simp only [kin, reduceCtorEq] at k
      obtain ⟨t, et⟩ := x4
      obtain ⟨t', et'⟩ := y4
      rw [et, et']
      exact lt_strO _ _ _ _
    | _ => cases y3 <;> simp only [kin, reduceCtorEq] at k)
  rw [l1, l2] at R
  have e := lexAt_lex ds es (min ds.length es.length) 0 rfl (Nat.zero_le _)
  rw [e] at R
  have z : wpAny (model X.prog X.w) X.A (compareOp .Lt (.ref p) (.ref q)) (EP X pins σ Q) X.xe s := R X.prog X.w X.xe (EP X pins σ Q) ⟨.bl _, H, I, rfl, h⟩
  exact z
def fLt : D → D → Option D
  | .int i, .int j => some (.bool (decide (i < j)))
  | .str i, .str j => some (.bool (decide (i.cps.toList < j.cps.toList)))
  | .tuple xs, .tuple ys => if kinAll xs ys = true then some (.bool (lexB xs ys)) else none
  | _, _ => none
theorem ok_lt : OkR2 X (fun x y H Q => rI0 (fun i j => .bl (decide (i < j))) x y H Q ∨ ((∃ i j, x = .str i ∧ y = .str j ∧ Q (.bl (decide (i.cps.toList < j.cps.toList))) H) ∨ rLtD X.K X.w x y H Q)) fLt := by
  intro x y d e v u G H Q s rv ru q
  cases rv with
  | int i =>
    cases ru <;> simp only [fLt, Option.some.injEq, reduceCtorEq] at e
    subst e
    exact .inl ⟨_, _, rfl, rfl, q _ _ (Gr.refl s) _ (.bl _)⟩
  | str i =>
    cases ru <;> simp only [fLt, Option.some.injEq, reduceCtorEq] at e
    subst e
    exact .inr (.inl ⟨_, _, rfl, rfl, q _ _ (Gr.refl s) _ (.bl _)⟩)
  | tup hx rx =>
    cases ru with
    | tup hy ry =>
      simp only [fLt] at e
      split at e
      · cases e
        rename_i h
        exact .inr (.inr ⟨_, _, _, _, _, _, rfl, rfl, seqT s hx, seqT s hy, RpAll.mono s rx, RpAll.mono s ry, h, q _ _ (Gr.refl s) _ (.bl _)⟩)
      · cases e
    | _ => simp only [fLt, reduceCtorEq] at e
  | _ => cases ru <;> simp only [fLt, reduceCtorEq] at e
theorem okO_lt {k : Nat} (hr : Room k X.A) : OpR X (compareOp .Lt) (fun x y H Q => rI0 (fun i j => .bl (decide (i < j))) x y H Q ∨ ((∃ i j, x = .str i ∧ y = .str j ∧ Q (.bl (decide (i.cps.toList < j.cps.toList))) H) ∨ rLtD X.K X.w x y H Q)) :=
  op_lt.or (op_lt_str.or (op_ltD hr.units0))

/-! ### is -/
def isN : D → Bool
  | .none => true
  | _ => false
def fIs : D → D → Option D
  | x, .none => some (.bool (isN x))
  | .bool i, .bool j => some (.bool (decide (i = j)))
  | _, _ => none
def fIsNot : D → D → Option D
  | x, .none => some (.bool !(isN x))
  | .bool i, .bool j => some (.bool !(decide (i = j)))
  | _, _ => none
theorem isN_eq {K : PySem.W.Frag} {w : World} {H : Hp} {v : V} {d : D} (r : Rp K w H v d) : decide (v = .non) = isN d := by
  cases r <;> simp [isN]
theorem ok_is : OkR2 X (fun x y H Q => (y = .non ∧ Q (.bl (decide (x = .non))) H) ∨ (∃ a b, x = .bl a ∧ y = .bl b ∧ Q (.bl (decide (a = b))) H)) fIs := by
  intro x y d e v u G H Q s rv ru q
  cases ru with
  | non =>
    simp only [fIs, Option.some.injEq] at e
    subst e
    exact .inl ⟨rfl, by rw [isN_eq rv]; exact q _ _ (Gr.refl s) _ (.bl _)⟩
  | bl j =>
    cases rv <;> simp only [fIs, Option.some.injEq, reduceCtorEq] at e
    subst e
    exact .inr ⟨_, _, rfl, rfl, q _ _ (Gr.refl s) _ (.bl _)⟩
  | _ => cases rv <;> simp only [fIs, reduceCtorEq] at e
theorem ok_isnot : OkR2 X (fun x y H Q => (y = .non ∧ Q (.bl (!decide (x = .non))) H) ∨ (∃ a b, x = .bl a ∧ y = .bl b ∧ Q (.bl (!decide (a = b))) H)) fIsNot := by
  intro x y d e v u G H Q s rv ru q
  cases ru with
  | non =>
    simp only [fIsNot, Option.some.injEq] at e
    subst e
    exact .inl ⟨rfl, by rw [isN_eq rv]; exact q _ _ (Gr.refl s) _ (.bl _)⟩
  | bl j =>
    cases rv <;> simp only [fIsNot, Option.some.injEq, reduceCtorEq] at e
    subst e
    exact .inr ⟨_, _, rfl, rfl, q _ _ (Gr.refl s) _ (.bl _)⟩
  | _ => cases rv <;> simp only [fIsNot, reduceCtorEq] at e
theorem okO_is : OpR X (compareOp .Is) (fun x y H Q => (y = .non ∧ Q (.bl (decide (x = .non))) H) ∨ (∃ a b, x = .bl a ∧ y = .bl b ∧ Q (.bl (decide (a = b))) H)) := op_isN.or op_is_bl
theorem okO_isnot : OpR X (compareOp .IsNot) (fun x y H Q => (y = .non ∧ Q (.bl (!decide (x = .non))) H) ∨ (∃ a b, x = .bl a ∧ y = .bl b ∧ Q (.bl (!decide (a = b))) H)) := op_notN.or op_isnot_bl

/-! ### in -/
def seqOf : D → Option (List D)
  | .list xs => some xs
  | .tuple xs => some xs
  | _ => none
def inD (x y : D) : Option Bool := match y with
  | .list ys => if SeqAt.shaped x = true ∧ SeqAt.shaped y = true then some (ys.any fun z => PyData.eqv z x) else none
  | .tuple ys => if SeqAt.shaped x = true ∧ SeqAt.shaped y = true then some (ys.any fun z => PyData.eqv z x) else none
  | .str z => match x with
    | .str c => if c.cps.size = 1 then some (decide (c.cps.getD 0 0 ∈ z.cps.toList)) else none
    | _ => none
  | _ => none
def fIn (x y : D) : Option D := (inD x y).map .bool
def fNotIn (x y : D) : Option D := (inD x y).map fun b => .bool !b
def rInA (K : PySem.W.Frag) (neg : Bool) : R2 := fun x y H Q => (∃ d ds, Dp K H x d ∧ (Dp K H y (.list ds) ∨ Dp K H y (.tuple ds)) ∧ SeqAt.shaped d = true ∧ SeqAt.shaped (.list ds) = true ∧ Q (.bl (if neg then !ds.any fun z => PyData.eqv z d else ds.any fun z => PyData.eqv z d)) H) ∨
  ∃ (c : Nat) (z : Str), x = .str ⟨#[c]⟩ ∧ y = .str z ∧ Q (.bl (if neg then !decide (c ∈ z.cps.toList) else decide (c ∈ z.cps.toList))) H
theorem shaped_lt {ds : List D} (h : SeqAt.shaped (.tuple ds) = true) : SeqAt.shaped (.list ds) = true := by
  have h1 := SeqAt.canLay_of_shaped h
  have h2 := SeqAt.depth_of_shaped h
  refine Bool.and_eq_true_iff.mpr ⟨?_, decide_eq_true ?_⟩
  · simpa only [PyData.canLay0] using h1
  · simpa only [PyData.depth] using h2
theorem opo_in {k : Nat} (hr : Room k X.A) : OpR X (compareOp .In) (rInA X.K false) := by
  have hu : X.A.units + 65 < cLine := by have := hr.un; omega
  intro pins s σ H x y v u Q I rx ry h
  rcases h with ⟨d, ds, hd, he, sd, se, q⟩ | ⟨c, z, e1, e2, q⟩
  · obtain ⟨as, r1⟩ := Dp.reads I d x v hd rx
    rcases he with he | he
    · obtain ⟨bs, r2⟩ := Dp.reads I (.list ds) y u he ry
      exact SeqAt.in_list_reads r2 r1 (SeqAt.canLay_of_shaped se) (SeqAt.canLay_of_shaped sd) (room_in_shaped sd hu) ⟨.bl _, H, I, rfl, q⟩
    · obtain ⟨bs, r2⟩ := Dp.reads I (.tuple ds) y u he ry
      exact SeqAt.in_tuple_reads r2 r1 (SeqAt.canLay_of_shaped se) (SeqAt.canLay_of_shaped sd) (room_in_shaped sd hu) ⟨.bl _, H, I, rfl, q⟩
  · exact op_in_sign pins s σ H x y v u Q I rx ry ⟨c, z, e1, e2, q⟩
theorem opo_notin {k : Nat} (hr : Room k X.A) : OpR X (compareOp .NotIn) (rInA X.K true) := by
  have hu : X.A.units + 65 < cLine := by have := hr.un; omega
  intro pins s σ H x y v u Q I rx ry h
  rcases h with ⟨d, ds, hd, he, sd, se, q⟩ | ⟨c, z, e1, e2, q⟩
  · obtain ⟨as, r1⟩ := Dp.reads I d x v hd rx
    rcases he with he | he
    · obtain ⟨bs, r2⟩ := Dp.reads I (.list ds) y u he ry
      exact SeqAt.notIn_list_reads r2 r1 (SeqAt.canLay_of_shaped se) (SeqAt.canLay_of_shaped sd) (room_in_shaped sd hu) ⟨.bl _, H, I, rfl, q⟩
    · obtain ⟨bs, r2⟩ := Dp.reads I (.tuple ds) y u he ry
      exact SeqAt.notIn_tuple_reads r2 r1 (SeqAt.canLay_of_shaped se) (SeqAt.canLay_of_shaped sd) (room_in_shaped sd hu) ⟨.bl _, H, I, rfl, q⟩
  · exact op_notIn_sign pins s σ H x y v u Q I rx ry ⟨c, z, e1, e2, q⟩
theorem one_sign {c : Str} (h : c.cps.size = 1) : c = ⟨#[c.cps.getD 0 0]⟩ := by
  obtain ⟨⟨l⟩⟩ := c
  cases l with
  | nil => simp at h
  | cons x r =>
    cases r with
    | nil => rfl
    | cons y r => simp at h
theorem in_core {neg : Bool} {x y : D} {b : Bool} (e : inD x y = some b) {v u : V} {G H : Hp} {Q : VK} (s : Same G H) (rv : Rp X.K X.w G v x) (ru : Rp X.K X.w G u y) (q : Q (.bl (if neg then !b else b)) H) : rInA X.K neg v u H Q := by
  cases ru with
  | lst hy ry =>
    simp only [inD] at e
    split at e
    · rename_i h
      cases e
      exact .inl ⟨x, _, (rv.mono s).dp _ _ (SeqAt.canLay_of_shaped h.1), .inl (Rp.dp _ _ (.lst (s _ _ hy) (RpAll.mono s ry)) (SeqAt.canLay_of_shaped h.2)), h.1, h.2, q⟩
    · cases e
  | tup hy ry =>
    simp only [inD] at e
    split at e
    · rename_i h
      cases e
      exact .inl ⟨x, _, (rv.mono s).dp _ _ (SeqAt.canLay_of_shaped h.1), .inr (Rp.dp _ _ (.tup (seqT s hy) (RpAll.mono s ry)) (SeqAt.canLay_of_shaped h.2)), h.1, shaped_lt h.2, q⟩
    · cases e
  | str z =>
    cases rv <;> simp only [inD, reduceCtorEq] at e
    split at e
    · rename_i h
      cases e
      exact .inr ⟨_, z, congrArg V.str (one_sign h), rfl, q⟩
    · cases e
  | _ => cases rv <;> simp only [inD, reduceCtorEq] at e
theorem ok_in : OkR2 X (rInA X.K false) fIn := by
  intro x y d e v u G H Q s rv ru q
  obtain ⟨b, e1, rfl⟩ := Option.map_eq_some_iff.mp (show (inD x y).map PyData.bool = some d from e)
  exact in_core (neg := false) e1 s rv ru (q _ _ (Gr.refl s) _ (.bl b))
theorem ok_notin : OkR2 X (rInA X.K true) fNotIn := by
  intro x y d e v u G H Q s rv ru q
  obtain ⟨b, e1, rfl⟩ := Option.map_eq_some_iff.mp (show (inD x y).map (fun b => PyData.bool !b) = some d from e)
  exact in_core (neg := true) e1 s rv ru (q _ _ (Gr.refl s) _ (.bl !b))
theorem nomarkE {op : CmpOp} (b : Expr) (h : (match b with | .Name .. => true | .Subscript .. => true | .Call .. => true | .BinOp .. => true | .Attribute .. => true | _ => false) = true) : behindInMarks op b = false := by
  cases b <;> first
    | rfl
    | (simp [behindInMarks]; done)
    | cases h

/-! ### subscripts -/
def fIx : D → D → Option D
  | .list xs, .int i => atI xs i
  | .tuple xs, .int i => atI xs i
  | .str z, .int i => if z.length ≤ sizeLine then (atI z.cps.toList i).map fun c => .str ⟨#[c]⟩ else none
  | _, _ => none
theorem atI_rp {K : PySem.W.Frag} {w : World} {H : Hp} {xs : List V} {ds : List D} (r : RpAll K w H xs ds) {i : Int} {d : D} (e : atI ds i = some d) : ∃ v, atI xs i = some v ∧ Rp K w H v d := by
  unfold atI at e ⊢
  rw [r.length]
  cases h : ixN ds.length i with
  | none => rw [h] at e; cases e
  | some j =>
    rw [h] at e
    exact r.get e
theorem ok_ix : OkR2 X (rIx X.K) fIx := by
  intro x y d e v u G H Q s rv ru q
  cases rv with
  | lst hx rx =>
    cases ru <;> simp only [fIx, reduceCtorEq] at e
    obtain ⟨z, e1, e2⟩ := atI_rp rx e
    exact .inl ⟨_, _, _, z, rfl, rfl, SqL.of (s _ _ hx), e1, q _ _ (Gr.refl s) _ e2⟩
  | tup hx rx =>
    cases ru <;> simp only [fIx, reduceCtorEq] at e
    obtain ⟨z, e1, e2⟩ := atI_rp rx e
    exact .inr (.inl ⟨_, _, _, z, rfl, rfl, seqT s hx, e1, q _ _ (Gr.refl s) _ e2⟩)
  | str z =>
    cases ru <;> simp only [fIx, reduceCtorEq] at e
    split at e
    · rename_i h
      obtain ⟨c, e1, rfl⟩ := Option.map_eq_some_iff.mp e
      exact .inr (.inr ⟨_, _, c, rfl, rfl, h, e1, q _ _ (Gr.refl s) _ (.str _)⟩)
    · cases e
  | _ => cases ru <;> simp only [fIx, reduceCtorEq] at e
theorem rixs (ha : RE X W a da) (hb : RE X W b db) (hs : PlainIx b := by exact fun _ _ => rfl) : RE X W (.Subscript a b pos) (d2 fIx da db) := rix ix_seq ok_ix ha hb hs
end
end DL

/-! DL5: slices, built-in calls, calls of defs, iterators, comprehensions. -/
namespace DL
open PySem PySem.Spec PyProof.Rows L2
section
variable {X : Cx} {W : WA} {a b : Expr} {da db : Bt → Res D} {pos : Pos}
/-! ### slices -/
def cutD {α : Type} (xs : List α) (lo hi : Option Int) : List α := (xs.drop (HT.sIx xs.length 0 lo)).take (HT.sIx xs.length xs.length hi - HT.sIx xs.length 0 lo)
theorem RpAll.cut {K : PySem.W.Frag} {w : World} {H : Hp} {xs : List V} {ds : List D} (r : RpAll K w H xs ds) (lo hi : Option Int) : RpAll K w H (cutV xs lo hi) (cutD ds lo hi) := by
  unfold cutV cutD
  rw [r.length]
  exact (r.drop _).take _
def pNone : Bt → Res (Option Int) := fun _ => .ok none
def asI : D → Option Int
  | .int i => some i
  | _ => none
def pSome (a : Bt → Res D) : Bt → Res (Option Int) := fun β => (a β).bind fun x => (Res.of (asI x)).bind fun i => .ok (some i)
def RO (X : Cx) (W : WA) (e : Option Expr) (den : Bt → Res (Option Int)) : Prop := PO X e fun σ H Q => ∃ G β, Same G H ∧ Ev X.K X.w W G σ β ∧ RP X.K X.w X.mg W σ G H (fun o _ H' => Q o H') (den β)
theorem asI_ok {d : D} {i : Int} (h : asI d = some i) : d = .int i := by
  cases d <;> simp [asI] at h
  rw [h]
theorem rpnone : RO X W none pNone := ⟨fun pins s σ H Q I h => by
  obtain ⟨G, β, s', ev, rp⟩ := h
  exact po_none.run pins s σ H Q I (rp.here (Gr.refl s'))⟩
theorem rpsome (h : RE X W a da) : RO X W (some a) (pSome da) := ⟨fun pins s σ H Q I hq => by
  refine (po_some h).run pins s σ H Q I ?_
  obtain ⟨G, β, s', ev, rp⟩ := hq
  refine ⟨G, β, s', ev, rp.bind fun x ex G1 H1 g1 rp1 v rv => ?_⟩
  cases e : asI x with
  | none => rw [e] at rp1; exact rp1.elim
  | some i =>
    rw [e] at rp1
    cases asI_ok e
    cases rv
    exact ⟨i, rfl, rp1.here (Gr.refl g1.s)⟩⟩
def fSl : D → Option Int → Option Int → Option D
  | .list xs, lo, hi => some (.list (cutD xs lo hi))
  | .dict [(.none, .list xs)], lo, hi => some (.list (cutD xs lo hi))
  | .tuple xs, lo, hi => some (.tuple (cutD xs lo hi))
  | .str z, lo, hi => if z.length ≤ sizeLine then some (.str (cutS z lo hi)) else none
  | _, _, _ => none
def dSl (a : Bt → Res D) (l h : Bt → Res (Option Int)) : Bt → Res D := fun β => (a β).bind fun x => (l β).bind fun lo => (h β).bind fun hi => Res.of (fSl x lo hi)
theorem cut_whole {xs : List D} {lo hi : Option Int} (h : HT.sIx xs.length 0 lo = 0 ∧ HT.sIx xs.length xs.length hi = xs.length) : cutD xs lo hi = xs := by
  unfold cutD
  rw [h.1, h.2]
  simp
theorem sl_core {x d : D} {lo hi : Option Int} (e : fSl x lo hi = some d) {v : V} {G H : Hp} {Q : VK} (s : Same G H) (rv : Rp X.K X.w G v x) (q : ∀ G' H', Gr G H G' H' → ∀ u, Rp X.K X.w G' u d → Q u H') :
    rSlL X.K v lo hi H Q ∨ (rSlA X.K v lo hi H Q ∨ rSlS v lo hi H Q) := by
  cases rv with
  | lst hx rx =>
    simp only [fSl, Option.some.injEq] at e
    subst e
    exact .inl ⟨_, _, rfl, SqL.of (s _ _ hx), fun p hp => q _ _ (Gr.new s hp) _ (.lst upd_same (RpAll.mono (same_upd (s.free hp)) (rx.cut lo hi)))⟩
  | scr hx rx =>
    simp only [fSl, Option.some.injEq] at e
    subst e
    exact .inl ⟨_, _, rfl, s.seq hx, fun p hp => q _ _ (Gr.new s hp) _ (.lst upd_same (RpAll.mono (same_upd (s.free hp)) (rx.cut lo hi)))⟩
  | tup hx rx =>
    simp only [fSl, Option.some.injEq] at e
    subst e
    refine .inr (.inl ⟨_, _, rfl, seqT s hx, fun h => ?_, fun h p hp => ?_⟩)
    · rw [rx.length] at h
      rw [cut_whole h] at q
      exact q _ _ (Gr.refl s) _ (.tup hx rx)
    · exact q _ _ (Gr.new s hp) _ (.tup (.inl (.inl upd_same)) (RpAll.mono (same_upd (s.free hp)) (rx.cut lo hi)))
  | str z =>
    simp only [fSl] at e
    split at e
    · rename_i h
      cases e
      exact .inr (.inr ⟨_, rfl, h, q _ _ (Gr.refl s) _ (.str _)⟩)
    · cases e
  | @dic _ kvs ds hd hr =>
    cases kvs with
    | nil => simp only [fSl, List.map_nil, List.zip_nil_left, reduceCtorEq] at e
    | cons k r =>
      cases ds with
      | nil => simp only [fSl, List.zip_nil_right, reduceCtorEq] at e
      | cons d0 ds =>
        cases r <;> cases ds <;> simp only [fSl, List.map_cons, List.map_nil, List.zip_cons_cons, List.zip_nil_left, List.zip_nil_right, reduceCtorEq] at e
  | _ => simp only [fSl, reduceCtorEq] at e
theorem rsl {lo hi : Option Expr} {dl dh : Bt → Res (Option Int)} {p2 : Pos} (ha : RE X W a da) (hl : RO X W lo dl) (hh : RO X W hi dh) : RE X W (.Subscript a (.Slice lo hi none p2) pos) (dSl da dl dh) :=
  PE.imp (pe_slice (sl_list.or (sl_tupA.or sl_str)) ha hl hh) fun σ H Q h => by
    obtain ⟨G, β, s, ev, rp⟩ := h
    refine ⟨G, β, s, ev, rp.bind fun x ex G1 H1 g1 rp1 v rv => ?_⟩
    refine ⟨G1, β, g1.s, ev.mono g1.g, rp1.bind fun l el G2 H2 g2 rp2 => ?_⟩
    refine ⟨G2, β, g2.s, (ev.mono g1.g).mono g2.g, rp2.bind fun u eu G3 H3 g3 rp3 => ?_⟩
    obtain ⟨d, ed, q⟩ := rp3.ofOpt
    exact sl_core ed g3.s ((rv.mono g2.g).mono g3.g) q
/-! ### xs[::-1] -/
def fRev : D → Option D
  | .list xs => some (.list xs.reverse)
  | .tuple xs => if xs.length = 1 ∨ xs.length = 0 then none else some (.tuple xs.reverse)
  | _ => none

/-! ### built-in calls -/
def fLen : List D → Option D
  | [.list xs] => some (.int xs.length)
  | [.tuple xs] => some (.int xs.length)
  | [.str z] => if z.length ≤ sizeLine then some (.int z.length) else none
  | _ => none
theorem ok_len : OkRN X (fun xs H Q => (∃ p ys, xs = [.ref p] ∧ (SqL X.K H p ys ∨ SqT X.K H p ys) ∧ Q (.int ys.length) H) ∨ (∃ z, xs = [.str z] ∧ z.length ≤ sizeLine ∧ Q (.int z.length) H)) fLen := by
  intro xs d e vs G H Q s rv q
  cases rv with
  | nil => cases e
  | cons r1 rr =>
    cases rr with
    | cons r2 rr => cases r1 <;> cases e
    | nil =>
      cases r1 with
      | lst hx rx =>
        simp only [fLen, Option.some.injEq] at e
        subst e
        rw [← rx.length] at q
        exact .inl ⟨_, _, rfl, .inl (SqL.of (s _ _ hx)), q _ _ (Gr.refl s) _ (.int _)⟩
      | tup hx rx =>
        simp only [fLen, Option.some.injEq] at e
        subst e
        rw [← rx.length] at q
        exact .inl ⟨_, _, rfl, .inr (seqT s hx), q _ _ (Gr.refl s) _ (.int _)⟩
      | str z =>
        simp only [fLen] at e
        split at e
        · rename_i h
          cases e
          exact .inr ⟨_, rfl, h, q _ _ (Gr.refl s) _ (.int _)⟩
        · cases e
      | _ => simp only [fLen, reduceCtorEq] at e
/-- a built-in function, a built-in type, called -/
theorem rcb {id : String} {r : List V → Hp → VK → Prop} {f : List D → Option D} {x : Str} {p : Pos} {e : Expr} {es : List Expr} {dd : Bt → Res (List D)} (hc : CallR X (.builtin id) r) (k : OkRN X r f) (hm : X.mg x = none) (ha : RA X W (e :: es) dd)
    (hv : bootBuiltins x = some (.builtin id) := by decide +kernel) (hg : Gl X x := by rfl) (hn : x ≠ "__name__" := by decide) (hdb : (x == ("__debug__" : Str)) = false := by decide)
    (he : starEach (e :: es) X.env = (false, eval e X.env) :: starEach es X.env := by rfl) (hpl : (backTo pos (starEach es X.env)).any (·.1) = false := by rfl) : RE X W (.Call (.Name x p) (e :: es) [] pos) (dN f dd) :=
  PE.imp (pe_callB hc hg hm hv ha hn hdb he hpl) (opND k)
theorem rct {T : String} {r : List V → Hp → VK → Prop} {f : List D → Option D} {x : Str} {p : Pos} {e : Expr} {es : List Expr} {dd : Bt → Res (List D)} (hc : CallR X (.type T) r) (k : OkRN X r f) (hm : X.mg x = none) (ha : RA X W (e :: es) dd)
    (hv : bootBuiltins x = some (.type T) := by decide +kernel) (hg : Gl X x := by rfl) (hn : x ≠ "__name__" := by decide) (hdb : (x == ("__debug__" : Str)) = false := by decide)
    (he : starEach (e :: es) X.env = (false, eval e X.env) :: starEach es X.env := by rfl) (hpl : (backTo pos (starEach es X.env)).any (·.1) = false := by rfl) : RE X W (.Call (.Name x p) (e :: es) [] pos) (dN f dd) :=
  PE.imp (pe_callTy hc hg hm hv ha hn hdb he hpl) (opND k)
theorem okO_len : CallR X (.builtin "len") (fun xs H Q => (∃ p ys, xs = [.ref p] ∧ (SqL X.K H p ys ∨ SqT X.K H p ys) ∧ Q (.int ys.length) H) ∨ (∃ z, xs = [.str z] ∧ z.length ≤ sizeLine ∧ Q (.int z.length) H)) := call_len_seq.or call_len_str
def fAbs : List D → Option D
  | [.int i] => some (.int (if i < 0 then -i else i))
  | _ => none
theorem ok_abs : OkRN X (fun xs H Q => ∃ i, xs = [.int i] ∧ Q (.int (if i < 0 then -i else i)) H) fAbs := by
  intro xs d e vs G H Q s rv q
  cases rv with
  | nil => cases e
  | cons r1 rr =>
    cases rr with
    | cons r2 rr => cases r1 <;> cases e
    | nil =>
      cases r1 <;> simp only [fAbs, Option.some.injEq, reduceCtorEq] at e
      subst e
      exact ⟨_, rfl, q _ _ (Gr.refl s) _ (.int _)⟩
def fInt : List D → Option D
  | [.int i] => some (.int i)
  | [.bool k] => some (.int (if k then 1 else 0))
  | _ => none
theorem ok_int : OkRN X (fun xs H Q => (∃ i, xs = [.int i] ∧ Q (.int i) H) ∨ ∃ k, xs = [.bl k] ∧ Q (.int (if k then 1 else 0)) H) fInt := by
  intro xs d e vs G H Q s rv q
  cases rv with
  | nil => cases e
  | cons r1 rr =>
    cases rr with
    | cons r2 rr => cases r1 <;> cases e
    | nil =>
      cases r1 with
      | int i =>
        simp only [fInt, Option.some.injEq] at e
        subst e
        exact .inl ⟨_, rfl, q _ _ (Gr.refl s) _ (.int _)⟩
      | bl i =>
        simp only [fInt, Option.some.injEq] at e
        subst e
        exact .inr ⟨_, rfl, q _ _ (Gr.refl s) _ (.int _)⟩
      | _ => simp only [fInt, reduceCtorEq] at e
def fMin2 : List D → Option D
  | [.int i, .int j] => some (.int (if j < i then j else i))
  | _ => none
def fMax2 : List D → Option D
  | [.int i, .int j] => some (.int (if j > i then j else i))
  | _ => none
theorem two_ints {f : List D → Option D} {g : Int → Int → Int} (h1 : ∀ i j, f [.int i, .int j] = some (.int (g i j))) (h2 : ∀ xs d, f xs = some d → ∃ i j, xs = [.int i, .int j]) :
    OkRN X (fun xs H Q => ∃ i j, xs = [.int i, .int j] ∧ Q (.int (g i j)) H) f := by
  intro xs d e vs G H Q s rv q
  obtain ⟨i, j, rfl⟩ := h2 xs d e
  rw [h1] at e
  cases e
  cases rv with
  | cons r1 rr =>
    cases rr with
    | cons r2 rr =>
      cases rr
      cases r1
      cases r2
      exact ⟨_, _, rfl, q _ _ (Gr.refl s) _ (.int _)⟩
theorem ok_min2 : OkRN X (fun xs H Q => ∃ i j, xs = [.int i, .int j] ∧ Q (.int (if j < i then j else i)) H) fMin2 := two_ints (fun _ _ => rfl) fun xs d e => by
  unfold fMin2 at e
  split at e
  · exact ⟨_, _, rfl⟩
  · cases e
theorem ok_max2 : OkRN X (fun xs H Q => ∃ i j, xs = [.int i, .int j] ∧ Q (.int (if j > i then j else i)) H) fMax2 := two_ints (fun _ _ => rfl) fun xs d e => by
  unfold fMax2 at e
  split at e
  · exact ⟨_, _, rfl⟩
  · cases e
def fTuple : List D → Option D
  | [.list xs] => some (.tuple xs)
  | [.tuple xs] => some (.tuple xs)
  | _ => none
theorem ok_tuple : OkRN X (fun xs H Q => ∃ p ys, xs = [.ref p] ∧ ((SqL X.K H p ys ∧ ∀ l, H l = none → Q (.ref l) (upd H l (.tup ys))) ∨ (SqT X.K H p ys ∧ Q (.ref p) H))) fTuple := by
  intro xs d e vs G H Q s rv q
  cases rv with
  | nil => cases e
  | cons r1 rr =>
    cases rr with
    | cons r2 rr => cases r1 <;> cases e
    | nil =>
      cases r1 with
      | lst hx rx =>
        simp only [fTuple, Option.some.injEq] at e
        subst e
        exact ⟨_, _, rfl, .inl ⟨SqL.of (s _ _ hx), fun l hl => q _ _ (Gr.new s hl) _ (.tup (.inl (.inl upd_same)) (RpAll.mono (same_upd (s.free hl)) rx))⟩⟩
      | tup hx rx =>
        simp only [fTuple, Option.some.injEq] at e
        subst e
        exact ⟨_, _, rfl, .inr ⟨seqT s hx, q _ _ (Gr.refl s) _ (.tup hx rx)⟩⟩
      | _ => simp only [fTuple, reduceCtorEq] at e
def fList : List D → Option D
  | [.list xs] => some (.list xs)
  | [.tuple xs] => some (.list xs)
  | _ => none
theorem ok_list : OkRN X (fun xs H Q => ∃ p ys, xs = [.ref p] ∧ (SqL X.K H p ys ∨ SqT X.K H p ys) ∧ ∀ l, H l = none → Q (.ref l) (upd H l (.lst ys))) fList := by
  intro xs d e vs G H Q s rv q
  cases rv with
  | nil => cases e
  | cons r1 rr =>
    cases rr with
    | cons r2 rr => cases r1 <;> cases e
    | nil =>
      cases r1 with
      | lst hx rx =>
        simp only [fList, Option.some.injEq] at e
        subst e
        exact ⟨_, _, rfl, .inl (SqL.of (s _ _ hx)), fun l hl => q _ _ (Gr.new s hl) _ (.lst upd_same (RpAll.mono (same_upd (s.free hl)) rx))⟩
      | tup hx rx =>
        simp only [fList, Option.some.injEq] at e
        subst e
        exact ⟨_, _, rfl, .inr (seqT s hx), fun l hl => q _ _ (Gr.new s hl) _ (.lst upd_same (RpAll.mono (same_upd (s.free hl)) rx))⟩
      | _ => simp only [fList, reduceCtorEq] at e

/-! ### isinstance -/
def tyD : D → String
  | .none => "NoneType"
  | .bool _ => "bool"
  | .int _ => "int"
  | .str _ => "str"
  | .list _ => "list"
  | .tuple _ => "tuple"
  | .dict [(.none, .list _)] => "list"
  | .dict _ => "dict"
/-- is a value of type a one of type b? -/
def subB (a b : String) : Bool := decide (a = b) || (decide (a = "bool") && decide (b = "int"))
def dIsi (T : String) (a : Bt → Res D) : Bt → Res D := fun β => (a β).bind fun x => match x with
  | .dict _ => .no
  | x => .ok (.bool (subB (tyD x) T))
def tyNames : List String := ["int", "bool", "str", "tuple", "list", "dict"]
theorem kit_all : ∀ b ∈ tyNames, ∀ a ∈ ["NoneType", "bool", "int", "str", "list", "tuple"], kitB a b = some (subB a b) := by decide +kernel
theorem SqT.ty {K : PySem.W.Frag} {H : Hp} {a : Addr} {xs : List V} (h : SqT K H a xs) : TyX K H (.ref a) (.type "tuple") := by
  rcases h with (h | ⟨o, h⟩) | ⟨o, its, n, h, hc, _⟩
  · exact .base (.tup h)
  · exact .fTuple h
  · exact .kTuple h hc
theorem risi {T : String} {x : Str} {p p2 : Pos} (hT : T ∈ tyNames) (hm : X.mg "isinstance" = none) (hm2 : X.mg x = none) (ha : RE X W a da) (hv2 : bootBuiltins x = some (.type T) := by decide +kernel) (hg : Gl X "isinstance" := by rfl) (hg2 : Gl X x := by rfl)
    (hn : x ≠ "__name__" := by decide) (hd : (x == ("__debug__" : Str)) = false := by decide) (he : starEach [a, .Name x p2] X.env = (false, eval a X.env) :: starEach [.Name x p2] X.env := by rfl) : RE X W (.Call (.Name "isinstance" p) [a, .Name x p2] [] pos) (dIsi T da) :=
  PE.imp (pe_callB call_isi hg hm (by decide +kernel) (pa_cons ha (pa_cons (pe_bltn (v := .ty T) hg2 hm2 hv2 rfl hn hd) pa_nil) he) (he := he)) fun σ H Q h => by
    obtain ⟨G, β, s, ev, rp⟩ := h
    refine ⟨G, β, s, ev, rp.bind fun x ex G1 H1 g1 rp1 v rv => ?_⟩
    have key : ∀ t, t ∈ ["NoneType", "bool", "int", "str", "list", "tuple"] → TyX X.K H1 v (.type t) → (Q (.bl (subB t T)) H1) → rIsi X.K [v, .ty T] H1 Q := fun t ht ty q =>
      ⟨v, .ty T, .type t, .type T, _, rfl, .ty T, ty, kit_ty (kit_all T hT t ht), q⟩
    cases rv with
    | non => exact key "NoneType" (by decide) (.base .non) (rp1.here (Gr.refl g1.s) _ (.bl _))
    | bl b => exact key "bool" (by decide) (.base (.bl b)) (rp1.here (Gr.refl g1.s) _ (.bl _))
    | int i => exact key "int" (by decide) (.base (.int i)) (rp1.here (Gr.refl g1.s) _ (.bl _))
    | str z => exact key "str" (by decide) (.base (.str z)) (rp1.here (Gr.refl g1.s) _ (.bl _))
    | lst hx rx => exact key "list" (by decide) (.base (.lst (g1.s _ _ hx))) (rp1.here (Gr.refl g1.s) _ (.bl _))
    | tup hx rx => exact key "tuple" (by decide) (SqT.ty (seqT g1.s hx)) (rp1.here (Gr.refl g1.s) _ (.bl _))
    | scr hx rx => exact rp1.elim
    | dic hx rx => exact rp1.elim
end
end DL

/-! DL6: t[::-1], calls of defs, iterators, comprehensions. -/
namespace DL
open PySem PySem.Spec PyProof.Rows L2
open HT (sIx)
/-! ### [::-1] of a tuple -/
theorem rev_places (n : Nat) : Builtin.Slice.slicePlaces ((n : Int) - 1) (-1) (-1) = n := by
  unfold Builtin.Slice.slicePlaces
  rw [if_neg (show ¬ ((-1 : Int) > 0) by omega)]
  split
  · have e : ((n : Int) - 1 - -1 - 1) / (- -1) + 1 = (n : Int) := by
      rw [show (- -1 : Int) = 1 by omega, Int.ediv_one]
      omega
    rw [e]
    omega
  · omega
theorem rev_pick (xs : Array Value) : ((List.range xs.size).filterMap fun (m : Nat) => xs[((xs.size : Int) - 1 + (m : Int) * -1).toNat]?).toArray = xs.toList.reverse.toArray := by
  have e : ∀ m, m ∈ List.range xs.size → xs[((xs.size : Int) - 1 + (m : Int) * -1).toNat]? = some (xs.toList.reverse.getD m .none) := fun m hm => by
    have h : m < xs.size := List.mem_range.mp hm
    have i1 : ((xs.size : Int) - 1 + (m : Int) * -1).toNat = xs.size - 1 - m := by omega
    rw [i1, Array.getElem?_eq_getElem (by omega), List.getD_eq_getElem?_getD, List.getElem?_reverse (by simpa using h)]
    simp only [Array.length_toList]
    rw [List.getElem?_eq_getElem (by rw [Array.length_toList]; omega)]
    simp
  have go : ∀ l : List Nat, (∀ m ∈ l, m ∈ List.range xs.size) → (l.filterMap fun (m : Nat) => xs[((xs.size : Int) - 1 + (m : Int) * -1).toNat]?) = l.map fun m => xs.toList.reverse.getD m .none := fun l => by
    induction l with
    | nil => intro _; rfl
    | cons m l ih =>
      intro h
      rw [List.filterMap_cons, e m (h m List.mem_cons_self), List.map_cons, ih fun k hk => h k (List.mem_cons_of_mem _ hk)]
  rw [go _ fun _ h => h]
  congr 1
  apply List.ext_getElem?
  intro i
  rw [List.getElem?_map]
  by_cases h : i < xs.size
  · rw [List.getElem?_range h, List.getElem?_eq_getElem (by simpa using h)]
    simp only [Option.map_some, List.getD_eq_getElem?_getD]
    rw [List.getElem?_eq_getElem (by simpa using h)]
    rfl
  · rw [List.getElem?_eq_none (by simpa using h), List.getElem?_eq_none (by simpa using h)]
    rfl
section
variable {prog : Program} {w : World} {A : Around} {E : Value → Shared → Prop} {s : Shared}
theorem rev_applied {sl : Addr} {vs : Value} {n : Nat} {Q : Int × Int × Nat → Shared → Prop} (hs : s.heap.IsSliceOf sl .none .none vs) (ps : IsPart vs (some (-1)))
    (h : Q ((n : Int) - 1, -1, n) s) : wpAny (model prog w) A (Builtin.Slice.sliceApplied (.ref sl) (pure (n : Int))) Q E s := by
  obtain ⟨os, hos, hcs, hds⟩ := id hs
  unfold Builtin.Slice.sliceApplied Builtin.Slice.sliceFields
  refine wpAny_bind (wpAny_bind (wpAny_field hos hds (x := .none) rfl (wpAny_bind (wpAny_field hos hds (x := .none) rfl (wpAny_bind (wpAny_field hos hds (x := vs) rfl (wpAny_pure ?_)))))))
  refine wpAny_bind (HT.slicePart_ ps ?_)
  show wpAny _ _ (if ((-1 : Int) == 0) = true then _ else _) _ _ s
  rw [if_neg (by decide)]
  refine wpAny_bind (HT.slicePart_ .none (wpAny_bind (HT.slicePart_ .none (wpAny_bind (wpAny_pure ?_)))))
  show wpAny _ _ (pure ((n : Int) - 1, (-1 : Int), Builtin.Slice.slicePlaces ((n : Int) - 1) (-1) (-1))) _ _ s
  rw [rev_places]
  exact wpAny_pure h
theorem getItem_tuple_rev {t sl : Addr} {items : Array Value} {vs : Value} {Q : Value → Shared → Prop} (ht : IsTup s.heap t items) (hs : s.heap.IsSliceOf sl .none .none vs) (ps : IsPart vs (some (-1)))
    (h : Q (.ref s.heap.objs.size) { s with heap := s.heap.push { cls := .type "tuple", data := .seq items.toList.reverse.toArray } })
    (hsz : items.size ≤ sizeLine) : wpAny (model prog w) A (getItem (.ref t) (.ref sl)) Q E s := by
  have hz : sizeOk (.seq items.toList.reverse.toArray) := by
    show items.toList.reverse.toArray.size ≤ sizeLine
    simpa using hsz
  obtain ⟨os, hos, hcs, hds⟩ := id hs
  have hTs : s.TypeIs (.ref sl) "slice" := ⟨os, hos, hcs⟩
  unfold getItem
  try with_reducible refine wpAny_holding ?_
  first | refine wpAny_bind (wpAny_pure ?_) | skip
  refine wpAny_bind (wpAny_sequenceKey ht.typeIs (by decide) ?_)
  refine wpAny_bind (wpAny_callSpecial?_slot (name := Str.ofString "__getitem__") ht.typeIs PyProof.Rows.slot_tuple_getitem
    (wpAny_call_entry PyProof.Rows.slot_tuple_getitem ht.typeIs entry_tuple_getitem ?_ (args_tuple_getitem _ _)))
  show wpAny _ _ (Builtin.Tuple.tupleItemsOf (.ref t) >>= _) _ _ s
  refine wpAny_bind (tupleItemsOf_ ht ?_)
  refine wpAny_bind (wpAny_typeOf hTs ?_)
  rw [if_pos (by decide)]
  refine wpAny_bind (rev_applied hs ps ?_)
  show wpAny _ _ (if (((items.size : Int) - 1) == 0 && (-1 : Int) == 1 && items.size == items.size) = true then _ else _) _ _ s
  rw [if_neg (by simp), rev_pick]
  first
    | exact wpAny_bind (m := Builtin.Tuple.tupleExact _) (wpAny_newObj_type (wpAny_pure ⟨_, rfl, wpAny_pure h⟩) hz)
    | exact wpAny_bind (m := Builtin.Tuple.tupleExact _) (wpAny_newObj_type (wpAny_bind (wpAny_pure (wpAny_pure ⟨_, rfl, wpAny_pure h⟩))) hz)
    | exact wpAny_bind (wpAny_bind (m := Builtin.Tuple.tupleExact _) (wpAny_newObj_type (wpAny_pure (wpAny_pure ⟨_, rfl, wpAny_pure h⟩)) hz))
    | exact wpAny_bind (wpAny_bind (m := Builtin.Tuple.tupleExact _) (wpAny_newObj_type (wpAny_pure ⟨_, rfl, wpAny_pure h⟩) hz))
end
section
variable {X : Cx} {W : WA} {a b : Expr} {da db : Bt → Res D} {pos : Pos}
def tRevA (K : PySem.W.Frag) (te : TE) : TE := fun σ H Q => te σ H fun x H1 => ∃ a xs, x = .ref a ∧ ((SqL K H1 a xs ∧ ∀ p, H1 p = none → Q (.ref p) (upd H1 p (.lst xs.reverse))) ∨ (SqT K H1 a xs ∧ ∀ p, H1 p = none → Q (.ref p) (upd H1 p (.tup xs.reverse))))
theorem pe_revA {e : Expr} {te : TE} {k : Nat} {p1 p2 p3 pos : Pos} (he : PE X e te) : PE X (.Subscript e (.Slice none none (some (.UnaryOp .USub (.Constant (.int 1) k p1) p2)) p3) pos) (tRevA X.K te) := by
  refine ⟨fun pins s σ H Q I h => ?_⟩
  refine Subscript_ (thn (he.run pins s σ H _ I h) fun v s1 ⟨x, H1, I1, r1, q1⟩ => ?_)
  obtain ⟨a, xs, ex, q⟩ := q1
  subst ex
  cases r1
  have step : PO X (some (.UnaryOp .USub (.Constant (.int 1) k p1) p2)) (tPart (tUn (rU fun i => .int (-i)) (tC (.int 1)))) := po_some (pe_un un_neg pe_int)
  refine wpAny_Slice (thn (po_none.run pins s1 σ H1 (fun o H2 => o = none ∧ H2 = H1) I1 ⟨rfl, rfl⟩) fun vl s2 ⟨l, H2, I2, pl, el, e2⟩ => ?_)
  subst el e2
  refine thn (po_none.run pins s2 σ H2 (fun o H3 => o = none ∧ H3 = H2) I2 ⟨rfl, rfl⟩) fun vu s3 ⟨u, H3, I3, pu, eu, e3⟩ => ?_
  subst eu e3
  refine thn (step.run pins s3 σ H3 (fun o H4 => o = some (-1) ∧ H4 = H3) I3 ⟨1, rfl, -1, rfl, rfl, rfl⟩) fun vs s4 ⟨o, H4, I4, ps, eo, e4⟩ => ?_
  subst eo e4
  have I5 : Inv X pins σ H4 { s4 with heap := s4.heap.push { cls := .type "slice", data := .fields #[vl, vu, vs] } } := I4.kept (t' := s4.toks) fun b ob q => Heap.get?_push_of_some _ q
  cases pl
  cases pu
  show wpAny (model X.prog X.w) X.A (subscriptTail e (.Slice none none (some (.UnaryOp .USub (.Constant (.int 1) k p1) p2)) p3) (.ref a) (.ref s4.heap.objs.size)) (EP X pins σ Q) X.xe { s4 with heap := s4.heap.push { cls := .type "slice", data := .fields #[.none, .none, vs] } }
  rcases q with ⟨hx, q⟩ | ⟨hx, q⟩
  · obtain ⟨its, r, ht, hz⟩ := I5.list hx
    have hlen := r.length
    refine tail_any (ops := [.ref a, .ref s4.heap.objs.size]) ht.isList.typeIs (PySem.slot_list_getitem.lookup) ?_ (by with_unfolding_all rfl)
    refine wpAny_getItem_list_slice ht.isList (Heap.IsSliceOf.new _ .none .none vs) .none .none ps (by decide) ?_ (by rw [List.size_toArray]; omega)
    rw [PySem.W.krv_pick]
    refine ⟨.ref _, _, I5.laid (t' := s4.toks) (o := .lst xs.reverse) (fun b ob q => Heap.get?_push_of_some _ q) (Nat.le_refl _) ?_, rfl, q _ (I5.hok.fresh (Nat.le_refl _))⟩
    exact ⟨by rw [List.length_reverse]; exact hz, _, 0, r.reverse, Heap.get?_push_size _ rfl⟩
  · obtain ⟨its, r, ht, hz⟩ := I5.tuple hx
    have hlen := r.length
    refine tail_any (ops := [.ref a, .ref s4.heap.objs.size]) ht.typeIs (PyProof.Rows.slot_tuple_getitem.lookup) ?_ (by with_unfolding_all rfl)
    refine getItem_tuple_rev ht (Heap.IsSliceOf.new _ .none .none vs) ps ?_ (by rw [List.size_toArray]; omega)
    refine ⟨.ref _, _, I5.laid (t' := s4.toks) (o := .tup xs.reverse) (fun b ob q => Heap.get?_push_of_some _ q) (Nat.le_refl _) ?_, rfl, q _ (I5.hok.fresh (Nat.le_refl _))⟩
    exact ⟨by rw [List.length_reverse]; exact hz, _, r.reverse, ⟨_, Heap.get?_push_size _ rfl, rfl, _, rfl⟩⟩
def fRevA : D → Option D
  | .list xs => some (.list xs.reverse)
  | .tuple xs => some (.tuple xs.reverse)
  | _ => none
theorem rrev {k : Nat} {p1 p2 p3 : Pos} (ha : RE X W a da) : RE X W (.Subscript a (.Slice none none (some (.UnaryOp .USub (.Constant (.int 1) k p1) p2)) p3) pos) (d1 fRevA da) :=
  PE.imp (pe_revA ha) fun σ H Q h => by
    obtain ⟨G, β, s, ev, rp⟩ := h
    refine ⟨G, β, s, ev, rp.bind fun x ex G1 H1 g1 rp1 v rv => ?_⟩
    obtain ⟨d, ed, q⟩ := rp1.ofOpt
    cases rv with
    | lst hx rx =>
      simp only [fRevA, Option.some.injEq] at ed
      subst ed
      exact ⟨_, _, rfl, .inl ⟨SqL.of (g1.s _ _ hx), fun p hp => q _ _ (Gr.new g1.s hp) _ (.lst upd_same (RpAll.mono (same_upd (g1.s.free hp)) rx.reverse))⟩⟩
    | tup hx rx =>
      simp only [fRevA, Option.some.injEq] at ed
      subst ed
      exact ⟨_, _, rfl, .inr ⟨seqT g1.s hx, fun p hp => q _ _ (Gr.new g1.s hp) _ (.tup (.inl (.inl upd_same)) (RpAll.mono (same_upd (g1.s.free hp)) rx.reverse))⟩⟩
    | _ => simp only [fRevA, reduceCtorEq] at ed

end

/-! ### an order of texts -/
theorem ltc_irr : ∀ a : List Nat, ltCps a a = false
  | [] => rfl
  | x :: r => by simp [ltCps, ltc_irr r]
theorem ltc_eq : ∀ a b : List Nat, ltCps a b = false → ltCps b a = false → a = b
  | [], [], _, _ => rfl
  | [], _ :: _, h, _ => by simp [ltCps] at h
  | _ :: _, [], _, h => by simp [ltCps] at h
  | x :: r, y :: t, h1, h2 => by
    simp only [ltCps, Bool.or_eq_false_iff, decide_eq_false_iff_not, Bool.and_eq_false_iff, beq_eq_false_iff_ne] at h1 h2
    have e : x = y := by omega
    subst e
    have q1 : ltCps r t = false := h1.2.resolve_left fun z => z rfl
    have q2 : ltCps t r = false := h2.2.resolve_left fun z => z rfl
    rw [ltc_eq r t q1 q2]
theorem ltc_neg : ∀ a b c : List Nat, ltCps b a = false → ltCps c b = false → ltCps c a = false
  | _, _, [], h1, h2 => by
    rename_i a b
    cases b with
    | nil => exact h1
    | cons y t => simp [ltCps] at h2
  | [], _, _ :: _, _, _ => rfl
  | x :: r, [], z :: q, h1, _ => by simp [ltCps] at h1
  | x :: r, y :: t, z :: q, h1, h2 => by
    simp only [ltCps, Bool.or_eq_false_iff, decide_eq_false_iff_not, Bool.and_eq_false_iff, beq_eq_false_iff_ne] at h1 h2 ⊢
    refine ⟨by omega, ?_⟩
    by_cases e : z = x
    · refine .inr ?_
      have e1 : y = x := by omega
      have e2 : z = y := by omega
      exact ltc_neg r t q (h1.2.resolve_left fun w => w e1) (h2.2.resolve_left fun w => w e2)
    · exact .inl e
theorem ltc_lt : ∀ a b : List Nat, ltCps a b = decide (a < b)
  | [], [] => by simp [ltCps]
  | [], _ :: _ => by simp [ltCps]
  | _ :: _, [] => by simp [ltCps]
  | x :: r, y :: t => by
    simp only [ltCps, ltc_lt r t, List.cons_lt_cons_iff]
    by_cases h : x < y
    · simp [h]
    · by_cases e : x = y
      · simp [e]
      · simp [h, e]
theorem perm_same {α : Type} {le : α → α → Prop} (as : ∀ a b, le a b → le b a → a = b) : ∀ (l1 l2 : List α), l1.Perm l2 → l1.Pairwise le → l2.Pairwise le → l1 = l2
  | [], l2, p, _, _ => (List.nil_perm.mp p).symm
  | a :: t1, [], p, _, _ => by
    have h := p.length_eq
    simp at h
  | a :: t1, b :: t2, p, h1, h2 => by
    have e : a = b := by
      have ha : a ∈ b :: t2 := p.subset List.mem_cons_self
      have hb : b ∈ a :: t1 := p.symm.subset List.mem_cons_self
      rcases List.mem_cons.mp ha with e | ha
      · exact e
      · rcases List.mem_cons.mp hb with e | hb
        · exact e.symm
        · exact as a b ((List.pairwise_cons.mp h1).1 b hb) ((List.pairwise_cons.mp h2).1 a ha)
    subst e
    rw [perm_same as t1 t2 p.cons_inv (List.pairwise_cons.mp h1).2 (List.pairwise_cons.mp h2).2]
/-- insertion by a test «is less than» -/
def insBy {α : Type} (lt : α → α → Bool) (x : α) : List α → List α
  | [] => [x]
  | y :: r => if lt y x = true then y :: insBy lt x r else x :: y :: r
def sortBy {α : Type} (lt : α → α → Bool) : List α → List α
  | [] => []
  | x :: r => insBy lt x (sortBy lt r)
section
variable {α : Type} {lt : α → α → Bool}
theorem insBy_perm (x : α) : ∀ l : List α, (insBy lt x l).Perm (x :: l)
  | [] => List.Perm.refl _
  | y :: r => by
    unfold insBy
    split
    · exact ((insBy_perm x r).cons y).trans (List.Perm.swap x y r)
    · exact List.Perm.refl _
theorem sortBy_perm : ∀ l : List α, (sortBy lt l).Perm l
  | [] => List.Perm.refl _
  | x :: r => (insBy_perm x _).trans ((sortBy_perm r).cons x)
theorem insBy_ord (asy : ∀ a b, lt a b = true → lt b a = false) (tr : ∀ a b c, lt b a = false → lt c b = false → lt c a = false) (x : α) : ∀ l : List α, l.Pairwise (fun a b => lt b a = false) → (insBy lt x l).Pairwise fun a b => lt b a = false
  | [], _ => by simp [insBy]
  | y :: r, h => by
    obtain ⟨h1, h2⟩ := List.pairwise_cons.mp h
    unfold insBy
    split
    · rename_i q
      refine List.pairwise_cons.mpr ⟨fun z hz => ?_, insBy_ord asy tr x r h2⟩
      rcases List.mem_cons.mp ((insBy_perm x r).subset hz) with e | hz
      · rw [e]; exact asy _ _ q
      · exact h1 z hz
    · rename_i q
      have q' : lt y x = false := by simpa using q
      refine List.pairwise_cons.mpr ⟨fun z hz => ?_, h⟩
      rcases List.mem_cons.mp hz with e | hz
      · rw [e]; exact q'
      · exact tr x y z q' (h1 z hz)
theorem sortBy_ord (asy : ∀ a b, lt a b = true → lt b a = false) (tr : ∀ a b c, lt b a = false → lt c b = false → lt c a = false) : ∀ l : List α, (sortBy lt l).Pairwise fun a b => lt b a = false
  | [] => List.Pairwise.nil
  | x :: r => insBy_ord asy tr x _ (sortBy_ord asy tr r)
end
abbrev ltT (x y : Str) : Bool := ltCps x.cps.toList y.cps.toList
theorem ltT_asy (a b : Str) (h : ltT a b = true) : ltT b a = false := by
  cases e : ltT b a with
  | false => rfl
  | true =>
    exfalso
    have key : ∀ x y : List Nat, ltCps x y = true → ltCps y x = true → False := fun x => by
      induction x with
      | nil => intro y h1 h2; cases y <;> simp [ltCps] at h1 h2
      | cons a r ih =>
        intro y h1 h2
        cases y with
        | nil => simp [ltCps] at h1
        | cons b t =>
          simp only [ltCps, Bool.or_eq_true, decide_eq_true_eq, Bool.and_eq_true, beq_iff_eq] at h1 h2
          rcases h1 with h1 | ⟨h1, q1⟩
          · rcases h2 with h2 | ⟨h2, q2⟩
            · omega
            · omega
          · rcases h2 with h2 | ⟨h2, q2⟩
            · omega
            · exact ih t q1 q2
    exact key _ _ h e
theorem str_of {a b : Str} (h : a.cps.toList = b.cps.toList) : a = b := by
  obtain ⟨⟨x⟩⟩ := a
  obtain ⟨⟨y⟩⟩ := b
  simpa using h
theorem risingS_pw : ∀ (l : List Str) (p : Str), risingS p l = true → (p :: l).Pairwise fun a b => ltT b a = false
  | [], p, _ => by simp
  | x :: r, p, h => by
    simp only [risingS, Bool.and_eq_true, Bool.not_eq_true'] at h
    have ih := risingS_pw r x h.2
    refine List.pairwise_cons.mpr ⟨fun z hz => ?_, ih⟩
    rcases List.mem_cons.mp hz with e | hz
    · rw [e]; exact h.1
    · exact ltc_neg _ _ _ h.1 ((List.pairwise_cons.mp ih).1 z hz)
theorem sorted_same {ys xs : List Str} (p : ys.Perm xs) (h : sortedS ys = true) : ys = sortBy ltT xs := by
  refine perm_same (le := fun a b => ltT b a = false) (fun a b h1 h2 => str_of (ltc_eq _ _ h2 h1)) _ _ (p.trans (sortBy_perm xs).symm) ?_ (sortBy_ord ltT_asy (fun a b c h1 h2 => ltc_neg _ _ _ h1 h2) xs)
  cases ys with
  | nil => exact List.Pairwise.nil
  | cons x r => exact risingS_pw r x h
def strsOf : List D → Option (List Str)
  | [] => some []
  | .str x :: r => (strsOf r).map (x :: ·)
  | _ => none
def intsOf : List D → Option (List Int)
  | [] => some []
  | .int x :: r => (intsOf r).map (x :: ·)
  | _ => none
theorem strsOf_eq : ∀ {ds : List D} {xs : List Str}, strsOf ds = some xs → ds = xs.map PyData.str
  | [], _, h => by cases h; rfl
  | d :: r, xs, h => by
    cases d <;> simp only [strsOf, reduceCtorEq] at h
    obtain ⟨t, e, rfl⟩ := Option.map_eq_some_iff.mp h
    rw [strsOf_eq e]; rfl
theorem intsOf_eq : ∀ {ds : List D} {xs : List Int}, intsOf ds = some xs → ds = xs.map PyData.int
  | [], _, h => by cases h; rfl
  | d :: r, xs, h => by
    cases d <;> simp only [intsOf, reduceCtorEq] at h
    obtain ⟨t, e, rfl⟩ := Option.map_eq_some_iff.mp h
    rw [intsOf_eq e]; rfl
theorem rpAll_strs {K : PySem.W.Frag} {w : World} {H : Hp} : ∀ {xs : List Str} {vs : List V}, RpAll K w H vs (xs.map PyData.str) → vs = xs.map V.str
  | [], _, h => by cases h; rfl
  | x :: r, _, h => by
    cases h with
    | cons h1 h2 => cases h1; rw [rpAll_strs h2]; rfl
theorem strs_rp {K : PySem.W.Frag} {w : World} {H : Hp} : ∀ xs : List Str, RpAll K w H (xs.map V.str) (xs.map PyData.str)
  | [] => .nil
  | x :: r => .cons (.str x) (strs_rp r)
theorem rpAll_ints {K : PySem.W.Frag} {w : World} {H : Hp} : ∀ {xs : List Int} {vs : List V}, RpAll K w H vs (xs.map PyData.int) → vs = xs.map V.int
  | [], _, h => by cases h; rfl
  | x :: r, _, h => by
    cases h with
    | cons h1 h2 => cases h1; rw [rpAll_ints h2]; rfl
section
variable {X : Cx}
def fSorted : List D → Option D
  | [.list ds] => match strsOf ds with
    | some xs => if xs.length < 64 then some (.list ((sortBy ltT xs).map PyData.str)) else none
    | none => match intsOf ds with
      | some ns => if ns.length < 64 then some (.list ((sortBy (fun i j => decide (i < j)) ns).map PyData.int)) else none
      | none => none
  | _ => none
theorem ok_sorted : OkRN X (fun vs H Q => rSortedS X.K vs H Q ∨ rSorted X.K vs H Q) fSorted := by
  intro xs d e vs G H Q s rv q
  cases rv with
  | nil => cases e
  | cons r1 rr =>
    cases rr with
    | cons r2 rr => cases r1 <;> cases e
    | nil =>
      cases r1 with
      | lst hx rx =>
        simp only [fSorted] at e
        split at e
        · rename_i zs hz
          split at e
          · rename_i h64
            cases e
            have e1 := strsOf_eq hz
            subst e1
            have e2 := rpAll_strs rx
            subst e2
            refine .inl ⟨_, _, rfl, SqL.of (s _ _ hx), h64, fun ys p h1 h2 hp => ?_⟩
            rw [sorted_same h1 h2]
            exact q _ _ (Gr.new s hp) _ (.lst upd_same (strs_rp _))
          · cases e
        · split at e
          · rename_i zs hz
            split at e
            · rename_i h64
              cases e
              have e1 := intsOf_eq hz
              subst e1
              have e2 := rpAll_ints rx
              subst e2
              refine .inr ⟨_, _, rfl, SqL.of (s _ _ hx), h64, fun ys p h1 h2 hp => ?_⟩
              have e3 : ys = sortBy (fun i j => decide (i < j)) zs := by
                refine perm_same (le := fun a b : Int => a ≤ b) (fun a b => Int.le_antisymm) _ _ (h1.trans (sortBy_perm zs).symm) h2 ?_
                have := sortBy_ord (lt := fun i j : Int => decide (i < j)) (fun a b h => by simp at h ⊢; omega) (fun a b c h h' => by simp at h h' ⊢; omega) zs
                exact this.imp fun {a b} h => by simp at h; omega
              rw [e3]
              exact q _ _ (Gr.new s hp) _ (.lst upd_same (Rp.ints _ _ _))
            · cases e
          · cases e
      | _ => simp only [fSorted, reduceCtorEq] at e
theorem okO_sorted : CallR X (.builtin "sorted") (fun vs H Q => rSortedS X.K vs H Q ∨ rSorted X.K vs H Q) := cr_sortedS.or cr_sorted
end
end DL

/-! DL7: calls of defs, targets, iterators, comprehensions. -/
namespace DL
open PySem PySem.Spec PyProof.Rows L2
/-! ### calls of defs -/
/-- the promise: what f computes -/
abbrev Wd (E : XK) : WA := WA.of fun cls d _ H => E cls d H
def SpF (K : PySem.W.Frag) (w : World) (mg : Str → Option Value) (f : List D → Res D) : Sp := fun vs H Q E => ∃ G ds, Same G H ∧ RpAll K w G vs ds ∧ RP K w mg (Wd E) [] G H (fun d G' H' => ∀ v, Rp K w G' v d → Q v H') (f ds)
def dCall (f : List D → Res D) (a : Bt → Res (List D)) : Bt → Res D := fun β => (a β).bind f
theorem SpF.len {K : PySem.W.Frag} {w : World} {mg : Str → Option Value} {f : List D → Res D} {n : Nat} (hf : ∀ ds, ds.length ≠ n → f ds = .no) (vs : List V) (H : Hp) (Q : VK) (E : XK) (h : SpF K w mg f vs H Q E) : vs.length = n := by
  obtain ⟨G, ds, s, r, rp⟩ := h
  rw [r.length]
  by_cases e : ds.length = n
  · exact e
  · rw [hf ds e] at rp
    exact rp.elim
section
variable {X : Cx} {W : WA} {k : Nat} {f : Addr} {fd : FuncData} {ps : List Str} {g : List D → Res D} {x : Str} {p pos : Pos} {e : Expr} {es : List Expr} {da : Bt → Res (List D)}
theorem rcall (F : FnOk X.prog X.w X.K X.mg X.base (L2.CX X.prog X.w) k f fd ps (SpF X.K X.w X.mg g)) (hr : Room k X.A) (hm : X.mg x = some (.ref f)) (kp : PySem.W.keepIn X.K (.ref f) = true) (hb : Binds X.K fd ps []) (tk : Takes X W.x) (ha : RA X W (e :: es) da)
    (hg : Gl X x := by rfl) (hdb : (x == ("__debug__" : Str)) = false := by decide) (he : starEach (e :: es) X.env = (false, eval e X.env) :: starEach es X.env := by rfl) (hpl : (backTo pos (starEach es X.env)).any (·.1) = false := by rfl) :
    RE X W (.Call (.Name x p) (e :: es) [] pos) (dCall g da) :=
  PE.imp (pe_callSD (E := fun σ => WE W.x σ) F hr hg hm kp hb .nil (passAt tk) ha hdb he hpl) fun σ H Q h => by
    obtain ⟨G, β, s, ev, rp⟩ := h
    refine ⟨G, β, s, ev, rp.bind fun ds ed G1 H1 g1 rp1 vs rv => ?_⟩
    show SpF X.K X.w X.mg g (vs ++ []) H1 Q (WE W.x σ)
    rw [List.append_nil]
    refine ⟨G1, ds, g1.s, rv, ?_⟩
    cases q : g ds with
    | no => rw [q] at rp1; exact rp1
    | er e => rw [q] at rp1; exact rp1
    | ok d => rw [q] at rp1; exact rp1
theorem rcall0 (F : FnOk X.prog X.w X.K X.mg X.base (L2.CX X.prog X.w) k f fd ps (SpF X.K X.w X.mg g)) (hr : Room k X.A) (hm : X.mg x = some (.ref f)) (kp : PySem.W.keepIn X.K (.ref f) = true) (hb : Binds X.K fd ps []) (tk : Takes X W.x)
    (hg : Gl X x := by rfl) (hdb : (x == ("__debug__" : Str)) = false := by decide) : RE X W (.Call (.Name x p) [] [] pos) (dCall g aNil) := by
  refine ⟨fun pins s σ H Q I h => ?_⟩
  refine wpAny_Call_Name_kw (ld_glob I hg hm ?_ hdb)
  refine PySem.W.callWith_K0 I.kIn kp (run_fnSD (E := fun σ => WE W.x σ) (us := []) (vs := []) (dvs := []) (ds := []) F hr hb .nil (passAt tk σ) I .nil ?_)
  obtain ⟨G, β, s', ev, rp⟩ := h
  exact ⟨G, [], s', .nil, rp⟩
end

/-! ### targets: a name, a flat tuple of names -/
inductive Tgt where
  | nm (i : Nat)
  | tup (is : List Nat)
def gNames : List Nat → TGs
  | [] => gNil
  | i :: r => gCons (gName i) (gNames r)
def tgt (K : PySem.W.Frag) : Tgt → TG
  | .nm i => gName i
  | .tup is => gTup K is.length (gNames is)
def Tgt.slots : Tgt → List Nat
  | .nm i => [i]
  | .tup is => is
def setAll : List Nat → List D → Bt → Option Bt
  | [], [], β => some β
  | i :: is, d :: ds, β => setAll is ds (β.set i (some d))
  | _, _, _ => none
def setT : Tgt → D → Bt → Option Bt
  | .nm i, d, β => some (β.set i (some d))
  | .tup is, .tuple ds, β => setAll is ds β
  | _, _, _ => none
theorem wipe_set (σ : L2.St) (i : Nat) (x : Option V) : ∀ vs : List Nat, wipe (σ.set i x) vs = if i ∈ vs then wipe σ vs else (wipe σ vs).set i x
  | [] => by simp [wipe]
  | v :: vs => by
    show (wipe (σ.set i x) vs).set v none = _
    rw [wipe_set σ i x vs]
    by_cases h : i ∈ vs
    · rw [if_pos h, if_pos (List.mem_cons_of_mem _ h)]; rfl
    · rw [if_neg h]
      by_cases e : i = v
      · subst e
        rw [if_pos List.mem_cons_self, List.set_set]; rfl
      · rw [if_neg (by simp [e, h]), List.set_comm _ _ e]; rfl
theorem wipe_in {σ : L2.St} {i : Nat} {x : Option V} {vs : List Nat} (h : i ∈ vs) : wipe (σ.set i x) vs = wipe σ vs := by rw [wipe_set, if_pos h]
theorem wipe_idem (σ : L2.St) : ∀ vs us : List Nat, (∀ i ∈ us, i ∈ vs) → wipe (wipe σ us) vs = wipe σ vs
  | vs, [], _ => rfl
  | vs, u :: us, h => by
    show wipe ((wipe σ us).set u none) vs = _
    rw [wipe_in (h u List.mem_cons_self)]
    exact wipe_idem σ vs us fun i hi => h i (List.mem_cons_of_mem _ hi)
section
variable {K : PySem.W.Frag} {w : World} {G H : Hp} {σ : L2.St} {β β' : Bt}
theorem Ev.set {v : V} {d : D} {W : WA} (h : Ev K w W G σ β) (r : Rp K w G v d) (i : Nat) (hw : W.ok i = true) : Ev K w W G (σ.set i (some v)) (β.set i (some d)) := by
  refine ⟨by simpa using h.1, fun j x e => ?_, W.set _ _ _ _ hw h.2.2⟩
  by_cases q : j = i
  · subst q
    by_cases hl : j < β.length
    · rw [List.getElem?_set_self hl] at e
      cases e
      exact ⟨v, List.getElem?_set_self (Nat.lt_of_lt_of_le hl h.1), r⟩
    · rw [List.getElem?_eq_none (by simpa using hl)] at e
      cases e
  · rw [List.getElem?_set_ne (Ne.symm q)] at e
    obtain ⟨u, e1, e2⟩ := h.2.1 j x e
    exact ⟨u, by rw [List.getElem?_set_ne (Ne.symm q)]; exact e1, e2⟩
theorem names_run {Q : L2.St → Hp → Prop} : ∀ {is : List Nat} {ds : List D} {xs : List V} {σ : L2.St} {β : Bt}, RpAll K w G xs ds → Ev K w W0 G σ β → setAll is ds β = some β' →
    (∀ σ', Ev K w W0 G σ' β' → (∀ vs : List Nat, (∀ i ∈ is, i ∈ vs) → wipe σ' vs = wipe σ vs) → Q σ' H) → gNames is xs σ H Q
  | [], _, _, σ, β, r, ev, e, q => by
    cases r with
    | nil =>
      cases e
      exact ⟨rfl, q σ ev fun _ _ => rfl⟩
    | cons _ _ => cases e
  | i :: is, _, _, σ, β, r, ev, e, q => by
    cases r with
    | nil => cases e
    | cons h t =>
      refine ⟨_, _, rfl, names_run t (ev.set h i rfl) e fun σ' ev' hw => q σ' ev' fun vs hv => ?_⟩
      rw [hw vs fun j hj => hv j (List.mem_cons_of_mem _ hj)]
      exact wipe_in (hv i List.mem_cons_self)
theorem tgt_run {Q : L2.St → Hp → Prop} {t : Tgt} {d : D} {v : V} (s : Same G H) (r : Rp K w G v d) (ev : Ev K w W0 G σ β) (e : setT t d β = some β')
    (q : ∀ σ', Ev K w W0 G σ' β' → (∀ vs : List Nat, (∀ i ∈ t.slots, i ∈ vs) → wipe σ' vs = wipe σ vs) → Q σ' H) : tgt K t v σ H Q := by
  cases t with
  | nm i =>
    cases e
    exact q _ (ev.set r i rfl) fun vs hv => wipe_in (hv i List.mem_cons_self)
  | tup is =>
    cases r with
    | @tup a xs ds hx rx =>
      have e' : setAll is ds β = some β' := e
      refine ⟨_, _, rfl, seqT s hx, ?_, names_run rx ev e' q⟩
      rw [rx.length]
      have key : ∀ {is : List Nat} {ds : List D} {β : Bt}, setAll is ds β = some β' → ds.length = is.length := fun {is} => by
        induction is with
        | nil => intro ds β e; cases ds <;> first | rfl | cases e
        | cons i is ih =>
          intro ds β e
          cases ds with
          | nil => cases e
          | cons d ds => exact congrArg Nat.succ (ih e)
      exact key e'
    | _ => cases e
end
def RG (X : Cx) (tg : Expr) (t : Tgt) : Prop := PG X tg (tgt X.K t)
theorem rgn {X : Cx} (i : Nat) {x : Str} {pos : Pos} (hN : X.N.Nodup) (hi : X.N[i]? = some x := by rfl) (hx : Loc X.env.scope x := by first | exact Or.inl rfl | exact Or.inr rfl) (hf : X.fn x = true ∨ X.env.scope.names.lookup x = some .local := by first | exact .inl rfl | exact .inr rfl | assumption) : RG X (.Name x pos) (.nm i) :=
  pg_name hN hi hx hf
def RGs (X : Cx) (ts : List Expr) (is : List Nat) : Prop := PGs X ts (gNames is)
theorem rgnil {X : Cx} : RGs X [] [] := pgs_nil
theorem rgcons {X : Cx} {e : Expr} {es : List Expr} {i : Nat} {is : List Nat} (h : RG X e (.nm i)) (r : RGs X es is) (hs : (assignEach (e :: es) X.env).map (·.2) = assign e X.env :: (assignEach es X.env).map (·.2) := by rfl) : RGs X (e :: es) (i :: is) := pgs_cons h r hs
theorem rgtup {X : Cx} {es : List Expr} {k : Nat} {is : List Nat} {pos : Pos} (hc : X.calm = true) (h : RGs X es is) (hn : (assignEach es X.env).length = is.length := by rfl) (hst : (assignEach es X.env).findIdx? (·.1) = none := by rfl) : RG X (.Tuple es k pos) (.tup is) :=
  pg_tup hc h hn hst

/-! ### iterators -/
/-- J walks the items ds, as long as what is in G stands -/
structure ItD (K : PySem.W.Frag) (w : World) (G : Hp) (J : It) (ds : List D) : Prop where
  go : ∀ i H, Same G H → i < ds.length → J.go i H
  stop : ∀ i H, Same G H → ds.length ≤ i → J.stop i H
  yld : ∀ i d G1 H x H', ds[i]? = some d → Same G G1 → Same G1 H → J.yld i H x H' → ∃ G2, Gr G1 H G2 H' ∧ Rp K w G2 x d
def TRi (X : Cx) (W : WA) (den : Bt → Res (List D)) : TI := fun σ H R => ∃ G β, Same G H ∧ Ev X.K X.w W G σ β ∧ RP X.K X.w X.mg W σ G H (fun ds G' H' => ∀ J, ItD X.K X.w G' J ds → R J H') (den β)
def RI (X : Cx) (W : WA) (tg e : Expr) (den : Bt → Res (List D)) : Prop := PI X tg e (TRi X W den)
theorem PI.imp {X : Cx} {tg e : Expr} {t t' : TI} (h : PI X tg e t) (i : ∀ σ H Q, t' σ H Q → t σ H Q) : PI X tg e t' := ⟨fun pins s σ H Q I q => h.run pins s σ H Q I (i σ H Q q)⟩
theorem pior {X : Cx} {tg e : Expr} {t t' : TI} (h : PI X tg e t) (h' : PI X tg e t') : PI X tg e fun σ H R => t σ H R ∨ t' σ H R := ⟨fun pins s σ H Q I q => q.elim (h.run pins s σ H Q I) (h'.run pins s σ H Q I)⟩
def signs (z : Str) : List D := z.cps.toList.map fun c => .str ⟨#[c]⟩
def itemsOf : D → Option (List D)
  | .list xs => some xs
  | .tuple xs => some xs
  | .str z => some (signs z)
  | _ => none
def iSeq (a : Bt → Res D) : Bt → Res (List D) := fun β => (a β).bind fun x => Res.of (itemsOf x)
section
variable {X : Cx} {W : WA} {a : Expr} {da : Bt → Res D} {tg : Expr}
theorem itd_list {K : PySem.W.Frag} {w : World} {G : Hp} {p : Addr} {xs : List V} {ds : List D} (h : SqL K G p xs) (r : RpAll K w G xs ds) : ItD K w G (Itl K p) ds where
  go := fun i H s hi => by
    obtain ⟨v, e1, _⟩ := r.get (List.getElem?_eq_getElem hi)
    exact ⟨xs, v, s.seq h, e1⟩
  stop := fun i H s hi => ⟨xs, s.seq h, by rw [r.length]; exact hi⟩
  yld := fun i d G1 H x H' hd s1 s2 y => by
    obtain ⟨v, e1, e2⟩ := r.get hd
    obtain ⟨e, y⟩ := y
    subst e
    have e3 := y xs ((s1.trans s2).seq h)
    rw [e1] at e3
    cases e3
    exact ⟨G1, Gr.refl s2, e2.mono s1⟩
theorem itd_tup {K : PySem.W.Frag} {w : World} {G : Hp} {p : Addr} {xs : List V} {ds : List D} (h : SqT K G p xs) (r : RpAll K w G xs ds) : ItD K w G (Itt K p) ds where
  go := fun i H s hi => by
    obtain ⟨v, e1, _⟩ := r.get (List.getElem?_eq_getElem hi)
    exact ⟨xs, v, seqT s h, e1⟩
  stop := fun i H s hi => ⟨xs, seqT s h, by rw [r.length]; exact hi⟩
  yld := fun i d G1 H x H' hd s1 s2 y => by
    obtain ⟨v, e1, e2⟩ := r.get hd
    obtain ⟨e, y⟩ := y
    subst e
    have e3 := y xs (seqT (s1.trans s2) h)
    rw [e1] at e3
    cases e3
    exact ⟨G1, Gr.refl s2, e2.mono s1⟩
theorem itd_str {K : PySem.W.Frag} {w : World} {G : Hp} (z : Str) : ItD K w G (Its z) (signs z) where
  go := fun i H s hi => show i < z.cps.size by simpa [signs] using hi
  stop := fun i H s hi => show z.cps.size ≤ i by simpa [signs] using hi
  yld := fun i d G1 H x H' hd s1 s2 y => by
    obtain ⟨e, c, e1, e2⟩ := y
    subst e e2
    have e3 : (signs z)[i]? = some (.str ⟨#[c]⟩) := by
      unfold signs
      rw [List.getElem?_map, Array.getElem?_toList, e1]
      rfl
    rw [e3] at hd
    cases hd
    exact ⟨G1, Gr.refl s2, .str _⟩
theorem riseq (ha : RE X W a da) : RI X W tg a (iSeq da) :=
  PI.imp (pior (pi_list ha) (pior (pi_tup ha) (pi_str ha))) fun σ H R h => by
    obtain ⟨G, β, s, ev, rp⟩ := h
    cases q : da β with
    | no => unfold iSeq at rp; rw [q] at rp; exact rp.elim
    | er e =>
      refine Or.inl ⟨G, β, s, ev, ?_⟩
      unfold iSeq at rp
      rw [q] at rp ⊢
      exact rp
    | ok x =>
      have rp' : RP X.K X.w X.mg W σ G H (fun ds G' H' => ∀ (J : It), ItD X.K X.w G' J ds → R J H') (Res.of (itemsOf x)) := by
        unfold iSeq at rp
        rw [q] at rp
        exact rp
      obtain ⟨ds, eds, qq⟩ := RP.ofOpt rp'
      cases x with
      | list xs =>
        cases eds
        refine Or.inl ⟨G, β, s, ev, ?_⟩
        rw [q]
        intro G' H' g v rv
        cases rv with
        | lst hx rx => exact ⟨_, rfl, ⟨_, SqL.of (g.s _ _ hx)⟩, qq G' H' g _ (itd_list (SqL.of hx) rx)⟩
      | tuple xs =>
        cases eds
        refine Or.inr (Or.inl ⟨G, β, s, ev, ?_⟩)
        rw [q]
        intro G' H' g v rv
        cases rv with
        | tup hx rx => exact ⟨_, rfl, ⟨_, seqT g.s hx⟩, qq G' H' g _ (itd_tup hx rx)⟩
      | str z =>
        cases eds
        refine Or.inr (Or.inr ⟨G, β, s, ev, ?_⟩)
        rw [q]
        intro G' H' g v rv
        cases rv
        exact ⟨z, rfl, qq G' H' g _ (itd_str z)⟩
      | _ => cases eds
end
end DL

/-! DL8: ranges, comprehensions. -/
namespace DL
open PySem PySem.Spec PyProof.Rows L2
section
variable {X : Cx} {W : WA} {a b : Expr} {da db : Bt → Res D} {tg : Expr} {p pos : Pos}
/-! ### ranges -/
def rangeL (lo : Int) (n : Nat) : List D := (List.range n).map fun (i : Nat) => PyData.int (lo + (i : Int))
theorem rangeL_length (lo : Int) (n : Nat) : (rangeL lo n).length = n := by simp [rangeL]
theorem rangeL_get (lo : Int) (n i : Nat) (h : i < n) : (rangeL lo n)[i]? = some (.int (lo + i)) := by
  unfold rangeL
  rw [List.getElem?_map, List.getElem?_range h]
  rfl
theorem itd_range {K : PySem.W.Frag} {w : World} {G : Hp} (lo : Int) (n : Nat) : ItD K w G (Itr lo n) (rangeL lo n) where
  go := fun i H s hi => by rw [rangeL_length] at hi; exact hi
  stop := fun i H s hi => by rw [rangeL_length] at hi; exact hi
  yld := fun i d G1 H x H' hd s1 s2 y => by
    obtain ⟨e, y⟩ := y
    subst e y
    have hi : i < n := by
      have := (List.getElem?_eq_some_iff.mp hd).1
      rwa [rangeL_length] at this
    rw [rangeL_get lo n i hi] at hd
    cases hd
    exact ⟨G1, Gr.refl s2, .int _⟩
def inR (i : Int) : Bool := decide (-(2 ^ 62) ≤ i) && decide (i < 2 ^ 62)
def iRange1 (a : Bt → Res D) : Bt → Res (List D) := fun β => (a β).bind fun x => match x with
  | .int n => if inR n = true then .ok (rangeL 0 n.toNat) else .no
  | _ => .no
def iRange2 (a b : Bt → Res D) : Bt → Res (List D) := fun β => (a β).bind fun x => (b β).bind fun y => match x, y with
  | .int m, .int n => if inR m = true ∧ inR n = true then .ok (rangeL m (n - m).toNat) else .no
  | _, _ => .no
theorem inR_ok {i : Int} (h : inR i = true) : -(2 ^ 62) ≤ i ∧ i < 2 ^ 62 := by
  simpa only [inR, Bool.and_eq_true, decide_eq_true_eq] using h
theorem rirange1 (hm : X.mg "range" = none) (ha : RE X W a da) (hg : Gl X "range" := by rfl) (hs1 : starEach [a] X.env = (false, eval a X.env) :: starEach [] X.env := by rfl) (hs : starEach [a] X.env = [(false, eval a X.env)] := by rfl) : RI X W tg (.Call (.Name "range" p) [a] [] pos) (iRange1 da) :=
  PI.imp (pi_range1 hg hm (pa_cons ha pa_nil hs1) hs) fun σ H R h => by
    obtain ⟨G, β, s, ev, rp⟩ := h
    refine ⟨G, β, s, ev, rp.bind fun x ex G1 H1 g1 rp1 v rv => ?_⟩
    cases rv with
    | int n =>
      simp only at rp1
      split at rp1
      · rename_i hn
        obtain ⟨h1, h2⟩ := inR_ok hn
        exact ⟨n, rfl, h1, h2, rp1.here (Gr.refl g1.s) _ (itd_range 0 _)⟩
      · exact rp1.elim
    | _ => exact rp1.elim
theorem rirange2 (hm : X.mg "range" = none) (ha : RE X W a da) (hb : RE X W b db) (hg : Gl X "range" := by rfl) (hs1 : starEach [a, b] X.env = (false, eval a X.env) :: starEach [b] X.env := by rfl) (hs3 : starEach [b] X.env = (false, eval b X.env) :: starEach [] X.env := by rfl)
    (hs : starEach [a, b] X.env = [(false, eval a X.env), (false, eval b X.env)] := by rfl) (hs2 : starEach [b] X.env = [(false, eval b X.env)] := by rfl) : RI X W tg (.Call (.Name "range" p) [a, b] [] pos) (iRange2 da db) :=
  PI.imp (pi_range2 hg hm (pa_cons ha (pa_cons hb pa_nil hs3) hs1) hs hs2) fun σ H R h => by
    obtain ⟨G, β, s, ev, rp⟩ := h
    refine ⟨G, β, s, ev, rp.bind fun x ex G1 H1 g1 rp1 v rv => ?_⟩
    refine ⟨G1, β, g1.s, ev.mono g1.g, rp1.bind fun y ey G2 H2 g2 rp2 u ru => ?_⟩
    cases rv with
    | int m =>
      cases ru with
      | int n =>
        simp only at rp2
        split at rp2
        · rename_i hn
          obtain ⟨h1, h2⟩ := inR_ok hn.1
          obtain ⟨h3, h4⟩ := inR_ok hn.2
          exact ⟨m, n, rfl, ⟨h1, h2, h3, h4⟩, rp2.here (Gr.refl g2.s) _ (itd_range m _)⟩
        · exact rp2.elim
      | _ => exact rp2.elim
    | _ => exact rp2.elim

/-! ### new lists -/
theorem Gr.put {G H G' H' : Hp} {a : Addr} {o : HO} (g : Gr G H G' H') (h1 : H a = none) (h2 : G' a = none) : Gr G H G' (upd H' a o) :=
  ⟨g.g, fun b x e => by
    have ne : b ≠ a := fun z => by rw [z, h2] at e; cases e
    rw [upd_ne ne]; exact g.s b x e, fun b x e => by
    have ne : b ≠ a := fun z => by rw [z, h1] at e; cases e
    rw [upd_ne ne]; exact g.h b x e, g.o⟩
/-- the expression gives a new list of these -/
def TRf (X : Cx) (W : WA) (den : Bt → Res (List D)) : TE := fun σ H Q => ∃ G β, Same G H ∧ Ev X.K X.w W G σ β ∧
  RP X.K X.w X.mg W σ G H (fun ds G' H' => ∀ a vs, H a = none → G' a = none → H' a = some (.lst vs) → RpAll X.K X.w G' vs ds → Q (.ref a) H') (den β)
def RF (X : Cx) (W : WA) (e : Expr) (den : Bt → Res (List D)) : Prop := PE X e (TRf X W den)
def dFz (a : Bt → Res (List D)) : Bt → Res D := fun β => (a β).bind fun ds => .ok (.list ds)
/-- the new list is laid into what is read -/
theorem Gr.lay {G H G' H' : Hp} {a : Addr} {o : HO} (g : Gr G H G' H') (h1 : H a = none) (h2 : G' a = none) (h3 : H' a = some o) : Gr G H (upd G' a o) H' :=
  ⟨g.g.trans (same_upd h2), fun b x e => by
    by_cases hb : b = a
    · subst hb; rw [upd_same] at e; cases e; exact h3
    · rw [upd_ne hb] at e; exact g.s b x e, g.h, fun b n1 n2 => by
    have ne : b ≠ a := fun z => n1 (z ▸ h1)
    rw [upd_ne ne]; exact g.o b n1 n2⟩
theorem rfz {e : Expr} {d : Bt → Res (List D)} (h : RF X W e d) : RE X W e (dFz d) :=
  PE.imp h fun σ H Q h => by
    obtain ⟨G, β, s, ev, rp⟩ := h
    refine ⟨G, β, s, ev, ?_⟩
    unfold dFz at rp
    cases q : d β with
    | no => rw [q] at rp; exact rp
    | er e => rw [q] at rp; exact rp
    | ok ds =>
      rw [q] at rp
      intro G' H' g a vs h1 h2 h3 r
      exact rp _ _ (g.lay h1 h2 h3) _ (.lst upd_same (RpAll.mono (same_upd h2) r))
def fLst (a : Bt → Res (List D)) : Bt → Res (List D) := fun β => (a β).bind fun xs => if xs.length ≤ sizeLine then .ok xs else .no
theorem rflst {es : List Expr} {da : Bt → Res (List D)} (h : RA X W es da) : RF X W (.List es pos) (fLst da) :=
  PE.imp (pe_lst h) fun σ H Q h => by
    obtain ⟨G, β, s, ev, rp⟩ := h
    refine ⟨G, β, s, ev, rp.bind fun x ex G1 H1 g1 rp1 vs rv => ?_⟩
    have hl := rv.length
    by_cases hz : x.length ≤ sizeLine
    · rw [if_pos hz] at rp1
      refine ⟨by omega, fun p hp => ?_⟩
      have g2 : Gr G1 H1 G1 (upd H1 p (.lst vs)) := ⟨Same.refl _, g1.s.trans (same_upd hp), same_upd hp, fun _ _ h => h⟩
      exact rp1.here g2 p vs (g1.h.free hp) (g1.s.free hp) upd_same rv
    · rw [if_neg hz] at rp1
      exact rp1.elim
def iSq (a : Bt → Res D) : Bt → Res (List D) := fun β => (a β).bind fun x => match x with
  | .list xs => .ok xs
  | .tuple xs => .ok xs
  | _ => .no
theorem rflist {e : Expr} (hm : X.mg "list" = none) (ha : RE X W e da) (hg : Gl X "list" := by rfl) (hs : starEach [e] X.env = (false, eval e X.env) :: starEach [] X.env := by rfl) : RF X W (.Call (.Name "list" p) [e] [] pos) (iSq da) :=
  PE.imp (pe_callTy call_list_of hg hm (by decide +kernel) (pa_cons ha pa_nil hs) (he := hs)) fun σ H Q h => by
    obtain ⟨G, β, s, ev, rp⟩ := h
    refine ⟨G, β, s, ev, rp.bind fun x ex G1 H1 g1 rp1 v rv => ?_⟩
    cases rv with
    | lst hx rx =>
      refine ⟨_, _, rfl, .inl (SqL.of (g1.s _ _ hx)), fun p hp => ?_⟩
      exact rp1.here ((Gr.refl g1.s).put hp (g1.s.free hp)) p _ (g1.h.free hp) (g1.s.free hp) upd_same rx
    | tup hx rx =>
      refine ⟨_, _, rfl, .inr (seqT g1.s hx), fun p hp => ?_⟩
      exact rp1.here ((Gr.refl g1.s).put hp (g1.s.free hp)) p _ (g1.h.free hp) (g1.s.free hp) upd_same rx
    | _ => exact rp1.elim
end

/-! ### comprehensions -/
def noEr {α : Type} : Res α → Res α
  | .er _ => .no
  | r => r
def wipeB (β : Bt) : List Nat → Bt
  | [] => β
  | v :: vs => (wipeB β vs).set v none
theorem wipeB_length (β : Bt) : ∀ vs : List Nat, (wipeB β vs).length = β.length
  | [] => rfl
  | v :: vs => by unfold wipeB; rw [List.length_set, wipeB_length β vs]
theorem Ev.wipe {K : PySem.W.Frag} {w : World} {W : WA} {G : Hp} {σ : L2.St} {β : Bt} (h : Ev K w W G σ β) : ∀ vs : List Nat, Ev K w W0 G (L2.wipe σ vs) (wipeB β vs)
  | [] => ⟨h.1, h.2.1, trivial⟩
  | v :: vs => by
    have ih := h.wipe vs
    refine ⟨by rw [wipe_length, wipeB_length]; exact h.1, fun i d e => ?_, trivial⟩
    have e' : ((wipeB β vs).set v none)[i]? = some (some d) := e
    by_cases q : i = v
    · subst q
      by_cases hl : i < (wipeB β vs).length
      · rw [List.getElem?_set_self hl] at e'; cases e'
      · rw [List.getElem?_eq_none (by simpa using hl)] at e'; cases e'
    · rw [List.getElem?_set_ne (Ne.symm q)] at e'
      obtain ⟨u, e1, e2⟩ := ih.2.1 i d e'
      exact ⟨u, by show ((L2.wipe σ vs).set v none)[i]? = _; rw [List.getElem?_set_ne (Ne.symm q)]; exact e1, e2⟩
/-- one turn: the target, the test, the element -/
def cmD (tg : Tgt) (t : Bt → Res Bool) (e : Bt → Res D) (β : Bt) (d : D) : Res (Option D) := match setT tg d β with
  | none => .no
  | some β' => noEr ((t β').bind fun b => if b = true then (e β').bind fun y => .ok (some y) else .ok none)
def lcD (f : D → Res (Option D)) : List D → Res (List D)
  | [] => .ok []
  | d :: ds => (f d).bind fun o => (lcD f ds).bind fun r => .ok (o.toList ++ r)
def dLc (it : Bt → Res (List D)) (tg : Tgt) (t : Bt → Res Bool) (e : Bt → Res D) (vs : List Nat) : Bt → Res (List D) := fun β => (it β).bind fun ds => if ds.length ≤ sizeLine then lcD (cmD tg t e (wipeB β vs)) ds else .no
theorem cmD_er {tg t e β d x} (h : cmD tg t e β d = .er x) : False := by
  unfold cmD at h
  split at h
  · cases h
  · unfold noEr at h
    split at h
    · cases h
    · rename_i hh
      exact hh _ h
theorem lcD_er {f : D → Res (Option D)} (hf : ∀ d x, f d = .er x → False) : ∀ {ds : List D} {x : Er}, lcD f ds = .er x → False
  | [], _, h => by cases h
  | d :: ds, x, h => by
    unfold lcD at h
    cases q : f d with
    | no => rw [q] at h; cases h
    | er e => exact hf d e q
    | ok o =>
      rw [q] at h
      have h' : ((lcD f ds).bind fun r => Res.ok (o.toList ++ r)) = .er x := h
      cases q2 : lcD f ds with
      | no => rw [q2] at h'; cases h'
      | er e => exact lcD_er hf q2
      | ok r => rw [q2] at h'; cases h'
theorem lcD_cons {f : D → Res (Option D)} {d : D} {ds r : List D} (h : lcD f (d :: ds) = .ok r) : ∃ o r', f d = .ok o ∧ lcD f ds = .ok r' ∧ r = o.toList ++ r' := by
  unfold lcD at h
  cases q : f d with
  | no => rw [q] at h; cases h
  | er e => rw [q] at h; cases h
  | ok o =>
    rw [q] at h
    have h' : ((lcD f ds).bind fun r => Res.ok (o.toList ++ r)) = .ok r := h
    cases q2 : lcD f ds with
    | no => rw [q2] at h'; cases h'
    | er e => rw [q2] at h'; cases h'
    | ok r' => rw [q2] at h'; cases h'; exact ⟨o, r', rfl, rfl, rfl⟩
/-- the reading of a list comprehension -/
theorem lc_rd {X : Cx} {W : WA} {dit : Bt → Res (List D)} {tg : Tgt} {t : Bt → Res Bool} {e : Bt → Res D} {vs : List Nat} (hv : ∀ i ∈ tg.slots, i ∈ vs) (σ : L2.St) (H : Hp) (Q : VK) (h : TRf X W (dLc dit tg t e vs) σ H Q) :
    tLc (TRi X W dit) (tgt X.K tg) (TRt X W0 t) (TR X W0 e) vs σ H Q := by
  obtain ⟨G, β, s, ev, rp⟩ := h
  refine ⟨G, β, s, ev, rp.bind fun ds ed G1 H1 g1 rp1 J hJ P hP => ?_⟩
  by_cases hz : ds.length ≤ sizeLine
  · rw [if_pos hz] at rp1
    cases hr : lcD (cmD tg t e (wipeB β vs)) ds with
    | no => rw [hr] at rp1; exact rp1.elim
    | er x => exact (lcD_er (fun d x => cmD_er) hr).elim
    | ok rs =>
      rw [hr] at rp1
      refine ⟨fun i m H2 => m = ds.length - i ∧ i ≤ ds.length ∧ ∃ G2 acc accD r, Gr G1 H1 G2 H2 ∧ G2 P = none ∧ H2 P = some (.lst acc) ∧ RpAll X.K X.w G2 acc accD ∧ accD.length ≤ i ∧ lcD (cmD tg t e (wipeB β vs)) (ds.drop i) = .ok r ∧ accD ++ r = rs,
        ⟨ds.length, rfl, Nat.zero_le _, G1, [], [], rs, (Gr.refl g1.s).put hP (g1.s.free hP), g1.s.free hP, upd_same, .nil, Nat.le_refl _, hr, rfl⟩, fun i m H2 hI => ?_⟩
      obtain ⟨rfl, hi, G2, acc, accD, r, g2, hG, hA, ra, hl, hd, he⟩ := hI
      by_cases hlt : i < ds.length
      · refine .inr ⟨hJ.go i H2 (g2.g.trans g2.s) hlt, fun H' => ∃ m', m' < ds.length - i ∧ (m' = ds.length - (i + 1) ∧ i + 1 ≤ ds.length ∧ ∃ G2 acc accD r, Gr G1 H1 G2 H' ∧ G2 P = none ∧ H' P = some (.lst acc) ∧ RpAll X.K X.w G2 acc accD ∧ accD.length ≤ i + 1 ∧ lcD (cmD tg t e (wipeB β vs)) (ds.drop (i + 1)) = .ok r ∧ accD ++ r = rs),
          fun H' q => q, fun x H' hy => ?_⟩
        rw [List.drop_eq_getElem_cons hlt] at hd
        obtain ⟨o, r', ho, hr', e3⟩ := lcD_cons hd
        obtain ⟨G3, g3, rx⟩ := hJ.yld i _ G2 H2 x H' (List.getElem?_eq_getElem hlt) g2.g g2.s hy
        have ev3 : Ev X.K X.w W0 G3 (wipe σ vs) (wipeB β vs) := (((ev.mono g1.g).mono g2.g).mono g3.g).wipe vs
        have hP2 : H2 P ≠ none := by rw [hA]; exact fun z => nomatch z
        have noW : ∀ {α : Type} {good : α → Hp → Hp → Prop} {r : Res α} {σ' : L2.St} {Ga Ha : Hp}, (∀ x, r ≠ .er x) → (∀ a, r = .ok a → ∀ G' H', Gr Ga Ha G' H' → good a G' H') → r ≠ .no → RP X.K X.w X.mg W0 σ' Ga Ha good r := fun {α good r σ' Ga Ha} h1 h2 h3 => by
          cases r with
          | no => exact absurd rfl h3
          | er x => exact absurd rfl (h1 x)
          | ok a => exact h2 a rfl
        unfold cmD at ho
        cases hs : setT tg ds[i] (wipeB β vs) with
        | none => rw [hs] at ho; cases ho
        | some β' =>
          rw [hs] at ho
          have ho : noEr ((t β').bind fun b => if b = true then (e β').bind fun y => .ok (some y) else .ok none) = .ok o := ho
          refine tgt_run (g3.s) rx ev3 hs fun σ2 ev2 hw => ⟨?_, ?_⟩
          · rw [hw vs hv, wipe_idem σ vs vs fun _ h => h]
          · cases ht : t β' with
            | no => rw [ht] at ho; cases ho
            | er x => rw [ht] at ho; cases ho
            | ok b =>
              rw [ht] at ho
              refine ⟨G3, β', g3.s, ev2, noW (fun x z => by rw [ht] at z; cases z) (fun b' eb G4 H4 g4 => ?_) (by rw [ht]; exact fun z => nomatch z)⟩
              rw [ht] at eb
              cases eb
              have g24 := g3.trans g4
              have hP4 : G4 P = none := g24.o P hP2 hG
              have hA4 : H4 P = some (.lst acc) := g24.h _ _ hA
              cases b with
              | false =>
                rw [if_neg Bool.false_ne_true]
                have e4 : o = none := by
                  have z : noEr (Res.ok (none : Option D)) = .ok o := ho
                  cases z; rfl
                subst e4
                exact ⟨ds.length - (i + 1), by omega, rfl, hlt, G4, acc, accD, r', g2.trans g24, hP4, hA4, RpAll.mono g24.g ra, by omega, hr', by rw [← he, e3]; rfl⟩
              | true =>
                rw [if_pos rfl]
                have ho' : noEr ((e β').bind fun y => Res.ok (some y)) = .ok o := ho
                cases hee : e β' with
                | no => rw [hee] at ho'; cases ho'
                | er x => rw [hee] at ho'; cases ho'
                | ok y =>
                  rw [hee] at ho'
                  have e4 : o = some y := by
                    have z : noEr (Res.ok (some y)) = .ok o := ho'
                    cases z; rfl
                  subst e4
                  refine ⟨G4, β', g4.s, ev2.mono g4.g, noW (fun x z => by rw [hee] at z; cases z) (fun y' ey G5 H5 g5 u ru => ?_) (by rw [hee]; exact fun z => nomatch z)⟩
                  rw [hee] at ey
                  cases ey
                  have g25 := g24.trans g5
                  have hP5 : G5 P = none := g25.o P hP2 hG
                  have hA5 : H5 P = some (.lst acc) := g25.h _ _ hA
                  refine ⟨acc, hA5, by rw [ra.length]; omega, ds.length - (i + 1), by omega, rfl, hlt, G5, acc ++ [u], accD ++ [y], r', (g2.trans g25).put hP hP5, hP5, upd_same, (RpAll.mono g25.g ra).append (.cons ru .nil), ?_, hr', ?_⟩
                  · rw [List.length_append]
                    show accD.length + 1 ≤ i + 1
                    omega
                  · rw [← he, e3, List.append_assoc]
                    rfl
      · have e1 : i = ds.length := by omega
        subst e1
        refine .inl ⟨hJ.stop _ H2 (g2.g.trans g2.s) (Nat.le_refl _), ?_⟩
        rw [List.drop_length] at hd
        cases hd
        rw [List.append_nil] at he
        subst he
        exact rp1.here g2 P acc (g1.h.free hP) hG hA ra
  · rw [if_neg hz] at rp1
    exact rp1.elim
section
variable {X : Cx} {W : WA} {tg elt iter : Expr} {dit : Bt → Res (List D)} {tgd : Tgt} {t : Bt → Res Bool} {de : Bt → Res D} {own : List (Str × Nat)} {scope : Scope} {ifs : List Expr} {pos : Pos}
def yesT : Bt → Res Bool := fun _ => .ok true
theorem pts_yes {X : Cx} : PTs X [] (TRt X W0 yesT) := ⟨fun pins s σ H Q I h => by
  obtain ⟨G, β, s', ev, rp⟩ := h
  exact pts_nil.run pins s σ H Q I (rp.here (Gr.refl s'))⟩
theorem pts_if {X : Cx} {c : Expr} {t : Bt → Res Bool} (h : RT X W0 c t) : PTs X [c] (TRt X W0 t) := pts_one h
theorem rflc (hi : RI X W tg iter dit) (ok : BlkOk X.N X.env.scope scope own) (hN : X.N.Nodup)
    (hg : ∀ (s : Shared) (H : Hp) (C : Addr) (cl : List (Str × Addr)) (fp : List Addr), RG (X.blk s H scope (compEnvC scope cl C X.env) fp) tg tgd)
    (ht : ∀ (s : Shared) (H : Hp) (C : Addr) (cl : List (Str × Addr)) (fp : List Addr), PTs (X.blk s H scope (compEnvC scope cl C X.env) fp) ifs (TRt (X.blk s H scope (compEnvC scope cl C X.env) fp) W0 t))
    (he : ∀ (s : Shared) (H : Hp) (C : Addr) (cl : List (Str × Addr)) (fp : List Addr), RE (X.blk s H scope (compEnvC scope cl C X.env) fp) W0 elt de)
    (hv : ∀ i ∈ tgd.slots, i ∈ own.map (·.2)) (hc : X.calm = true := by rfl) (hs : ∀ x, foldedSetIterable iter X.env x = pure x := by intro _; rfl) : RF X W (.ListComp elt [⟨tg, iter, ifs, 0⟩] scope pos) (dLc dit tgd t de (own.map (·.2))) :=
  PE.imp (pe_lc (g := tgt X.K tgd) (tt := TRt X W0 t) (te := TR X W0 de) hc hN hi ok hg ht he hs) (lc_rd hv)
end
end DL

/-! DL9: statements. -/
namespace DL
open PySem PySem.Spec PyProof.Rows L2
/-! ### the slots of a def: data, or a list of its own that it may change -/
inductive AV where
  | un
  | dat (d : D)
  | own (ds : List D)
abbrev At := List AV
def AV.dt : AV → Option D
  | .dat d => some d
  | _ => none
def AV.vw : AV → Option D
  | .dat d => some d
  | .own ds => some (.list ds)
  | .un => none
def dats (α : At) : Bt := α.map AV.dt
def view (α : At) : Bt := α.map AV.vw
structure Sv (K : PySem.W.Frag) (w : World) (W : WA) (G0 H0 G H : Hp) (σ : L2.St) (α : At) : Prop where
  gr : Gr G0 H0 G H
  len : α.length ≤ σ.length
  dat : ∀ (i : Nat) (d : D), α[i]? = some (.dat d) → ∃ v, σ[i]? = some (some v) ∧ Rp K w G v d
  own : ∀ (i : Nat) (ds : List D), α[i]? = some (.own ds) → ∃ p vs, σ[i]? = some (some (.ref p)) ∧ H0 p = none ∧ G p = none ∧ H p = some (.lst vs) ∧ RpAll K w G vs ds
  sep : ∀ (i j : Nat) (ds es : List D) (p : Addr), i ≠ j → α[i]? = some (.own ds) → α[j]? = some (.own es) → σ[i]? = some (some (.ref p)) → σ[j]? = some (some (.ref p)) → False
  am : W.am G σ
/-! ### data without lists -/
mutual
def noL : D → Bool
  | .list _ => false
  | .dict _ => false
  | .tuple ds => noLs ds
  | _ => true
def noLs : List D → Bool
  | [] => true
  | d :: ds => noL d && noLs ds
end
section
variable {K : PySem.W.Frag} {w : World} {G G' : Hp}
mutual
theorem Rp.noL (t : ∀ a xs, SqT K G a xs → SqT K G' a xs) : ∀ {v : V} {d : D}, Rp K w G v d → noL d = true → Rp K w G' v d
  | _, _, .non, _ => .non
  | _, _, .bl b, _ => .bl b
  | _, _, .int i, _ => .int i
  | _, _, .str x, _ => .str x
  | _, _, .lst h r, n => by simp [DL.noL] at n
  | _, _, .tup h r, n => .tup (t _ _ h) (RpAll.noL t r (by simpa [DL.noL] using n))
  | _, _, .scr h r, n => by simp [DL.noL] at n
  | _, _, .dic h r, n => by simp [DL.noL] at n
theorem RpAll.noL (t : ∀ a xs, SqT K G a xs → SqT K G' a xs) : ∀ {vs : List V} {ds : List D}, RpAll K w G vs ds → noLs ds = true → RpAll K w G' vs ds
  | _, _, .nil, _ => .nil
  | _, _, .cons h r, n => by
    simp only [noLs, Bool.and_eq_true] at n
    exact .cons (Rp.noL t h n.1) (RpAll.noL t r n.2)
end
end
section
variable {K : PySem.W.Frag} {w : World} {W : WA} {G0 H0 G H : Hp} {σ : L2.St} {α : At}
theorem Sv.ev (S : Sv K w W G0 H0 G H σ α) : Ev K w W G σ (dats α) := by
  refine ⟨by unfold dats; rw [List.length_map]; exact S.len, fun i d e => ?_, S.am⟩
  unfold dats at e
  rw [List.getElem?_map] at e
  cases q : α[i]? with
  | none => rw [q] at e; cases e
  | some a =>
    rw [q] at e
    cases a with
    | dat d' => cases e; exact S.dat i d q
    | un => cases e
    | own ds => cases e
theorem Sv.grow {G' H' : Hp} (S : Sv K w W G0 H0 G H σ α) (g : Gr G H G' H') : Sv K w W G0 H0 G' H' σ α :=
  ⟨S.gr.trans g, S.len, fun i d e => by
    obtain ⟨v, h1, h2⟩ := S.dat i d e
    exact ⟨v, h1, h2.mono g.g⟩, fun i ds e => by
    obtain ⟨p, vs, h1, h2, h3, h4, h5⟩ := S.own i ds e
    exact ⟨p, vs, h1, h2, g.o p (by rw [h4]; exact fun z => nomatch z) h3, g.h _ _ h4, RpAll.mono g.g h5⟩, S.sep, W.mono _ _ _ g.g S.am⟩
/-- an address of a list of our own -/
def Ow (σ : L2.St) (α : At) (a : Addr) : Prop := ∃ (i : Nat) (ds : List D), α[i]? = some (.own ds) ∧ σ[i]? = some (some (.ref a))
theorem Sv.ow (S : Sv K w W G0 H0 G H σ α) {a : Addr} (h : Ow σ α a) : G a = none ∧ ∃ vs, H a = some (.lst vs) := by
  obtain ⟨i, ds, e1, e2⟩ := h
  obtain ⟨p, vs, h1, h2, h3, h4, h5⟩ := S.own i ds e1
  rw [e2] at h1
  cases h1
  exact ⟨h3, vs, h4⟩
open Classical in
noncomputable def frz (G H : Hp) (σ : L2.St) (α : At) : Hp := fun a => if Ow σ α a then H a else G a
open Classical in
noncomputable def thaw (G : Hp) (σ : L2.St) (α : At) : Hp := fun a => if Ow σ α a then none else G a
theorem frz_yes {a : Addr} (h : Ow σ α a) : frz G H σ α a = H a := by unfold frz; exact if_pos h
theorem frz_no {a : Addr} (h : ¬ Ow σ α a) : frz G H σ α a = G a := by unfold frz; exact if_neg h
theorem thaw_yes {a : Addr} (h : Ow σ α a) : thaw G σ α a = none := by unfold thaw; exact if_pos h
theorem thaw_no {a : Addr} (h : ¬ Ow σ α a) : thaw G σ α a = G a := by unfold thaw; exact if_neg h
theorem Sv.frzG (S : Sv K w W G0 H0 G H σ α) : Same G (frz G H σ α) := fun a o e => by
  by_cases h : Ow σ α a
  · rw [(S.ow h).1] at e; cases e
  · rw [frz_no h]; exact e
theorem Sv.frzH (S : Sv K w W G0 H0 G H σ α) : Same (frz G H σ α) H := fun a o e => by
  by_cases h : Ow σ α a
  · rw [frz_yes h] at e; exact e
  · rw [frz_no h] at e; exact S.gr.s a o e
theorem Sv.view (S : Sv K w W G0 H0 G H σ α) : Ev K w W (frz G H σ α) σ (view α) := by
  refine ⟨by unfold DL.view; rw [List.length_map]; exact S.len, fun i d e => ?_, W.mono _ _ _ S.frzG S.am⟩
  unfold DL.view at e
  rw [List.getElem?_map] at e
  cases q : α[i]? with
  | none => rw [q] at e; cases e
  | some a =>
    rw [q] at e
    cases a with
    | dat d' =>
      cases e
      obtain ⟨v, h1, h2⟩ := S.dat i d q
      exact ⟨v, h1, h2.mono S.frzG⟩
    | un => cases e
    | own ds =>
      cases e
      obtain ⟨p, vs, h1, h2, h3, h4, h5⟩ := S.own i ds q
      exact ⟨.ref p, h1, .lst (by rw [frz_yes ⟨i, ds, q, h1⟩]; exact h4) (RpAll.mono S.frzG h5)⟩
theorem Sv.thawG {G1 H1 : Hp} (S : Sv K w W G0 H0 G H σ α) (g : Gr (frz G H σ α) H G1 H1) : Gr G H (thaw G1 σ α) H1 :=
  ⟨fun a o e => by
    by_cases h : Ow σ α a
    · rw [(S.ow h).1] at e; cases e
    · rw [thaw_no h]; exact g.g a o (by rw [frz_no h]; exact e), fun a o e => by
    by_cases h : Ow σ α a
    · rw [thaw_yes h] at e; cases e
    · rw [thaw_no h] at e; exact g.s a o e, g.h, fun a n1 n2 => by
    by_cases h : Ow σ α a
    · exact thaw_yes h
    · rw [thaw_no h]; exact g.o a n1 (by rw [frz_no h]; exact n2)⟩
theorem Sv.thawT {G1 H1 : Hp} (S : Sv K w W G0 H0 G H σ α) (g : Gr (frz G H σ α) H G1 H1) (a : Addr) (xs : List V) (h : SqT K G1 a xs) : SqT K (thaw G1 σ α) a xs := by
  have no : ∀ o, G1 a = some o → (∀ vs, o ≠ .lst vs) → ¬ Ow σ α a := fun o e n q => by
    obtain ⟨_, vs, hv⟩ := S.ow q
    have e1 := g.s a o e
    have e2 := g.h _ _ hv
    rw [e1] at e2
    cases e2
    exact n vs rfl
  rcases h with (h | ⟨o, h⟩) | h
  · exact .inl (.inl (by rw [thaw_no (no _ h fun vs z => nomatch z)]; exact h))
  · exact .inl (.inr ⟨o, by rw [thaw_no (no _ h fun vs z => nomatch z)]; exact h⟩)
  · exact .inr h
end

/-! ### expressions of a statement -/
def TSe (X : Cx) (W : WA) (den : At → Res D) : TE := fun σ H Q => ∃ G0 H0 G α, Sv X.K X.w W G0 H0 G H σ α ∧ RP X.K X.w X.mg W σ G H (fun d G' H' => ∀ v, Rp X.K X.w G' v d → Q v H') (den α)
def TSt (X : Cx) (W : WA) (den : At → Res Bool) : TT := fun σ H Q => ∃ G0 H0 G α, Sv X.K X.w W G0 H0 G H σ α ∧ RP X.K X.w X.mg W σ G H (fun b _ H' => Q b H') (den α)
def TSf (X : Cx) (W : WA) (den : At → Res (List D)) : TE := fun σ H Q => ∃ G0 H0 G α, Sv X.K X.w W G0 H0 G H σ α ∧
  RP X.K X.w X.mg W σ G H (fun ds G' H' => ∀ a vs, H a = none → G' a = none → H' a = some (.lst vs) → RpAll X.K X.w G' vs ds → Q (.ref a) H') (den α)
def SE (X : Cx) (W : WA) (e : Expr) (den : At → Res D) : Prop := PE X e (TSe X W den)
def ST (X : Cx) (W : WA) (e : Expr) (den : At → Res Bool) : Prop := PT X e (TSt X W den)
def SF (X : Cx) (W : WA) (e : Expr) (den : At → Res (List D)) : Prop := PE X e (TSf X W den)
def erL (e : Er) : Bool := match e.arg with
  | none => true
  | some (_, x) => noL x
/-- read with our own lists: the result holds no list -/
def bor {α : Type} (ok : α → Bool) : Res α → Res α
  | .ok d => if ok d = true then .ok d else .no
  | .er e => if erL e = true then .er e else .no
  | .no => .no
def sD {α : Type} (d : Bt → Res α) : At → Res α := fun α => d (dats α)
def sB (d : Bt → Res D) : At → Res D := fun α => bor noL (d (view α))
def sBt (d : Bt → Res Bool) : At → Res Bool := fun α => bor (fun _ => true) (d (view α))
def sBf (d : Bt → Res (List D)) : At → Res (List D) := fun α => bor noLs (d (view α))
section
variable {X : Cx} {W : WA} {e : Expr}
theorem se {d : Bt → Res D} (h : RE X W e d) : SE X W e (sD d) := PE.imp h fun σ H Q ⟨G0, H0, G, α, S, rp⟩ => ⟨G, dats α, S.gr.s, S.ev, rp⟩
theorem st {d : Bt → Res Bool} (h : RT X W e d) : ST X W e (sD d) := PT.imp h fun σ H Q ⟨G0, H0, G, α, S, rp⟩ => ⟨G, dats α, S.gr.s, S.ev, rp⟩
theorem sf {d : Bt → Res (List D)} (h : RF X W e d) : SF X W e (sD d) := PE.imp h fun σ H Q ⟨G0, H0, G, α, S, rp⟩ => ⟨G, dats α, S.gr.s, S.ev, rp⟩
theorem bor_run {β : Type} {K : PySem.W.Frag} {w : World} {mg : Str → Option Value} {W : WA} {G0 H0 G H : Hp} {σ : L2.St} {α : At} {ok : β → Bool} {good good2 : β → Hp → Hp → Prop} (S : Sv K w W G0 H0 G H σ α) {r : Res β}
    (rp : RP K w mg W σ G H good (bor ok r)) (k : ∀ b G' H', Gr (frz G H σ α) H G' H' → ok b = true → good b (thaw G' σ α) H' → good2 b G' H') : RP K w mg W σ (frz G H σ α) H good2 r := by
  cases r with
  | no => exact rp
  | er x =>
    have rp' : RP K w mg W σ G H good (if erL x = true then .er x else .no) := rp
    by_cases hx : erL x = true
    · rw [if_pos hx] at rp'
      intro cls dd G' H' g z
      refine rp' cls dd _ _ (S.thawG g) ?_
      obtain ⟨C, h1, h2, h3⟩ := z
      refine ⟨C, h1, h2, ?_⟩
      cases ha : x.arg with
      | none => rw [ha] at h3; exact h3
      | some fx =>
        rw [ha] at h3
        obtain ⟨a, v, q1, q2, q2', q3⟩ := h3
        refine ⟨a, v, q1, q2, q2', q3.noL (S.thawT g) ?_⟩
        unfold erL at hx
        rw [ha] at hx
        exact hx
    · rw [if_neg hx] at rp'
      exact rp'.elim
  | ok b =>
    have rp' : RP K w mg W σ G H good (if ok b = true then .ok b else .no) := rp
    by_cases hb : ok b = true
    · rw [if_pos hb] at rp'
      exact fun G' H' g => k b G' H' g hb (rp' _ _ (S.thawG g))
    · rw [if_neg hb] at rp'
      exact rp'.elim
theorem seb {d : Bt → Res D} (h : RE X W e d) : SE X W e (sB d) := PE.imp h fun σ H Q ⟨G0, H0, G, α, S, rp⟩ =>
  ⟨_, view α, S.frzH, S.view, bor_run S rp fun b G' H' g hb q v rv => q v (rv.noL (S.thawT g) hb)⟩
theorem stb {d : Bt → Res Bool} (h : RT X W e d) : ST X W e (sBt d) := PT.imp h fun σ H Q ⟨G0, H0, G, α, S, rp⟩ =>
  ⟨_, view α, S.frzH, S.view, bor_run S rp fun b G' H' g hb q => q⟩
theorem sfb {d : Bt → Res (List D)} (h : RF X W e d) : SF X W e (sBf d) := PE.imp h fun σ H Q ⟨G0, H0, G, α, S, rp⟩ =>
  ⟨_, view α, S.frzH, S.view, bor_run S rp fun b G' H' g hb q a vs h1 h2 h3 r => q a vs h1 (by
    by_cases ho : Ow σ α a
    · exact thaw_yes ho
    · rw [thaw_no ho]; exact h2) h3 (r.noL (S.thawT g) hb)⟩
end

/-! ### outcomes -/
inductive Out where
  | nx (α : At)
  | rt (d : D)
  | bk (α : At)
  | ct (α : At)
  | er (e : Er) (α : At)
  | rl (ds : List D)
  | no
def OutP (K : PySem.W.Frag) (w : World) (mg : Str → Option Value) (W : WA) (D0 : Ends) (G0 H0 G : Hp) : Out → Prop
  | .nx α => ∀ σ' G' H', Same G G' → Sv K w W G0 H0 G' H' σ' α → D0.nx σ' H'
  | .bk α => ∀ σ' G' H', Same G G' → Sv K w W G0 H0 G' H' σ' α → D0.bk σ' H'
  | .ct α => ∀ σ' G' H', Same G G' → Sv K w W G0 H0 G' H' σ' α → D0.ct σ' H'
  | .rt d => ∀ G' H', Same G G' → Gr G0 H0 G' H' → ∀ v, Rp K w G' v d → D0.rt v H'
  | .er e α => ∀ cls dd σ' G' H', Same G G' → Sv K w W G0 H0 G' H' σ' α → ErR K w mg e cls dd H0 G' H' → W.x cls dd σ' H'
  | .rl ds => ∀ G' H', Same G G' → Gr G0 H0 G' H' → ∀ a vs, H0 a = none → G' a = none → H' a = some (.lst vs) → RpAll K w G' vs ds → D0.rt (.ref a) H'
  | .no => False
def TSs (X : Cx) (W : WA) (den : At → Out) : TS := fun D0 σ H => ∃ G0 H0 G α, Sv X.K X.w W G0 H0 G H σ α ∧ OutP X.K X.w X.mg W D0 G0 H0 G (den α)
def RS (X : Cx) (W : WA) (st : Stmt) (den : At → Out) : Prop := PS X st (TSs X W den)
def RSs (X : Cx) (W : WA) (sts : List Stmt) (den : At → Out) : Prop := PSs X sts (TSs X W den)
theorem PS.imp {X : Cx} {st : Stmt} {t t' : TS} (h : PS X st t) (i : ∀ D σ H, t' D σ H → t D σ H) : PS X st t' := ⟨fun pins s σ H D I q => h.run pins s σ H D I (i D σ H q)⟩
theorem PSs.imp {X : Cx} {st : List Stmt} {t t' : TS} (h : PSs X st t) (i : ∀ D σ H, t' D σ H → t D σ H) : PSs X st t' := ⟨fun pins s σ H D I q => h.run pins s σ H D I (i D σ H q)⟩
theorem OutP.mono {K : PySem.W.Frag} {w : World} {mg : Str → Option Value} {W : WA} {D0 : Ends} {G0 H0 G G' : Hp} (e : Same G G') {o : Out} (h : OutP K w mg W D0 G0 H0 G o) : OutP K w mg W D0 G0 H0 G' o := by
  cases o with
  | nx α => exact fun σ' G2 H2 s S => h σ' G2 H2 (e.trans s) S
  | bk α => exact fun σ' G2 H2 s S => h σ' G2 H2 (e.trans s) S
  | ct α => exact fun σ' G2 H2 s S => h σ' G2 H2 (e.trans s) S
  | rt d => exact fun G2 H2 s g => h G2 H2 (e.trans s) g
  | rl ds => exact fun G2 H2 s g => h G2 H2 (e.trans s) g
  | er x α => exact fun cls dd σ' G2 H2 s S => h cls dd σ' G2 H2 (e.trans s) S
  | no => exact h
/-- behind an expression -/
def ofR {β : Type} (r : Res β) (α : At) (f : β → Out) : Out := match r with
  | .ok b => f b
  | .er e => .er e α
  | .no => .no
theorem ofR_run {β : Type} {K : PySem.W.Frag} {w : World} {mg : Str → Option Value} {W : WA} {D0 : Ends} {G0 H0 G H : Hp} {σ : L2.St} {α : At} {good : β → Hp → Hp → Prop} {f : β → Out} (S : Sv K w W G0 H0 G H σ α) {r : Res β}
    (h : OutP K w mg W D0 G0 H0 G (ofR r α f)) (k : ∀ b, r = .ok b → ∀ G' H', Gr G H G' H' → Sv K w W G0 H0 G' H' σ α → OutP K w mg W D0 G0 H0 G' (f b) → good b G' H') : RP K w mg W σ G H good r := by
  cases r with
  | no => exact h
  | er x => exact fun cls dd G' H' g z => h cls dd σ G' H' g.g (S.grow g) (z.back S.gr.h)
  | ok b => exact fun G' H' g => k b rfl G' H' g (S.grow g) (OutP.mono g.g h)
section
variable {X : Cx} {W : WA}
def sNil : At → Out := fun α => .nx α
def sSeq (a b : At → Out) : At → Out := fun α => match a α with
  | .nx α' => b α'
  | o => o
theorem rsnil : RSs X W [] sNil := PSs.imp pss_nil fun D σ H ⟨G0, H0, G, α, S, h⟩ => h σ G H (Same.refl G) S
theorem seq_out {K : PySem.W.Frag} {w : World} {mg : Str → Option Value} {D0 D1 : Ends} {G0 H0 G : Hp} {o : Out} {b : At → Out} (h : OutP K w mg W D0 G0 H0 G (match o with | .nx α' => b α' | o => o))
    (n : ∀ α σ' G' H', o = .nx α → Same G G' → Sv K w W G0 H0 G' H' σ' α → OutP K w mg W D0 G0 H0 G' (b α) → D1.nx σ' H') (e1 : D1.rt = D0.rt) (e2 : D1.bk = D0.bk) (e3 : D1.ct = D0.ct) : OutP K w mg W D1 G0 H0 G o := by
  cases o with
  | nx α => exact fun σ' G' H' s S => n α σ' G' H' rfl s S (OutP.mono s h)
  | bk α => exact fun σ' G' H' s S => by rw [e2]; exact h σ' G' H' s S
  | ct α => exact fun σ' G' H' s S => by rw [e3]; exact h σ' G' H' s S
  | rt d => exact fun G' H' s g v r => by rw [e1]; exact h G' H' s g v r
  | rl ds => exact fun G' H' s g a vs h1 h2 h3 r => by rw [e1]; exact h G' H' s g a vs h1 h2 h3 r
  | er x α => exact h
  | no => exact h
theorem rscons {st : Stmt} {rest : List Stmt} {a b : At → Out} (h1 : RS X W st a) (h2 : RSs X W rest b) : RSs X W (st :: rest) (sSeq a b) :=
  PSs.imp (pss_cons h1 h2) fun D σ H ⟨G0, H0, G, α, S, h⟩ => by
    refine ⟨G0, H0, G, α, S, ?_⟩
    exact seq_out (D0 := D) (D1 := { D with nx := _ }) h (fun α' σ' G' H' _ s S' h' => ⟨G0, H0, G', α', S', h'⟩) rfl rfl rfl
theorem rsone {st : Stmt} {a : At → Out} (h1 : RS X W st a) : RSs X W [st] a := pss_one h1
/-! ### small statements -/
theorem rspass {pos : Pos} : RS X W (.Pass pos) sNil := PS.imp ps_pass fun D σ H ⟨G0, H0, G, α, S, h⟩ => h σ G H (Same.refl G) S
theorem rsbrk {pos : Pos} : RS X W (.Break pos) (fun α => .bk α) := PS.imp ps_break fun D σ H ⟨G0, H0, G, α, S, h⟩ => h σ G H (Same.refl G) S
theorem rscont {pos : Pos} : RS X W (.Continue pos) (fun α => .ct α) := PS.imp ps_continue fun D σ H ⟨G0, H0, G, α, S, h⟩ => h σ G H (Same.refl G) S
def sRet (d : At → Res D) : At → Out := fun α => ofR (d α) α fun x => .rt x
theorem rsret {e : Expr} {d : At → Res D} {pos : Pos} (h : SE X W e d) : RS X W (.Return (some e) pos) (sRet d) :=
  PS.imp (ps_ret h) fun D0 σ H ⟨G0, H0, G, α, S, q⟩ => ⟨G0, H0, G, α, S, ofR_run S q fun b eb G' H' g S' o v rv => o G' H' (Same.refl _) S'.gr v rv⟩
/-- a new list is handed back -/
def sRetL (d : At → Res (List D)) : At → Out := fun α => ofR (d α) α fun x => .rl x
theorem rsretl {e : Expr} {d : At → Res (List D)} {pos : Pos} (h : SF X W e d) : RS X W (.Return (some e) pos) (sRetL d) :=
  PS.imp (ps_ret h) fun D0 σ H ⟨G0, H0, G, α, S, q⟩ => ⟨G0, H0, G, α, S, ofR_run S q fun b eb G' H' g S' o a vs h1 h2 h3 r => o G' H' (Same.refl _) S'.gr a vs (S.gr.h.free h1) h2 h3 r⟩
theorem rsretn {pos : Pos} : RS X W (.Return none pos) (fun _ => .rt .none) := PS.imp ps_retN fun D σ H ⟨G0, H0, G, α, S, h⟩ => h G H (Same.refl G) S.gr _ .non
def sDrop (d : At → Res D) : At → Out := fun α => ofR (d α) α fun _ => .nx α
theorem rsdrop {e : Expr} {d : At → Res D} {pos : Pos} (h : SE X W e d) (hs : swapsWith e none pos.line X.env = pure false := by rfl) : RS X W (.Expr e pos) (sDrop d) :=
  PS.imp (ps_expr h hs) fun D0 σ H ⟨G0, H0, G, α, S, q⟩ => ⟨G0, H0, G, α, S, ofR_run S q fun b eb G' H' g S' o v rv => o σ G' H' (Same.refl _) S'⟩
/-! ### stores -/
theorem Sv.set {K : PySem.W.Frag} {w : World} {W : WA} {G0 H0 G H : Hp} {σ : L2.St} {α : At} {v : V} {d : D} (S : Sv K w W G0 H0 G H σ α) (r : Rp K w G v d) (i : Nat) (hw : W.ok i = true) : Sv K w W G0 H0 G H (σ.set i (some v)) (α.set i (.dat d)) := by
  have at_ : ∀ (j : Nat) (a : AV), j ≠ i → (α.set i (.dat d))[j]? = some a → α[j]? = some a := fun j a ne e => by rw [List.getElem?_set_ne (Ne.symm ne)] at e; exact e
  have self : ∀ a, (α.set i (.dat d))[i]? = some a → a = .dat d ∧ i < α.length := fun a e => by
    by_cases hl : i < α.length
    · rw [List.getElem?_set_self hl] at e
      cases e
      exact ⟨rfl, hl⟩
    · rw [List.getElem?_eq_none (by simpa using hl)] at e
      cases e
  refine ⟨S.gr, by simpa using S.len, fun j x e => ?_, fun j ds e => ?_, fun j k ds es p ne e1 e2 e3 e4 => ?_, W.set _ _ _ _ hw S.am⟩
  · by_cases q : j = i
    · subst q
      obtain ⟨h1, h2⟩ := self _ e
      cases h1
      exact ⟨v, List.getElem?_set_self (Nat.lt_of_lt_of_le h2 S.len), r⟩
    · obtain ⟨u, h1, h2⟩ := S.dat j x (at_ j _ q e)
      exact ⟨u, by rw [List.getElem?_set_ne (Ne.symm q)]; exact h1, h2⟩
  · by_cases q : j = i
    · subst q
      exact nomatch (self _ e).1
    · obtain ⟨p, vs, h1, h2⟩ := S.own j ds (at_ j _ q e)
      exact ⟨p, vs, by rw [List.getElem?_set_ne (Ne.symm q)]; exact h1, h2⟩
  · have q1 : j ≠ i := fun z => by subst z; exact nomatch (self _ e1).1
    have q2 : k ≠ i := fun z => by subst z; exact nomatch (self _ e2).1
    rw [List.getElem?_set_ne (Ne.symm q1)] at e3
    rw [List.getElem?_set_ne (Ne.symm q2)] at e4
    exact S.sep j k ds es p ne (at_ j _ q1 e1) (at_ k _ q2 e2) e3 e4
/-- a new list of our own -/
theorem Sv.setOwn {K : PySem.W.Frag} {w : World} {W : WA} {G0 H0 G H G' H' : Hp} {σ : L2.St} {α : At} {a : Addr} {vs : List V} {ds : List D} (S : Sv K w W G0 H0 G H σ α) (g : Gr G H G' H') (h1 : H a = none) (h2 : G' a = none) (h3 : H' a = some (.lst vs)) (r : RpAll K w G' vs ds) (i : Nat) (hw : W.ok i = true) :
    Sv K w W G0 H0 G' H' (σ.set i (some (.ref a))) (α.set i (.own ds)) := by
  have S' := S.grow g
  have at_ : ∀ (j : Nat) (x : AV), j ≠ i → (α.set i (.own ds))[j]? = some x → α[j]? = some x := fun j x ne e => by rw [List.getElem?_set_ne (Ne.symm ne)] at e; exact e
  have self : ∀ x, (α.set i (.own ds))[i]? = some x → x = .own ds ∧ i < α.length := fun x e => by
    by_cases hl : i < α.length
    · rw [List.getElem?_set_self hl] at e
      cases e
      exact ⟨rfl, hl⟩
    · rw [List.getElem?_eq_none (by simpa using hl)] at e
      cases e
  have apart : ∀ (j : Nat) (es : List D) (p : Addr), α[j]? = some (AV.own es) → σ[j]? = some (some (V.ref p)) → p ≠ a := fun j es p e1 e2 z => by
    obtain ⟨p', vs', q1, q2, q3, q4, q5⟩ := S.own j es e1
    rw [e2] at q1
    cases q1
    rw [z, h1] at q4
    cases q4
  refine ⟨S'.gr, by simpa using S.len, fun j x e => ?_, fun j es e => ?_, fun j k es fs p ne e1 e2 e3 e4 => ?_, W.set _ _ _ _ hw S'.am⟩
  · by_cases q : j = i
    · subst q
      exact nomatch (self _ e).1
    · obtain ⟨u, q1, q2⟩ := S'.dat j x (at_ j _ q e)
      exact ⟨u, by rw [List.getElem?_set_ne (Ne.symm q)]; exact q1, q2⟩
  · by_cases q : j = i
    · subst q
      obtain ⟨e', hl⟩ := self _ e
      cases e'
      exact ⟨a, vs, List.getElem?_set_self (Nat.lt_of_lt_of_le hl S.len), S.gr.h.free h1, h2, h3, r⟩
    · obtain ⟨p, vs, q1, q2⟩ := S'.own j es (at_ j _ q e)
      exact ⟨p, vs, by rw [List.getElem?_set_ne (Ne.symm q)]; exact q1, q2⟩
  · by_cases q1 : j = i
    · have q2 : k ≠ i := fun z => ne (q1.trans z.symm)
      subst q1
      obtain ⟨e', hl⟩ := self _ e1
      rw [List.getElem?_set_self (Nat.lt_of_lt_of_le hl S.len)] at e3
      rw [List.getElem?_set_ne (Ne.symm q2)] at e4
      cases e3
      exact apart k fs _ (at_ k _ q2 e2) e4 rfl
    · rw [List.getElem?_set_ne (Ne.symm q1)] at e3
      by_cases q2 : k = i
      · subst q2
        obtain ⟨e', hl⟩ := self _ e2
        rw [List.getElem?_set_self (Nat.lt_of_lt_of_le hl S.len)] at e4
        cases e4
        exact apart j es _ (at_ j _ q1 e1) e3 rfl
      · rw [List.getElem?_set_ne (Ne.symm q2)] at e4
        exact S.sep j k es fs p ne (at_ j _ q1 e1) (at_ k _ q2 e2) e3 e4
def sSet (i : Nat) (d : At → Res D) : At → Out := fun α => ofR (d α) α fun x => .nx (α.set i (.dat x))
def sOwn (i : Nat) (d : At → Res (List D)) : At → Out := fun α => ofR (d α) α fun x => .nx (α.set i (.own x))
theorem rsset {i : Nat} {x : Str} {e : Expr} {d : At → Res D} {pos pos' : Pos} (hN : X.N.Nodup) (h : SE X W e d) (hw : W.ok i = true := by rfl) (hi : X.N[i]? = some x := by rfl) (hx : Loc X.env.scope x := by first | exact Or.inl rfl | exact Or.inr rfl) (hs : swapsWith e (some (.Name x pos')) pos.line X.env = pure false := by rfl)
    (hf : X.fn x = true ∨ X.env.scope.names.lookup x = some .local := by first | exact .inl rfl | exact .inr rfl | assumption) : RS X W (.Assign [.Name x pos'] e pos) (sSet i d) :=
  PS.imp (ps_set hN hi hx h hs hf) fun D0 σ H ⟨G0, H0, G, α, S, q⟩ => ⟨G0, H0, G, α, S, ofR_run S q fun b eb G' H' g S' o v rv => o _ G' H' (Same.refl _) (S'.set rv i hw)⟩
theorem rsown {i : Nat} {x : Str} {e : Expr} {d : At → Res (List D)} {pos pos' : Pos} (hN : X.N.Nodup) (h : SF X W e d) (hw : W.ok i = true := by rfl) (hi : X.N[i]? = some x := by rfl) (hx : Loc X.env.scope x := by first | exact Or.inl rfl | exact Or.inr rfl) (hs : swapsWith e (some (.Name x pos')) pos.line X.env = pure false := by rfl)
    (hf : X.fn x = true ∨ X.env.scope.names.lookup x = some .local := by first | exact .inl rfl | exact .inr rfl | assumption) : RS X W (.Assign [.Name x pos'] e pos) (sOwn i d) :=
  PS.imp (ps_set hN hi hx h hs hf) fun D0 σ H ⟨G0, H0, G, α, S, q⟩ => ⟨G0, H0, G, α, S, ofR_run S q fun b eb G' H' g S' o a vs h1 h2 h3 r => o _ G' H' (Same.refl _) (S.setOwn g h1 h2 h3 r i hw)⟩
end
end DL

/-! DL10: if, for, while, changes of lists, raise, the rule of a def. -/
namespace DL
open PySem PySem.Spec PyProof.Rows L2
section
variable {X : Cx} {W : WA}
def sIf (t : At → Res Bool) (a b : At → Out) : At → Out := fun α => ofR (t α) α fun c => if c = true then a α else b α
theorem rsif {c : Expr} {t : At → Res Bool} {s1 s2 : List Stmt} {a b : At → Out} {pos : Pos} (h : ST X W c t) (ha : RSs X W s1 a) (hb : RSs X W s2 b) : RS X W (.If c s1 s2 pos) (sIf t a b) :=
  PS.imp (ps_if h ha hb) fun D0 σ H ⟨G0, H0, G, α, S, q⟩ => ⟨G0, H0, G, α, S, ofR_run S q fun c ec G' H' g S' o => by
    cases c with
    | true => exact ⟨G0, H0, G', α, S', o⟩
    | false => exact ⟨G0, H0, G', α, S', o⟩⟩
/-! ### targets -/
def setAllA : List Nat → List D → At → Option At
  | [], [], α => some α
  | i :: is, d :: ds, α => setAllA is ds (α.set i (.dat d))
  | _, _, _ => none
def setTA : Tgt → D → At → Option At
  | .nm i, d, α => some (α.set i (.dat d))
  | .tup is, .tuple ds, α => setAllA is ds α
  | _, _, _ => none
theorem setAllA_len : ∀ {is : List Nat} {ds : List D} {α α' : At}, setAllA is ds α = some α' → ds.length = is.length
  | [], [], _, _, _ => rfl
  | [], _ :: _, _, _, e => by cases e
  | _ :: _, [], _, _, e => by cases e
  | i :: is, d :: ds, α, α', e => congrArg Nat.succ (setAllA_len (α := α.set i (.dat d)) e)
theorem namesA_run {K : PySem.W.Frag} {w : World} {W : WA} {G0 H0 G H : Hp} {α' : At} {Q : L2.St → Hp → Prop} : ∀ {is : List Nat} {ds : List D} {xs : List V} {σ : L2.St} {α : At}, RpAll K w G xs ds → Sv K w W G0 H0 G H σ α → setAllA is ds α = some α' → is.all W.ok = true →
    (∀ σ', Sv K w W G0 H0 G H σ' α' → Q σ' H) → gNames is xs σ H Q
  | [], _, _, σ, α, r, S, e, hw, q => by
    cases r with
    | nil =>
      cases e
      exact ⟨rfl, q σ S⟩
    | cons _ _ => cases e
  | i :: is, _, _, σ, α, r, S, e, hw, q => by
    cases r with
    | nil => cases e
    | cons h t =>
      rw [List.all_cons, Bool.and_eq_true] at hw
      exact ⟨_, _, rfl, namesA_run t (S.set h i hw.1) e hw.2 q⟩
theorem tgtA_run {K : PySem.W.Frag} {w : World} {W : WA} {G0 H0 G H : Hp} {σ : L2.St} {α α' : At} {Q : L2.St → Hp → Prop} {t : Tgt} {d : D} {v : V} (r : Rp K w G v d) (S : Sv K w W G0 H0 G H σ α) (e : setTA t d α = some α') (hw : t.slots.all W.ok = true)
    (q : ∀ σ', Sv K w W G0 H0 G H σ' α' → Q σ' H) : tgt K t v σ H Q := by
  cases t with
  | nm i =>
    cases e
    exact q _ (S.set r i (by simpa [Tgt.slots] using hw))
  | tup is =>
    cases r with
    | @tup a xs ds hx rx =>
      have e' : setAllA is ds α = some α' := e
      exact ⟨_, _, rfl, seqT S.gr.s hx, by rw [rx.length]; exact setAllA_len e', namesA_run rx S e' hw q⟩
    | _ => cases e
def sSetT (t : Tgt) (d : At → Res D) : At → Out := fun α => ofR (d α) α fun x => match setTA t x α with
  | some α' => .nx α'
  | none => .no
theorem rssett {tg e : Expr} {t : Tgt} {d : At → Res D} {pos : Pos} (h : SE X W e d) (hg : RG X tg t) (hw' : t.slots.all W.ok = true := by rfl) (hs : swapsWithSole [tg] e pos.line X.env = pure false := by rfl) (hw : swappedStores [tg] e X.env = pure none := by rfl)
    (h1 : (assignEach [tg] X.env).map (·.2) = [assign tg X.env] := by rfl) : RS X W (.Assign [tg] e pos) (sSetT t d) :=
  PS.imp (ps_asg h hg hs hw h1) fun D0 σ H ⟨G0, H0, G, α, S, q⟩ => ⟨G0, H0, G, α, S, ofR_run S q fun b eb G' H' g S' o v rv => by
    cases e : setTA t b α with
    | none => rw [e] at o; exact o.elim
    | some α' =>
      rw [e] at o
      exact tgtA_run rv S' e hw' fun σ' S2 => o σ' G' H' (Same.refl _) S2⟩
/-- name = [..] on one line, the name a local: the store stands within -/
theorem lc_rdS {dit : Bt → Res (List D)} {tg : Tgt} {t : Bt → Res Bool} {e : Bt → Res D} {vs : List Nat} (hv : ∀ i ∈ tg.slots, i ∈ vs) (σ : L2.St) (H : Hp) (Q : VK) (h : TSf X W (sD (dLc dit tg t e vs)) σ H Q) :
    tLc (TRi X W dit) (tgt X.K tg) (TRt X W0 t) (TR X W0 e) vs σ H Q := by
  obtain ⟨G0, H0, G, α, S, rp⟩ := h
  exact lc_rd hv σ H Q ⟨G, dats α, S.gr.s, S.ev, rp⟩
theorem lc_rdB {dit : Bt → Res (List D)} {tg : Tgt} {t : Bt → Res Bool} {e : Bt → Res D} {vs : List Nat} (hv : ∀ i ∈ tg.slots, i ∈ vs) (σ : L2.St) (H : Hp) (Q : VK) (h : TSf X W (sBf (dLc dit tg t e vs)) σ H Q) :
    tLc (TRi X W dit) (tgt X.K tg) (TRt X W0 t) (TR X W0 e) vs σ H Q := by
  obtain ⟨G0, H0, G, α, S, rp⟩ := h
  exact lc_rd hv σ H Q ⟨_, view α, S.frzH, S.view, bor_run S rp fun b G' H' g hb q a vs h1 h2 h3 r => q a vs h1 (by
    by_cases ho : Ow σ α a
    · exact thaw_yes ho
    · rw [thaw_no ho]; exact h2) h3 (r.noL (S.thawT g) hb)⟩
/-- what a comprehension's rule asks -/
structure Lc (X : Cx) (W : WA) (tg elt iter : Expr) (ifs : List Expr) (scope : Scope) (own : List (Str × Nat)) (dit : Bt → Res (List D)) (tgd : Tgt) (t : Bt → Res Bool) (de : Bt → Res D) : Prop where
  it : RI X W tg iter dit
  ok : BlkOk X.N X.env.scope scope own
  tg : ∀ (s : Shared) (H : Hp) (C : Addr) (cl : List (Str × Addr)) (fp : List Addr), RG (X.blk s H scope (compEnvC scope cl C X.env) fp) tg tgd
  ifs : ∀ (s : Shared) (H : Hp) (C : Addr) (cl : List (Str × Addr)) (fp : List Addr), PTs (X.blk s H scope (compEnvC scope cl C X.env) fp) ifs (TRt (X.blk s H scope (compEnvC scope cl C X.env) fp) W0 t)
  elt : ∀ (s : Shared) (H : Hp) (C : Addr) (cl : List (Str × Addr)) (fp : List Addr), RE (X.blk s H scope (compEnvC scope cl C X.env) fp) W0 elt de
  sl : ∀ i ∈ tgd.slots, i ∈ own.map (·.2)
section
variable {tg elt iter : Expr} {dit : Bt → Res (List D)} {tgd : Tgt} {t : Bt → Res Bool} {de : Bt → Res D} {own : List (Str × Nat)} {scope : Scope} {ifs : List Expr} {pos spos py : Pos} {y : Str} {i : Nat}
theorem rlc (h : Lc X W tg elt iter ifs scope own dit tgd t de) (hN : X.N.Nodup) (hc : X.calm = true := by rfl) (hs : ∀ x, foldedSetIterable iter X.env x = pure x := by intro _; rfl) : RF X W (.ListComp elt [⟨tg, iter, ifs, 0⟩] scope pos) (dLc dit tgd t de (own.map (·.2))) :=
  rflc h.it h.ok hN h.tg h.ifs h.elt h.sl hc hs
theorem set_lc (h : Lc X W tg elt iter ifs scope own dit tgd t de) (hN : X.N.Nodup) (hy : X.N[i]? = some y) (hyl : X.env.scope.names.lookup y = some .local) (hl : (py.line == pos.line) = true) (ha : (scope.names.any fun (n, k) => n == y && (k == .local || k == .cell)) = false) (hk : X.env.scope.kind = .function)
    (hc : X.calm = true) (hs : ∀ x, foldedSetIterable iter X.env x = pure x) {den : At → Res (List D)} (rd : ∀ σ H Q, TSf X W den σ H Q → tLc (TRi X W dit) (tgt X.K tgd) (TRt X W0 t) (TR X W0 de) (own.map (·.2)) σ H Q) {D0 : Ends} {σ : L2.St} {H : Hp} {f : List D → At → Out}
    (step : ∀ ds G0 H0 G H α a vs G' H', Sv X.K X.w W G0 H0 G H σ α → Gr G H G' H' → Sv X.K X.w W G0 H0 G' H' σ α → OutP X.K X.w X.mg W D0 G0 H0 G' (f ds α) → H a = none → G' a = none → H' a = some (.lst vs) → RpAll X.K X.w G' vs ds → D0.nx (σ.set i (some (.ref a))) H')
    (hq : TSs X W (fun α => ofR (den α) α fun ds => f ds α) D0 σ H) : tAsg (tLc (TRi X W dit) (tgt X.K tgd) (TRt X W0 t) (TR X W0 de) (own.map (·.2))) (gName i) D0 σ H := by
  obtain ⟨G0, H0, G, α, S, o⟩ := hq
  refine rd σ H _ ⟨G0, H0, G, α, S, ofR_run S o fun ds ed G' H' g S' o' a vs h1 h2 h3 r => ?_⟩
  exact step ds G0 H0 G H α a vs G' H' S g S' o' h1 h2 h3 r
/-- .. to a list of our own; to data; with our own lists read -/
theorem rsownlc (h : Lc X W tg elt iter ifs scope own dit tgd t de) (hN : X.N.Nodup) (hw : W.ok i = true := by rfl) (hy : X.N[i]? = some y := by rfl) (hyl : X.env.scope.names.lookup y = some .local := by rfl) (hl : (py.line == pos.line) = true := by rfl) (ha : (scope.names.any fun (n, k) => n == y && (k == .local || k == .cell)) = false := by decide +kernel) (hk : X.env.scope.kind = .function := by rfl)
    (hc : X.calm = true := by rfl) (hs : ∀ x, foldedSetIterable iter X.env x = pure x := by intro _; rfl) : RS X W (.Assign [.Name y py] (.ListComp elt [⟨tg, iter, ifs, 0⟩] scope pos) spos) (sOwn i (sD (dLc dit tgd t de (own.map (·.2))))) :=
  PS.imp (ps_setLc (g := tgt X.K tgd) (tt := TRt X W0 t) (te := TR X W0 de) hc hN hy hyl (sw_true hk hyl hl ha) h.it h.ok h.tg h.ifs h.elt hs) fun D0 σ H q =>
    set_lc (f := fun ds α => .nx (α.set i (.own ds))) h hN hy hyl hl ha hk hc hs (lc_rdS h.sl) (fun ds G0 H0 G H α a vs G' H' S g S' o h1 h2 h3 r => o _ G' H' (Same.refl _) (S.setOwn g h1 h2 h3 r i hw)) q
theorem rsownlcb (h : Lc X W tg elt iter ifs scope own dit tgd t de) (hN : X.N.Nodup) (hw : W.ok i = true := by rfl) (hy : X.N[i]? = some y := by rfl) (hyl : X.env.scope.names.lookup y = some .local := by rfl) (hl : (py.line == pos.line) = true := by rfl) (ha : (scope.names.any fun (n, k) => n == y && (k == .local || k == .cell)) = false := by decide +kernel) (hk : X.env.scope.kind = .function := by rfl)
    (hc : X.calm = true := by rfl) (hs : ∀ x, foldedSetIterable iter X.env x = pure x := by intro _; rfl) : RS X W (.Assign [.Name y py] (.ListComp elt [⟨tg, iter, ifs, 0⟩] scope pos) spos) (sOwn i (sBf (dLc dit tgd t de (own.map (·.2))))) :=
  PS.imp (ps_setLc (g := tgt X.K tgd) (tt := TRt X W0 t) (te := TR X W0 de) hc hN hy hyl (sw_true hk hyl hl ha) h.it h.ok h.tg h.ifs h.elt hs) fun D0 σ H q =>
    set_lc (f := fun ds α => .nx (α.set i (.own ds))) h hN hy hyl hl ha hk hc hs (lc_rdB h.sl) (fun ds G0 H0 G H α a vs G' H' S g S' o h1 h2 h3 r => o _ G' H' (Same.refl _) (S.setOwn g h1 h2 h3 r i hw)) q
/-- a new list of our own becomes data -/
theorem Sv.setLay {K : PySem.W.Frag} {w : World} {W : WA} {G0 H0 G H G' H' : Hp} {σ : L2.St} {α : At} {a : Addr} {vs : List V} {ds : List D} (S : Sv K w W G0 H0 G H σ α) (g : Gr G H G' H') (h1 : H a = none) (h2 : G' a = none) (h3 : H' a = some (.lst vs)) (r : RpAll K w G' vs ds) (i : Nat) (hw : W.ok i = true) :
    Sv K w W G0 H0 (upd G' a (.lst vs)) H' (σ.set i (some (.ref a))) (α.set i (.dat (.list ds))) :=
  (S.grow (g.lay h1 h2 h3)).set (.lst upd_same (RpAll.mono (same_upd h2) r)) i hw
def sLay (i : Nat) (d : At → Res (List D)) : At → Out := fun α => ofR (d α) α fun x => .nx (α.set i (.dat (.list x)))
theorem rslaylc (h : Lc X W tg elt iter ifs scope own dit tgd t de) (hN : X.N.Nodup) (hw : W.ok i = true := by rfl) (hy : X.N[i]? = some y := by rfl) (hyl : X.env.scope.names.lookup y = some .local := by rfl) (hl : (py.line == pos.line) = true := by rfl) (ha : (scope.names.any fun (n, k) => n == y && (k == .local || k == .cell)) = false := by decide +kernel) (hk : X.env.scope.kind = .function := by rfl)
    (hc : X.calm = true := by rfl) (hs : ∀ x, foldedSetIterable iter X.env x = pure x := by intro _; rfl) : RS X W (.Assign [.Name y py] (.ListComp elt [⟨tg, iter, ifs, 0⟩] scope pos) spos) (sLay i (sD (dLc dit tgd t de (own.map (·.2))))) :=
  PS.imp (ps_setLc (g := tgt X.K tgd) (tt := TRt X W0 t) (te := TR X W0 de) hc hN hy hyl (sw_true hk hyl hl ha) h.it h.ok h.tg h.ifs h.elt hs) fun D0 σ H q =>
    set_lc (f := fun ds α => .nx (α.set i (.dat (.list ds)))) h hN hy hyl hl ha hk hc hs (lc_rdS h.sl) (fun ds G0 H0 G H α a vs G' H' S g S' o h1 h2 h3 r => o _ _ H' (same_upd h2) (S.setLay g h1 h2 h3 r i hw)) q
theorem rslaylcb (h : Lc X W tg elt iter ifs scope own dit tgd t de) (hN : X.N.Nodup) (hw : W.ok i = true := by rfl) (hy : X.N[i]? = some y := by rfl) (hyl : X.env.scope.names.lookup y = some .local := by rfl) (hl : (py.line == pos.line) = true := by rfl) (ha : (scope.names.any fun (n, k) => n == y && (k == .local || k == .cell)) = false := by decide +kernel) (hk : X.env.scope.kind = .function := by rfl)
    (hc : X.calm = true := by rfl) (hs : ∀ x, foldedSetIterable iter X.env x = pure x := by intro _; rfl) : RS X W (.Assign [.Name y py] (.ListComp elt [⟨tg, iter, ifs, 0⟩] scope pos) spos) (sLay i (sBf (dLc dit tgd t de (own.map (·.2))))) :=
  PS.imp (ps_setLc (g := tgt X.K tgd) (tt := TRt X W0 t) (te := TR X W0 de) hc hN hy hyl (sw_true hk hyl hl ha) h.it h.ok h.tg h.ifs h.elt hs) fun D0 σ H q =>
    set_lc (f := fun ds α => .nx (α.set i (.dat (.list ds)))) h hN hy hyl hl ha hk hc hs (lc_rdB h.sl) (fun ds G0 H0 G H α a vs G' H' S g S' o h1 h2 h3 r => o _ _ H' (same_upd h2) (S.setLay g h1 h2 h3 r i hw)) q
/-- a new list to data, by a plain store -/
theorem rslay {i : Nat} {x : Str} {e : Expr} {d : At → Res (List D)} {pos pos' : Pos} (hN : X.N.Nodup) (h : SF X W e d) (hw : W.ok i = true := by rfl) (hi : X.N[i]? = some x := by rfl) (hx : Loc X.env.scope x := by first | exact Or.inl rfl | exact Or.inr rfl) (hs : swapsWith e (some (.Name x pos')) pos.line X.env = pure false := by rfl)
    (hf : X.fn x = true ∨ X.env.scope.names.lookup x = some .local := by first | exact .inl rfl | exact .inr rfl | assumption) : RS X W (.Assign [.Name x pos'] e pos) (sLay i d) :=
  PS.imp (ps_set hN hi hx h hs hf) fun D0 σ H ⟨G0, H0, G, α, S, q⟩ => ⟨G0, H0, G, α, S, ofR_run S q fun b eb G' H' g S' o a vs h1 h2 h3 r => o _ _ H' (same_upd h2) (S.setLay g h1 h2 h3 r i hw)⟩
end

/-! ### changes of our own lists -/
theorem Sv.put {K : PySem.W.Frag} {w : World} {W : WA} {G0 H0 G H : Hp} {σ : L2.St} {α : At} {i : Nat} {ds es : List D} {p : Addr} {vs : List V} (S : Sv K w W G0 H0 G H σ α) (e1 : α[i]? = some (.own ds)) (e2 : σ[i]? = some (some (.ref p))) (r : RpAll K w G vs es) :
    Sv K w W G0 H0 G (upd H p (.lst vs)) σ (α.set i (.own es)) := by
  obtain ⟨p', vs', q1, q2, q3, q4, q5⟩ := S.own i ds e1
  rw [e2] at q1
  cases q1
  have at_ : ∀ (j : Nat) (a : AV), j ≠ i → (α.set i (.own es))[j]? = some a → α[j]? = some a := fun j a ne e => by rw [List.getElem?_set_ne (Ne.symm ne)] at e; exact e
  have self : ∀ a, (α.set i (.own es))[i]? = some a → a = .own es := fun a e => by
    by_cases hl : i < α.length
    · rw [List.getElem?_set_self hl] at e
      cases e
      rfl
    · rw [List.getElem?_eq_none (by simpa using hl)] at e
      cases e
  have back : ∀ (j : Nat) (fs : List D), (α.set i (.own es))[j]? = some (.own fs) → ∃ gs, α[j]? = some (.own gs) := fun j fs e => by
    by_cases q : j = i
    · subst q; exact ⟨ds, e1⟩
    · exact ⟨fs, at_ j _ q e⟩
  refine ⟨S.gr.put q2 q3, by simpa using S.len, fun j x e => ?_, fun j fs e => ?_, fun j k fs gs q ne a1 a2 a3 a4 => ?_, S.am⟩
  · by_cases q : j = i
    · subst q
      exact nomatch self _ e
    · exact S.dat j x (at_ j _ q e)
  · by_cases q : j = i
    · subst q
      cases self _ e
      exact ⟨p, vs, e2, q2, q3, upd_same, r⟩
    · have e' := at_ j _ q e
      obtain ⟨p', vs'', b1, b2, b3, b4, b5⟩ := S.own j fs e'
      have ne : p' ≠ p := fun z => S.sep j i fs ds p q e' e1 (z ▸ b1) e2
      exact ⟨p', vs'', b1, b2, b3, by rw [upd_ne ne]; exact b4, b5⟩
  · obtain ⟨x1, y1⟩ := back j fs a1
    obtain ⟨x2, y2⟩ := back k gs a2
    exact S.sep j k x1 x2 q ne y1 y2 a3 a4
def ownAt (i : Nat) (α : At) (f : List D → Out) : Out := match α[i]? with
  | some (.own ds) => f ds
  | _ => .no
theorem ownAt_out {K : PySem.W.Frag} {w : World} {mg : Str → Option Value} {D0 : Ends} {G0 H0 G : Hp} {i : Nat} {α : At} {f : List D → Out} (h : OutP K w mg W D0 G0 H0 G (ownAt i α f)) : ∃ ds, α[i]? = some (.own ds) ∧ OutP K w mg W D0 G0 H0 G (f ds) := by
  unfold ownAt at h
  split at h
  · rename_i ds e
    exact ⟨ds, e, h⟩
  · exact h.elim
def sApp (i : Nat) (d : At → Res D) : At → Out := fun α => ownAt i α fun ds => ofR (d α) α fun x => if ds.length < sizeLine then .nx (α.set i (.own (ds ++ [x]))) else .no
section
variable {i : Nat} {x : Str} {e : Expr} {pos p1 apos cpos : Pos}
/-- x.append(e) -/
theorem rsapp {d : At → Res D} (h : SE X W e d) (hi : X.N[i]? = some x := by rfl) (hv : Vis X.env.scope x := by first | exact Or.inl rfl | exact Or.inr (Or.inl rfl) | exact Or.inr (Or.inr rfl)) (hd : (x == ("__debug__" : Str)) = false := by decide) (hcd : (x == ("__classdict__" : Str)) = false := by decide)
    (hst : starEach [e] X.env = (false, eval e X.env) :: starEach [] X.env := by rfl) (hbase : attributeBase (.Name x p1) "append" X.env (eval (.Name x p1) X.env) = eval (.Name x p1) X.env := by rfl)
    (hfew : ((backTo cpos (starEach [e] X.env)).all (fun x => !x.1) && (backToKw cpos (keywordEach [] X.env)).all (fun x => x.1.isSome) && decide ([e].length + ([] : List Keyword).length + (if ([] : List Keyword).isEmpty then 0 else 1) < 30)) = true := by rfl)
    (hline : (apos.endLine == cpos.line) = true := by rfl) (hsw : swapsWith (.Call (.Attribute (.Name x p1) "append" apos) [e] [] cpos) none pos.line X.env = pure false := by rfl) : RS X W (.Expr (.Call (.Attribute (.Name x p1) "append" apos) [e] [] cpos) pos) (sApp i d) :=
  PS.imp (ps_expr (pe_bm PySem.F.plainAttrs_list PySem.F.slot_list_append PySem.F.type_list_append mt_append (pv i hi hv hd hcd) (pa_cons h pa_nil hst) hbase hfew hline hst) hsw) fun D0 σ H ⟨G0, H0, G, α, S, q⟩ => by
    obtain ⟨ds, ea, o⟩ := ownAt_out q
    obtain ⟨p, vs, b1, b2, b3, b4, b5⟩ := S.own i ds ea
    refine ⟨.ref p, b1, .inl ⟨rfl, _, SqL.of b4⟩, G0, H0, G, α, S, ofR_run S o fun b eb G' H' g S' o' v rv => ?_⟩
    obtain ⟨p', vs', c1, c2, c3, c4, c5⟩ := S'.own i ds ea
    rw [b1] at c1
    cases c1
    by_cases hz : ds.length < sizeLine
    · rw [if_pos hz] at o'
      exact ⟨p, vs', v, rfl, rfl, c4, by rw [c5.length]; exact hz, o' _ _ _ (Same.refl _) (S'.put ea b1 (c5.append (.cons rv .nil)))⟩
    · rw [if_neg hz] at o'
      exact o'.elim
/-- x.extend(e), e a list -/
def sExt (i : Nat) (d : At → Res D) : At → Out := fun α => ownAt i α fun ds => ofR (d α) α fun x => match x with
  | .list es => if ds.length + es.length ≤ sizeLine then .nx (α.set i (.own (ds ++ es))) else .no
  | _ => .no
theorem rsext {d : At → Res D} (h : SE X W e d) (hi : X.N[i]? = some x := by rfl) (hv : Vis X.env.scope x := by first | exact Or.inl rfl | exact Or.inr (Or.inl rfl) | exact Or.inr (Or.inr rfl)) (hd : (x == ("__debug__" : Str)) = false := by decide) (hcd : (x == ("__classdict__" : Str)) = false := by decide)
    (hst : starEach [e] X.env = (false, eval e X.env) :: starEach [] X.env := by rfl) (hbase : attributeBase (.Name x p1) "extend" X.env (eval (.Name x p1) X.env) = eval (.Name x p1) X.env := by rfl)
    (hfew : ((backTo cpos (starEach [e] X.env)).all (fun x => !x.1) && (backToKw cpos (keywordEach [] X.env)).all (fun x => x.1.isSome) && decide ([e].length + ([] : List Keyword).length + (if ([] : List Keyword).isEmpty then 0 else 1) < 30)) = true := by rfl)
    (hline : (apos.endLine == cpos.line) = true := by rfl) (hsw : swapsWith (.Call (.Attribute (.Name x p1) "extend" apos) [e] [] cpos) none pos.line X.env = pure false := by rfl) : RS X W (.Expr (.Call (.Attribute (.Name x p1) "extend" apos) [e] [] cpos) pos) (sExt i d) :=
  PS.imp (ps_expr (pe_bm PySem.F.plainAttrs_list PySem.F.slot_list_extend PySem.F.type_list_extend mt_extend (pv i hi hv hd hcd) (pa_cons h pa_nil hst) hbase hfew hline hst) hsw) fun D0 σ H ⟨G0, H0, G, α, S, q⟩ => by
    obtain ⟨ds, ea, o⟩ := ownAt_out q
    obtain ⟨p, vs, b1, b2, b3, b4, b5⟩ := S.own i ds ea
    refine ⟨.ref p, b1, .inl ⟨rfl, _, SqL.of b4⟩, G0, H0, G, α, S, ofR_run S o fun b eb G' H' g S' o' v rv => ?_⟩
    obtain ⟨p', vs', c1, c2, c3, c4, c5⟩ := S'.own i ds ea
    rw [b1] at c1
    cases c1
    cases rv with
    | lst hx rx =>
      have o' : OutP X.K X.w X.mg W D0 G0 H0 G' (if _ then _ else _) := o'
      split at o'
      · rename_i hz
        exact ⟨p, _, vs', _, rfl, rfl, c4, S'.gr.s _ _ hx, by rw [c5.length, rx.length]; exact hz, o' _ _ _ (Same.refl _) (S'.put ea b1 (c5.append rx))⟩
      · exact o'.elim
    | _ => exact o'.elim
/-- x[k] = e -/
def sSetI (i : Nat) (dk d : At → Res D) : At → Out := fun α => ofR (d α) α fun v => ownAt i α fun _ => ofR (dk α) α fun k => ownAt i α fun ds => match k with
  | .int k => (match ixN ds.length k with
    | some j => .nx (α.set i (.own (ds.set j v)))
    | none => .no)
  | _ => .no
theorem rsseti {k : Expr} {dk d : At → Res D} {tpos : Pos} (h : SE X W e d) (hk : SE X W k dk) (hi : X.N[i]? = some x := by rfl) (hv : Vis X.env.scope x := by first | exact Or.inl rfl | exact Or.inr (Or.inl rfl) | exact Or.inr (Or.inr rfl)) (hd : (x == ("__debug__" : Str)) = false := by decide) (hcd : (x == ("__classdict__" : Str)) = false := by decide)
    (ha : ∀ v, assign (.Subscript (.Name x p1) k tpos) X.env v = (do
      let ov ← holding [v] (eval (.Name x p1) X.env)
      let iv ← holding [v, ov] (eval k X.env)
      standAt tpos
      holding [v, ov, iv] (setItem ov iv v)
      release [v, ov, iv] []) := by intro _; rfl)
    (hs : swapsWithSole [.Subscript (.Name x p1) k tpos] e pos.line X.env = pure false := by rfl) (hw : swappedStores [.Subscript (.Name x p1) k tpos] e X.env = pure none := by rfl)
    (h1 : (assignEach [.Subscript (.Name x p1) k tpos] X.env).map (·.2) = [assign (.Subscript (.Name x p1) k tpos) X.env] := by rfl) : RS X W (.Assign [.Subscript (.Name x p1) k tpos] e pos) (sSetI i dk d) :=
  PS.imp (ps_asg h (pg_sub (pv i hi hv hd hcd) hk set_list ha) hs hw h1) fun D0 σ H ⟨G0, H0, G, α, S, q⟩ => by
    refine ⟨G0, H0, G, α, S, ofR_run S q fun b eb G' H' g S' o v rv => ?_⟩
    obtain ⟨ds, ea, o⟩ := ownAt_out o
    obtain ⟨p, vs, b1, b2, b3, b4, b5⟩ := S'.own i ds ea
    refine ⟨.ref p, b1, G0, H0, G', α, S', ofR_run S' o fun kd ek G2 H2 g2 S2 o2 kv rk => ?_⟩
    obtain ⟨ds2, ea2, o2⟩ := ownAt_out o2
    rw [ea] at ea2
    cases ea2
    obtain ⟨p', vs', c1, c2, c3, c4, c5⟩ := S2.own i ds ea
    rw [b1] at c1
    cases c1
    cases rk with
    | int kk =>
      have o2 : OutP X.K X.w X.mg W D0 G0 H0 G2 (match ixN ds.length kk with | some j => Out.nx (α.set i (.own (ds.set j b))) | none => .no) := o2
      cases hj : ixN ds.length kk with
      | none => rw [hj] at o2; exact o2.elim
      | some j =>
        rw [hj] at o2
        exact ⟨p, vs', kk, j, rfl, rfl, c4, by rw [c5.length]; exact hj, o2 _ _ _ (Same.refl _) (S2.put ea b1 (c5.set j (rv.mono g2.g)))⟩
    | _ => exact o2.elim
/-- a list of our own is left as it is from here on -/
def frzA (i : Nat) (α : At) : At := match α[i]? with
  | some (.own ds) => α.set i (.dat (.list ds))
  | _ => α
theorem Sv.frzA {K : PySem.W.Frag} {w : World} {W : WA} {G0 H0 G H : Hp} {σ : L2.St} {α : At} (S : Sv K w W G0 H0 G H σ α) (i : Nat) : ∃ G', Same G G' ∧ Sv K w W G0 H0 G' H σ (frzA i α) := by
  unfold DL.frzA
  split
  · rename_i ds e
    obtain ⟨p, vs, b1, b2, b3, b4, b5⟩ := S.own i ds e
    refine ⟨upd G p (.lst vs), same_upd b3, ?_⟩
    have at_ : ∀ (j : Nat) (a : AV), j ≠ i → (α.set i (.dat (.list ds)))[j]? = some a → α[j]? = some a := fun j a ne e => by rw [List.getElem?_set_ne (Ne.symm ne)] at e; exact e
    have self : ∀ a, (α.set i (.dat (.list ds)))[i]? = some a → a = .dat (.list ds) := fun a e => by
      by_cases hl : i < α.length
      · rw [List.getElem?_set_self hl] at e
        cases e
        rfl
      · rw [List.getElem?_eq_none (by simpa using hl)] at e
        cases e
    refine ⟨⟨S.gr.g.trans (same_upd b3), fun a o q => ?_, S.gr.h, fun a n1 n2 => ?_⟩, by simpa using S.len, fun j x q => ?_, fun j fs q => ?_, fun j k fs gs q ne a1 a2 a3 a4 => ?_, W.mono _ _ _ (same_upd b3) S.am⟩
    · by_cases hp : a = p
      · subst hp; rw [upd_same] at q; cases q; exact b4
      · rw [upd_ne hp] at q; exact S.gr.s a o q
    · have hp : a ≠ p := fun z => n1 (z ▸ b2)
      rw [upd_ne hp]; exact S.gr.o a n1 n2
    · by_cases hj : j = i
      · subst hj
        cases self _ q
        exact ⟨.ref p, b1, .lst upd_same (RpAll.mono (same_upd b3) b5)⟩
      · obtain ⟨v, h1, h2⟩ := S.dat j x (at_ j _ hj q)
        exact ⟨v, h1, h2.mono (same_upd b3)⟩
    · by_cases hj : j = i
      · subst hj
        exact nomatch self _ q
      · have q' := at_ j _ hj q
        obtain ⟨p', vs', c1, c2, c3, c4, c5⟩ := S.own j fs q'
        have ne : p' ≠ p := fun z => S.sep j i fs ds p hj q' e (z ▸ c1) b1
        exact ⟨p', vs', c1, c2, by rw [upd_ne ne]; exact c3, c4, RpAll.mono (same_upd b3) c5⟩
    · have q1 : j ≠ i := fun z => by subst z; exact nomatch self _ a1
      have q2 : k ≠ i := fun z => by subst z; exact nomatch self _ a2
      exact S.sep j k fs gs q ne (at_ j _ q1 a1) (at_ k _ q2 a2) a3 a4
  · exact ⟨G, Same.refl _, S⟩
theorem rsfrz {st : Stmt} {d : At → Out} (i : Nat) (h : RS X W st d) : RS X W st (fun α => d (frzA i α)) :=
  PS.imp h fun D0 σ H ⟨G0, H0, G, α, S, q⟩ => by
    obtain ⟨G', s, S'⟩ := S.frzA i
    exact ⟨G0, H0, G', _, S', q.mono s⟩
end
/-! ### for -/
def forD (tg : Tgt) (body : At → Out) : List D → At → Out
  | [], α => .nx α
  | d :: ds, α => match setTA tg d α with
    | none => .no
    | some α1 => match body α1 with
      | .nx α2 => forD tg body ds α2
      | .ct α2 => forD tg body ds α2
      | .bk α2 => .nx α2
      | o => o
def sFor (it : Bt → Res (List D)) (tg : Tgt) (body : At → Out) : At → Out := fun α => ofR (it (dats α)) α fun ds => forD tg body ds α
theorem rsfor {tg iter : Expr} {dit : Bt → Res (List D)} {tgd : Tgt} {body : List Stmt} {db : At → Out} {pos : Pos} (hi : RI X W tg iter dit) (hg : RG X tg tgd) (hb : RSs X W body db) (hp : PassesOwn (model X.prog X.w) X.A X.env X.xe) (hc : X.calm = true := by rfl) (hw' : tgd.slots.all W.ok = true := by rfl)
    (hs : ∀ x, foldedSetIterable iter X.env x = pure x := by intro _; rfl) : RS X W (.For tg iter body [] pos) (sFor dit tgd db) :=
  PS.imp (ps_for hp hc hi hg hb hs) fun D0 σ H ⟨G0, H0, G, α, S, q⟩ => by
    refine ⟨G, dats α, S.gr.s, S.ev, ofR_run S q fun ds ed G1 H1 g S1 o J hJ => ?_⟩
    refine ⟨fun i m σ H => m = ds.length - i ∧ i ≤ ds.length ∧ ∃ G α, Same G1 G ∧ Sv X.K X.w W G0 H0 G H σ α ∧ OutP X.K X.w X.mg W D0 G0 H0 G (forD tgd db (ds.drop i) α), ⟨ds.length, rfl, Nat.zero_le _, G1, α, Same.refl _, S1, o⟩, fun i m σ H hI => ?_⟩
    obtain ⟨rfl, hi, G2, α2, s2, S2, o2⟩ := hI
    by_cases hlt : i < ds.length
    · refine .inr ⟨hJ.go i H (s2.trans S2.gr.s) hlt, fun σ' H' => ∃ G α, Same G1 G ∧ Sv X.K X.w W G0 H0 G H' σ' α ∧ OutP X.K X.w X.mg W D0 G0 H0 G (forD tgd db (ds.drop (i + 1)) α), fun σ' H' ⟨G3, α3, h⟩ => ⟨ds.length - (i + 1), by omega, rfl, hlt, G3, α3, h⟩, fun x H' hy => ?_⟩
      rw [List.drop_eq_getElem_cons hlt] at o2
      obtain ⟨G3, g3, rx⟩ := hJ.yld i _ G2 H x H' (List.getElem?_eq_getElem hlt) s2 S2.gr.s hy
      have S3 := S2.grow g3
      unfold forD at o2
      cases ha : setTA tgd ds[i] α2 with
      | none => rw [ha] at o2; exact o2.elim
      | some α3 =>
        rw [ha] at o2
        refine tgtA_run rx S3 ha hw' fun σ3 S4 => ⟨G0, H0, G3, α3, S4, ?_⟩
        have o3 : OutP X.K X.w X.mg W D0 G0 H0 G2 (match db α3 with | .nx α2 => forD tgd db (ds.drop (i + 1)) α2 | .ct α2 => forD tgd db (ds.drop (i + 1)) α2 | .bk α2 => .nx α2 | o => o) := o2
        have o3 := o3.mono g3.g
        cases hb : db α3 with
        | nx α4 => rw [hb] at o3; exact fun σ' G' H' s S' => ⟨G', α4, (s2.trans g3.g).trans s, S', o3.mono s⟩
        | ct α4 => rw [hb] at o3; exact fun σ' G' H' s S' => ⟨G', α4, (s2.trans g3.g).trans s, S', o3.mono s⟩
        | bk α4 => rw [hb] at o3; exact o3
        | rt d => rw [hb] at o3; exact o3
        | rl d => rw [hb] at o3; exact o3
        | er e α4 => rw [hb] at o3; exact o3
        | no => rw [hb] at o3; exact o3
    · have e1 : i = ds.length := by omega
      subst e1
      rw [List.drop_length] at o2
      exact .inl ⟨hJ.stop _ H (s2.trans S2.gr.s) (Nat.le_refl _), o2 σ G2 H (Same.refl _) S2⟩
/-! ### while -/
def whileD (t : At → Res Bool) (body : At → Out) : Nat → At → Out
  | 0, _ => .no
  | n + 1, α => ofR (t α) α fun c => if c = true then (match body α with
      | .nx α2 => whileD t body n α2
      | .ct α2 => whileD t body n α2
      | .bk α2 => .nx α2
      | o => o) else .nx α
theorem rswhile {c : Expr} {t : At → Res Bool} {body : List Stmt} {db : At → Out} {pos : Pos} (n : Nat) (hc : ST X W c t) (hb : RSs X W body db) (hp : PassesOwn (model X.prog X.w) X.A X.env X.xe) : RS X W (.While c body [] pos) (whileD t db n) :=
  PS.imp (ps_while hp hc hb) fun D0 σ H ⟨G0, H0, G, α, S, q⟩ => by
    refine ⟨fun m σ H => ∃ G α, Sv X.K X.w W G0 H0 G H σ α ∧ OutP X.K X.w X.mg W D0 G0 H0 G (whileD t db m α), ⟨n, G, α, S, q⟩, fun m σ H hI => ?_⟩
    obtain ⟨G2, α2, S2, o2⟩ := hI
    cases m with
    | zero => exact o2.elim
    | succ m =>
      refine ⟨G0, H0, G2, α2, S2, ofR_run S2 o2 fun c ec G3 H3 g S3 o3 => ?_⟩
      cases c with
      | false => exact o3 σ G3 H3 (Same.refl _) S3
      | true =>
        refine ⟨fun σ' H' => ∃ G α, Sv X.K X.w W G0 H0 G H' σ' α ∧ OutP X.K X.w X.mg W D0 G0 H0 G (whileD t db m α), fun σ' H' h => ⟨m, Nat.lt_succ_self m, h⟩, G0, H0, G3, α2, S3, ?_⟩
        have o4 : OutP X.K X.w X.mg W D0 G0 H0 G3 (match db α2 with | .nx α2 => whileD t db m α2 | .ct α2 => whileD t db m α2 | .bk α2 => .nx α2 | o => o) := o3
        cases hb : db α2 with
        | nx α4 => rw [hb] at o4; exact fun σ' G' H' s S' => ⟨G', α4, S', o4.mono s⟩
        | ct α4 => rw [hb] at o4; exact fun σ' G' H' s S' => ⟨G', α4, S', o4.mono s⟩
        | bk α4 => rw [hb] at o4; exact o4
        | rt d => rw [hb] at o4; exact o4
        | rl d => rw [hb] at o4; exact o4
        | er e α4 => rw [hb] at o4; exact o4
        | no => rw [hb] at o4; exact o4
/-! ### never reached -/
theorem rsno {st : Stmt} : RS X W st (fun _ => .no) := PS.imp ps_never fun D σ H ⟨G0, H0, G, α, S, h⟩ => h
theorem rssno {sts : List Stmt} : RSs X W sts (fun _ => .no) := PSs.imp pss_never fun D σ H ⟨G0, H0, G, α, S, h⟩ => h
end
/-! ### the rule of a def -/
def fD (n N : Nat) (body : At → Out) : List D → Res D := fun ds => if ds.length = n then (match body (ds.map AV.dat ++ List.replicate (N - n) AV.un) with
  | .rt d => .ok d
  | .rl ds => .ok (.list ds)
  | .nx _ => .ok .none
  | .er e _ => .er e
  | _ => .no) else .no
theorem fD_len {n N : Nat} {body : At → Out} (ds : List D) (h : ds.length ≠ n) : fD n N body ds = .no := by
  unfold fD
  rw [if_neg h]
theorem okD {P : Program} {w : World} {K : PySem.W.Frag} {mg : Str → Option Value} {base : Heap} {x qual : Str} {params : Arguments} {bodyS : List Stmt} {scope : Scope} {f : Addr} {fd : FuncData} {N ps : List Str} {k : Nat} {den : At → Out}
    (F : FunD K x qual params bodyS scope [] [] f fd) (S : FnScope N ps scope)
    (h : ∀ (cdv : Value) (A : Around) (outer : List Env) (s : Shared) (H : Hp) (E : XK), Room k (A.deeper (envOfC qual scope s.heap.objs.size f cdv)) → RSs (cxOf (L2.CX P w) P w K mg base N qual scope f cdv A outer s H E) (Wd E) bodyS den) :
    FnOk P w K mg base (L2.CX P w) (k + 1) f fd ps (SpF K w mg (fD ps.length N.length den)) := by
  refine F.ok S (SpF.len fD_len) fun cdv A outer s H vs Q E hr hsp => ⟨_, h cdv A outer s H E hr, ?_⟩
  obtain ⟨G, ds, sg, r, rp⟩ := hsp
  have hlen : ps.length ≤ N.length := by
    have := congrArg List.length S.pre
    rw [List.length_take] at this
    omega
  by_cases hn : ds.length = ps.length
  · unfold fD at rp
    rw [if_pos hn] at rp
    have l1 := r.length
    have st : Sv K w (Wd E) G H G H (L2.start N vs) (ds.map AV.dat ++ List.replicate (N.length - ps.length) AV.un) := by
      have noO : ∀ (i : Nat) (es : List D), (ds.map AV.dat ++ List.replicate (N.length - ps.length) AV.un)[i]? = some (.own es) → False := fun i es e => by
        by_cases hi : i < ds.length
        · rw [List.getElem?_append_left (by simpa using hi), List.getElem?_map, List.getElem?_eq_getElem hi] at e
          cases e
        · rw [List.getElem?_append_right (by simpa using hi), List.getElem?_replicate] at e
          split at e <;> cases e
      refine ⟨Gr.refl sg, ?_, fun i d e => ?_, fun i es e => (noO i es e).elim, fun i j es fs p ne e1 _ _ _ => (noO i es e1).elim, trivial⟩
      · unfold L2.start
        simp only [List.length_append, List.length_map, List.length_replicate]
        omega
      · by_cases hi : i < ds.length
        · rw [List.getElem?_append_left (by simpa using hi), List.getElem?_map] at e
          cases hd : ds[i]? with
          | none => rw [hd] at e; cases e
          | some d' =>
            rw [hd] at e
            cases e
            obtain ⟨v, h1, h2⟩ := r.get hd
            refine ⟨v, ?_, h2⟩
            unfold L2.start
            rw [List.getElem?_append_left (by rw [List.length_map]; omega), List.getElem?_map, h1]
            rfl
        · rw [List.getElem?_append_right (by simpa using hi), List.getElem?_replicate] at e
          split at e <;> cases e
    refine ⟨G, H, G, _, st, ?_⟩
    cases hb : den (ds.map AV.dat ++ List.replicate (N.length - ps.length) AV.un) with
    | nx α => rw [hb] at rp; exact fun σ' G' H' _ S' => rp _ _ S'.gr _ .non
    | rt d => rw [hb] at rp; exact fun G' H' _ g v rv => rp _ _ g v rv
    | rl es => rw [hb] at rp; exact fun G' H' _ g a vs h1 h2 h3 r => rp _ _ (g.lay h1 h2 h3) _ (.lst upd_same (r.mono (same_upd h2)))
    | er e α => rw [hb] at rp; exact fun cls dd σ' G' H' _ S' z => rp cls dd _ _ S'.gr z
    | bk α => rw [hb] at rp; exact rp.elim
    | ct α => rw [hb] at rp; exact rp.elim
    | no => rw [hb] at rp; exact rp.elim
  · rw [fD_len ds hn] at rp
    exact rp.elim
end DL

/-! DL11: what the printed walks name: defs that may be called, constants of the module, number updates. -/
namespace DL
open PySem PySem.Spec PyProof.Rows L2
/-- the def x may be called, at level k, and computes g -/
def Cal (P : Program) (w : World) (K : PySem.W.Frag) (mg : Str → Option Value) (base : Heap) (k : Nat) (x : Str) (g : List D → Res D) : Prop :=
  ∃ f fd ps, FnOk P w K mg base (L2.CX P w) k f fd ps (SpF K w mg g) ∧ mg x = some (.ref f) ∧ PySem.W.keepIn K (.ref f) = true ∧ Binds K fd ps []
/-- a constant of the module -/
def Cst (K : PySem.W.Frag) (w : World) (mg : Str → Option Value) (x : Str) (d : D) : Prop := ∃ v u, mg x = some u ∧ RelV v u ∧ ∀ G, Rp K w G v d
section
variable {X : Cx} {W : WA} {k k' : Nat} {g : List D → Res D} {x : Str} {p pos : Pos} {e : Expr} {es : List Expr} {da : Bt → Res (List D)}
theorem rc (C : Cal X.prog X.w X.K X.mg X.base k x g) (hr : Room k' X.A) (tk : Takes X W.x) (ha : RA X W (e :: es) da) (hk : k ≤ k' := by decide)
    (hg : Gl X x := by rfl) (hdb : (x == ("__debug__" : Str)) = false := by decide) (he : starEach (e :: es) X.env = (false, eval e X.env) :: starEach es X.env := by rfl) (hpl : (backTo pos (starEach es X.env)).any (·.1) = false := by rfl) :
    RE X W (.Call (.Name x p) (e :: es) [] pos) (dCall g da) := by
  obtain ⟨f, fd, ps, F, hm, kp, hb⟩ := C
  exact rcall F (hr.mono hk) hm kp hb tk ha hg hdb he hpl
theorem rc0 (C : Cal X.prog X.w X.K X.mg X.base k x g) (hr : Room k' X.A) (tk : Takes X W.x) (hk : k ≤ k' := by decide) (hg : Gl X x := by rfl) (hdb : (x == ("__debug__" : Str)) = false := by decide) : RE X W (.Call (.Name x p) [] [] pos) (dCall g aNil) := by
  obtain ⟨f, fd, ps, F, hm, kp, hb⟩ := C
  exact rcall0 F (hr.mono hk) hm kp hb tk hg hdb
theorem rcst {d : D} (C : Cst X.K X.w X.mg x d) (hg : Gl X x := by rfl) (hd : (x == ("__debug__" : Str)) = false := by decide) : RE X W (.Name x pos) (dC d) := by
  obtain ⟨v, u, hm, r, rp⟩ := C
  exact rglob hm r rp hg hd
/-- x += e, numbers -/
def sAug (i : Nat) (d : At → Res D) : At → Out := fun α => match α[i]? with
  | some (.dat (.int n)) => ofR (d α) α fun x => (match x with
    | .int m => .nx (α.set i (.dat (.int (n + m))))
    | _ => .no)
  | _ => .no
theorem rsaug {i : Nat} {e : Expr} {d : At → Res D} {pos' : Pos} (hN : X.N.Nodup) (h : SE X W e d) (hw : W.ok i = true := by rfl) (hi : X.N[i]? = some x := by rfl) (hx : Loc X.env.scope x := by first | exact Or.inl rfl | exact Or.inr rfl)
    (hf : X.fn x = true ∨ X.env.scope.names.lookup x = some .local := by first | exact .inl rfl | exact .inr rfl | assumption) : RS X W (.AugAssign (.Name x pos') .Add e pos) (sAug i d) :=
  PS.imp (ps_aug hN hi hx h ip_add hf) fun D0 σ H ⟨G0, H0, G, α, S, q⟩ => by
    unfold sAug at q
    split at q
    · rename_i n en
      obtain ⟨v, e1, e2⟩ := S.dat i _ en
      cases e2
      refine ⟨_, e1, G0, H0, G, α, S, ofR_run S q fun b eb G' H' g S' o v rv => ?_⟩
      cases rv with
      | int m => exact ⟨_, _, rfl, rfl, o _ G' H' (Same.refl _) (S'.set (.int _) i hw)⟩
      | _ => exact o.elim
    · exact q.elim
end
/-- nothing is let out of a block -/
theorem tk0 {X : Cx} : Takes X W0.x := takes0
section
open He
variable {P : Program} {w : World} {K : PySem.W.Frag} {mg : Str → Option Value} {base : Heap}
/-- a def of the text: where it stands, by what the head tells -/
structure Dfn (K : PySem.W.Frag) (mg : Str → Option Value) (x : Str) (st : Stmt) (ps : List Str) : Prop where
  ex : ∃ f fd, FunD K x x (defArgs st) (defBody st) (defScope st) [] [] f fd ∧ mg x = some (.ref f) ∧ Binds K fd ps []
theorem Dfn.cal {x : Str} {st : Stmt} {ps : List Str} {k : Nat} {g : List D → Res D} (d : Dfn K mg x st ps)
    (h : ∀ f fd, FunD K x x (defArgs st) (defBody st) (defScope st) [] [] f fd → FnOk P w K mg base (L2.CX P w) k f fd ps (SpF K w mg g)) : Cal P w K mg base k x g := by
  obtain ⟨f, fd, F, hm, hb⟩ := d.ex
  exact ⟨f, fd, ps, h f fd F, hm, F.kp, hb⟩
end
end DL
namespace DL
open PySem PySem.Spec PyProof.Rows L2
theorem okNo {P : Program} {w : World} {K : PySem.W.Frag} {mg : Str → Option Value} {base : Heap} {CX : CXT} {k : Nat} {f : Addr} {fd : FuncData} {ps : List Str} : FnOk P w K mg base CX k f fd ps (SpF K w mg fun _ => .no) :=
  ⟨fun vs H Q E ⟨G, ds, s, r, rp⟩ => rp.elim, fun A outer s H args us vs Q E hr e0 hb hv ⟨G, ds, sg, r, rp⟩ => rp.elim⟩
end DL

/-! DL12: a law's end. -/
namespace DL
open PySem PySem.Spec PyProof.Rows L2
def CXa : CXT := fun outer H s E u s' => ∃ P w, L2.CX P w outer H s E u s'
theorem CXa_no (H : Hp) (s : Shared) (e : Value) (s' : Shared) (h : CXa [] H s (fun _ _ _ => False) e s') : False := by
  obtain ⟨P, w, a, B, H', cls, d, _, _, _, _, _, _, _, z⟩ := h
  exact z
theorem toAny {P : Program} {w : World} {K : PySem.W.Frag} {mg : Str → Option Value} {base : Heap} {k : Nat} {f : Addr} {fd : FuncData} {ps : List Str} {sp : Sp} (F : FnOk P w K mg base (L2.CX P w) k f fd ps sp) : FnOk P w K mg base CXa k f fd ps sp :=
  ⟨F.len, fun A outer s H args us vs Q E hr he hb hv hs => codeAny_mono (F.run A outer s H args us vs Q E hr he hb hv hs) fun r s' h => by
    cases r with
    | ok o =>
      cases o with
      | ret u => exact h
      | _ => exact h
    | error e => exact ⟨P, w, h⟩⟩
/-- a law that answers true for this script -/
theorem spTrue {K : PySem.W.Frag} {w : World} {mg : Str → Option Value} {g : List D → Res D} {H : Hp} {a : Addr} {ns : List Int} (h : g [.dict [(.none, .list (ns.map PyData.int))]] = .ok (.bool true)) (hS : SqL K H a (ns.map V.int)) :
    SpF K w mg g [.ref a] H (fun v _ => v = .bl true) fun _ _ _ => False :=
  ⟨H, _, Same.refl _, .cons (.scr hS (Rp.ints w H ns)) .nil, by
    rw [h]
    exact fun G' H' _ v rv => by cases rv; rfl⟩
theorem cstI {K : PySem.W.Frag} {w : World} {mg : Str → Option Value} {x : Str} {i : Int} (h : ∃ t, mg x = some (.int i t)) : Cst K w mg x (.int i) := by
  obtain ⟨t, e⟩ := h
  exact ⟨.int i, _, e, ⟨t, rfl⟩, fun _ => .int i⟩
theorem cstS {K : PySem.W.Frag} {w : World} {mg : Str → Option Value} {x z : Str} (h : ∃ t, mg x = some (.str z t)) : Cst K w mg x (.str z) := by
  obtain ⟨t, e⟩ := h
  exact ⟨.str z, _, e, ⟨t, rfl⟩, fun _ => .str z⟩
end DL

/-! DL13: comparisons of three, pairs stored at once, zip. -/
namespace DL
open PySem PySem.Spec PyProof.Rows L2
theorem rpGrow {α : Type} {K : PySem.W.Frag} {w : World} {mg : Str → Option Value} {W : WA} {σ : L2.St} {G H G' H' : Hp} {good : α → Hp → Hp → Prop} {r : Res α} (h : RP K w mg W σ G H good r) (g : Gr G H G' H') : RP K w mg W σ G' H' good r := by
  cases r with
  | ok a => exact fun G2 H2 g2 => h _ _ (g.trans g2)
  | er e => exact fun cls dd G2 H2 g2 z => h cls dd _ _ (g.trans g2) (z.back g.h)
  | no => exact h
section
variable {X : Cx} {W : WA} {a b c : Expr} {da db dc : Bt → Res D} {pos : Pos}
def dChain (f g : D → D → Option D) (da db dc : Bt → Res D) : Bt → Res D := fun β => (da β).bind fun x => (db β).bind fun y => (Res.of (f x y)).bind fun z => (Res.of (asB z)).bind fun k => if k = true then (dc β).bind fun w => Res.of (g y w) else .ok (.bool false)
theorem chainD {r r' : R2} {f g : D → D → Option D} (k : OkR2 X r f) (k' : OkR2 X r' g) (σ : L2.St) (H : Hp) (Q : VK) (h : TR X W (dChain f g da db dc) σ H Q) : tChain r r' (TR X W da) (TR X W db) (TR X W dc) σ H Q := by
  obtain ⟨G, β, s, ev, rp⟩ := h
  refine ⟨G, β, s, ev, rp.bind fun x ex G1 H1 g1 rp1 v rv => ?_⟩
  refine ⟨G1, β, g1.s, ev.mono g1.g, rp1.bind fun y ey G2 H2 g2 rp2 u ru => ?_⟩
  cases ef : f x y with
  | none => rw [ef] at rp2; exact rp2.elim
  | some z =>
    rw [ef] at rp2
    cases ez : asB z with
    | none =>
      have q : RP X.K X.w X.mg W σ G2 H2 (fun d G' H' => ∀ v, Rp X.K X.w G' v d → Q v H') ((Res.of (asB z)).bind fun k => if k = true then (dc β).bind fun w => Res.of (g y w) else .ok (.bool false)) := rp2
      rw [ez] at q
      exact q.elim
    | some t =>
      cases asB_ok ez
      refine k x y _ ef v u G2 H2 _ g2.s (rv.mono g2.g) ru fun G3 H3 g3 z' rz => ?_
      cases rz
      refine ⟨t, rfl, ?_⟩
      cases t with
      | false =>
        rw [if_neg (by decide)]
        exact rp2 G3 H3 g3 _ (.bl false)
      | true =>
        rw [if_pos rfl]
        have q : RP X.K X.w X.mg W σ G2 H2 (fun d G' H' => ∀ v, Rp X.K X.w G' v d → Q v H') ((dc β).bind fun w => Res.of (g y w)) := rp2
        refine ⟨G3, β, g3.s, (ev.mono (g1.g.trans g2.g)).mono g3.g, RP.bind (rpGrow q g3) fun w ew G4 H4 g4 rp4 w' rw' => ?_⟩
        obtain ⟨d, ed, q4⟩ := rp4.ofOpt
        exact k' y w d ed u w' G4 H4 Q g4.s ((ru.mono g3.g).mono g4.g) rw' q4
theorem rchain {op op' : CmpOp} {r r' : R2} {f g : D → D → Option D} (ho : OpR X (compareOp op) r) (k : OkR2 X r f) (ho' : OpR X (compareOp op') r') (k' : OkR2 X r' g) (ha : RE X W a da) (hb : RE X W b db) (hc : RE X W c dc)
    (hm : lastMarks [op, op'] [b, c] = false := by with_unfolding_all rfl) : RE X W (.Compare a [op, op'] [b, c] pos) (dChain f g da db dc) := PE.imp (pe_chain ho ho' ha hb hc hm) (chainD k k')
theorem rtchain {op op' : CmpOp} {r r' : R2} {f g : D → D → Option D} (ho : OpR X (compareOp op) r) (k : OkR2 X r f) (ho' : OpR X (compareOp op') r') (k' : OkR2 X r' g) (ha : RE X W a da) (hb : RE X W b db) (hc : RE X W c dc)
    (hm : lastMarks [op, op'] [b, c] = false := by with_unfolding_all rfl) : RT X W (.Compare a [op, op'] [b, c] pos) (tV (dChain f g da db dc)) :=
  PT.imp (pt_chain ho ho' ha hb hc hm) fun σ H Q h => by
    obtain ⟨G, β, s, ev, rp⟩ := h
    refine chainD (W := W) (da := da) (db := db) (dc := dc) k k' σ H (fun x H' => ∃ k, x = .bl k ∧ Q k H') ⟨G, β, s, ev, rp.bind fun x ex G1 H1 g1 rp1 v rv => ?_⟩
    obtain ⟨b, eb, q⟩ := rp1.ofOpt
    cases asB_ok eb
    cases rv
    exact ⟨b, rfl, q _ _ (Gr.refl g1.s)⟩
/-! ### a pair of names from a pair of values -/
def sPar (i j : Nat) (d : At → Res (List D)) : At → Out := fun α => ofR (d α) α fun xs => match xs with
  | [x, y] => .nx ((α.set i (.dat x)).set j (.dat y))
  | _ => .no
theorem rspar {i j : Nat} {x y : Str} {d : Bt → Res (List D)} {px py pt : Pos} {kt k2 pt2} (hN : X.N.Nodup) (ha : RA X W [a, b] d) (hwi : W.ok i = true := by rfl) (hwj : W.ok j = true := by rfl) (hi : X.N[i]? = some x := by rfl) (hj : X.N[j]? = some y := by rfl) (hij : i ≠ j := by decide)
    (hx : X.env.scope.names.lookup x = some .local := by rfl) (hy : X.env.scope.names.lookup y = some .local := by rfl) (hc : X.calm = true := by rfl)
    (hw : swappedStores [.Tuple [.Name x px, .Name y py] kt pt] (.Tuple [a, b] k2 pt2) X.env = pure (some [x, y]) := by rfl)
    (hs : swapsWithSole [.Tuple [.Name x px, .Name y py] kt pt] (.Tuple [a, b] k2 pt2) pos.line X.env = pure false := by rfl) : RS X W (.Assign [.Tuple [.Name x px, .Name y py] kt pt] (.Tuple [a, b] k2 pt2) pos) (sPar i j (sD d)) :=
  PS.imp (ps_par hc hN hi hj hij hx hy ha hw hs) fun D0 σ H ⟨G0, H0, G, α, S, q⟩ => ⟨G, dats α, S.gr.s, S.ev, ofR_run S q fun xs exs G' H' g S' o vs rv => by
    match xs, o, rv with
    | [x, y], o, .cons r1 (.cons r2 .nil) => exact ⟨_, _, rfl, o _ G' H' (Same.refl _) ((S'.set r1 i hwi).set r2 j hwj)⟩
    | [], o, _ => exact o.elim
    | [_], o, _ => exact o.elim
    | _ :: _ :: _ :: _, o, _ => exact o.elim⟩
/-! ### zip -/
def pairUp : List D → List D → List D
  | x :: xs, y :: ys => .tuple [x, y] :: pairUp xs ys
  | _, _ => []
theorem pairUp_get : ∀ {xs ys : List D} {i : Nat} {d : D}, (pairUp xs ys)[i]? = some d → ∃ x y, xs[i]? = some x ∧ ys[i]? = some y ∧ d = .tuple [x, y]
  | [], _, _, _, h => by simp [pairUp] at h
  | _ :: _, [], _, _, h => by simp [pairUp] at h
  | x :: xs, y :: ys, 0, d, h => by
    simp [pairUp] at h
    exact ⟨x, y, rfl, rfl, h.symm⟩
  | x :: xs, y :: ys, i + 1, d, h => by
    simp only [pairUp, List.getElem?_cons_succ] at h ⊢
    exact pairUp_get h
theorem pairUp_len : ∀ {xs ys : List D}, (pairUp xs ys).length = min xs.length ys.length
  | [], _ => by simp [pairUp]
  | _ :: _, [] => by simp [pairUp]
  | _ :: xs, _ :: ys => by
    simp only [pairUp, List.length_cons, pairUp_len (xs := xs) (ys := ys)]
    omega
def iZip (da db : Bt → Res D) : Bt → Res (List D) := fun β => (da β).bind fun x => (db β).bind fun y => match x, y with
  | .tuple xs, .tuple ys => .ok (pairUp xs ys)
  | .list xs, .list ys => .ok (pairUp xs ys)
  | _, _ => .no
theorem itd_zipT {K : PySem.W.Frag} {w : World} {G : Hp} {p q : Addr} {xs ys : List V} {ds es : List D} (h : SqT K G p xs) (h2 : SqT K G q ys) (r : RpAll K w G xs ds) (r2 : RpAll K w G ys es) : ItD K w G (RZ.ItzT K p q) (pairUp ds es) where
  go := fun i H s hi => by
    rw [pairUp_len] at hi
    obtain ⟨v, e1, _⟩ := r.get (List.getElem?_eq_getElem (by omega : i < ds.length))
    obtain ⟨u, e2, _⟩ := r2.get (List.getElem?_eq_getElem (by omega : i < es.length))
    exact ⟨xs, ys, v, u, seqT s h, seqT s h2, e1, e2⟩
  stop := fun i H s hi => ⟨xs, ys, seqT s h, seqT s h2, by
    rw [pairUp_len] at hi
    rw [r.length, r2.length]
    omega⟩
  yld := fun i d G1 H x H' hd s1 s2 y => by
    obtain ⟨dx, dy, e1, e2, rfl⟩ := pairUp_get hd
    obtain ⟨T, v, u, rfl, n, rfl, y1, y2⟩ := y
    obtain ⟨v', a1, b1⟩ := r.get e1
    obtain ⟨u', a2, b2⟩ := r2.get e2
    have e3 := y1 xs (seqT (s1.trans s2) h)
    have e4 := y2 ys (seqT (s1.trans s2) h2)
    rw [a1] at e3
    rw [a2] at e4
    cases e3
    cases e4
    have f := same_upd (o := .tup [v, u]) (s2.free n)
    exact ⟨_, Gr.new s2 n, .tup (.inl (.inl upd_same)) (.cons ((b1.mono s1).mono f) (.cons ((b2.mono s1).mono f) .nil))⟩
theorem itd_zip {K : PySem.W.Frag} {w : World} {G : Hp} {p q : Addr} {xs ys : List V} {ds es : List D} (h : SqL K G p xs) (h2 : SqL K G q ys) (r : RpAll K w G xs ds) (r2 : RpAll K w G ys es) : ItD K w G (Itz K p q) (pairUp ds es) where
  go := fun i H s hi => by
    rw [pairUp_len] at hi
    obtain ⟨v, e1, _⟩ := r.get (List.getElem?_eq_getElem (by omega : i < ds.length))
    obtain ⟨u, e2, _⟩ := r2.get (List.getElem?_eq_getElem (by omega : i < es.length))
    exact ⟨xs, ys, v, u, s.seq h, s.seq h2, e1, e2⟩
  stop := fun i H s hi => ⟨xs, ys, s.seq h, s.seq h2, by
    rw [pairUp_len] at hi
    rw [r.length, r2.length]
    omega⟩
  yld := fun i d G1 H x H' hd s1 s2 y => by
    obtain ⟨dx, dy, e1, e2, rfl⟩ := pairUp_get hd
    obtain ⟨T, v, u, rfl, n, rfl, y1, y2⟩ := y
    obtain ⟨v', a1, b1⟩ := r.get e1
    obtain ⟨u', a2, b2⟩ := r2.get e2
    have e3 := y1 xs ((s1.trans s2).seq h)
    have e4 := y2 ys ((s1.trans s2).seq h2)
    rw [a1] at e3
    rw [a2] at e4
    cases e3
    cases e4
    have f := same_upd (o := .tup [v, u]) (s2.free n)
    exact ⟨_, Gr.new s2 n, .tup (.inl (.inl upd_same)) (.cons ((b1.mono s1).mono f) (.cons ((b2.mono s1).mono f) .nil))⟩
theorem rizip {elts : List Expr} {kk : Nat} {p tpos : Pos} (hm : X.mg "zip" = none) (ha : RE X W a da) (hb : RE X W b db) (hg : Gl X "zip" := by rfl) (hs1 : starEach [a, b] X.env = (false, eval a X.env) :: starEach [b] X.env := by rfl) (hs3 : starEach [b] X.env = (false, eval b X.env) :: starEach [] X.env := by rfl)
    (hpl : (backTo pos (starEach [b] X.env)).any (·.1) = false := by rfl) : RI X W (.Tuple elts kk tpos) (.Call (.Name "zip" p) [a, b] [] pos) (iZip da db) :=
  PI.imp (RZ.pi_zipA hg hm (pa_cons ha (pa_cons hb pa_nil hs3) hs1) hs1 hpl) fun σ H R h => by
    obtain ⟨G, β, s, ev, rp⟩ := h
    refine ⟨G, β, s, ev, rp.bind fun x ex G1 H1 g1 rp1 v rv => ?_⟩
    refine ⟨G1, β, g1.s, ev.mono g1.g, rp1.bind fun y ey G2 H2 g2 rp2 u ru => ?_⟩
    cases rv with
    | tup hx rx =>
      cases ru with
      | tup hy ry => exact ⟨_, _, _, _, rfl, .inr ⟨seqT (g2.g.trans g2.s) hx, seqT g2.s hy, rp2.here (Gr.refl g2.s) _ (itd_zipT (seqT g2.g hx) hy (RpAll.mono g2.g rx) ry)⟩⟩
      | _ => exact rp2.elim
    | lst hx rx =>
      cases ru with
      | lst hy ry => exact ⟨_, _, _, _, rfl, .inl ⟨SqL.of (g2.s _ _ (g2.g _ _ hx)), SqL.of (g2.s _ _ hy), rp2.here (Gr.refl g2.s) _ (itd_zip (SqL.of (g2.g _ _ hx)) (SqL.of hy) (RpAll.mono g2.g rx) ry)⟩⟩
      | _ => exact rp2.elim
    | _ => cases ru <;> exact rp2.elim
end
end DL

/-! DL14: enumerate of lists and tuples. -/
namespace DL
open PySem PySem.Spec PyProof.Rows L2
/-- enumerate.__new__ over a tuple -/
theorem newEnumT (t : Addr) (its : Array Value) (k : Nat) (dc : Option Addr) (slots : Array (Option Value)) : Meets (Builtin.«enumerate.__new__» ⟨[.type "enumerate", .ref t], []⟩) (fun _ R z => z.heap.get? t = some { cls := .type "tuple", dict := dc, data := .seq its k, slots := slots } ∧
      R (.ok (.ret (.ref (z.heap.push { cls := .type "tuple_iterator", data := .fields #[.ref t, .int 0 0] }).objs.size)))
        { z with heap := (z.heap.push { cls := .type "tuple_iterator", data := .fields #[.ref t, .int 0 0] }).push { cls := .type "enumerate", data := .fields #[.none, .bool false, .ref z.heap.objs.size, rawInt 0, .none, .none] } }) :=
  .of_wp fun prog w A R s hh => by
    obtain ⟨hp, g, d, tk, os⟩ := s; obtain ⟨hl, h⟩ := hh
    have hsub := sub_enumerate; have hT : Heap.IsTuple (Shared.heap ⟨hp, g, d, tk, os⟩) t its := ⟨_, hl, rfl, k, rfl⟩
    wp_walk using AutoSeq1.wpAny_loadPart' hl
    refine wpAny_stack_any fun st => wpAny_pure ?_
    split
    · rename_i c _ _ _ _ _
      cases (c == Value.type "enumerate")
      · wp_walk using AutoSeq1.wpAny_loadPart' hl, wpAny_pyIter_tuple hT
        exact ⟨_, rfl, h⟩
      · wp_walk using AutoSeq1.wpAny_loadPart' hl, wpAny_pyIter_tuple hT
        exact ⟨_, rfl, h⟩
    · wp_walk using AutoSeq1.wpAny_loadPart' hl, wpAny_pyIter_tuple hT
      exact ⟨_, rfl, h⟩
theorem callEnumT {prog : Program} {w : World} {A : Around} {E : Value → Shared → Prop} {s : Shared} {t : Addr} {its : Array Value} {Q : Value → Shared → Prop} (hT : s.heap.IsTuple t its)
    (h : ∀ h', IsEnum h' (s.heap.objs.size + 1) s.heap.objs.size 0 .none → h'.IsTupleIter s.heap.objs.size t 0 → (∀ b o, s.heap.get? b = some o → h'.get? b = some o) → Q (.ref (s.heap.objs.size + 1)) { s with heap := h' }) :
    wpAny (model prog w) A (call (.type "enumerate") [.ref t]) Q E s := by
  obtain ⟨⟨c, dct, dt, slots⟩, hl, hc, n, hd⟩ := hT
  have hc : c = .type "tuple" := hc
  have hd : dt = .seq its n := hd
  subst hc hd
  refine callType_new F.called_enumerate (by decide) (F.typeCall_enumerate_1 _) (F.newCall_enumerate_1 _) (fun obj => F.args_object_init_2 obj _) F.entry_enumerate_new (newEnumT t its n dct slots) ⟨hl, ?_⟩
  have z1 : (s.heap.push { cls := .type "tuple_iterator", data := .fields #[.ref t, .int 0 0] }).objs.size = s.heap.objs.size + 1 := Heap.size_push ..
  show _ ∧ Q (.ref _) _
  rw [z1]
  have he : IsEnum ((s.heap.push { cls := .type "tuple_iterator", data := .fields #[.ref t, .int 0 0] }).push { cls := .type "enumerate", data := .fields #[.none, .bool false, .ref s.heap.objs.size, rawInt 0, .none, .none] }) (s.heap.objs.size + 1) s.heap.objs.size 0 .none := by
    have q := Heap.get?_push_size (s.heap.push { cls := .type "tuple_iterator", data := .fields #[.ref t, .int 0 0] }) (o := { cls := .type "enumerate", data := .fields #[.none, .bool false, .ref s.heap.objs.size, rawInt 0, .none, .none] }) rfl
    rw [z1] at q
    exact q
  exact ⟨⟨_, he, rfl⟩, h _ he ⟨_, Heap.get?_push_of_some _ (Heap.get?_push_size _ rfl), rfl, rfl⟩ fun b o x => Heap.get?_push_of_some _ (Heap.get?_push_of_some _ x)⟩
/-- the tuple at a, each item in a new pair with its place -/
def IteT (K : PySem.W.Frag) (a : Addr) (n : Nat) : It :=
  ⟨fun i H => ∃ (xs : List V) (x : V), SqT K H a xs ∧ xs.length = n ∧ xs[i]? = some x, fun i H v H' => ∃ T x, v = .ref T ∧ H T = none ∧ H' = upd H T (.tup [.int (i : Nat), x]) ∧ ∀ ys, SqT K H a ys → ys[i]? = some x, fun i H => ∃ xs : List V, SqT K H a xs ∧ xs.length = n ∧ n ≤ i⟩
theorem turnEnumT {P : Program} {w : World} {K : PySem.W.Frag} {elts : List Expr} {kk : Nat} {tpos : Pos} {a e it : Addr} {n : Nat} (hae : a ≠ e) (hai : a ≠ it) :
    Turn P w K (.Tuple elts kk tpos) (IteT K a n) [e, it] e (fun i h => (∃ old, IsEnum h e it ((i : Nat) : Int) old) ∧ h.IsTupleIter it a i ∧ e ≠ it ∧ i ≤ n) where
  mem := by simp
  obj := fun i h st b hb => by
    obtain ⟨⟨old, he⟩, ⟨o, ho, hc, hd⟩, _⟩ := st
    have hb' : b = e ∨ b = it := by simpa using hb
    rcases hb' with rfl | rfl
    · refine ⟨_, he, fun v q => ?_⟩
      cases q
    · refine ⟨o, ho, fun v q => ?_⟩
      rw [hd] at q
      cases q
  keep := fun i h h' st k => let ⟨⟨old, he⟩, hi, hne, hin⟩ := st; ⟨⟨old, k e (by simp) _ he⟩, hi.at fun o q => k it (by simp) o q, hne, hin⟩
  item := by
    intro X hP hw hK hc i pins s σ H E I hf st hg
    subst hP hw hK
    obtain ⟨⟨old, he⟩, hit, hne, hin⟩ := st
    obtain ⟨xs, x, hq, hln, hx⟩ := hg
    obtain ⟨its, rv, p, hz⟩ := I.tuple hq
    obtain ⟨u, hu, ru⟩ := rv.get hx
    have hel : e < s.heap.objs.size := Heap.lt_size he
    have hil : it < s.heap.objs.size := by obtain ⟨_, q, _⟩ := hit; exact Heap.lt_size q
    have hlt : i < its.toArray.size := by
      have := (List.getElem?_eq_some_iff.mp hu).1
      simpa using this
    have hT : s.heap.IsTuple a its.toArray := p
    refine wpAny_pyNext_enum_itemD (Draws.tuple (A := X.A.in1) (prog := X.prog) (w := X.w) (I.ok.hd hc) it a hai its.toArray) he ⟨hit, hT⟩ hlt hne (by simp [hne, Ne.symm hae]) fun v h' tk pv ho st' hT' hsz hk => ?_
    have ev : v = u := by
      have : its.toArray[i]? = some v := pv
      rw [List.getElem?_toArray, hu] at this
      exact (Option.some.inj this).symm
    subst ev
    refine ⟨_, rfl, wpAny_letOwnedTupleGo_enum (s := { s with heap := h', toks := tk + 1 }) ho fun h2 he2 sb => ?_⟩
    have hP := (sb.2 _ (Nat.ne_of_gt hel)).trans hT'
    have new : ObjOk X.prog X.w (upd H s.heap.objs.size (.tup [.int (i : Nat), x])) h2 s.heap.objs.size (.tup [.int (i : Nat), x]) := ⟨by show 2 ≤ sizeLine; decide, [.int i tk, v], .cons ⟨_, rfl⟩ (.cons ru .nil), ⟨_, hP, rfl, _, rfl⟩⟩
    have I1 : Inv X pins σ (upd H s.heap.objs.size (.tup [.int (i : Nat), x])) { s with heap := h2, toks := tk + 1 } :=
      I.turnedNew (ch := [e, it]) (fun b ob hb q => (sb.2 b (fun z => hb (by simp [z]))).trans (hk b ob (fun z => hb (by simp [z])) (fun z => hb (by simp [z])) q)) hf (Nat.le_refl _) new
    refine ⟨.ref s.heap.objs.size, _, I1, rfl, ⟨_, x, rfl, I.hok.fresh (Nat.le_refl _), rfl, fun ys hy => by rw [I.tuple_inj hy hq]; exact hx⟩, ⟨⟨v, ?_⟩, st'.1.at fun o q => (sb.2 it (Ne.symm hne)).trans q, hne, by have := (List.getElem?_eq_some_iff.mp hx).1; omega⟩, fun b hb => ?_⟩
    · rw [show ((i + 1 : Nat) : Int) = (i : Int) + 1 by omega]
      exact he2
    · have hb' : b = e ∨ b = it := by simpa using hb
      rw [upd_ne (Nat.ne_of_lt (by rcases hb' with rfl | rfl <;> assumption))]
      exact (hf b hb).1
  done := by
    intro X hP hw hK hc i pins s σ H E I hf st hg
    subst hP hw hK
    obtain ⟨⟨old, he⟩, hit, hne, hin⟩ := st
    obtain ⟨xs, hq, hln, hx⟩ := hg
    obtain ⟨its, rv, p, hz⟩ := I.tuple hq
    obtain ⟨f0, f1, f2, f3, f4, f5⟩ := hf it (by simp)
    have hl := rv.length
    have ei : i = its.toArray.size := by simp; omega
    have hT : s.heap.IsTuple a its.toArray := p
    exact wpAny_pyNext_enum_endD (Draws.tuple (A := X.A.in1) (prog := X.prog) (w := X.w) (I.ok.hd hc) it a hai its.toArray) he ⟨ei ▸ hit, hT⟩ fun h' eb => ⟨rfl, I.turned (t' := s.toks) (fun b o hb q => eb b o hb q) f0 f1 f3 f4 f5⟩
  self := fun A i s Q E st h => let ⟨⟨_, he⟩, _⟩ := st; wpAny_pyIter_enum he h
/-- enumerate(e), e a list or a tuple -/
def iEnumA (K : PySem.W.Frag) (ta : TA) : TI := fun σ H R => ta σ H fun vs H1 => ∃ a xs, vs = [.ref a] ∧ SqT K H1 a xs ∧ R (IteT K a xs.length) H1
theorem pi_enumT {X : Cx} {e : Expr} {ta : TA} {p pos tpos : Pos} {elts : List Expr} {kk : Nat} (hg : Gl X "enumerate") (hm : X.mg "enumerate" = none) (ha : PA X [e] ta) (hs : starEach [e] X.env = [(false, eval e X.env)] := by rfl) :
    PI X (.Tuple elts kk tpos) (.Call (.Name "enumerate" p) [e] [] pos) (iEnumA X.K ta) := by
  refine ⟨fun pins s σ H R I h => ?_⟩
  refine Call_ (ld_blt I hg hm boot_enumerate (PyProof.Rows.callWith_type1 (thn (ha.run pos pins s σ H _ I h) fun us s1 ⟨vs, H1, I1, r1, q1⟩ => ?_) hs rfl))
  obtain ⟨a, xs, rfl, hq, q⟩ := q1
  cases r1 with
  | cons r rr =>
    cases rr
    cases r
    obtain ⟨its, rv, pt, hz⟩ := I1.tuple hq
    have hT : s1.heap.IsTuple a its.toArray := pt
    have hal : a < s1.heap.objs.size := by obtain ⟨_, w1, _⟩ := hT; exact Heap.lt_size w1
    refine callEnumT hT fun h' he hit hk => wpAny_pyIter_enum he ?_
    have I2 : Inv X pins σ H1 { s1 with heap := h' } := I1.kept (t' := s1.toks) hk
    refine ⟨s1.heap.objs.size + 1, [s1.heap.objs.size + 1, s1.heap.objs.size], _, _, H1, rfl, I2, turnEnumT (n := xs.length) (it := s1.heap.objs.size) (Nat.ne_of_lt (Nat.lt_succ_of_lt hal)) (Nat.ne_of_lt hal), ⟨⟨.none, he⟩, hit, Nat.succ_ne_self _, Nat.zero_le _⟩, fun b hb => ?_, q⟩
    have hb' : b = s1.heap.objs.size + 1 ∨ b = s1.heap.objs.size := by simpa using hb
    have hle : s1.heap.objs.size ≤ b := by
      rcases hb' with rfl | rfl
      · exact Nat.le_succ _
      · exact Nat.le_refl _
    exact I1.fpOk hle (I1.hok.fresh hle)
/-- each item with its place -/
def places : Nat → List D → List D
  | _, [] => []
  | i, d :: ds => .tuple [.int (i : Int), d] :: places (i + 1) ds
theorem places_len : ∀ {ds : List D} {i : Nat}, (places i ds).length = ds.length
  | [], _ => rfl
  | _ :: ds, i => congrArg Nat.succ places_len
theorem places_get : ∀ {ds : List D} {k i : Nat} {d : D}, (places k ds)[i]? = some d → ∃ x, ds[i]? = some x ∧ d = .tuple [.int ((k + i : Nat) : Int), x]
  | [], _, _, _, h => by simp [places] at h
  | x :: ds, k, 0, d, h => by
    simp [places] at h
    exact ⟨x, rfl, h.symm⟩
  | x :: ds, k, i + 1, d, h => by
    simp only [places, List.getElem?_cons_succ] at h ⊢
    obtain ⟨y, h1, h2⟩ := places_get h
    exact ⟨y, h1, by rw [h2, show k + 1 + i = k + (i + 1) by omega]⟩
theorem itd_enumT {K : PySem.W.Frag} {w : World} {G : Hp} {p : Addr} {xs : List V} {ds : List D} (h : SqT K G p xs) (r : RpAll K w G xs ds) : ItD K w G (IteT K p xs.length) (places 0 ds) where
  go := fun i H s hi => by
    rw [places_len] at hi
    obtain ⟨v, e1, _⟩ := r.get (List.getElem?_eq_getElem hi)
    exact ⟨xs, v, seqT s h, rfl, e1⟩
  stop := fun i H s hi => ⟨xs, seqT s h, rfl, by rw [places_len] at hi; rw [r.length]; exact hi⟩
  yld := fun i d G1 H x H' hd s1 s2 y => by
    obtain ⟨dx, e1, rfl⟩ := places_get hd
    obtain ⟨T, v, rfl, n, rfl, y1⟩ := y
    obtain ⟨v', a1, b1⟩ := r.get e1
    have e3 := y1 xs (seqT (s1.trans s2) h)
    rw [a1] at e3
    cases e3
    have f := same_upd (o := .tup [.int (i : Nat), v]) (s2.free n)
    refine ⟨_, Gr.new s2 n, .tup (.inl (.inl upd_same)) (.cons ?_ (.cons ((b1.mono s1).mono f) .nil))⟩
    rw [Nat.zero_add]
    exact .int _
theorem itd_enum {K : PySem.W.Frag} {w : World} {G : Hp} {p : Addr} {xs : List V} {ds : List D} (h : SqL K G p xs) (r : RpAll K w G xs ds) : ItD K w G (Ite K p) (places 0 ds) where
  go := fun i H s hi => by
    rw [places_len] at hi
    obtain ⟨v, e1, _⟩ := r.get (List.getElem?_eq_getElem hi)
    exact ⟨xs, v, s.seq h, e1⟩
  stop := fun i H s hi => ⟨xs, s.seq h, by rw [places_len] at hi; rw [r.length]; exact hi⟩
  yld := fun i d G1 H x H' hd s1 s2 y => by
    obtain ⟨dx, e1, rfl⟩ := places_get hd
    obtain ⟨T, v, rfl, n, rfl, y1⟩ := y
    obtain ⟨v', a1, b1⟩ := r.get e1
    have e3 := y1 xs ((s1.trans s2).seq h)
    rw [a1] at e3
    cases e3
    have f := same_upd (o := .tup [.int (i : Nat), v]) (s2.free n)
    refine ⟨_, Gr.new s2 n, .tup (.inl (.inl upd_same)) (.cons ?_ (.cons ((b1.mono s1).mono f) .nil))⟩
    rw [Nat.zero_add]
    exact .int _
def iEnumD (da : Bt → Res D) : Bt → Res (List D) := fun β => (da β).bind fun x => match x with
  | .tuple xs => .ok (places 0 xs)
  | .list xs => .ok (places 0 xs)
  | _ => .no
theorem rienum {X : Cx} {W : WA} {a : Expr} {da : Bt → Res D} {elts : List Expr} {kk : Nat} {p pos tpos : Pos} (hm : X.mg "enumerate" = none) (ha : RE X W a da) (hg : Gl X "enumerate" := by rfl) (hs1 : starEach [a] X.env = (false, eval a X.env) :: starEach [] X.env := by rfl)
    (hs : starEach [a] X.env = [(false, eval a X.env)] := by rfl) : RI X W (.Tuple elts kk tpos) (.Call (.Name "enumerate" p) [a] [] pos) (iEnumD da) :=
  PI.imp (pior (pi_enum hg hm (pa_cons ha pa_nil hs1) hs) (pi_enumT hg hm (pa_cons ha pa_nil hs1) hs)) fun σ H R h => by
    obtain ⟨G, β, s, ev, rp⟩ := h
    cases q : da β with
    | no => unfold iEnumD at rp; rw [q] at rp; exact rp.elim
    | er e =>
      refine Or.inl ⟨G, β, s, ev, ?_⟩
      unfold iEnumD at rp
      rw [q] at rp ⊢
      exact rp
    | ok x =>
      unfold iEnumD at rp
      rw [q] at rp
      cases x with
      | tuple xs =>
        refine Or.inr ⟨G, β, s, ev, ?_⟩
        rw [q]
        intro G' H' g v rv
        cases rv with
        | tup hx rx => exact ⟨_, _, rfl, seqT g.s hx, rp.here g _ (itd_enumT hx rx)⟩
      | list xs =>
        refine Or.inl ⟨G, β, s, ev, ?_⟩
        rw [q]
        intro G' H' g v rv
        cases rv with
        | lst hx rx => exact ⟨_, _, rfl, SqL.of (g.s _ _ hx), rp.here g _ (itd_enum (SqL.of hx) rx)⟩
      | _ => exact rp.elim
end DL

/-! DL15: written tuples and dicts as constants; a dict's value by key. -/
namespace DL
open PySem PySem.Spec PyProof.Rows L2
/-- what is written in K at v is d -/
def rdV (K : PySem.W.Frag) : Nat → Value → D → Bool
  | 0, _, _ => false
  | n + 1, v, d => match v, d with
    | .none, .none => true
    | .bool a, .bool b => decide (a = b)
    | .int i _, .int j => decide (i = j)
    | .str x _, .str y => decide (x = y)
    | .ref a, .tuple ds => (match K.lookup a with
      | some ⟨.type c, _, .seq its _, _⟩ => decide (c = "tuple") && (decide (its.size ≤ sizeLine) && (decide (its.size = ds.length) && (its.toList.zip ds).all fun q => rdV K n q.1 q.2))
      | _ => false)
    | _, _ => false
theorem rdAll {K : PySem.W.Frag} {w : World} {n : Nat} (ih : ∀ {v : Value} {d : D}, rdV K n v d = true → ∃ u, RelV u v ∧ ∀ G, Rp K w G u d) : ∀ {vs : List Value} {ds : List D}, vs.length = ds.length → ((vs.zip ds).all fun q => rdV K n q.1 q.2) = true → ∃ us, Vals us vs ∧ ∀ G, RpAll K w G us ds
  | [], [], _, _ => ⟨[], .nil, fun _ => .nil⟩
  | [], _ :: _, h, _ => by cases h
  | _ :: _, [], h, _ => by cases h
  | v :: vs, d :: ds, h, k => by
    rw [List.zip_cons_cons, List.all_cons, Bool.and_eq_true] at k
    obtain ⟨u, r, p⟩ := ih k.1
    obtain ⟨us, rs, ps⟩ := rdAll ih (Nat.succ.inj h) k.2
    exact ⟨u :: us, .cons r rs, fun G => .cons (p G) (ps G)⟩
theorem rdV_ok {K : PySem.W.Frag} {w : World} : ∀ {n : Nat} {v : Value} {d : D}, rdV K n v d = true → ∃ u, RelV u v ∧ ∀ G, Rp K w G u d := by
  intro n
  induction n with
  | zero => intro v d h; cases h
  | succ n ih =>
    intro v d h
    unfold rdV at h
    split at h
    · exact ⟨.non, rfl, fun _ => .non⟩
    · cases of_decide_eq_true h
      exact ⟨.bl _, rfl, fun _ => .bl _⟩
    · cases of_decide_eq_true h
      exact ⟨.int _, ⟨_, rfl⟩, fun _ => .int _⟩
    · cases of_decide_eq_true h
      exact ⟨.str _, ⟨_, rfl⟩, fun _ => .str _⟩
    · rename_i a ds
      split at h
      · rename_i c od its m sl hk
        simp only [Bool.and_eq_true, decide_eq_true_eq] at h
        obtain ⟨h1, h2, h3, h4⟩ := h
        obtain ⟨us, rs, ps⟩ := rdAll (w := w) (ds := ds) ih (by simpa using h3) h4
        exact ⟨.ref a, rfl, fun G => .tup (.inr ⟨_, its, m, hk, congrArg Value.type h1, rfl, h2, rs⟩) (ps G)⟩
      · cases h
    · cases h
/-- a constant of the module -/
def cstB (x : Str) (d : D) (K : PySem.W.Frag) : Bool := match PySem.W.nsIn K mainGlobals x with
  | some (some v) => rdV K 6 v d
  | _ => false
theorem cstB_ok {K : PySem.W.Frag} {w : World} {h : Heap} {mg : Str → Option Value} (X : K.In h) (G : h.Ns mainGlobals mg) {x : Str} {d : D} (c : cstB x d K = true) : Cst K w mg x d := by
  unfold cstB at c
  split at c
  · rename_i v e
    obtain ⟨u, r, p⟩ := rdV_ok (w := w) c
    exact ⟨u, v, PySem.W.mg_of X G e, r, p⟩
  · cases c
/-- a dict of the module: its values -/
def dicB (x : Str) (ps : List (Str × D)) (K : PySem.W.Frag) : Bool := He.eqO (PySem.W.nsIn K mainGlobals x) (some (some (.ref (He.ga K x)))) && ps.all fun q => match PySem.W.nsIn K (He.ga K x) q.1 with
  | some (some v) => rdV K 6 v q.2
  | _ => false
theorem dicVals {K : PySem.W.Frag} {w : World} {a : Addr} : ∀ {ps : List (Str × D)}, (ps.all fun q => match PySem.W.nsIn K a q.1 with
  | some (some v) => rdV K 6 v q.2
  | _ => false) = true → ∃ kvs : List (Str × V), (∀ q ∈ kvs, ∃ u, PySem.W.nsIn K a q.1 = some (some u) ∧ RelV q.2 u) ∧ kvs.map (·.1) = ps.map (·.1) ∧ ∀ G, RpAll K w G (kvs.map (·.2)) (ps.map (·.2))
  | [], _ => ⟨[], by simp, rfl, fun _ => .nil⟩
  | (k, d) :: ps, h => by
    rw [List.all_cons, Bool.and_eq_true] at h
    obtain ⟨kvs, h1, h2, h3⟩ := dicVals (ps := ps) h.2
    have c := h.1
    split at c
    · rename_i v e
      obtain ⟨u, r, p⟩ := rdV_ok (w := w) c
      refine ⟨(k, u) :: kvs, fun q hq => ?_, by simp [h2], fun G => .cons (p G) (h3 G)⟩
      rcases List.mem_cons.mp hq with rfl | hq
      · exact ⟨v, e, r⟩
      · exact h1 q hq
    · cases c
def dicD (ps : List (Str × D)) : D := .dict (ps.map fun q => (PyData.str q.1, q.2))
theorem zip_map {ps : List (Str × D)} {kvs : List (Str × V)} (h : kvs.map (·.1) = ps.map (·.1)) : (kvs.map fun q => PyData.str q.1).zip (ps.map (·.2)) = ps.map fun q => (PyData.str q.1, q.2) := by
  have e : (kvs.map fun q => PyData.str q.1) = ps.map fun q => PyData.str q.1 := by
    have := congrArg (List.map PyData.str) h
    rw [List.map_map, List.map_map] at this
    exact this
  rw [e]
  clear e h
  induction ps with
  | nil => rfl
  | cons p ps ih => simp [ih]
theorem dicB_ok {K : PySem.W.Frag} {w : World} {h : Heap} {mg : Str → Option Value} (X : K.In h) (G : h.Ns mainGlobals mg) {x : Str} {ps : List (Str × D)} (c : dicB x ps K = true) (T : ∃ es n, L2.KDict K w (He.ga K x) es n) : Cst K w mg x (dicD ps) := by
  obtain ⟨c1, c2⟩ := Bool.and_eq_true_iff.mp c
  obtain ⟨kvs, h1, h2, h3⟩ := dicVals (w := w) c2
  obtain ⟨es, n, kd⟩ := T
  refine ⟨.ref (He.ga K x), _, PySem.W.mg_of X G (He.eqO_ok c1), rfl, fun G => ?_⟩
  have := Rp.dic (K := K) (w := w) (H := G) (a := He.ga K x) (kvs := kvs) (ds := ps.map (·.2)) ⟨es, n, kd, h1⟩ (h3 G)
  rw [zip_map h2] at this
  exact this
/-! ### a value by key -/
def dGet : List (D × D) → Str → Option D
  | (.str y, d) :: r, x => if y = x then some d else dGet r x
  | _, _ => none
def fDix : D → D → Option D
  | .dict ps, .str x => dGet ps x
  | _, _ => none
theorem dGet_zip {K : PySem.W.Frag} {w : World} {G : Hp} {x : Str} {d : D} : ∀ {kvs : List (Str × V)} {ds : List D}, RpAll K w G (kvs.map (·.2)) ds → dGet ((kvs.map fun q => PyData.str q.1).zip ds) x = some d → ∃ q ∈ kvs, q.1 = x ∧ Rp K w G q.2 d
  | [], _, _, e => by simp [dGet] at e
  | q :: kvs, _, .cons r rr, e => by
    rw [List.map_cons, List.zip_cons_cons, dGet] at e
    split at e
    · rename_i h
      cases e
      exact ⟨q, List.mem_cons_self .., h, r⟩
    · obtain ⟨p, h1, h2, h3⟩ := dGet_zip rr e
      exact ⟨p, List.mem_cons_of_mem _ h1, h2, h3⟩
section
variable {X : Cx} {W : WA} {a b : Expr} {da db : Bt → Res D} {pos : Pos}
theorem ok_dix : OkR2 X (rIxD X.K X.w) fDix := by
  intro x y d e v u G H Q s rv ru q
  cases ru with
  | str z =>
    cases rv with
    | scr hx rx => simp [fDix, dGet] at e
    | @dic p kvs ds hd rd =>
      obtain ⟨kv, h1, rfl, h3⟩ := dGet_zip rd (show dGet _ z = some d from e)
      obtain ⟨es, n, kd, hv⟩ := hd
      obtain ⟨u0, e1, e2⟩ := hv kv h1
      exact ⟨p, _, kv.2, rfl, rfl, ⟨es, n, u0, kd.at_, kd.lit, e1, e2⟩, q _ _ (Gr.refl s) _ h3⟩
    | _ => cases e
  | _ => cases rv <;> cases e
theorem rixd (ha : RE X W a da) (hb : RE X W b db) (hs : PlainIx b := by exact fun _ _ => rfl) : RE X W (.Subscript a b pos) (d2 fDix da db) := rix ix_kdict ok_dix ha hb hs
end
end DL

/-! DX1: an own exception whose __init__ says super().__init__('..') and stores its one argument: how it is made. -/
namespace PySem
namespace SupX
open PySem.W PySem.Calls PyProof.Rows PySem.HandSPX
def iA (x : Str) (p1 p2 : Pos) : Arguments := { posonlyargs := [], args := [{ arg := "self", annotation := none, pos := p1 }, { arg := x, annotation := none, pos := p2 }], vararg := none, kwonlyargs := [], kw_defaults := [], kwarg := none, defaults := [] }
def iB (x m : Str) (j : Nat) (a1 a2 a3 a4 a5 a6 q1 q2 q3 q4 : Pos) : List Stmt := [.Expr (.Call (.Attribute (.Call (.Name "super" a1) [] [] a2) "__init__" a3) [.Constant (.str m) j a4] [] a5) a6, .Assign [.Attribute (.Name "self" q1) x q2] (.Name x q3) q4]
def iS (x : Str) : Scope := { kind := .function, names := [(PySem.Str.ofString "self", .local), (x, .local), (PySem.Str.ofString "__class__", .free), (PySem.Str.ofString "super", .globalImplicit)], isGenerator := false, isCoroutine := false, more := [] }
/-- what is asked of the field's name: by decide -/
structure FName (x : Str) : Prop where
  l0 : (iS x).names.lookup ("self" : Str) = some .local
  l1 : (iS x).names.lookup x = some .local
  l2 : (iS x).names.lookup ("__class__" : Str) = some .free
  l3 : (iS x).names.lookup ("super" : Str) = some .globalImplicit
  ns : (x == ("self" : Str)) = false
  nd : (x == ("__debug__" : Str)) = false
  bd : ∀ (qual : Str) (bd : List Stmt) (doc pm : Value) (an : Option Addr) (cdv ct : Value) (cc : Addr) (p1 p2 : Pos) (a v : Value), bindArgs (ksFn "__init__" qual (iA x p1 p2) bd (iS x) .none .none doc pm an cdv ct cc) ⟨[a, v], []⟩ = pure [(("self" : Str), a), (x, v)]
  ev : ∀ (qual m : Str) (L f : Addr) (cdv : Value) (cc : Addr) (j : Nat) (a1 a2 a3 a4 a5 : Pos), (a3.endLine == a5.line) = true → ∃ pl, eval (.Call (.Attribute (.Call (.Name "super" a1) [] [] a2) "__init__" a3) [.Constant (.str m) j a4] [] a5) (ksEnv qual (iS x) L f cdv cc) = (do
      let ov ← attributeBase (.Call (.Name "super" a1) [] [] a2) "__init__" (ksEnv qual (iS x) L f cdv cc) (eval (.Call (.Name "super" a1) [] [] a2) (ksEnv qual (iS x) L f cdv cc))
      standAt a3.atName
      let (fu, first) ← holding [ov] (getMethod ov "__init__" pl)
      callWith a5 fu first (backTo a5 (starEach [.Constant (.str m) j a4] (ksEnv qual (iS x) L f cdv cc))) [])
theorem pos_ok {o : Expr} {env : Env} {a3 a5 : Pos} (h : (a3.endLine == a5.line) = true) : methodCallPos true o env a3 a5 = pure a5 := by
  unfold methodCallPos
  rw [h]
  rfl
theorem fname_name : FName "name" := ⟨by decide, by decide, by decide, by decide, by decide, by decide, by intros; rfl, fun qual m L f cdv cc j a1 a2 a3 a4 a5 h => by
  refine ⟨(do return (← importBound (.Call (.Name "super" a1) [] [] a2) (ksEnv qual (iS "name") L f cdv cc)).getD true), ?_⟩
  show (attributeBase _ _ _ _ >>= fun ov => standAt a3.atName >>= fun _ => (holding [ov] (getMethod ov "__init__" _) >>= fun fx => methodCallPos true (.Call (.Name "super" a1) [] [] a2) (ksEnv qual (iS "name") L f cdv cc) a3 a5 >>= fun cp => callWith cp fx.1 fx.2 _ _)) = _
  rw [pos_ok h]
  rfl⟩
theorem fname_line : FName "line" := ⟨by decide, by decide, by decide, by decide, by decide, by decide, by intros; rfl, fun qual m L f cdv cc j a1 a2 a3 a4 a5 h => by
  refine ⟨(do return (← importBound (.Call (.Name "super" a1) [] [] a2) (ksEnv qual (iS "line") L f cdv cc)).getD true), ?_⟩
  show (attributeBase _ _ _ _ >>= fun ov => standAt a3.atName >>= fun _ => (holding [ov] (getMethod ov "__init__" _) >>= fun fx => methodCallPos true (.Call (.Name "super" a1) [] [] a2) (ksEnv qual (iS "line") L f cdv cc) a3 a5 >>= fun cp => callWith cp fx.1 fx.2 _ _)) = _
  rw [pos_ok h]
  rfl⟩
/-- what the written part says of the class, at C, and of its __init__, at fI -/
structure SupTxt (prog : Program) (K : Frag) (mg : Str → Option Value) (n x m : Str) (C fI : Addr) : Prop where
  gC : mg n = some (.ref C)
  cls : ∃ nm q N bs bm sn sub ab col dd k0 k1 k2 k3 k5, K.lookup C = some (excClassObj nm q C N bs bm true sn sub ab col dd k0 k1 k2 k3 k5 "ValueError.__new__") ∧ refsVE bm = true
  sa : findIn K (.ref C) "__setattr__" = some (some (.builtin "object.__setattr__"))
  ga : findIn K (.ref C) "__getattribute__" = some (some (.builtin "BaseException.__getattribute__"))
  gg : findIn K (.ref C) "__getattr__" = some none
  noN : findIn K (.ref C) x = some none
  iC : findIn K (.ref C) "__init__" = some (some (.ref fI))
  tC : typeIn K (.ref fI) = some (.type "function")
  kC : keepIn K (.ref C) = true
  exC : subIn K (.ref C) (.type "BaseException") = some true
  exV : subIn K (.ref C) (.type "ValueError") = some true
  tyC : typeIn K (.ref C) = some (.type "type")
  hdC : hasDictIn K C = true
  sup : ks_superIn K C C "__init__" = some (some (.builtin "ValueError.__init__"))
  init : excInitIn K C veTail "ValueError.__new__" = true
  mro : mroIn K C (.ref C) = some true
  opq : nsIn K cStatics "thirdparty.any" = some none
  sg : mg "super" = none
  top : (prog.main.scope.names.lookup ("super" : Str)).isSome = false
  fn : ∃ (oc : Value) (od : Option Addr) (qual : Str) (doc pm : Value) (an : Option Addr) (cda cc : Addr) (ct : Value) (osl : Array (Option Value)) (p1 p2 : Pos) (j : Nat) (a1 a2 a3 a4 a5 a6 q1 q2 q3 q4 : Pos),
    K.lookup fI = some ⟨oc, od, .func (ksFn "__init__" qual (iA x p1 p2) (iB x m j a1 a2 a3 a4 a5 a6 q1 q2 q3 q4) (iS x) .none .none doc pm an (.ref cda) ct cc), osl⟩ ∧ (a3.endLine == a5.line) = true ∧ codeIn K (.ref cda) qual = true ∧
    (∃ (kc : Value) (kd : Option Addr) (vs : Array Value) (ks : Array (Option Value)) (file : Str) (tf : Tok), K.lookup cda = some ⟨kc, kd, .fields vs, ks⟩ ∧ vs[2]? = some (.str file tf) ∧ ((prog.main.file : Str) == file) = true) ∧
    ∃ (lc : Value) (ld : Option Addr) (ls : Array (Option Value)), K.lookup cc = some ⟨lc, ld, .cell (some (.ref C)), ls⟩
theorem look_self {x : Str} (F : FName x) (a v : Value) : (List.reverse [(("self" : Str), a), (x, v)]).lookup ("self" : Str) = some a := by
  have h : (("self" : Str) == x) = false := by
    cases e : (("self" : Str) == x) with
    | false => rfl
    | true => have := F.ns; rw [← beq_iff_eq.mp e] at this; simp at this
  simp [List.lookup, h]
theorem look_x {x : Str} (a v : Value) : (List.reverse [(("self" : Str), a), (x, v)]).lookup x = some v := by simp [List.lookup]
/-- what __init__ leaves of a fresh exception at e; h: the heap ahead of it -/
structure InitEnd (h h' : Heap) (e C dx t1 : Addr) (x : Str) (v : Value) : Prop where
  keep : ∀ b o, h.get? b = some o → h'.get? b = some o
  obj : h'.get? e = some { cls := .ref C, dict := some dx, data := .fields #[.ref t1, .none, .none, .none, .bool false, .none] }
  dbig : h.objs.size ≤ dx
  dne : dx ≠ e
  ns : h'.Ns1 dx (fun y => if y = x then some v else none)
/-- such an exception, made -/
structure Made (h h' : Heap) (e C d : Addr) (x : Str) (v : Value) : Prop where
  keep : ∀ b o, h.get? b = some o → h'.get? b = some o
  new : h.objs.size ≤ e
  obj : ∃ oe vs, h'.get? e = some oe ∧ oe.cls = .ref C ∧ oe.dict = some d ∧ oe.data = .fields vs ∧ vs[1]? = some .none
  dbig : h.objs.size ≤ d
  dne : d ≠ e
  ns : h'.Ns1 d (fun y => if y = x then some v else none)
section
variable {prog : Program} {w : World} {A : Around} {E : Value → Shared → Prop} {R : Result → Shared → Prop} {s : Shared} {K : Frag} {mg : Str → Option Value} {C fI : Addr} {n x m : Str}
theorem sup_init (F' : FName x) (T : SupTxt prog K mg n x m C fI) {h₀ : Heap} {e t0 : Addr} {v : Value} (X : K.In h₀) (G : h₀.Ns mainGlobals mg) (B : ∃ mb, h₀.Ns builtinsNs mb ∧ ∀ y : Str, y ≠ "__name__" → mb y = bootBuiltins y) (hlim : h₀.NoLimit)
    (k0 : ∀ b o, h₀.get? b = some o → s.heap.get? b = some o) (hn0 : h₀.get? e = none) (hsz : h₀.objs.size ≤ s.heap.objs.size) (hx : s.heap.get? e = some (excO C t0)) (hroom : A.depth < recursionLimit)
    (hq : ∀ h' tk dx t1, InitEnd h₀ h' e C dx t1 x v → R (.ok (.ret .none)) { s with heap := h', toks := tk }) :
    codeAny (model prog w) A (.call (.ref fI) ⟨[.ref e, v], []⟩) R s := by
  obtain ⟨oc, od, qual, doc, pm, an, cda, cc, ct, osl, p1, p2, j, a1, a2, a3, a4, a5, a6, q1, q2, q3, q4, ho, hline, hcd, ⟨kc, kd, vs, ks, file, tf, hcode, hvs, hfile⟩, lc, ld, ls, hcell⟩ := T.fn
  obtain ⟨nm, q, N, bs, bm, sn, sub, ab, col, dd, k0', k1, k2, k3, k5, hC, hbm⟩ := T.cls
  obtain ⟨mb, B1, B2⟩ := B
  have hcl : clsIn K C = some { name := nm, bases := bs, mro := .ref C :: bm, ns := N, qualname := q, hasDict := true, slotNames := sn, subclasses := sub, abstract := ab, collection := col, hasDel := false } := by unfold clsIn; rw [hC] <;> rfl
  have XS : K.In s.heap := X.keeps k0
  refine ks_codeAny_call_defAt (binds := [("self", .ref e), (x, v)]) hroom (XS _ _ ho) rfl (hlim.keeps k0) (codeRec_of XS hcd) rfl (BindsTo.of_eq (F'.bd _ _ _ _ _ _ _ _ _ _ _ _)) ?_ ?_ (fun h₁ hns k => ?_) rfl rfl rfl
  · intro y hy
    have hy' : y ∈ (iS x).names := hy
    simp only [iS, List.mem_cons, List.not_mem_nil, or_false] at hy'
    rcases hy' with rfl | rfl | rfl | rfl <;> exact fun z => nomatch z
  · intro y hy
    simp only [List.mem_cons, List.not_mem_nil, or_false] at hy
    rcases hy with rfl | rfl
    · exact F'.l0
    · exact F'.l1
  · have hx₁ := k _ _ hx
    obtain ⟨hp, g, dr, tk, os⟩ := s
    have kk : ∀ b o, h₀.get? b = some o → h₁.get? b = some o := fun b o z => k b o (k0 b o z)
    have X₁ : K.In h₁ := X.keeps kk
    have F1 : Fr h₀ hp.objs.size h₁ (fun y => (List.reverse [(("self" : Str), Value.ref e), (x, v)]).lookup y) := ⟨hns, kk, hsz⟩
    have N1 : News h₀ hp.objs.size h₁ [(e, excObj C t0 none .none)] := fun p hp' => by
      rcases List.mem_cons.mp hp' with rfl | z
      · exact ⟨hx₁, Nat.ne_of_lt (Heap.lt_size hx), hn0⟩
      · cases z
    obtain ⟨pl, hev⟩ := F'.ev qual m hp.objs.size fI (.ref cda) cc j a1 a2 a3 a4 a5 hline
    refine ks_wpAt_execs_cons (ks_wpAt_Expr_any (ks_wpAt_MethodCall (pl := pl) ?_ hev) rfl rfl)
    refine ks_wpAt_super_base (env := ksEnv qual (iS x) hp.objs.size fI (.ref cda) cc) F'.l3 F'.l2 rfl rfl (X₁ _ _ ho) rfl rfl rfl (X₁ _ _ hcode) rfl hvs hfile T.top ?_
    refine ks_loadName_global (env := ksEnv qual (iS x) hp.objs.size fI (.ref cda) cc) rfl F'.l3 (loadGlobal_builtin (env := ksEnv qual (iS x) hp.objs.size fI (.ref cda) cc) (G.keeps kk) T.sg (B1.keeps kk) ((B2 _ (by decide)).trans (by decide +kernel)) ⟨rfl, ?_⟩)
    refine wpAny_loadName_free (env := ksEnv qual (iS x) hp.objs.size fI (.ref cda) cc) rfl F'.l2 rfl ⟨_, X₁ _ _ hcell, rfl⟩ ?_
    refine wpAny_loadName_local (env := ksEnv qual (iS x) hp.objs.size fI (.ref cda) cc) rfl F'.l0 hns (look_self F' _ _) ?_
    refine ks_wpAny_isType_cls (X₁ _ _ hC) rfl ⟨rfl, ?_⟩
    refine ks_wpAny_call_super (X₁ _ _ hC) rfl hx₁ rfl (fun c z => nomatch z) (looks_mroIn X₁ T.mro) (fun h2 e2 k2 => ?_)
    obtain ⟨F2, N2, l2⟩ := ks_newsPush (s := ⟨h₁, g, dr, tk + 2, os⟩) F1 N1 rfl e2 k2
    have I2 : InstAt h2 e (excObj C t0 none .none) C none := ⟨k2 _ _ hx₁, rfl, rfl, trivial⟩
    refine kxs_method (m := fun y => (List.reverse [(("self" : Str), Value.ref e), (x, v)]).lookup y) kxs_ValueError F2 X N2 List.mem_cons_self I2 T.opq T.sup T.exV rfl (fun u h3 F3 N3 l3 => ?_)
    refine kxs_callWith1 (h₀ := h₀) (L := hp.objs.size) N3 List.mem_cons_self (spliced_more (wpAny_Constant_str (spliced_none ⟨kxs_at N3 List.mem_cons_self, ?_⟩)) rfl) rfl rfl
    have ne1 : u ≠ e := Nat.ne_of_gt (l3 (e, excObj C t0 none .none) (List.mem_cons_of_mem _ List.mem_cons_self))
    have ne2 : h₁.objs.size ≠ e := Nat.ne_of_gt (l2 (e, excObj C t0 none .none) List.mem_cons_self)
    refine kxs_call (h₀ := h₀) (L := hp.objs.size) (m := fun y => (List.reverse [(("self" : Str), Value.ref e), (x, v)]).lookup y) F3 X N3 F.excBase_ValueError T.init List.mem_cons_self (.tail ne1 (.tail ne2 (.head (fun _ z => nomatch z)))) (by rw [sizeLine_eq]; exact (by decide : 1 ≤ 16777216)) (fun t4 h4 F4 N4 l4 => ?_)
    have hx4 : h4.get? e = some (excO C t4) := (N4 (e, excObj C t4 none .none) (by simp)).1
    have X4 : K.In h4 := X.keeps F4.keep
    show _root_.PySem.wpAt _ _ _ (execs _ _) _ _ _
    refine wpAt_of_wpAny (wpAny_execs_cons (plainObj_wpAny_Assign_Attribute (wpAny_Name (wpAny_loadName_local (env := ksEnv qual (iS x) hp.objs.size fI (.ref cda) cc) rfl F'.l1 F4.ns (look_x _ _)
      (wpAny_Name (wpAny_loadName_local (env := ksEnv qual (iS x) hp.objs.size fI (.ref cda) cc) rfl F'.l0 F4.ns (look_self F' _ _) ?_) (by decide))) F'.nd) rfl))
    refine set_plain X4 (ox := excO C t4) (od := none) ⟨hx4, rfl, rfl, trivial⟩ T.sa ?_
    refine exc_osa X4 hx4 hcl (show refsVE (.ref C :: bm) = true from hbm) rfl T.noN (fun h5 tk5 dx k5 dn dne hx5 hn5 => ?_)
    show wpAny _ _ (execs _ _) _ _ _
    refine wpAny_execs_nil (hq h5 tk5 dx t4 ⟨fun b o hb => k5 b o (fun z => by rw [z, hn0] at hb; cases hb) (F4.keep b o hb), hx5, ?_, dne, hn5⟩)
    obtain ⟨oL, _, _, hL, _⟩ := F4.ns
    exact Nat.le_trans (Nat.le_trans hsz (Nat.le_of_lt (Heap.lt_size hL))) dn
theorem sup_made (F' : FName x) (T : SupTxt prog K mg n x m C fI) {v : Value} (X : K.In s.heap) (G : s.heap.Ns mainGlobals mg) (B : ∃ mb, s.heap.Ns builtinsNs mb ∧ ∀ y : Str, y ≠ "__name__" → mb y = bootBuiltins y) (hlim : s.heap.NoLimit) (hroom : A.depth + 1 < recursionLimit)
    (hq : ∀ h' tk e d, Made s.heap h' e C d x v → R (.ok (.ret (.ref e))) { s with heap := h', toks := tk }) :
    codeAny (model prog w) A (.call (.ref C) ⟨[v], []⟩) R s := by
  obtain ⟨nm, q, N, bs, bm, sn, sub, ab, col, dd, k0, k1, k2, k3, k5, hC, hbm⟩ := T.cls
  obtain ⟨hp, g, dr, tk, os⟩ := s
  have k : ∀ b o, hp.get? b = some o → ((hp.push (kdv_tup [v])).push (excO C hp.objs.size)).get? b = some o := fun b o z => Heap.get?_push_of_some _ (Heap.get?_push_of_some _ z)
  have hget : ((hp.push (kdv_tup [v])).push (excO C hp.objs.size)).get? (hp.objs.size + 1) = some (excO C hp.objs.size) := by heap_get
  have hn0 : hp.get? (hp.objs.size + 1) = none := by
    cases z : hp.get? (hp.objs.size + 1) with
    | none => rfl
    | some o => exact absurd (Nat.lt_of_succ_lt (Heap.lt_size z)) (Nat.lt_irrefl _)
  have hsz : hp.objs.size ≤ ((hp.push (kdv_tup [v])).push (excO C hp.objs.size)).objs.size := by
    rw [Heap.size_push, Heap.size_push]
    omega
  refine call_own F.excBase_ValueError (fun Y => refsVE_contains Y bm hbm) (X _ _ hC) (looks_findIn X T.iC) (fun self => bind_fn X self T.tC) (by rw [sizeLine_eq]; exact (by decide : 1 ≤ 16777216)) ?_
  refine sup_init (s := ⟨(hp.push (kdv_tup [v])).push (excO C hp.objs.size), g, dr, tk, os⟩) F' T X G B hlim k hn0 hsz hget ?_ fun h' tk' dx t1 ⟨k', hx, dn, dne, hns⟩ => ?_
  · show A.depth + 1 < recursionLimit
    exact hroom
  · exact ⟨rfl, hq h' tk' (hp.objs.size + 1) dx ⟨k', Nat.le_succ _, ⟨_, _, hx, rfl, rfl, rfl, rfl⟩, dn, dne, hns⟩⟩
end
end SupX
end PySem

namespace DL
open PySem PySem.Spec PyProof.Rows L2
theorem relO_one {x : Str} {v : V} {v' : Value} (r : RelV v v') (f : Str) : RelO (List.lookup f [(x, v)]) (if f = x then some v' else none) := by
  by_cases h : f = x
  · subst h
    rw [if_pos rfl, show List.lookup f [(f, v)] = some v by simp [List.lookup]]
    exact r
  · have q : (f == x) = false := by simpa using h
    rw [if_neg h, show List.lookup f [(x, v)] = none by simp [List.lookup, q]]
    trivial
/-- n(e), n an own exception that stores its one argument at x -/
def tMkS (C : Addr) (x : Str) (ta : TA) : L2.St → Hp → XK → Prop := fun σ H Q => ta σ H fun vs H1 => ∃ v, vs = [v] ∧ ∀ d, H1 d = none → Q (.ref C) (some d) (upd H1 d (.xd [(x, v)]))
theorem pmk_sup {X : Cx} {C fI : Addr} {n x m : Str} {a : Expr} {ta : TA} {p pos : Pos} {k : Nat} (F' : PySem.SupX.FName x) (T : PySem.SupX.SupTxt X.prog X.K X.mg n x m C fI) (hr : Room k X.A) (ha : PA X [a] ta) (hg : Gl X n) (hdb : (n == ("__debug__" : Str)) = false)
    (he : starEach (a :: []) X.env = (false, eval a X.env) :: starEach [] X.env := by rfl) (hpl : (backTo pos (starEach [] X.env)).any (·.1) = false := by rfl) :
    PMk X (.Call (.Name n p) [a] [] pos) (tMkS C x ta) := by
  intro pins s σ H Q I h
  refine wpAny_Call_Name_kw (ld_glob I hg T.gC ?_ hdb)
  refine PySem.W.callWith_K (h₀ := X.base) I.ok.mod.kin T.kC (thn (ha.run pos pins s σ H _ I h) fun us s1 hh => ?_) he hpl
  obtain ⟨vs, H1, I1, r1, v, ev, q1⟩ := hh
  subst ev
  refine ⟨I1.kIn, ?_⟩
  cases r1 with
  | cons rv rn =>
    rename_i v' us'
    cases rn
    show wpAny _ _ (call (.ref C) [v']) _ _ _
    have hlim := I1.nolimit
    have bk := I1.bk
    have GG := I1.mod.glob.keeps bk
    obtain ⟨mb, B1, B2⟩ := I1.mod.blt
    have BB := B1.keeps bk
    obtain ⟨hp, g, dr, tk, os⟩ := s1
    refine wpAny_call (PySem.SupX.sup_made F' T I1.kIn GG ⟨mb, BB, B2⟩ hlim (by have := hr.dp; omega) fun h' tk' e d M => ?_)
    show MkP X pins σ Q (.ref e) ⟨h', g, dr, tk', os⟩
    obtain ⟨oe, fv, hoe, hc, hd, hdat, h1⟩ := M.obj
    have hns := M.ns
    obtain ⟨G', g1, g2⟩ := restrict h' fun b => decide (b ≠ e)
    have gk : ∀ b, b ≠ e → G'.get? b = h'.get? b := fun b hb => g1 b (decide_eq_true hb)
    have ge : G'.get? e = none := g2 e (by simp)
    have old : ∀ b o, hp.get? b = some o → G'.get? b = some o := fun b o q => (gk b (Nat.ne_of_lt (Nat.lt_of_lt_of_le (Heap.lt_size q) M.new))).trans (M.keep b o q)
    have ob : ObjOk X.prog X.w (upd H1 d (.xd [(x, v)])) G' d (.xd [(x, v)]) := ⟨_, hns.at (fun o q => (gk d M.dne).trans q), fun f => relO_one rv f⟩
    have J : Inv X pins σ (upd H1 d (.xd [(x, v)])) ⟨G', g, dr, tk', os⟩ := I1.laid (t' := tk') old M.dbig ob
    refine ⟨e, oe, fv, ⟨G', g, dr, tk', os⟩, _, .ref C, some d, rfl, J, fun b o q => ?_, ge, hoe, ⟨hc, hd⟩, hdat, h1, ?_, rfl, I1.bare, raises_own T.exC T.tyC, q1 d (I1.hok.fresh M.dbig)⟩
    · by_cases hb : b = e
      · have q' : G'.get? b = some o := q
        rw [hb, ge] at q'; cases q'
      · exact (gk b hb).symm.trans q
    · rw [upd_ne (Ne.symm M.dne)]
      exact I1.hok.fresh M.new
end DL

/-! DX2: try with any number of clauses, each with or without a name. -/
namespace DL
open PySem PySem.Spec PyProof.Rows L2
/-- an exception on our ground, the state behind it -/
structure Cgt (Y : Cx) (pp : List (Addr × Obj)) (B : Heap) (sI sA : Shared) (a : Addr) (σ : L2.St) (H : Hp) (cls : Value) (d : Option Addr) (h : Heap) : Prop where
  J : Inv Y pp σ H sI
  nb : ∀ b o, sI.heap.get? b = some o → b ∉ frs Y.stack → B.get? b = some o
  up : sI.heap.UpToSlots h
  os : sA.os = sI.os
  ag : AllBare sA.gens
  na : H a = none
  fl : HandSPX.FlyingZ B (Y.env :: Y.outer) a (Zc cls d) h
section
variable {Y : Cx} {pp : List (Addr × Obj)} {B : Heap} {sI sA : Shared} {a : Addr} {σ : L2.St} {H : Hp} {cls : Value} {d : Option Addr} {h : Heap}
theorem Cgt.inv (c : Cgt Y pp B sI sA a σ H cls d h) : Inv Y pp σ H { sA with heap := h } := c.J.landed c.nb c.fl.1 c.up c.os c.ag
theorem Cgt.suite (c : Cgt Y pp B sI sA a σ H cls d h) (hf : Y.env.frame = some Y.env.locals) :
    ∃ oe, h.get? a = some oe ∧ Zc cls d oe ∧ (∃ us, oe.data = .fields us) ∧ Inv (Y.suite a ((a, oe) :: (Y.pn ++ pp))) [] σ H { sA with heap := h } := by
  obtain ⟨oe, us, e1, e2, e3⟩ := c.fl.there
  have apart : a ∉ frs (Y.env :: Y.outer) := fun z => by
    obtain ⟨_, o', e', n'⟩ := c.fl.2.2.1.mem z
    rw [e1] at e'
    cases e'
    exact n' _ e3
  refine ⟨oe, e1, e2, ⟨us, e3⟩, c.inv.suite e1 e3 c.na (fun z => apart (List.mem_filterMap.mpr ⟨Y.env, List.mem_cons_self, by rw [hf, z]⟩)) fun z => ?_⟩
  obtain ⟨e, he, q⟩ := List.mem_filterMap.mp z
  exact apart (List.mem_filterMap.mpr ⟨e, List.mem_cons_of_mem _ he, q⟩)
theorem Cgt.move (c : Cgt Y pp B sI sA a σ H cls d h) {h2 : Heap} (fl : HandSPX.FlyingZ B (Y.env :: Y.outer) a (Zc cls d) h2) (up : h.UpToSlots h2) : Cgt Y pp B sI sA a σ H cls d h2 := ⟨c.J, c.nb, c.up.trans up, c.os, c.ag, c.na, fl⟩
end
/-- a clause: its class, its name's slot, its suite's reading -/
abbrev Cl := Value × Option Nat × (Addr → Value → Option Addr → TS)
def endsAt (i : Nat) (D : Ends) : Ends := { nx := fun σ' H' => D.nx (σ'.set i none) H', rt := D.rt, bk := fun σ' H' => D.bk (σ'.set i none) H', ct := fun σ' H' => D.ct (σ'.set i none) H' }
def clRun (D : Ends) (c : Cl) (cls : Value) (d : Option Addr) (σ : L2.St) (H : Hp) : Prop := ∀ a, H a = none → match c.2.1 with
  | none => c.2.2 a cls d D σ H
  | some i => c.2.2 a cls d (endsAt i D) (σ.set i (some (.ref a))) H
def wAny (K : PySem.W.Frag) (Wout : WX) (D : Ends) : List Cl → WX
  | [] => Wout
  | c :: r => fun cls d σ H => ∃ b, PySem.W.exmOne K cls c.1 = some b ∧ (b = true → clRun D c cls d σ H) ∧ (b = false → wAny K Wout D r cls d σ H)
inductive ClOk (Y : Cx) : List ExceptHandler → List Cl → Prop
  | nil : ClOk Y [] []
  | cons {x : Str} {n : Option Str} {c : Cl} {b0 : Stmt} {su : List Stmt} {np p' : Pos} {hds : List ExceptHandler} {l : List Cl} (hc : Names Y x c.1) (hn : (n = none ∧ c.2.1 = none) ∨ ∃ y i, n = some y ∧ c.2.1 = some i ∧ Y.N[i]? = some y ∧ Y.env.kindOf y = some .local)
      (hsu : ∀ (a : Addr) (oe : Obj) (cls : Value) (d : Option Addr) (pn : List (Addr × Obj)), Zc cls d oe → (∃ us, oe.data = .fields us) → PSs (Y.suite a ((a, oe) :: pn)) (b0 :: su) (c.2.2 a cls d)) (r : ClOk Y hds l) :
      ClOk Y (.ExceptHandler (some (.Name x np)) n (b0 :: su) p' :: hds) (c :: l)
section
variable {Y : Cx} {pp : List (Addr × Obj)} {B : Heap} {sI sA : Shared} {a : Addr} {σ : L2.St} {H : Hp} {cls : Value} {d : Option Addr}
theorem handled_any (hs : Y.stack = Y.env :: Y.outer) (hf : Y.env.frame = some Y.env.locals) (hN : Y.N.Nodup) {Wout : WX} (tk : Takes Y Wout) {D : Ends} {hds : List ExceptHandler} {l : List Cl} (ok : ClOk Y hds l) :
    ∀ {h : Heap}, Cgt Y pp B sI sA a σ H cls d h → wAny Y.K Wout D l cls d σ H → wpAny (model Y.prog Y.w) Y.A (handleBy (.ref a) Y.env hds) (SP Y pp D) Y.xe { sA with heap := h } := by
  induction ok with
  | nil =>
    intro h c w
    refine wpAny_handleBy_nil ?_
    obtain ⟨f1, f2, f3, oe, us, T, oT, ts', e1, e2, e3, e4, e5⟩ := id c.fl
    unfold PySem.passOn
    refine wpAny_bind (wpAny_field e1 e3 e4 ?_)
    rw [if_neg (show ¬((Value.ref T == Value.none) = true) by simp)]
    have out : wpAny (model Y.prog Y.w) Y.A (setFlight (.ref a) Y.env.frame) (fun _ z => wpAny (model Y.prog Y.w) Y.A (throw (.ref a) : Sem Flow) (SP Y pp D) Y.xe z) Y.xe { sA with heap := h } := by
      rw [hf]
      exact HandSPX.setFlight_upZ c.fl fun h4 held up4 => wpAny_throw (tk _ _ ⟨a, B, sI, pp, σ, H, cls, d, rfl, c.J, c.nb, c.up.trans up4, .inr (.inr (by rw [hs]; exact held)), c.na, c.os, c.ag, w⟩)
    first
      | exact wpAny_bind (wpAny_pure (wpAny_bind out))
      | exact wpAny_bind out
  | @cons x n cl b0 su np p' hds2 l2 hc hn hsu r ih =>
    intro h c w
    obtain ⟨b, hb1, yes, no⟩ := w
    refine wpAny_handleBy_cons (codeAny_handlers_test ?_) (by intro q; cases q)
    obtain ⟨oe, e1, e2, e3, S0⟩ := c.suite hf
    have isT : PySem.W.Looks (model Y.prog Y.w) h (typeOf (.ref a)) cls := fun A Q E z k q => wpAny_typeOf_ref (k _ _ e1) (by rw [e2.1]; exact q)
    have fits := PySem.W.exm_one (M := model Y.prog Y.w) c.inv.kIn isT hb1
    have named : ∀ {Q E : Value → Shared → Prop}, Q cl.1 { sA with heap := h } → wpAny (model Y.prog Y.w) (Y.A.mark (some (.ref a))) (eval (.Name x np) Y.env) Q E { sA with heap := h } := fun {Q E} q => by
      obtain ⟨g1, g2, g3 | ⟨g3, g4, g5⟩⟩ := hc
      · exact ld_glob (X := Y.suite a ((a, oe) :: (Y.pn ++ pp))) S0 g1 g3 q g2
      · exact ld_blt (X := Y.suite a ((a, oe) :: (Y.pn ++ pp))) S0 g1 g3 g4 q g5 g2
    refine named (fits.here ?_)
    cases b with
    | false =>
      show wpAny _ Y.A (handleBy (.ref a) Y.env hds2) _ _ _
      exact ih c (no rfl)
    | true =>
      have go := yes rfl a c.na
      rcases hn with ⟨rfl, e⟩ | ⟨y, i, rfl, e, hi, hl⟩
      · rw [e] at go
        refine codeAny_handlers_suite (HandSPX.lands_againZ c.fl fun h4 fl4 up4 => ?_)
        have c4 := c.move fl4 up4
        obtain ⟨oe4, a1, a2, a3, S4⟩ := c4.suite hf
        refine wpAny_mono ((hsu a oe4 cls d (Y.pn ++ pp) a2 a3).run [] _ _ H _ S4 go) (fun f z q => ?_) fun _ _ z => False.elim z
        cases f with
        | next => obtain ⟨σ6, H6, T6, q6⟩ := q; exact ⟨_, _, T6.unsuite c.J.ok, q6⟩
        | brk => obtain ⟨σ6, H6, T6, q6⟩ := q; exact ⟨_, _, T6.unsuite c.J.ok, q6⟩
        | cont => obtain ⟨σ6, H6, T6, q6⟩ := q; exact ⟨_, _, T6.unsuite c.J.ok, q6⟩
        | ret u => obtain ⟨v6, σ6, H6, T6, r6, q6⟩ := q; exact ⟨_, _, _, T6.unsuite c.J.ok, r6, q6⟩
      · rw [e] at go
        refine codeAny_handlers_suite_as (HandSPX.lands_againZ c.fl fun h4 fl4 up4 => ?_)
        have c4 := c.move fl4 up4
        obtain ⟨oe4, a1, a2, a3, S4⟩ := c4.suite hf
        refine store_ok (X := Y.suite a ((a, oe4) :: (Y.pn ++ pp))) (v := .ref a) S4 hN hi (.inl hl) rfl (fun s5 S5 => ?_) (.inr hl)
        refine wpAny_mono ((hsu a oe4 cls d (Y.pn ++ pp) a2 a3).run [] s5 _ H _ S5 go) (fun f z q => ?_) fun _ _ z => False.elim z
        have gone : ∀ {σ6 : L2.St} {H6 : Hp} {Q : Shared → Prop}, Inv (Y.suite a ((a, oe4) :: (Y.pn ++ pp))) [] σ6 H6 z → (∀ z7, Inv Y pp (σ6.set i none) H6 z7 → Q z7) →
            wpAny (model Y.prog Y.w) Y.A (do bindName Y.env y .none; unbindBehindTheSuite Y.env y p') (fun _ z7 => Q z7) Y.xe z := fun {σ6 H6 Q} T6 hq => gone_ok (T6.unsuite c.J.ok) hN hi hl hq
        cases f with
        | next => obtain ⟨σ6, H6, T6, q6⟩ := q; exact gone T6 fun z7 J7 => ⟨_, _, J7, q6⟩
        | brk => obtain ⟨σ6, H6, T6, q6⟩ := q; exact gone T6 fun z7 J7 => ⟨_, _, J7, q6⟩
        | cont => obtain ⟨σ6, H6, T6, q6⟩ := q; exact gone T6 fun z7 J7 => ⟨_, _, J7, q6⟩
        | ret u => obtain ⟨v6, σ6, H6, T6, r6, q6⟩ := q; exact gone T6 fun z7 J7 => ⟨_, _, _, J7, r6, q6⟩
end
theorem ps_try_any {Y : Cx} {body : List Stmt} {h0 : ExceptHandler} {hds : List ExceptHandler} {l : List Cl} {pos : Pos} {tb : WX → TS} {Wout : WX} (hs : Y.stack = Y.env :: Y.outer) (hf : Y.env.frame = some Y.env.locals) (hN : Y.N.Nodup) (tk : Takes Y Wout)
    (hb : ∀ (W : WX) (pn : List (Addr × Obj)) (xe : Value → Shared → Prop), Takes (Y.tr pn xe) W → PassesOwn (model Y.prog Y.w) Y.A Y.env xe → PSs (Y.tr pn xe) body (tb W)) (hh : ClOk Y (h0 :: hds) l) :
    PS Y (.Try body (h0 :: hds) [] [] pos) (fun D σ H => tb (wAny Y.K Wout D l) D σ H) := by
  refine ⟨fun pp s σ H D I q => ?_⟩
  have ok := I.ok
  have fr : Y.A.frames = some (Y.env :: Y.outer) := by rw [ok.frames, hs]
  refine wpAny_Try_except (wpAny_mono ((hb (wAny Y.K Wout D l) (Y.pn ++ pp) (fun e z1 => wpAny (model Y.prog Y.w) Y.A (noteFrame e Y.env) (fun _ z2 => wpAny (model Y.prog Y.w) Y.A (setFlight e none) (fun _ z3 =>
    wpAny (model Y.prog Y.w) Y.A (handleBy e Y.env (h0 :: hds)) (SP Y pp D) Y.xe z3) Y.xe z2) Y.xe z1) (fun u sA xx => ?_) PassesOwn.looking).run [] s σ H D (I.toTry _) q) (fun f z q => ?_) fun e z q => q)
  · obtain ⟨a, B, sI, pins', σ', H', cls, d, rfl, J', nb, up, sky, na, os, ag, w⟩ := xx
    have sk : Sky B (Y.env :: Y.outer) a (Zc cls d) Y.env.locals sA.heap := by rw [← hs]; exact sky
    show wpAny _ _ (noteFrame (.ref a) Y.env) _ _ _
    exact Sky.land Zc.steady fr hf sk fun h3 fl3 up3 => handled_any hs hf hN tk hh ⟨J'.ofTry ok, nb, up.trans up3, os, ag, na, fl3⟩ w
  · cases f with
    | next => obtain ⟨σ', H', J', q⟩ := q; exact wpAny_execs_nil ⟨σ', H', J'.ofTry ok, q⟩
    | brk => obtain ⟨σ', H', J', q⟩ := q; exact ⟨σ', H', J'.ofTry ok, q⟩
    | cont => obtain ⟨σ', H', J', q⟩ := q; exact ⟨σ', H', J'.ofTry ok, q⟩
    | ret u => obtain ⟨v, σ', H', J', r, q⟩ := q; exact ⟨v, σ', H', J'.ofTry ok, r, q⟩
end DL

/-! DX3: raise, try .. except, the caught exception's field and classes. -/
namespace DL
open PySem PySem.Spec PyProof.Rows L2
/-- the exception classes: each with its ancestors among them, itself included -/
abbrev ExTab := List (Str × List Str)
structure ExT (K : PySem.W.Frag) (mg : Str → Option Value) (T : ExTab) : Prop where
  cls : ∀ q ∈ T, ∃ C, mg q.1 = some (.ref C)
  exm : ∀ q ∈ T, ∀ r ∈ T, ∀ C D, mg q.1 = some (.ref C) → mg r.1 = some (.ref D) → PySem.W.exmOne K (.ref C) (.ref D) = some (q.2.contains r.1) ∧ PySem.W.kitOne K (.ref C) (.ref D) = some (q.2.contains r.1)
  ve : ∀ q ∈ T, ∀ C, mg q.1 = some (.ref C) → PySem.W.kitOne K (.ref C) (.type "ValueError") = some true
  own : ∀ q ∈ T, ∀ C, mg q.1 = some (.ref C) → ExcC K C
/-- classes whose instances have a field -/
abbrev FdTab := List (Str × Str)
structure FdT (K : PySem.W.Frag) (mg : Str → Option Value) (F : FdTab) : Prop where
  fd : ∀ q ∈ F, ∀ C, mg q.1 = some (.ref C) → XfC K C ∧ PySem.W.findIn K (.ref C) q.2 = some none
/-- a class without __init__ of its own -/
def Ex0 (K : PySem.W.Frag) (mg : Str → Option Value) (x : Str) : Prop := ∃ C, mg x = some (.ref C) ∧ PySem.W.excIn K C He.veBase "ValueError.__new__" = true ∧ PySem.W.keepIn K (.ref C) = true ∧ PySem.W.subIn K (.ref C) (.type "BaseException") = some true ∧ PySem.W.typeIn K (.ref C) = some (.type "type")
/-- a class whose __init__ stores its one argument -/
def Ex1 (P : Program) (K : PySem.W.Frag) (mg : Str → Option Value) (x f : Str) : Prop := PySem.SupX.FName f ∧ ∃ m C fI, PySem.SupX.SupTxt P K mg x f m C fI
section
variable {X : Cx} {W : WA} {x f m : Str} {j : Nat} {p p2 pos pos2 : Pos}
/-! ### raise -/
theorem rsraise0 (E : Ex0 X.K X.mg x) (tk : Takes X W.x) (hc : X.calm = true := by rfl) (hg : Gl X x := by rfl) (hdb : (x == ("__debug__" : Str)) = false := by decide) :
    RS X W (.Raise (some (.Call (.Name x p) [.Constant (.str m) j p2] [] pos)) none pos2) (fun α => .er ⟨x, none⟩ α) := by
  obtain ⟨C, gC, q, kC, h1, h2⟩ := E
  exact PS.imp (ps_raise hc tk (pmk_own PySem.F.excBase_ValueError q gC kC (raises_own h1 h2) hg hdb)) fun D0 σ H ⟨G0, H0, G, α, S, o⟩ => o (.ref C) none σ G H (Same.refl _) S ⟨C, gC, rfl, rfl⟩
def sRaise (x f : Str) (d : At → Res D) : At → Out := fun α => ofR (d α) α fun v => .er ⟨x, some (f, v)⟩ α
theorem rsraise1 {a : Expr} {d : At → Res D} {k : Nat} (E : Ex1 X.prog X.K X.mg x f) (hr : Room k X.A) (tk : Takes X W.x) (ha : SE X W a d) (hc : X.calm = true := by rfl) (hg : Gl X x := by rfl) (hdb : (x == ("__debug__" : Str)) = false := by decide)
    (he : starEach (a :: []) X.env = (false, eval a X.env) :: starEach [] X.env := by rfl) (hpl : (backTo pos (starEach [] X.env)).any (·.1) = false := by rfl) :
    RS X W (.Raise (some (.Call (.Name x p) [a] [] pos)) none pos2) (sRaise x f d) := by
  obtain ⟨F', m', C, fI, T⟩ := E
  exact PS.imp (ps_raise hc tk (pmk_sup F' T hr (pa_cons ha pa_nil he) hg hdb he hpl)) fun D0 σ H ⟨G0, H0, G, α, S, o⟩ =>
    ⟨G0, H0, G, α, S, ofR_run S o fun v ev G' H' g S' o' u ru => ⟨u, rfl, fun dd hd => by
      have g2 : Gr G' H' G' (upd H' dd (.xd [(f, u)])) := (Gr.refl S'.gr.s).put hd (S'.gr.s.free hd)
      exact o' (.ref C) (some dd) σ G' _ (Same.refl _) (S'.grow g2) ⟨C, T.gC, rfl, dd, u, rfl, S'.gr.h.free hd, upd_same, ru⟩⟩⟩
end
/-! ### a suite's ambient: the exception -/
def ExA (K : PySem.W.Frag) (w : World) (mg : Str → Option Value) (cls : Value) (d : Option Addr) (er : Er) (G : Hp) : Prop := ∃ C, mg er.cls = some (.ref C) ∧ cls = .ref C ∧ match er.arg with
  | none => d = none
  | some (f, x) => ∃ dd v, d = some dd ∧ G dd = some (.xd [(f, v)]) ∧ Rp K w G v x
theorem ExA.mono {K : PySem.W.Frag} {w : World} {mg : Str → Option Value} {cls : Value} {d : Option Addr} {er : Er} {G G' : Hp} (s : Same G G') (h : ExA K w mg cls d er G) : ExA K w mg cls d er G' := by
  obtain ⟨C, h1, h2, h3⟩ := h
  refine ⟨C, h1, h2, ?_⟩
  split at h3
  · exact h3
  · obtain ⟨dd, v, q1, q2, q3⟩ := h3
    exact ⟨dd, v, q1, s _ _ q2, q3.mono s⟩
/-- with the exception at a in slot i -/
def suW (K : PySem.W.Frag) (w : World) (mg : Str → Option Value) (W : WA) (i : Nat) (a : Addr) (cls : Value) (d : Option Addr) (er : Er) : WA :=
  ⟨fun _ _ _ _ => False, fun G σ => W.am G σ ∧ σ[i]? = some (some (.ref a)) ∧ ExA K w mg cls d er G, fun G G' σ s h => ⟨W.mono _ _ _ s h.1, h.2.1, h.2.2.mono s⟩, fun j => W.ok j && decide (j ≠ i), fun j v G σ h q => by
    obtain ⟨h1, h2⟩ := Bool.and_eq_true_iff.mp h
    exact ⟨W.set _ _ _ _ h1 q.1, by rw [List.getElem?_set_ne (of_decide_eq_true h2)]; exact q.2.1, q.2.2⟩⟩
/-- without a name -/
def suW0 (W : WA) : WA := ⟨fun _ _ _ _ => False, W.am, W.mono, W.ok, W.set⟩
def WA.to (W : WA) (x : WX) : WA := ⟨x, W.am, W.mono, W.ok, W.set⟩
theorem Sv.cast {K : PySem.W.Frag} {w : World} {W W' : WA} {G0 H0 G H : Hp} {σ : L2.St} {α : At} (S : Sv K w W G0 H0 G H σ α) (h : W'.am G σ) : Sv K w W' G0 H0 G H σ α := ⟨S.gr, S.len, S.dat, S.own, S.sep, h⟩
theorem Sv.forget {K : PySem.W.Frag} {w : World} {W : WA} {G0 H0 G H : Hp} {σ : L2.St} {α : At} (S : Sv K w W G0 H0 G H σ α) (i : Nat) (y : Option V) (hw : W.ok i = true) : Sv K w W G0 H0 G H (σ.set i y) (α.set i .un) := by
  have at_ : ∀ (j : Nat) (a : AV), a ≠ .un → (α.set i .un)[j]? = some a → j ≠ i ∧ α[j]? = some a := fun j a na e => by
    by_cases q : j = i
    · subst q
      by_cases hl : j < α.length
      · rw [List.getElem?_set_self hl] at e
        cases e
        exact absurd rfl na
      · rw [List.getElem?_eq_none (by simpa using hl)] at e
        cases e
    · rw [List.getElem?_set_ne (Ne.symm q)] at e
      exact ⟨q, e⟩
  refine ⟨S.gr, by simpa using S.len, fun j x e => ?_, fun j ds e => ?_, fun j k ds es p ne e1 e2 e3 e4 => ?_, W.set _ _ _ _ hw S.am⟩
  · obtain ⟨n, e⟩ := at_ j (.dat x) (by intro z; cases z) e
    rw [List.getElem?_set_ne (Ne.symm n)]
    exact S.dat j x e
  · obtain ⟨n, e⟩ := at_ j (.own ds) (by intro z; cases z) e
    rw [List.getElem?_set_ne (Ne.symm n)]
    exact S.own j ds e
  · obtain ⟨n1, e1⟩ := at_ j (.own ds) (by intro z; cases z) e1
    obtain ⟨n2, e2⟩ := at_ k (.own es) (by intro z; cases z) e2
    rw [List.getElem?_set_ne (Ne.symm n1)] at e3
    rw [List.getElem?_set_ne (Ne.symm n2)] at e4
    exact S.sep j k ds es p ne e1 e2 e3 e4
/-- the exception's dict is read from here on -/
theorem Sv.addX {K : PySem.W.Frag} {w : World} {mg : Str → Option Value} {W : WA} {G0 H0 G H : Hp} {σ : L2.St} {α : At} {er : Er} {cls : Value} {d : Option Addr} (S : Sv K w W G0 H0 G H σ α) (z : ErR K w mg er cls d H0 G H) :
    ∃ G', Same G G' ∧ Sv K w W G0 H0 G' H σ α ∧ ExA K w mg cls d er G' := by
  obtain ⟨C, h1, h2, h3⟩ := z
  unfold ExA
  cases q : er.arg with
  | none =>
    rw [q] at h3
    exact ⟨G, Same.refl _, S, C, h1, h2, h3⟩
  | some fx =>
    obtain ⟨f, x⟩ := fx
    rw [q] at h3
    obtain ⟨a, v, q1, q2, q3, q4⟩ := h3
    show ∃ G', Same G G' ∧ Sv K w W G0 H0 G' H σ α ∧ ∃ C, mg er.cls = some (.ref C) ∧ cls = .ref C ∧ ∃ dd v, d = some dd ∧ G' dd = some (.xd [(f, v)]) ∧ Rp K w G' v x
    by_cases hg : G a = none
    · have s : Same G (upd G a (.xd [(f, v)])) := same_upd hg
      refine ⟨upd G a (.xd [(f, v)]), s, ⟨⟨S.gr.g.trans s, fun c o e => ?_, S.gr.h, fun c n1 n2 => ?_⟩, S.len, fun i y e => ?_, fun i ds e => ?_, S.sep, W.mono _ _ _ s S.am⟩, C, h1, h2, a, v, q1, upd_same, q4.mono s⟩
      · by_cases hc : c = a
        · subst hc; rw [upd_same] at e; cases e; exact q3
        · rw [upd_ne hc] at e; exact S.gr.s c o e
      · rw [upd_ne (fun e => by rw [e] at n1; exact n1 q2)]
        exact S.gr.o c n1 n2
      · obtain ⟨u, e1, e2⟩ := S.dat i y e
        exact ⟨u, e1, e2.mono s⟩
      · obtain ⟨p, vs, b1, b2, b3, b4, b5⟩ := S.own i ds e
        have ne : p ≠ a := fun e => by rw [e, q3] at b4; cases b4
        exact ⟨p, vs, b1, b2, by rw [upd_ne ne]; exact b3, b4, RpAll.mono s b5⟩
    · cases e : G a with
      | none => exact absurd e hg
      | some o =>
        have e' := S.gr.s _ _ e
        rw [q3] at e'
        cases e'
        exact ⟨G, Same.refl _, S, C, h1, h2, a, v, q1, e, q4⟩
/-! ### try -/
structure Hd where
  c : Str
  i : Option Nat
  su : Er → At → Out
def unset (i : Nat) : Out → Out
  | .nx α => .nx (α.set i .un)
  | .bk α => .bk (α.set i .un)
  | .ct α => .ct (α.set i .un)
  | .rt d => .rt d
  | .rl d => .rl d
  | _ => .no
def calmO : Out → Out
  | .er _ _ => .no
  | o => o
def hdRun (h : Hd) (e : Er) (α : At) : Out := match h.i with
  | none => calmO (h.su e α)
  | some i => if i < α.length then unset i (h.su e (α.set i .un)) else .no
def sHs (T : ExTab) : List Hd → Er → At → Out
  | [], e, α => .er e α
  | h :: r, e, α => match T.lookup e.cls with
    | none => .no
    | some l => if l.contains h.c = true then hdRun h e α else sHs T r e α
def sTry (T : ExTab) (body : At → Out) (hs : List Hd) : At → Out := fun α => match body α with
  | .er e α' => sHs T hs e α'
  | o => o
theorem lookup_memT {T : ExTab} {x : Str} {l : List Str} (h : T.lookup x = some l) : (x, l) ∈ T := by
  induction T with
  | nil => cases h
  | cons q r ih =>
    obtain ⟨y, k⟩ := q
    by_cases e : x = y
    · subst e
      simp [List.lookup] at h
      subst h
      exact List.mem_cons_self
    · have e' : (x == y) = false := by simpa using e
      simp only [List.lookup, e'] at h
      exact List.mem_cons_of_mem _ (ih h)
section
variable {X : Cx} {W : WA}
theorem PSs.ex {X : Cx} {ι : Type} {st : List Stmt} {t : ι → TS} (h : ∀ i, PSs X st (t i)) : PSs X st (fun D σ H => ∃ i, t i D σ H) := ⟨fun pins s σ H D I ⟨i, q⟩ => (h i).run pins s σ H D I q⟩
theorem takesF {X : Cx} : Takes X (fun _ _ _ _ => False) := fun _ _ ⟨_, _, _, _, _, _, _, _, _, _, _, _, _, _, _, _, q⟩ => q.elim
/-- a clause's reading -/
def hdCl (X : Cx) (W : WA) (h : Hd) : Cl := ((X.mg h.c).getD .none, h.i, fun a cls d D σ H => ∃ er : Er, match h.i with
  | none => TSs X (suW0 W) (h.su er) D σ H
  | some i => TSs X (suW X.K X.w X.mg W i a cls d er) (h.su er) D σ H)
inductive HdOk (X : Cx) (W : WA) (T : ExTab) : List ExceptHandler → List Hd → Prop
  | nil : HdOk X W T [] []
  | named {x n : Str} {i : Nat} {su : Er → At → Out} {b0 : Stmt} {ss : List Stmt} {np p' : Pos} {hds : List ExceptHandler} {l : List Hd} (hT : T.any (fun q => decide (q.1 = x)) = true) (hg : Gl X x) (hdb : (x == ("__debug__" : Str)) = false) (hi : X.N[i]? = some n) (hl : X.env.kindOf n = some .local) (hw : W.ok i = true)
      (hsu : ∀ (a : Addr) (oe : Obj) (cls : Value) (d : Option Addr) (pn : List (Addr × Obj)) (er : Er), Zc cls d oe → (∃ us, oe.data = .fields us) → RSs (X.suite a ((a, oe) :: pn)) (suW X.K X.w X.mg W i a cls d er) (b0 :: ss) (su er)) (r : HdOk X W T hds l) :
      HdOk X W T (.ExceptHandler (some (.Name x np)) (some n) (b0 :: ss) p' :: hds) (⟨x, some i, su⟩ :: l)
  | plain {x : Str} {su : Er → At → Out} {b0 : Stmt} {ss : List Stmt} {np p' : Pos} {hds : List ExceptHandler} {l : List Hd} (hT : T.any (fun q => decide (q.1 = x)) = true) (hg : Gl X x) (hdb : (x == ("__debug__" : Str)) = false)
      (hsu : ∀ (a : Addr) (oe : Obj) (pn : List (Addr × Obj)) (er : Er), RSs (X.suite a ((a, oe) :: pn)) (suW0 W) (b0 :: ss) (su er)) (r : HdOk X W T hds l) :
      HdOk X W T (.ExceptHandler (some (.Name x np)) none (b0 :: ss) p' :: hds) (⟨x, none, su⟩ :: l)
theorem HdOk.cl {T : ExTab} (E : ExT X.K X.mg T) {hds : List ExceptHandler} {l : List Hd} (h : HdOk X W T hds l) : ClOk X hds (l.map (hdCl X W)) := by
  induction h with
  | nil => exact .nil
  | @named x n i su b0 ss np p' hds2 l2 hT hg hdb hi hl hw hsu r ih =>
    obtain ⟨q, hq, e⟩ := List.any_eq_true.mp hT
    obtain ⟨C, hC⟩ := E.cls q hq
    rw [of_decide_eq_true e] at hC
    refine .cons ⟨hg, hdb, .inl ?_⟩ (.inr ⟨n, i, rfl, rfl, hi, hl⟩) (fun a oe cls d pn hz hf => PSs.ex fun er => hsu a oe cls d pn er hz hf) ih
    show X.mg x = some ((X.mg x).getD .none)
    rw [hC]; rfl
  | @plain x su b0 ss np p' hds2 l2 hT hg hdb hsu r ih =>
    obtain ⟨q, hq, e⟩ := List.any_eq_true.mp hT
    obtain ⟨C, hC⟩ := E.cls q hq
    rw [of_decide_eq_true e] at hC
    refine .cons ⟨hg, hdb, .inl ?_⟩ (.inl ⟨rfl, rfl⟩) (fun a oe cls d pn hz hf => PSs.ex fun er => hsu a oe pn er) ih
    show X.mg x = some ((X.mg x).getD .none)
    rw [hC]; rfl
theorem OutP.cast {K : PySem.W.Frag} {w : World} {mg : Str → Option Value} {W W' : WA} {D D' : Ends} {G0 H0 G : Hp} {o : Out} (h : OutP K w mg W D G0 H0 G o) (ha : ∀ G σ, W'.am G σ → W.am G σ) (hx : ∀ e α, o = .er e α → False)
    (e1 : D'.nx = D.nx) (e2 : D'.bk = D.bk) (e3 : D'.ct = D.ct) (e4 : D'.rt = D.rt) : OutP K w mg W' D' G0 H0 G o := by
  cases o with
  | nx α => exact fun σ' G' H' s S => by rw [e1]; exact h σ' G' H' s (S.cast (ha _ _ S.am))
  | bk α => exact fun σ' G' H' s S => by rw [e2]; exact h σ' G' H' s (S.cast (ha _ _ S.am))
  | ct α => exact fun σ' G' H' s S => by rw [e3]; exact h σ' G' H' s (S.cast (ha _ _ S.am))
  | rt d => exact fun G' H' s g v r => by rw [e4]; exact h G' H' s g v r
  | rl d => exact fun G' H' s g a vs h1 h2 h3 r => by rw [e4]; exact h G' H' s g a vs h1 h2 h3 r
  | er e α => exact (hx e α rfl).elim
  | no => exact h
theorem OutP.un {K : PySem.W.Frag} {w : World} {mg : Str → Option Value} {W W' : WA} {D : Ends} {G0 H0 G : Hp} {i : Nat} {o : Out} (h : OutP K w mg W D G0 H0 G (unset i o)) (hw : W.ok i = true) (ha : ∀ G σ, W'.am G σ → W.am G σ) : OutP K w mg W' (endsAt i D) G0 H0 G o := by
  cases o with
  | nx α => exact fun σ' G' H' s S => h _ G' H' s (((S.cast (ha _ _ S.am)).forget i none hw))
  | bk α => exact fun σ' G' H' s S => h _ G' H' s (((S.cast (ha _ _ S.am)).forget i none hw))
  | ct α => exact fun σ' G' H' s S => h _ G' H' s (((S.cast (ha _ _ S.am)).forget i none hw))
  | rt d => exact h
  | rl d => exact h
  | er e α => exact h.elim
  | no => exact h.elim
theorem hs_run {T : ExTab} (E : ExT X.K X.mg T) {D : Ends} {G0 H0 : Hp} {er : Er} {α : At} : ∀ {hds : List ExceptHandler} {l : List Hd}, HdOk X W T hds l → ∀ {G : Hp}, OutP X.K X.w X.mg W D G0 H0 G (sHs T l er α) →
    ∀ (cls : Value) (dd : Option Addr) (σ : L2.St) (G' H' : Hp), Same G G' → Sv X.K X.w W G0 H0 G' H' σ α → ErR X.K X.w X.mg er cls dd H0 G' H' → wAny X.K W.x D (l.map (hdCl X W)) cls dd σ H' := by
  intro hds l h
  have step : ∀ (x : Str) (i : Option Nat) (su : Er → At → Out) (l2 : List Hd), T.any (fun q => decide (q.1 = x)) = true → (∀ {G : Hp}, OutP X.K X.w X.mg W D G0 H0 G (sHs T l2 er α) →
      ∀ (cls : Value) (dd : Option Addr) (σ : L2.St) (G' H' : Hp), Same G G' → Sv X.K X.w W G0 H0 G' H' σ α → ErR X.K X.w X.mg er cls dd H0 G' H' → wAny X.K W.x D (l2.map (hdCl X W)) cls dd σ H') → (∀ j, i = some j → W.ok j = true) →
      ∀ {G : Hp}, OutP X.K X.w X.mg W D G0 H0 G (sHs T (⟨x, i, su⟩ :: l2) er α) → ∀ (cls : Value) (dd : Option Addr) (σ : L2.St) (G' H' : Hp), Same G G' → Sv X.K X.w W G0 H0 G' H' σ α → ErR X.K X.w X.mg er cls dd H0 G' H' → wAny X.K W.x D ((⟨x, i, su⟩ :: l2 : List Hd).map (hdCl X W)) cls dd σ H' := by
    intro x i su l2 hT ih hok G q cls dd σ G' H' s S z
    obtain ⟨r, hr, e⟩ := List.any_eq_true.mp hT
    have e := of_decide_eq_true e
    obtain ⟨Dc, hD⟩ := E.cls r hr
    obtain ⟨C, z1, z2, z3⟩ := id z
    unfold sHs at q
    cases hl : T.lookup er.cls with
    | none => rw [hl] at q; exact q.elim
    | some anc =>
      rw [hl] at q
      have q : OutP X.K X.w X.mg W D G0 H0 G (if anc.contains x = true then hdRun ⟨x, i, su⟩ er α else sHs T l2 er α) := q
      have hx := (E.exm _ (lookup_memT hl) r hr C Dc z1 hD).1
      rw [e] at hx hD
      refine ⟨anc.contains x, ?_, fun hb => ?_, fun hb => ?_⟩
      · show PySem.W.exmOne X.K cls ((X.mg x).getD .none) = _
        rw [hD, z2]
        exact hx
      · rw [if_pos hb] at q
        unfold hdRun at q
        intro a na
        cases i with
        | none =>
          show ∃ er : Er, TSs X (suW0 W) (su er) D σ H'
          refine ⟨er, G0, H0, G', α, S.cast S.am, ?_⟩
          have q : OutP X.K X.w X.mg W D G0 H0 G (calmO (su er α)) := q
          have q' := q.mono s
          cases ho : su er α with
          | er e' α' => rw [ho] at q'; exact q'.elim
          | nx α' => rw [ho] at q'; exact OutP.cast (W' := suW0 W) (show OutP X.K X.w X.mg W D G0 H0 G' (.nx α') from q') (fun _ _ h => h) (fun _ _ z => nomatch z) rfl rfl rfl rfl
          | bk α' => rw [ho] at q'; exact OutP.cast (W' := suW0 W) (show OutP X.K X.w X.mg W D G0 H0 G' (.bk α') from q') (fun _ _ h => h) (fun _ _ z => nomatch z) rfl rfl rfl rfl
          | ct α' => rw [ho] at q'; exact OutP.cast (W' := suW0 W) (show OutP X.K X.w X.mg W D G0 H0 G' (.ct α') from q') (fun _ _ h => h) (fun _ _ z => nomatch z) rfl rfl rfl rfl
          | rt d' => rw [ho] at q'; exact q'
          | rl d' => rw [ho] at q'; exact q'
          | no => rw [ho] at q'; exact q'.elim
        | some i =>
          show ∃ er : Er, TSs X (suW X.K X.w X.mg W i a cls dd er) (su er) (endsAt i D) (σ.set i (some (.ref a))) H'
          have q : OutP X.K X.w X.mg W D G0 H0 G (if i < α.length then unset i (su er (α.set i .un)) else .no) := q
          have hw := hok i rfl
          obtain ⟨G2, s2, S2, ex⟩ := S.addX z
          by_cases hi' : i < α.length
          · rw [if_pos hi'] at q
            have hi : i < σ.length := Nat.lt_of_lt_of_le hi' S.len
            exact ⟨er, G0, H0, G2, _, (S2.forget i (some (.ref a)) hw).cast ⟨(S2.forget i (some (.ref a)) hw).am, List.getElem?_set_self hi, ex⟩, OutP.un (q.mono (s.trans s2)) hw fun _ _ h => h.1⟩
          · rw [if_neg hi'] at q
            exact q.elim
      · rw [if_neg (by rw [hb]; decide)] at q
        exact ih q cls dd σ G' H' s S z
  induction h with
  | nil => exact fun q cls dd σ G' H' s S z => q cls dd σ G' H' s S z
  | @named x n i su b0 ss np p' hds2 l2 hT hg hdb hi hl hw hsu r ih => exact step x (some i) su l2 hT (fun q => ih q) fun j ej => by cases ej; exact hw
  | @plain x su b0 ss np p' hds2 l2 hT hg hdb hsu r ih => exact step x none su l2 hT (fun q => ih q) fun j ej => nomatch ej
end
end DL

/-! DX4: the rule of try; the caught exception's field and classes. -/
namespace DL
open PySem PySem.Spec PyProof.Rows L2
section
variable {X : Cx} {W : WA}
theorem rstry {T : ExTab} (E : ExT X.K X.mg T) {body : List Stmt} {h0 : ExceptHandler} {hds : List ExceptHandler} {hs : List Hd} {db : At → Out} {pos : Pos} (hst : X.stack = X.env :: X.outer) (hfr : X.env.frame = some X.env.locals) (hN : X.N.Nodup) (tk : Takes X W.x)
    (hb : ∀ (W' : WX) (pn : List (Addr × Obj)) (xe : Value → Shared → Prop), Takes (X.tr pn xe) W' → PassesOwn (model X.prog X.w) X.A X.env xe → RSs (X.tr pn xe) (W.to W') body db) (hh : HdOk X W T (h0 :: hds) hs) :
    RS X W (.Try body (h0 :: hds) [] [] pos) (sTry T db hs) :=
  PS.imp (ps_try_any (tb := fun W' => TSs X (W.to W') db) hst hfr hN tk (fun W' pn xe t p => hb W' pn xe t p) (hh.cl E)) fun D σ H ⟨G0, H0, G, α, S, q⟩ => by
    refine ⟨G0, H0, G, α, S.cast S.am, ?_⟩
    unfold sTry at q
    cases ho : db α with
    | er e α' =>
      rw [ho] at q
      exact fun cls dd σ' G' H' s S' z => hs_run E hh q cls dd σ' G' H' s (S'.cast S'.am) z
    | nx α' => rw [ho] at q; exact fun σ' G' H' s S' => q σ' G' H' s (S'.cast S'.am)
    | bk α' => rw [ho] at q; exact fun σ' G' H' s S' => q σ' G' H' s (S'.cast S'.am)
    | ct α' => rw [ho] at q; exact fun σ' G' H' s S' => q σ' G' H' s (S'.cast S'.am)
    | rt d => rw [ho] at q; exact q
    | rl d => rw [ho] at q; exact q
    | no => rw [ho] at q; exact q
/-! ### in a suite -/
def dEr (F : FdTab) (er : Er) (f : Str) : Bt → Res D := fun _ => match er.arg with
  | some (g, x) => if g = f ∧ F.contains (er.cls, f) = true then .ok x else .no
  | none => .no
def dIsX (T : ExTab) (er : Er) (c : Str) : Bt → Res D := fun _ => match T.lookup er.cls with
  | some l => .ok (.bool (l.contains c))
  | none => .no
def dIsV (T : ExTab) (er : Er) : Bt → Res D := fun _ => match T.lookup er.cls with
  | some l => .ok (.bool true)
  | none => .no
section
variable {a : Addr} {oe : Obj} {cls : Value} {d : Option Addr} {pn : List (Addr × Obj)} {er : Er} {i : Nat} {n f c : Str} {p p1 p2 pos : Pos}
/-- e.f -/
theorem refx {F : FdTab} (T : FdT X.K X.mg F) (hz : Zc cls d oe) (hf : ∃ vs, oe.data = .fields vs) (hi : X.N[i]? = some n := by rfl) (hv : Vis X.env.scope n := by first | exact Or.inl rfl | exact Or.inr (Or.inl rfl) | exact Or.inr (Or.inr rfl)) (hd : (n == ("__debug__" : Str)) = false := by decide)
    (hcd : (n == ("__classdict__" : Str)) = false := by decide) (hb : attributeBase (.Name n p) f X.env (eval (.Name n p) X.env) = eval (.Name n p) X.env := by rfl) :
    RE (X.suite a ((a, oe) :: pn)) (suW X.K X.w X.mg W i a cls d er) (.Attribute (.Name n p) f pos) (dEr F er f) := by
  refine ⟨fun pins s σ H Q I h => ?_⟩
  obtain ⟨G, β, sm, ev, rp⟩ := h
  obtain ⟨_, hs, C, gC, ec, ha⟩ := ev.2.2
  unfold dEr at rp
  cases q : er.arg with
  | none => rw [q] at rp; exact rp.elim
  | some gx =>
    obtain ⟨g, x⟩ := gx
    rw [q] at rp ha
    obtain ⟨dd, v, e1, e2, e3⟩ := ha
    have rp2 : RP X.K X.w X.mg (suW X.K X.w X.mg W i a cls d er) σ G H (fun d G' H' => ∀ v, Rp X.K X.w G' v d → Q v H') (if g = f ∧ F.contains (er.cls, f) = true then .ok x else .no) := rp
    by_cases hc : g = f ∧ F.contains (er.cls, f) = true
    · rw [if_pos hc] at rp2
      obtain ⟨rfl, hm⟩ := hc
      obtain ⟨TX, hno⟩ := T.fd _ (by simpa using hm) C gC
      subst ec
      exact (pe_xf (X := X) TX hno hz hf (pe_var (X := X.suite a ((a, oe) :: pn)) hi hv hd hcd) hb).run pins s σ H Q I ⟨.ref a, hs, rfl, rfl, dd, _, v, e1, sm _ _ e2, by simp [List.lookup], rp2.here (Gr.refl sm) v e3⟩
    · rw [if_neg hc] at rp2
      exact rp2.elim
def rIsX (K : PySem.W.Frag) (D a : Addr) (d : Option Addr) : List V → Hp → VK → Prop := fun xs H Q => ∃ (c : V) (cv : Value) (b : Bool), xs = [.ref a, c] ∧ (∀ u, RelV c u → u = cv) ∧ PySem.W.kitOne K (.ref D) cv = some b ∧ (match d with
  | none => True
  | some dd => ∃ fs, H dd = some (.xd fs)) ∧ Q (.bl b) H
theorem call_isX {D : Addr} (C : ExcC X.K D) (hz : Zc (.ref D) d oe) (hf : ∃ vs, oe.data = .fields vs) : CallR (X.suite a ((a, oe) :: pn)) (.builtin "isinstance") (rIsX X.K D a d) := by
  intro pins s σ H xs us Q I r h
  obtain ⟨c, cv, b, rfl, hcv, e, hx, q⟩ := h
  match us, r with
  | [_, _], .cons rx (.cons rt .nil) =>
    cases rx
    have ec := hcv _ rt
    subst ec
    obtain ⟨hget, _⟩ := I.pin (a, oe) (List.mem_append.mpr (.inl List.mem_cons_self))
    obtain ⟨vs, hv⟩ := hf
    have nc : PySem.W.notCls oe = true := by unfold PySem.W.notCls; rw [hv]
    obtain ⟨od, J⟩ : ∃ od, PySem.W.InstAt s.heap a oe D od := by
      cases d with
      | none => exact ⟨none, hget, hz.1, nc, by rw [hz.2]; trivial⟩
      | some dd =>
        obtain ⟨fs, hd⟩ := hx
        have ok : ObjOk X.prog X.w H s.heap dd (.xd fs) := I.hok dd _ hd
        obtain ⟨mA, hns, hr⟩ := ok
        obtain ⟨od, ho, hl⟩ := lookIn_ns hns
        exact ⟨some od, hget, hz.1, nc, by rw [hz.2]; exact ho⟩
    obtain ⟨cd, hcd, _⟩ := PySem.W.any_some C.hd
    exact PySem.W.kia_one (PySem.W.kitx_exc (by rw [hcd]; rfl) C.hg C.hk C.hs C.ha C.hn C.ht C.hm) I.kIn J e (fun z => nomatch z) fun tk => ⟨.bl b, H, I.kept (t' := tk) fun _ _ z => z, rfl, q⟩
/-- isinstance(e, c) -/
theorem risx {T : ExTab} (E : ExT X.K X.mg T) (hm : X.mg "isinstance" = none) (hz : Zc cls d oe) (hf : ∃ vs, oe.data = .fields vs) (hT : T.any (fun q => decide (q.1 = c)) = true := by decide) (hi : X.N[i]? = some n := by rfl) (hv : Vis X.env.scope n := by first | exact Or.inl rfl | exact Or.inr (Or.inl rfl) | exact Or.inr (Or.inr rfl)) (hd : (n == ("__debug__" : Str)) = false := by decide)
    (hcd : (n == ("__classdict__" : Str)) = false := by decide) (hg : Gl X "isinstance" := by rfl) (hg2 : Gl X c := by rfl) (hdc : (c == ("__debug__" : Str)) = false := by decide) (hvb : bootBuiltins "isinstance" = some (.builtin "isinstance") := by decide +kernel)
    (he : starEach [.Name n p1, .Name c p2] X.env = (false, eval (.Name n p1) X.env) :: starEach [.Name c p2] X.env := by rfl) (he2 : starEach [.Name c p2] X.env = (false, eval (.Name c p2) X.env) :: starEach [] X.env := by rfl) (hpl : (backTo pos (starEach [.Name c p2] X.env)).any (·.1) = false := by rfl) :
    RE (X.suite a ((a, oe) :: pn)) (suW X.K X.w X.mg W i a cls d er) (.Call (.Name "isinstance" p) [.Name n p1, .Name c p2] [] pos) (dIsX T er c) := by
  refine ⟨fun pins s σ H Q I h => ?_⟩
  obtain ⟨G, β, sm, ev, rp⟩ := h
  obtain ⟨_, hs, C, gC, ec, ha⟩ := ev.2.2
  subst ec
  unfold dIsX at rp
  cases q : T.lookup er.cls with
  | none => rw [q] at rp; exact rp.elim
  | some l =>
    rw [q] at rp
    obtain ⟨r, hr, e⟩ := List.any_eq_true.mp hT
    have e := of_decide_eq_true e
    obtain ⟨Dc, hD⟩ := E.cls r hr
    have k := (E.exm _ (lookup_memT q) r hr C Dc gC hD).2
    rw [e] at hD k
    have ow := E.own _ (lookup_memT q) C gC
    refine (pe_callB (X := X.suite a ((a, oe) :: pn)) (call_isX ow hz hf) hg hm hvb (pa_cons (X := X.suite a ((a, oe) :: pn)) (pe_var (X := X.suite a ((a, oe) :: pn)) hi hv hd hcd) (pa_cons (pe_glob (X := X.suite a ((a, oe) :: pn)) (v := .ref Dc) hg2 hD rfl hdc) pa_nil he2) he) (by decide) (by decide) he hpl).run pins s σ H Q I ?_
    refine ⟨.ref a, hs, .ref Dc, .ref Dc, l.contains c, rfl, fun u hu => hu, k, ?_, rp.here (Gr.refl sm) _ (.bl _)⟩
    cases qa : er.arg with
    | none => rw [qa] at ha; subst ha; trivial
    | some gx =>
      rw [qa] at ha
      obtain ⟨dd, v, e1, e2, e3⟩ := ha
      subst e1
      exact ⟨_, sm _ _ e2⟩
end
end
end DL

/-! DX5: what the head tells of exception classes. -/
namespace DL
open PySem PySem.Spec PyProof.Rows L2
/-! ### a hook that sees the statics too -/
abbrev AlE : Type := He.AlT × Bool
def obsE (as : List Addr) (fa : List He.Fa) (fn : List He.DefD) (ts : List He.Tab) (ex : PySem.W.Frag → Bool) (g : Addr → Option Obj) : AlE := (He.obsT fa fn ts (He.frG g as), ex (He.frG g as))
structure SaysEx (fa : List He.Fa) (fn : List He.DefD) (ts : List He.Tab) (ex : PySem.W.Frag → Bool) (w : World) (K : PySem.W.Frag) : Prop where
  t : He.SaysT fa fn ts w K
  more : ex K = true
def hookE (as : List Addr) (fa : List He.Fa) (fn : List He.DefD) (ts : List He.Tab) (ex : PySem.W.Frag → Bool) : PySem.W.Hook where
  α := AlE
  obs := fun s => obsE as fa fn ts ex s.heap.get?
  val := fun w => (He.valT fn ts w, true)
  says := fun w h => ∃ K : PySem.W.Frag, K.In h ∧ SaysEx fa fn ts ex w K
  of := fun _ _ e => ⟨_, He.frG_in, ⟨congrArg (fun z : AlE => z.1) e, congrArg (fun z : AlE => z.2) e⟩⟩
  keeps := fun _ _ _ ⟨K, hK, c⟩ k => ⟨K, PySem.W.Frag.In.keeps hK k, c⟩
theorem obsE_eq {as : List Addr} {fa : List He.Fa} {fn : List He.DefD} {ts : List He.Tab} {ex : PySem.W.Frag → Bool} {g : Addr → Option Obj} {s : Shared} (h : ∀ a, g a = s.heap.get? a) : obsE as fa fn ts ex g = (hookE as fa fn ts ex).obs s := by
  have e : g = s.heap.get? := funext h
  rw [e]
  rfl
/-- the world with one of its texts told -/
def wf (w : World) (b : Bool) : World := { w with params := { w.params with followText := fun r => if r = "special-get-raises" then b else w.params.followText r } }
theorem wf_eq (w : World) : wf w (w.params.followText "special-get-raises") = w := by
  have e : (fun r => if r = "special-get-raises" then w.params.followText "special-get-raises" else w.params.followText r) = w.params.followText := funext fun r => by
    by_cases h : r = "special-get-raises"
    · rw [if_pos h, h]
    · rw [if_neg h]
  unfold wf
  rw [e]
theorem run_of {P : World → Prop} (h1 : ∀ w, P (wf w true)) (h2 : ∀ w, P (wf w false)) (w : World) : P w := by
  rw [← wf_eq w]
  cases w.params.followText "special-get-raises" with
  | true => exact h1 w
  | false => exact h2 w
/-! ### classes -/
def mgB (K : PySem.W.Frag) (x : Str) : Bool := He.eqO (PySem.W.nsIn K mainGlobals x) (some (some (.ref (He.ga K x))))
def exOwnB (K : PySem.W.Frag) (C : Addr) : Bool := decide (PySem.W.findIn K (.ref C) "__getattribute__" = some (some (.builtin "BaseException.__getattribute__"))) && (decide (PySem.W.findIn K (.ref C) "__getattr__" = some none) && (decide (PySem.W.subIn K (.ref C) (.type "BaseException") = some true) && (PySem.W.hasDictIn K C &&
  (decide (PySem.W.findIn K (.ref C) "__class__" = some (some (.builtin "object.__class__"))) && (decide (PySem.W.specialIn K (.builtin "object.__class__") "__get__" = some (some (.builtin "getset_descriptor.__get__"))) && (decide (PySem.W.takesIn K (.builtin "object.__class__") = some true) && decide (PySem.W.mroIn K C (.type "object") = some true)))))))
def exTB (T : ExTab) (K : PySem.W.Frag) : Bool := T.all fun q => mgB K q.1 && (exOwnB K (He.ga K q.1) && (decide (PySem.W.kitOne K (.ref (He.ga K q.1)) (.type "ValueError") = some true) && T.all fun r => decide (PySem.W.exmOne K (.ref (He.ga K q.1)) (.ref (He.ga K r.1)) = some (q.2.contains r.1)) && decide (PySem.W.kitOne K (.ref (He.ga K q.1)) (.ref (He.ga K r.1)) = some (q.2.contains r.1))))
def fdTB (F : FdTab) (K : PySem.W.Frag) : Bool := F.all fun q => mgB K q.1 && (xfB K (He.ga K q.1) && decide (PySem.W.findIn K (.ref (He.ga K q.1)) q.2 = some none))
def ex0B (x : Str) (K : PySem.W.Frag) : Bool := mgB K x && (He.Fa.exc x).ok K
section
variable {K : PySem.W.Frag} {h : Heap} {mg : Str → Option Value}
theorem mgB_ok (X : K.In h) (G : h.Ns mainGlobals mg) {x : Str} (c : mgB K x = true) : mg x = some (.ref (He.ga K x)) := PySem.W.mg_of X G (He.eqO_ok c)
theorem mgB_eq (X : K.In h) (G : h.Ns mainGlobals mg) {x : Str} {C : Addr} (c : mgB K x = true) (e : mg x = some (.ref C)) : C = He.ga K x := by
  rw [mgB_ok X G c] at e
  cases e
  rfl
theorem exTB_ok (X : K.In h) (G : h.Ns mainGlobals mg) {T : ExTab} (c : exTB T K = true) : ExT K mg T := by
  have k : ∀ q ∈ T, mgB K q.1 = true ∧ exOwnB K (He.ga K q.1) = true ∧ PySem.W.kitOne K (.ref (He.ga K q.1)) (.type "ValueError") = some true ∧ ∀ r ∈ T, PySem.W.exmOne K (.ref (He.ga K q.1)) (.ref (He.ga K r.1)) = some (q.2.contains r.1) ∧ PySem.W.kitOne K (.ref (He.ga K q.1)) (.ref (He.ga K r.1)) = some (q.2.contains r.1) := fun q hq => by
    have z := List.all_eq_true.mp c q hq
    obtain ⟨z1, z⟩ := He.ba z
    obtain ⟨z2, z⟩ := He.ba z
    obtain ⟨z3, z4⟩ := He.ba z
    refine ⟨z1, z2, of_decide_eq_true z3, fun r hr => ?_⟩
    obtain ⟨y1, y2⟩ := He.ba (List.all_eq_true.mp z4 r hr)
    exact ⟨of_decide_eq_true y1, of_decide_eq_true y2⟩
  refine ⟨fun q hq => ⟨_, mgB_ok X G (k q hq).1⟩, fun q hq r hr C D e1 e2 => ?_, fun q hq C e => ?_, fun q hq C e => ?_⟩
  · rw [mgB_eq X G (k q hq).1 e1, mgB_eq X G (k r hr).1 e2]
    exact (k q hq).2.2.2 r hr
  · rw [mgB_eq X G (k q hq).1 e]
    exact (k q hq).2.2.1
  · rw [mgB_eq X G (k q hq).1 e]
    have z := (k q hq).2.1
    unfold exOwnB at z
    simp only [Bool.and_eq_true, decide_eq_true_eq] at z
    obtain ⟨a1, a2, a3, a4, a5, a6, a7, a8⟩ := z
    exact ⟨a1, a2, a3, a4, a5, a6, a7, a8⟩
theorem fdTB_ok (X : K.In h) (G : h.Ns mainGlobals mg) {F : FdTab} (c : fdTB F K = true) : FdT K mg F := ⟨fun q hq C e => by
  obtain ⟨z1, z⟩ := He.ba (List.all_eq_true.mp c q hq)
  obtain ⟨z2, z3⟩ := He.ba z
  rw [mgB_eq X G z1 e]
  exact ⟨xfB_ok z2, of_decide_eq_true z3⟩⟩
theorem ex0B_ok (X : K.In h) (G : h.Ns mainGlobals mg) {x : Str} (c : ex0B x K = true) : Ex0 K mg x := by
  obtain ⟨z1, z2⟩ := He.ba c
  obtain ⟨y1, y2, y3, y4⟩ := He.exc_ok z2
  exact ⟨_, mgB_ok X G z1, y1, y2, y3, y4⟩
end
/-! ### the class with super().__init__ -/
def clsVB (K : PySem.W.Frag) (C : Addr) : Bool := match K.lookup C with
  | some ⟨.type t, _, .cls cd, sl⟩ => decide (t = "type") && (match cd.mro, sl.toList with
    | .ref C' :: bm, [_, _, _, _, some (.builtin n), _] => decide (C' = C) && (decide (n = "ValueError.__new__") && (cd.hasDict && (!cd.hasDel && PySem.HandSPX.refsVE bm)))
    | _, _ => false)
  | _ => false
theorem clsVB_ok {K : PySem.W.Frag} {C : Addr} (h : clsVB K C = true) : ∃ nm q N bs bm sn sub ab col dd k0 k1 k2 k3 k5, K.lookup C = some (excClassObj nm q C N bs bm true sn sub ab col dd k0 k1 k2 k3 k5 "ValueError.__new__") ∧ PySem.HandSPX.refsVE bm = true := by
  unfold clsVB at h
  split at h
  · rename_i t dd cd sl ho
    obtain ⟨h1, h2⟩ := He.ba h
    have h1 := of_decide_eq_true h1
    subst h1
    split at h2
    · rename_i C' bm k0 k1 k2 k3 n k5 hm hs
      simp only [Bool.and_eq_true, decide_eq_true_eq, Bool.not_eq_true'] at h2
      obtain ⟨rfl, rfl, h4, h5, h6⟩ := h2
      obtain ⟨nm, bs, mro, ns, qn, hd, sn, sub, ab, col, del⟩ := cd
      dsimp only at hm h4 h5
      subst hm h4 h5
      obtain ⟨l⟩ := sl
      dsimp only at hs
      subst hs
      exact ⟨nm, qn, ns, bs, bm, sn, sub, ab, col, dd, k0, k1, k2, k3, k5, ho, h6⟩
    · cases h2
  · cases h
def fileB (P : Program) (K : PySem.W.Frag) (a : Addr) : Bool := match K.lookup a with
  | some ⟨_, _, .fields vs, _⟩ => (match (vs[2]? : Option Value) with
    | some (.str file _) => ((P.main.file : Str) == file)
    | _ => false)
  | _ => false
def cellB (K : PySem.W.Frag) (a C : Addr) : Bool := match K.lookup a with
  | some ⟨_, _, .cell (some (.ref D)), _⟩ => decide (D = C)
  | _ => false
def supFnB (P : Program) (K : PySem.W.Frag) (C fI : Addr) (x : Str) : Bool := match K.lookup fI with
  | some ⟨_, _, .func ⟨nm, qual, ⟨[], [⟨s1, none, _⟩, ⟨s2, none, _⟩], none, [], [], none, []⟩, .stmts [.Expr (.Call (.Attribute (.Call (.Name s3 _) [] [] _) s4 a3) [.Constant (.str _) _ _] [] a5) _, .Assign [.Attribute (.Name s5 _) s6 _] (.Name s7 _) _], ⟨.function, names, false, false, []⟩, gl, [(s8, cc)], .none, .none, _, _, _, .ref cda, _, bl⟩, _⟩ =>
    decide (nm = "__init__") && (decide (s1 = "self") && (decide (s2 = x) && (decide (s3 = "super") && (decide (s4 = "__init__") && (decide (s5 = "self") && (decide (s6 = x) && (decide (s7 = x) && (decide (s8 = "__class__") && (decide (names = (PySem.SupX.iS x).names) && (decide (gl = mainGlobals) && (decide (bl = builtinsNs) && ((a3.endLine == a5.line) &&
      (PySem.W.codeIn K (.ref cda) qual && (fileB P K cda && cellB K cc C))))))))))))))
  | _ => false
theorem supFnB_ok {P : Program} {K : PySem.W.Frag} {C fI : Addr} {x : Str} (h : supFnB P K C fI x = true) : ∃ m, ∃ (oc : Value) (od : Option Addr) (qual : Str) (doc pm : Value) (an : Option Addr) (cda cc : Addr) (ct : Value) (osl : Array (Option Value)) (p1 p2 : Pos) (j : Nat) (a1 a2 a3 a4 a5 a6 q1 q2 q3 q4 : Pos),
    K.lookup fI = some ⟨oc, od, .func (PySem.W.ksFn "__init__" qual (PySem.SupX.iA x p1 p2) (PySem.SupX.iB x m j a1 a2 a3 a4 a5 a6 q1 q2 q3 q4) (PySem.SupX.iS x) .none .none doc pm an (.ref cda) ct cc), osl⟩ ∧ (a3.endLine == a5.line) = true ∧ PySem.W.codeIn K (.ref cda) qual = true ∧
    (∃ (kc : Value) (kd : Option Addr) (vs : Array Value) (ks : Array (Option Value)) (file : Str) (tf : Tok), K.lookup cda = some ⟨kc, kd, .fields vs, ks⟩ ∧ vs[2]? = some (.str file tf) ∧ ((P.main.file : Str) == file) = true) ∧
    ∃ (lc : Value) (ld : Option Addr) (ls : Array (Option Value)), K.lookup cc = some ⟨lc, ld, .cell (some (.ref C)), ls⟩ := by
  unfold supFnB at h
  split at h
  · rename_i ho
    simp only [Bool.and_eq_true, decide_eq_true_eq] at h
    obtain ⟨rfl, rfl, rfl, rfl, rfl, rfl, rfl, rfl, rfl, rfl, rfl, rfl, hl, h1, h2, h3⟩ := h
    refine ⟨_, _, _, _, _, _, _, _, _, _, _, _, _, _, _, _, _, _, _, _, _, _, _, _, ho, hl, h1, ?_, ?_⟩
    · unfold fileB at h2
      split at h2
      · rename_i vs ks hk
        split at h2
        · rename_i file tf hv
          exact ⟨_, _, _, _, _, _, hk, hv, h2⟩
        · cases h2
      · cases h2
    · unfold cellB at h3
      split at h3
      · rename_i hk
        rw [of_decide_eq_true h3] at hk
        exact ⟨_, _, _, hk⟩
      · cases h3
  · cases h
def supB (P : Program) (n x : Str) (K : PySem.W.Frag) : Bool := mgB K n && (clsVB K (He.ga K n) && (decide (PySem.W.findIn K (.ref (He.ga K n)) "__setattr__" = some (some (.builtin "object.__setattr__"))) && (xfB K (He.ga K n) && (decide (PySem.W.findIn K (.ref (He.ga K n)) x = some none) &&
  (decide (PySem.W.findIn K (.ref (He.ga K n)) "__init__" = some (some (.ref (He.ma K (He.ga K n) "__init__")))) && (decide (PySem.W.typeIn K (.ref (He.ma K (He.ga K n) "__init__")) = some (.type "function")) && (PySem.W.keepIn K (.ref (He.ga K n)) && (decide (PySem.W.subIn K (.ref (He.ga K n)) (.type "ValueError") = some true) &&
  (decide (PySem.W.typeIn K (.ref (He.ga K n)) = some (.type "type")) && (decide (PySem.W.ks_superIn K (He.ga K n) (He.ga K n) "__init__" = some (some (.builtin "ValueError.__init__"))) && (PySem.W.excInitIn K (He.ga K n) PySem.HandSPX.veTail "ValueError.__new__" && (decide (PySem.W.mroIn K (He.ga K n) (.ref (He.ga K n)) = some true) &&
  (decide (PySem.W.nsIn K cStatics "thirdparty.any" = some none) && (decide (PySem.W.nsIn K mainGlobals "super" = some none) && (decide ((P.main.scope.names.lookup ("super" : Str)).isSome = false) && supFnB P K (He.ga K n) (He.ma K (He.ga K n) "__init__") x)))))))))))))))
theorem supB_ok {P : Program} {K : PySem.W.Frag} {h : Heap} {mg : Str → Option Value} (X : K.In h) (G : h.Ns mainGlobals mg) {n x : Str} (F : PySem.SupX.FName x) (c : supB P n x K = true) : Ex1 P K mg n x := by
  unfold supB at c
  simp only [Bool.and_eq_true, decide_eq_true_eq] at c
  obtain ⟨c1, c2, c3, c4, c5, c6, c7, c8, c9, c10, c11, c12, c13, c14, c15, c16, c17⟩ := c
  obtain ⟨m, fn⟩ := supFnB_ok c17
  have xf := xfB_ok c4
  exact ⟨F, m, _, _, ⟨mgB_ok X G c1, clsVB_ok c2, c3, xf.ga, xf.gg, c5, c6, c7, c8, xf.exC, c9, c10, xf.hdC, c11, c12, c13, c14, PySem.W.mg_none_of X G c15, c16, fn⟩⟩
end DL

/-! DX6: defs that hand back a new list; lists joined to a new list. -/
namespace DL
open PySem PySem.Spec PyProof.Rows L2
/-- the promise: a new list, and what it holds -/
def SpL (K : PySem.W.Frag) (w : World) (mg : Str → Option Value) (f : List D → Res D) : Sp := fun vs H Q E => ∃ G ds, Same G H ∧ RpAll K w G vs ds ∧
  RP K w mg (Wd E) [] G H (fun d G' H' => ∃ rs, d = .list rs ∧ ∀ a us, H a = none → G' a = none → H' a = some (.lst us) → RpAll K w G' us rs → Q (.ref a) H') (f ds)
theorem SpL.len {K : PySem.W.Frag} {w : World} {mg : Str → Option Value} {f : List D → Res D} {n : Nat} (hf : ∀ ds, ds.length ≠ n → f ds = .no) (vs : List V) (H : Hp) (Q : VK) (E : XK) (h : SpL K w mg f vs H Q E) : vs.length = n := by
  obtain ⟨G, ds, s, r, rp⟩ := h
  rw [r.length]
  by_cases e : ds.length = n
  · exact e
  · rw [hf ds e] at rp
    exact rp.elim
def fDL (n N : Nat) (body : At → Out) : List D → Res D := fun ds => if ds.length = n then (match body (ds.map AV.dat ++ List.replicate (N - n) AV.un) with
  | .rl ds => .ok (.list ds)
  | .er e _ => .er e
  | _ => .no) else .no
theorem fDL_len {n N : Nat} {body : At → Out} (ds : List D) (h : ds.length ≠ n) : fDL n N body ds = .no := by
  unfold fDL
  rw [if_neg h]
theorem fDL_list {n N : Nat} {body : At → Out} {ds : List D} {d : D} (h : fDL n N body ds = .ok d) : ∃ rs, d = .list rs := by
  unfold fDL at h
  split at h
  · split at h
    · cases h; exact ⟨_, rfl⟩
    · cases h
    · cases h
  · cases h
theorem start_sv {K : PySem.W.Frag} {w : World} {W : WA} {G H : Hp} {N : List Str} {n : Nat} {vs : List V} {ds : List D} (sg : Same G H) (r : RpAll K w G vs ds) (hlen : n ≤ N.length) (hn : ds.length = n) (am : W.am G (L2.start N vs)) :
    Sv K w W G H G H (L2.start N vs) (ds.map AV.dat ++ List.replicate (N.length - n) AV.un) := by
  have l1 := r.length
  have noO : ∀ (i : Nat) (es : List D), (ds.map AV.dat ++ List.replicate (N.length - n) AV.un)[i]? = some (.own es) → False := fun i es e => by
    by_cases hi : i < ds.length
    · rw [List.getElem?_append_left (by simpa using hi), List.getElem?_map, List.getElem?_eq_getElem hi] at e
      cases e
    · rw [List.getElem?_append_right (by simpa using hi), List.getElem?_replicate] at e
      split at e <;> cases e
  refine ⟨Gr.refl sg, ?_, fun i d e => ?_, fun i es e => (noO i es e).elim, fun i j es fs p ne e1 _ _ _ => (noO i es e1).elim, am⟩
  · unfold L2.start
    simp only [List.length_append, List.length_map, List.length_replicate]
    omega
  · by_cases hi : i < ds.length
    · rw [List.getElem?_append_left (by simpa using hi), List.getElem?_map] at e
      cases hd : ds[i]? with
      | none => rw [hd] at e; cases e
      | some d' =>
        rw [hd] at e
        cases e
        obtain ⟨v, h1, h2⟩ := r.get hd
        refine ⟨v, ?_, h2⟩
        unfold L2.start
        rw [List.getElem?_append_left (by rw [List.length_map]; omega), List.getElem?_map, h1]
        rfl
    · rw [List.getElem?_append_right (by simpa using hi), List.getElem?_replicate] at e
      split at e <;> cases e
theorem okDL {P : Program} {w : World} {K : PySem.W.Frag} {mg : Str → Option Value} {base : Heap} {x qual : Str} {params : Arguments} {bodyS : List Stmt} {scope : Scope} {f : Addr} {fd : FuncData} {N ps : List Str} {k : Nat} {den : At → Out}
    (F : FunD K x qual params bodyS scope [] [] f fd) (S : FnScope N ps scope)
    (h : ∀ (cdv : Value) (A : Around) (outer : List Env) (s : Shared) (H : Hp) (E : XK), Room k (A.deeper (envOfC qual scope s.heap.objs.size f cdv)) → RSs (cxOf (L2.CX P w) P w K mg base N qual scope f cdv A outer s H E) (Wd E) bodyS den) :
    FnOk P w K mg base (L2.CX P w) (k + 1) f fd ps (SpL K w mg (fDL ps.length N.length den)) := by
  refine F.ok S (SpL.len fDL_len) fun cdv A outer s H vs Q E hr hsp => ⟨_, h cdv A outer s H E hr, ?_⟩
  obtain ⟨G, ds, sg, r, rp⟩ := hsp
  have hlen : ps.length ≤ N.length := by
    have := congrArg List.length S.pre
    rw [List.length_take] at this
    omega
  by_cases hn : ds.length = ps.length
  · unfold fDL at rp
    rw [if_pos hn] at rp
    refine ⟨G, H, G, _, start_sv sg r hlen hn trivial, ?_⟩
    cases hb : den (ds.map AV.dat ++ List.replicate (N.length - ps.length) AV.un) with
    | rl es =>
      rw [hb] at rp
      exact fun G' H' _ g a us h1 h2 h3 r => by
        obtain ⟨rs, e, q⟩ := rp _ _ g
        cases e
        exact q a us h1 h2 h3 r
    | er e α => rw [hb] at rp; exact fun cls dd σ' G' H' _ S' z => rp cls dd _ _ S'.gr z
    | nx α => rw [hb] at rp; exact rp.elim
    | rt d => rw [hb] at rp; exact rp.elim
    | bk α => rw [hb] at rp; exact rp.elim
    | ct α => rw [hb] at rp; exact rp.elim
    | no => rw [hb] at rp; exact rp.elim
  · rw [fDL_len ds hn] at rp
    exact rp.elim
/-- the def x may be called, at level k, and hands back a new list -/
def CalL (P : Program) (w : World) (K : PySem.W.Frag) (mg : Str → Option Value) (base : Heap) (k : Nat) (x : Str) (g : List D → Res D) : Prop :=
  ∃ f fd ps, FnOk P w K mg base (L2.CX P w) k f fd ps (SpL K w mg g) ∧ mg x = some (.ref f) ∧ PySem.W.keepIn K (.ref f) = true ∧ Binds K fd ps []
theorem SpL.of {K : PySem.W.Frag} {w : World} {mg : Str → Option Value} {g : List D → Res D} (hl : ∀ ds d, g ds = .ok d → ∃ rs, d = .list rs) (vs : List V) (H : Hp) (Q : VK) (E : XK) (h : SpF K w mg g vs H Q E) : SpL K w mg g vs H Q E := by
  obtain ⟨G, ds, s, r, rp⟩ := h
  refine ⟨G, ds, s, r, ?_⟩
  cases q : g ds with
  | no => rw [q] at rp; exact rp
  | er e => rw [q] at rp; exact rp
  | ok d =>
    rw [q] at rp
    obtain ⟨rs, rfl⟩ := hl ds d q
    intro G' H' g'
    exact ⟨rs, rfl, fun a us h1 h2 h3 r => rp _ _ (g'.lay h1 h2 h3) _ (.lst upd_same (RpAll.mono (same_upd h2) r))⟩
theorem CalL.cal {P : Program} {w : World} {K : PySem.W.Frag} {mg : Str → Option Value} {base : Heap} {k : Nat} {x : Str} {n N : Nat} {body : At → Out} (C : CalL P w K mg base k x (fDL n N body)) : Cal P w K mg base k x (fDL n N body) := by
  obtain ⟨f, fd, ps, F, h⟩ := C
  exact ⟨f, fd, ps, F.imp (SpL.of fun _ _ => fDL_list), h⟩
def dCallL (f : List D → Res D) (a : Bt → Res (List D)) : Bt → Res (List D) := fun β => (a β).bind fun xs => (f xs).bind fun d => match d with
  | .list rs => .ok rs
  | _ => .no
def lAdd (a b : Bt → Res D) : Bt → Res (List D) := fun β => (a β).bind fun x => (b β).bind fun y => match x, y with
  | .list xs, .list ys => if xs.length + ys.length ≤ sizeLine then .ok (xs ++ ys) else .no
  | _, _ => .no
def lMul (a b : Bt → Res D) : Bt → Res (List D) := fun β => (a β).bind fun x => (b β).bind fun y => match x, y with
  | .list xs, .int k => if -(2 ^ 63) ≤ k ∧ k < 2 ^ 63 ∧ xs.length * k.toNat ≤ sizeLine then .ok (List.replicate k.toNat xs).flatten else .no
  | _, _ => .no
section
variable {X : Cx} {W : WA} {k k' : Nat} {g : List D → Res D} {x : Str} {p pos : Pos} {e : Expr} {es : List Expr} {da : Bt → Res (List D)} {a b : Expr} {d1 d2 : Bt → Res D}
theorem rcL (C : CalL X.prog X.w X.K X.mg X.base k x g) (hr : Room k' X.A) (tk : Takes X W.x) (ha : RA X W (e :: es) da) (hk : k ≤ k' := by decide)
    (hg : Gl X x := by rfl) (hdb : (x == ("__debug__" : Str)) = false := by decide) (he : starEach (e :: es) X.env = (false, eval e X.env) :: starEach es X.env := by rfl) (hpl : (backTo pos (starEach es X.env)).any (·.1) = false := by rfl) :
    RF X W (.Call (.Name x p) (e :: es) [] pos) (dCallL g da) := by
  obtain ⟨f, fd, ps, F, hm, kp, hb⟩ := C
  refine PE.imp (pe_callSD (E := fun σ => WE W.x σ) F (hr.mono hk) hg hm kp hb .nil (passAt tk) ha hdb he hpl) fun σ H Q h => ?_
  obtain ⟨G, β, s, ev, rp⟩ := h
  refine ⟨G, β, s, ev, rp.bind fun ds ed G1 H1 g1 rp1 vs rv => ?_⟩
  show SpL X.K X.w X.mg g (vs ++ []) H1 Q (WE W.x σ)
  rw [List.append_nil]
  refine ⟨G1, ds, g1.s, rv, ?_⟩
  cases q : g ds with
  | no => rw [q] at rp1; exact rp1
  | er e => rw [q] at rp1; exact rp1
  | ok d =>
    rw [q] at rp1
    cases d with
    | list rs => exact fun G' H' g2 => ⟨rs, rfl, fun a us h1 h2 h3 r => rp1 G' H' g2 a us (g1.h.free h1) h2 h3 r⟩
    | _ => exact rp1.elim
theorem rladd (ha : RE X W a d1) (hb : RE X W b d2) : RF X W (.BinOp a .Add b pos) (lAdd d1 d2) :=
  PE.imp (pe_op op_cat ha hb) fun σ H Q h => by
    obtain ⟨G, β, s, ev, rp⟩ := h
    refine ⟨G, β, s, ev, rp.bind fun x ex G1 H1 g1 rp1 v rv => ?_⟩
    refine ⟨G1, β, g1.s, ev.mono g1.g, rp1.bind fun y ey G2 H2 g2 rp2 u ru => ?_⟩
    cases rv with
    | lst hx rx =>
      cases ru with
      | lst hy ry =>
        rename_i xs _ _ ys
        dsimp only at rp2
        by_cases hz : xs.length + ys.length ≤ sizeLine
        · rw [if_pos hz] at rp2
          have l1 := rx.length
          have l2 := ry.length
          refine ⟨_, _, _, _, rfl, rfl, g2.s _ _ (g2.g _ _ hx), g2.s _ _ hy, by omega, fun p hp => ?_⟩
          exact rp2.here ((Gr.refl g2.s).put hp (g2.s.free hp)) p _ (g1.h.free (g2.h.free hp)) (g2.s.free hp) upd_same ((RpAll.mono g2.g rx).append ry)
        · rw [if_neg hz] at rp2; exact rp2.elim
      | _ => exact rp2.elim
    | _ => cases ru <;> exact rp2.elim
theorem rlmul (ha : RE X W a d1) (hb : RE X W b d2) : RF X W (.BinOp a .Mult b pos) (lMul d1 d2) :=
  PE.imp (pe_op op_rep ha hb) fun σ H Q h => by
    obtain ⟨G, β, s, ev, rp⟩ := h
    refine ⟨G, β, s, ev, rp.bind fun x ex G1 H1 g1 rp1 v rv => ?_⟩
    refine ⟨G1, β, g1.s, ev.mono g1.g, rp1.bind fun y ey G2 H2 g2 rp2 u ru => ?_⟩
    cases rv with
    | lst hx rx =>
      cases ru with
      | int n =>
        rename_i xs
        dsimp only at rp2
        by_cases hz : -(2 ^ 63) ≤ n ∧ n < 2 ^ 63 ∧ xs.length * n.toNat ≤ sizeLine
        · rw [if_pos hz] at rp2
          have l1 := rx.length
          obtain ⟨z1, z2, z3⟩ := hz
          refine ⟨_, _, _, rfl, rfl, g2.s _ _ (g2.g _ _ hx), z1, z2, by rw [l1]; exact z3, fun p hp => ?_⟩
          exact rp2.here ((Gr.refl g2.s).put hp (g2.s.free hp)) p _ (g1.h.free (g2.h.free hp)) (g2.s.free hp) upd_same ((RpAll.mono g2.g rx).flat n.toNat)
        · rw [if_neg hz] at rp2; exact rp2.elim
      | _ => exact rp2.elim
    | _ => cases ru <;> exact rp2.elim
/-- our own list is handed back -/
def sRetO (i : Nat) : At → Out := fun α => match α[i]? with
  | some (.own ds) => .rl ds
  | _ => .no
theorem rsreto {i : Nat} (hi : X.N[i]? = some x := by rfl) (hv : Vis X.env.scope x := by first | exact Or.inl rfl | exact Or.inr (Or.inl rfl) | exact Or.inr (Or.inr rfl)) (hd : (x == ("__debug__" : Str)) = false := by decide)
    (hcd : (x == ("__classdict__" : Str)) = false := by decide) : RS X W (.Return (some (.Name x p)) pos) (sRetO i) :=
  PS.imp (ps_ret (pe_var hi hv hd hcd)) fun D0 σ H ⟨G0, H0, G, α, S, q⟩ => by
    unfold sRetO at q
    split at q
    · rename_i ds e
      obtain ⟨p, vs, b1, b2, b3, b4, b5⟩ := S.own i ds e
      exact ⟨_, b1, q G H (Same.refl _) S.gr p vs b2 b3 b4 b5⟩
    · exact q.elim
end
end DL

/-! DX7: sorted by a key that a def of the text tells: two of a row's items. -/
namespace DL
open PySem PySem.Spec PyProof.Rows L2
section
variable {prog : Program} {w : World} {A : Around} {E : Value → Shared → Prop} {s : Shared} {K : PySem.W.Frag}
theorem IsTup.kept {h h' : Heap} {t : Addr} {items : Array Value} (k : ∀ b o, h.get? b = some o → h'.get? b = some o) (i : IsTup h t items) : IsTup h' t items := by
  obtain ⟨o, e, r⟩ := i
  exact ⟨o, k _ _ e, r⟩
theorem item_at {env : Env} {m : Str → Option Value} {r : Str} {p1 p2 p3 : Pos} {k1 : Nat} {i : Int} {t : Addr} {items : Array Value} {j : Nat} {x : Value} {Q : Value → Shared → Prop} (hk : env.scope.kind = .function) (hl : env.kindOf r = some .local) (hn : s.heap.Ns env.locals m) (hv : m r = some (.ref t)) (hd : (r == ("__debug__" : Str)) = false)
    (ht : IsTup s.heap t items) (hlo : -(2 ^ 63) ≤ i) (hhi : i < 2 ^ 63) (hj : seqIndex? i items.size = some j) (hx : items[j]? = some x) (h : Q x { s with toks := s.toks + 1 }) :
    wpAny (model prog w) A (eval (.Subscript (.Name r p1) (.Constant (.int i) k1 p2) p3) env) Q E s :=
  Subscript_ (wpAny_Name (wpAny_loadName_local hk hl hn hv (wpAny_Constant_int (item_tuple (s := { s with toks := s.toks + 1 }) ht hlo hhi hj hx h))) hd)
theorem key2_turn {f t : Addr} {fd : FuncData} {x qual r : Str} {params : Arguments} {scope : Scope} {i j : Int} {k1 k2 : Nat} {k3 : Nat} {p1 p2 p3 p4 p5 p6 p7 p8 : Pos} {items : Array Value} {ji jj : Nat} {vi vj : Value} {di dj : PyData}
    (F : FunD K x qual params [.Return (some (.Tuple [.Subscript (.Name r p1) (.Constant (.int i) k1 p2) p3, .Subscript (.Name r p4) (.Constant (.int j) k2 p5) p6] k3 p7)) p8] scope [] [] f fd) (B : Binds K fd [r] []) (X : K.In s.heap) (lim : s.heap.NoLimit) (hroom : A.depth < recursionLimit)
    (hk : scope.kind = .function) (hco : scope.isCoroutine = false) (hgen : scope.isGenerator = false) (hl : scope.names.lookup r = some .local) (hd : (r == ("__debug__" : Str)) = false)
    (ht : IsTup s.heap t items) (i0 : -(2 ^ 63) ≤ i) (i1 : i < 2 ^ 63) (j0 : -(2 ^ 63) ≤ j) (j1 : j < 2 ^ 63) (ei : seqIndex? i items.size = some ji) (xi : items[ji]? = some vi) (ej : seqIndex? j items.size = some jj) (xj : items[jj]? = some vj)
    (ri : ∀ h', (∀ b o, s.heap.get? b = some o → h'.get? b = some o) → Reads h' vi di []) (rj : ∀ h', (∀ b o, s.heap.get? b = some o → h'.get? b = some o) → Reads h' vj dj []) :
    wpAny (model prog w) A (call (.ref f) [.ref t]) (PySem.W.KeyPure (.tuple [di, dj]) s) (fun _ _ => False) s := by
  obtain ⟨oc, od, dV, kV, doc, pm, an, cdv, ct, osl, rfl, lk, hcd, _, _⟩ := F.ex
  have bn := B s [.ref t] X rfl
  refine wpAny_call (Att.call_fn X lim lk hcd hroom bn ?_ (fun s₁ c => ?_) hco hgen hk)
  · show ([(r, Value.ref t)].all fun y => scope.names.lookup y.1 == some .local || scope.names.lookup y.1 == some .cell) = true
    simp [hl]
  · have hkd : (envOfC qual scope s.heap.objs.size f cdv).kindOf r = some .local := hl
    have hm : bindL (envOfC qual scope s.heap.objs.size f cdv).kindOf [(r, Value.ref t)] (fun _ => none) r = some (.ref t) := by
      show (if (envOfC qual scope s.heap.objs.size f cdv).kindOf r = some .local then fun y => if y = r then some (Value.ref t) else none else fun _ => none) r = _
      rw [if_pos hkd]
      exact if_pos rfl
    have kp := c.toInCall.keep
    refine wpAny_execs_cons (wpAny_Return_some (wpAny_Tuple_spliced ?_))
    show wpAny _ _ (spliced ((false, eval (.Subscript (.Name r p1) (.Constant (.int i) k1 p2) p3) (envOfC qual scope s.heap.objs.size f cdv)) :: (false, eval (.Subscript (.Name r p4) (.Constant (.int j) k2 p5) p6) (envOfC qual scope s.heap.objs.size f cdv)) :: [])) _ _ s₁
    refine PySem.Calls.spliced_cons (item_at hk hkd c.toInCall.ns hm hd (ht.keeps kp) i0 i1 ei xi ?_)
    refine PySem.Calls.spliced_cons (item_at hk hkd (s := { s₁ with toks := s₁.toks + 1 }) c.toInCall.ns hm hd (ht.keeps kp) j0 j1 ej xj ?_)
    refine wpAny_pure ⟨by rw [sizeLine_eq]; simp, ?_⟩
    obtain ⟨h1, tk1, rfl, k1'⟩ := c.done
    refine ⟨_, _, rfl, fun b o e => Heap.get?_push_of_some _ (k1' b o e), ?_⟩
    have up : ∀ b o, s.heap.get? b = some o → (h1.push { cls := .type "tuple", data := .seq #[vi, vj] }).get? b = some o := fun b o e => Heap.get?_push_of_some _ (k1' b o e)
    exact Reads.tuple (as := []) (Heap.get?_push_size _ rfl) rfl rfl (ReadsAll.cons (as := []) (bs := []) (ri _ up) (ReadsAll.cons (as := []) (bs := []) (rj _ up) .nil))
end
/-! ### the sort -/
theorem each_vals : ∀ {xs : List V} {us : List Value}, Vals xs us → PySem.W.EachIs (fun u x => RelV x u) us xs
  | _, _, .nil => .nil
  | _, _, .cons h r => .cons h (each_vals r)
theorem each_mapR {α β γ : Type} {R : α → γ → Prop} (f : β → γ) : ∀ {as : List α} {bs : List β}, PySem.W.EachIs R as (bs.map f) → PySem.W.EachIs (fun a b => R a (f b)) as bs
  | _, [], .nil => .nil
  | _, _ :: _, .cons h r => .cons h (each_mapR f r)
theorem vals_each {β : Type} {f : β → V} : ∀ {us : List Value} {bs : List β}, PySem.W.EachIs (fun u b => RelV (f b) u) us bs → Vals (bs.map f) us
  | _, _, .nil => .nil
  | _, _, .cons h r => .cons h (vals_each r)
def dKey (k : Int × Str) : PyData := .tuple [.int k.1, .str k.2]
def keyLe (p q : Int × Str) : Bool := PySem.W.dataLe false dKey p q
structure KeyOf (K : PySem.W.Frag) (H : Hp) (i j : Int) (v : V) (k : Int × Str) : Prop where
  ex : ∃ t ys, v = .ref t ∧ SqT K H t ys ∧ atI ys i = some (.int k.1) ∧ atI ys j = some (.str k.2)
def rSortK (K : PySem.W.Frag) (f : Addr) (i j : Int) : List V → List V → Hp → VK → Prop := fun vs zs H Q => ∃ (a : Addr) (bs : List (V × (Int × Str))), vs = [.ref a] ∧ zs = [.ref f] ∧ SqL K H a (bs.map (·.1)) ∧ (∀ b ∈ bs, KeyOf K H i j b.1 b.2) ∧
  ∀ p, H p = none → Q (.ref p) (upd H p (.lst ((bs.mergeSort fun a b => keyLe a.2 b.2).map (·.1))))
section
variable {X : Cx} {W : WA} {f : Addr} {fd : FuncData} {x r : Str} {params : Arguments} {scope : Scope} {i j : Int} {k k1 k2 k3 : Nat} {p1 p2 p3 p4 p5 p6 p7 p8 : Pos}
theorem cr_sortK (F : FunD X.K x x params [.Return (some (.Tuple [.Subscript (.Name r p1) (.Constant (.int i) k1 p2) p3, .Subscript (.Name r p4) (.Constant (.int j) k2 p5) p6] k3 p7)) p8] scope [] [] f fd) (B : Binds X.K fd [r] []) (hr : Room k X.A)
    (hk : scope.kind = .function) (hco : scope.isCoroutine = false) (hgen : scope.isGenerator = false) (hl : scope.names.lookup r = some .local) (hd : (r == ("__debug__" : Str)) = false) (i0 : -(2 ^ 63) ≤ i) (i1 : i < 2 ^ 63) (j0 : -(2 ^ 63) ≤ j) (j1 : j < 2 ^ 63) :
    CallRK X (.builtin "sorted") [Str.ofString "key"] (rSortK X.K f i j) := by
  intro pins s σ H vs zs us ws Q I rx rz h
  obtain ⟨a, bs, rfl, rfl, hs, hx, q⟩ := h
  obtain rfl := Vals.ref1 rx
  obtain ⟨w1, rfl, e1⟩ := vals1 rz
  obtain rfl : w1 = Value.ref f := e1
  obtain ⟨its, rv, hls, hz⟩ := I.list hs
  have e : PySem.W.EachIs (fun u (b : V × (Int × Str)) => RelV b.1 u) its bs := each_mapR _ (each_vals rv)
  refine PySem.W.sorted_key_data (b := false) (fun b : V × (Int × Str) => dKey b.2) hls.isList e (PySem.W.AllAlike.of fun _ _ => by simp [dKey, PySem.W.alike, PySem.W.alikeAll]) (PySem.W.Sortable.tuples fun _ => ⟨_, _, rfl⟩) (by simpa using hz) (fun b _ => ?_) (PyProof.Rows.ksk_s1 _ _) (fun _ => PyProof.Rows.ksk_l1 _ _) (fun _ => PyProof.Rows.ksk_t1 _ _)
    (fun v b hv hm h tk kp => ?_) (fun out c h' tk kp hn hD hlen eo => ?_)
  · have hdp : (dKey b.2).depth = 1 := by simp [dKey, PyData.depth, PyData.depthAll]
    have := hr.un
    rw [hdp]
    omega
  · obtain ⟨t, ys, eb, hy, y1, y2⟩ := (hx b hm).ex
    obtain ⟨bv, kb⟩ := b
    dsimp only at eb hv y1 y2
    subst eb
    obtain rfl : v = Value.ref t := hv
    obtain ⟨is, ri, pt, pz⟩ := I.tuple hy
    obtain ⟨a1, b1, b2, b3, b4, b5⟩ := atI_get y1
    obtain ⟨a2, c1, c2, c3, c4, c5⟩ := atI_get y2
    obtain ⟨w1, ew1, r1⟩ := ri.get b2
    obtain ⟨w2, ew2, r2⟩ := ri.get c2
    obtain ⟨t1, rfl⟩ := r1
    obtain ⟨t2, rfl⟩ := r2
    have hlen := ri.length
    exact key2_turn (s := { s with heap := h, toks := tk }) F B (I.kIn.keeps kp) (I.nolimit.keeps kp) (show X.A.depth < _ from hr.depth) hk hco hgen hl hd (pt.keeps kp) i0 i1 j0 j1 (by simpa [← hlen] using b1) (by simpa using ew1) (by simpa [← hlen] using c1) (by simpa using ew2) (fun _ _ => .int _ _) (fun _ _ => .str _ _)
  · refine ⟨.ref _, upd H (s.heap.objs.size + 1) (.lst _), I.laid (t' := tk) kp (Nat.le_succ _) ⟨?_, out, c, vals_each eo, hD⟩, rfl, q _ (I.hok.fresh (Nat.le_succ _))⟩
    rw [List.length_map, List.length_mergeSort]
    simpa using hz
end
end DL
namespace DL
open PySem PySem.Spec PyProof.Rows L2
theorem RpAll.zipM {K : PySem.W.Frag} {w : World} {H : Hp} : ∀ {vs : List V} {ds : List D}, RpAll K w H vs ds → ∀ q ∈ vs.zip ds, Rp K w H q.1 q.2
  | _, _, .nil, q, h => nomatch h
  | _, _, .cons h r, q, m => by
    rcases List.mem_cons.mp m with rfl | m
    · exact h
    · exact RpAll.zipM r q m
theorem RpAll.ofM {K : PySem.W.Frag} {w : World} {H : Hp} : ∀ {M : List (V × D)}, (∀ q ∈ M, Rp K w H q.1 q.2) → RpAll K w H (M.map (·.1)) (M.map (·.2))
  | [], _ => .nil
  | q :: M, h => .cons (h q List.mem_cons_self) (RpAll.ofM fun p hp => h p (List.mem_cons_of_mem _ hp))
theorem RpAll.atI {K : PySem.W.Frag} {w : World} {H : Hp} {vs : List V} {ds : List D} {i : Int} {d : D} (r : RpAll K w H vs ds) (h : L2.atI ds i = some d) : ∃ v, L2.atI vs i = some v ∧ Rp K w H v d := by
  unfold L2.atI at h ⊢
  rw [r.length]
  cases e : L2.ixN ds.length i with
  | none => rw [e] at h; cases h
  | some j =>
    rw [e] at h
    exact r.get h
def keyG (i j : Int) : D → Option (Int × Str)
  | .tuple ds => match atI ds i, atI ds j with
    | some (.int a), some (.str b) => some (a, b)
    | _, _ => none
  | _ => none
def keyD0 (i j : Int) (d : D) : Int × Str := (keyG i j d).getD (0, "")
def sortK (i j : Int) (rs : List D) : List D := rs.mergeSort fun a b => keyLe (keyD0 i j a) (keyD0 i j b)
def lSortK (i j : Int) (a : Bt → Res D) : Bt → Res (List D) := fun β => (a β).bind fun x => match x with
  | .list rs => if (rs.all fun r => (keyG i j r).isSome) = true then .ok (sortK i j rs) else .no
  | _ => .no
theorem keyG_of {K : PySem.W.Frag} {w : World} {G : Hp} {i j : Int} {v : V} {d : D} {k : Int × Str} (r : Rp K w G v d) (h : keyG i j d = some k) : KeyOf K G i j v k := by
  cases r with
  | tup hx rx =>
    rename_i ds
    unfold keyG at h
    dsimp only at h
    cases e1 : L2.atI ds i with
    | none => rw [e1] at h; cases h
    | some x =>
      cases e2 : L2.atI ds j with
      | none => rw [e1, e2] at h; cases x <;> cases h
      | some y =>
        rw [e1, e2] at h
        cases x <;> cases y <;> cases h
        obtain ⟨v1, a1, b1⟩ := rx.atI e1
        obtain ⟨v2, a2, b2⟩ := rx.atI e2
        cases b1
        cases b2
        exact ⟨_, _, rfl, hx, a1, a2⟩
  | _ => cases h
/-- a def of the text that tells two items of its row -/
def KeyFn (K : PySem.W.Frag) (mg : Str → Option Value) (x : Str) (i j : Int) : Prop := ∃ (f : Addr) (fd : FuncData) (r : Str) (params : Arguments) (scope : Scope) (k1 k2 k3 : Nat) (p1 p2 p3 p4 p5 p6 p7 p8 : Pos),
  FunD K x x params [.Return (some (.Tuple [.Subscript (.Name r p1) (.Constant (.int i) k1 p2) p3, .Subscript (.Name r p4) (.Constant (.int j) k2 p5) p6] k3 p7)) p8] scope [] [] f fd ∧ Binds K fd [r] [] ∧ mg x = some (.ref f) ∧
  scope.kind = .function ∧ scope.isCoroutine = false ∧ scope.isGenerator = false ∧ scope.names.lookup r = some .local ∧ (r == ("__debug__" : Str)) = false ∧ -(2 ^ 63) ≤ i ∧ i < 2 ^ 63 ∧ -(2 ^ 63) ≤ j ∧ j < 2 ^ 63
section
variable {X : Cx} {W : WA} {k : Nat} {fx : Str} {i j : Int} {e : Expr} {da : Bt → Res D} {p p2 kp pos : Pos}
theorem rfsortk (KF : KeyFn X.K X.mg fx i j) (hr : Room k X.A) (hm : X.mg "sorted" = none) (ha : RE X W e da) (hg : Gl X "sorted" := by rfl) (hgf : Gl X fx := by rfl) (hdb : (fx == ("__debug__" : Str)) = false := by decide) (hvb : bootBuiltins "sorted" = some (.builtin "sorted") := by decide +kernel)
    (hs : starEach [e] X.env = (false, eval e X.env) :: starEach [] X.env := by rfl)
    (he : backTo pos (starEach [e] X.env) = (false, eval e X.env) :: backTo pos (starEach [] X.env) := by rfl) (hpl : (backTo pos (starEach [e] X.env)).any (·.1) = false := by rfl)
    (hall : (backToKw pos (keywordEach [⟨some "key", .Name fx p2, kp⟩] X.env)).all (·.1.isSome) = true := by rfl) (hnone : (backToKw pos (keywordEach [⟨some "key", .Name fx p2, kp⟩] X.env)).any (·.1.isNone) = false := by rfl) (hks : (backToKw pos (keywordEach [⟨some "key", .Name fx p2, kp⟩] X.env)).filterMap (·.1) = [Str.ofString "key"] := by rfl) :
    RF X W (.Call (.Name "sorted" p) [e] [⟨some "key", .Name fx p2, kp⟩] pos) (lSortK i j da) := by
  obtain ⟨f, fd, r, params, scope, k1, k2, k3, q1, q2, q3, q4, q5, q6, q7, q8, F, B, hmf, h1, h2, h3, h4, h5, h6, h7, h8, h9⟩ := KF
  refine PE.imp (pe_callBK (cr_sortK F B hr h1 h2 h3 h4 h5 h6 h7 h8 h9) hg hm hvb (pa_cons ha pa_nil hs) (pk_cons (pe_glob (v := .ref f) hgf hmf rfl hdb) pk_nil) (he := he) (hpl := hpl) (hall := hall) (hnone := hnone) (hks := hks)) fun σ H Q h => ?_
  obtain ⟨G, β, s, ev, rp⟩ := h
  refine ⟨G, β, s, ev, rp.bind fun x ex G1 H1 g1 rp1 v rv => ?_⟩
  cases rv with
  | lst hx rx =>
    rename_i vs rs
    dsimp only at rp1
    by_cases hz : (rs.all fun r => (keyG i j r).isSome) = true
    · rw [if_pos hz] at rp1
      have hlen := rx.length
      have mf : (vs.zip rs).map (·.1) = vs := List.map_fst_zip (by omega)
      have ms : (vs.zip rs).map (·.2) = rs := List.map_snd_zip (by omega)
      have z := rx.zipM
      refine ⟨_, (vs.zip rs).map fun q => (q.1, keyD0 i j q.2), rfl, rfl, ?_, fun b hb => ?_, fun p hp => ?_⟩
      · rw [List.map_map]
        have : (fun q : V × D => q.1) = (fun x : V × (Int × Str) => x.1) ∘ fun q : V × D => (q.1, keyD0 i j q.2) := rfl
        rw [← this, mf]
        exact SqL.of (g1.s _ _ hx)
      · obtain ⟨q, hq, rfl⟩ := List.mem_map.mp hb
        have hr2 : q.2 ∈ rs := by rw [← ms]; exact List.mem_map.mpr ⟨q, hq, rfl⟩
        have hk := List.all_eq_true.mp hz q.2 hr2
        obtain ⟨kk, ek⟩ := Option.isSome_iff_exists.mp hk
        have ko := keyG_of (z q hq) ek
        obtain ⟨t, ys, y1, y2, y3, y4⟩ := ko.ex
        refine ⟨t, ys, y1, seqT g1.s y2, ?_, ?_⟩
        · show L2.atI ys i = some (.int (keyD0 i j q.2).1)
          unfold keyD0
          rw [ek]
          exact y3
        · show L2.atI ys j = some (.str (keyD0 i j q.2).2)
          unfold keyD0
          rw [ek]
          exact y4
      · have e1 : (((vs.zip rs).map fun q => (q.1, keyD0 i j q.2)).mergeSort fun a b => keyLe a.2 b.2).map (·.1) = ((vs.zip rs).mergeSort fun a b => keyLe (keyD0 i j a.2) (keyD0 i j b.2)).map (·.1) := by
          rw [← List.map_mergeSort (r := fun a b => keyLe (keyD0 i j a.2) (keyD0 i j b.2)) fun _ _ _ _ => rfl, List.map_map]
          rfl
        have e2 : sortK i j rs = ((vs.zip rs).mergeSort fun a b => keyLe (keyD0 i j a.2) (keyD0 i j b.2)).map (·.2) := by
          unfold sortK
          rw [List.map_mergeSort (s := fun a b => keyLe (keyD0 i j a) (keyD0 i j b)) fun _ _ _ _ => rfl, ms]
        have ra : RpAll X.K X.w G1 (((vs.zip rs).mergeSort fun a b => keyLe (keyD0 i j a.2) (keyD0 i j b.2)).map (·.1)) (((vs.zip rs).mergeSort fun a b => keyLe (keyD0 i j a.2) (keyD0 i j b.2)).map (·.2)) :=
          RpAll.ofM fun q hq => z q (by simpa using hq)
        rw [e1]
        refine rp1.here ((Gr.refl g1.s).put hp (g1.s.free hp)) p _ (g1.h.free hp) (g1.s.free hp) upd_same ?_
        rw [e2]
        exact ra
    · rw [if_neg hz] at rp1; exact rp1.elim
  | _ => exact rp1.elim
end
end DL

/-! DX8: texts: split, join, upper, str, int. -/
namespace DL
open PySem PySem.Spec PyProof.Rows L2
def fSplit (z : Str) : D → Res (List D)
  | .str k => if (k.length == 0) = false ∧ z.length + 2 ≤ sizeLine then .ok ((Txt.split z k).map .str) else .no
  | _ => .no
def lSplit (a b : Bt → Res D) : Bt → Res (List D) := fun β => (a β).bind fun x => match x with
  | .str z => (b β).bind (fSplit z)
  | _ => .no
def joinS (k : Str) (ds : List D) : Res D := match strsOf ds with
  | some ys => if (ys.map (·.length)).sum + ys.length * k.length ≤ 16777216 then .ok (.str (Txt.join k ys)) else .no
  | none => .no
def fJoin (k : Str) : D → Res D
  | .list ds => joinS k ds
  | .tuple ds => joinS k ds
  | _ => .no
def dJoin (a b : Bt → Res D) : Bt → Res D := fun β => (a β).bind fun x => match x with
  | .str k => (b β).bind (fJoin k)
  | _ => .no
def fUpper : D → Option D
  | .str z => if z.length ≤ 5592405 then some (.str (Txt.upper z)) else none
  | _ => none
def fStr : List D → Option D
  | [.int i] => if i.natAbs.log2 < 1920 then some (.str (toString i)) else none
  | [.str z] => some (.str z)
  | _ => none
def fIntT : List D → Option D
  | [.str z] => match PySem.intText? z with
    | some n => if z.length ≤ 640 then some (.int n) else none
    | none => none
  | _ => none
section
variable {X : Cx} {W : WA} {o e : Expr} {d1 d2' : Bt → Res D} {apos pos : Pos}
theorem rfsplit (ho : RE X W o d1) (he : RE X W e d2') (hs : starEach [e] X.env = [(false, eval e X.env)] := by rfl) (hbase : attributeBase o "split" X.env (eval o X.env) = eval o X.env := by rfl) (hline : (apos.endLine == pos.line) = true := by rfl) :
    RF X W (.Call (.Attribute o "split" apos) [e] [] pos) (lSplit d1 d2') :=
  PE.imp (pe_split ho he hs hbase hline) fun σ H Q h => by
    obtain ⟨G, β, s, ev, rp⟩ := h
    refine ⟨G, β, s, ev, rp.bind fun x ex G1 H1 g1 rp1 v rv => ?_⟩
    cases rv with
    | str z =>
      refine ⟨⟨z, rfl⟩, G1, β, g1.s, ev.mono g1.g, rp1.bind fun y ey G2 H2 g2 rp2 u ru => ?_⟩
      cases ru with
      | str k =>
        unfold fSplit at rp2
        dsimp only at rp2
        by_cases hz : (k.length == 0) = false ∧ z.length + 2 ≤ sizeLine
        · rw [if_pos hz] at rp2
          refine ⟨z, k, rfl, rfl, hz.1, hz.2, fun p hp => ?_⟩
          exact rp2.here ((Gr.refl g2.s).put hp (g2.s.free hp)) p _ (g1.h.free (g2.h.free hp)) (g2.s.free hp) upd_same (strs_rp _)
        · rw [if_neg hz] at rp2; exact rp2.elim
      | _ => exact rp2.elim
    | _ => exact rp1.elim
theorem rejoin (ho : RE X W o d1) (he : RE X W e d2') (hs : starEach [e] X.env = [(false, eval e X.env)] := by rfl) (hbase : attributeBase o "join" X.env (eval o X.env) = eval o X.env := by rfl) (hline : (apos.endLine == pos.line) = true := by rfl) :
    RE X W (.Call (.Attribute o "join" apos) [e] [] pos) (dJoin d1 d2') :=
  PE.imp (pe_join ho he hs hbase hline) fun σ H Q h => by
    obtain ⟨G, β, s, ev, rp⟩ := h
    refine ⟨G, β, s, ev, rp.bind fun x ex G1 H1 g1 rp1 v rv => ?_⟩
    cases rv with
    | str k =>
      refine ⟨⟨k, rfl⟩, G1, β, g1.s, ev.mono g1.g, rp1.bind fun y ey G2 H2 g2 rp2 u ru => ?_⟩
      cases ru with
      | lst hx rx =>
        unfold fJoin joinS at rp2
        dsimp only at rp2
        split at rp2
        · rename_i ys hy
          have e1 := strsOf_eq hy
          subst e1
          have e2 := rpAll_strs rx
          subst e2
          by_cases hz : (ys.map (·.length)).sum + ys.length * k.length ≤ 16777216
          · rw [if_pos hz] at rp2
            exact ⟨k, _, ys, rfl, rfl, .inl (SqL.of (g2.s _ _ hx)), hz, rp2.here (Gr.refl g2.s) _ (.str _)⟩
          · rw [if_neg hz] at rp2; exact rp2.elim
        · exact rp2.elim
      | tup hx rx =>
        unfold fJoin joinS at rp2
        dsimp only at rp2
        split at rp2
        · rename_i ys hy
          have e1 := strsOf_eq hy
          subst e1
          have e2 := rpAll_strs rx
          subst e2
          by_cases hz : (ys.map (·.length)).sum + ys.length * k.length ≤ 16777216
          · rw [if_pos hz] at rp2
            exact ⟨k, _, ys, rfl, rfl, .inr (seqT g2.s hx), hz, rp2.here (Gr.refl g2.s) _ (.str _)⟩
          · rw [if_neg hz] at rp2; exact rp2.elim
        · exact rp2.elim
      | _ => exact rp2.elim
    | _ => exact rp1.elim
theorem reupper (ho : RE X W o d1) (hbase : attributeBase o "upper" X.env (eval o X.env) = eval o X.env := by rfl) (hline : (apos.endLine == pos.line) = true := by rfl) : RE X W (.Call (.Attribute o "upper" apos) [] [] pos) (DL.d1 fUpper d1) :=
  PE.imp (pe_upper ho hbase hline) fun σ H Q h => by
    obtain ⟨G, β, s, ev, rp⟩ := h
    refine ⟨G, β, s, ev, rp.bind fun x ex G1 H1 g1 rp1 v rv => ?_⟩
    cases rv with
    | str z =>
      have rp1 : RP X.K X.w X.mg W σ G1 H1 (fun d G' H' => ∀ v, Rp X.K X.w G' v d → Q v H') (Res.of (if z.length ≤ 5592405 then some (.str (Txt.upper z)) else none)) := rp1
      by_cases hz : z.length ≤ 5592405
      · rw [if_pos hz] at rp1
        exact ⟨⟨z, rfl⟩, z, rfl, rfl, hz, rp1.here (Gr.refl g1.s) _ (.str _)⟩
      · rw [if_neg hz] at rp1; exact rp1.elim
    | _ => exact rp1.elim
theorem ok_strT : OkRN X (fun xs H Q => (∃ i, xs = [.int i] ∧ i.natAbs.log2 < 1920 ∧ Q (.str (toString i)) H) ∨ ∃ a, xs = [.str a] ∧ Q (.str a) H) fStr := by
  intro xs d e vs G H Q s rv q
  cases rv with
  | nil => cases e
  | cons r1 rr =>
    cases rr with
    | cons r2 rr => cases r1 <;> cases e
    | nil =>
      cases r1 with
      | int i =>
        unfold fStr at e
        dsimp only at e
        split at e
        · rename_i hz
          cases e
          exact .inl ⟨i, rfl, hz, q _ _ (Gr.refl s) _ (.str _)⟩
        · cases e
      | str z =>
        cases e
        exact .inr ⟨z, rfl, q _ _ (Gr.refl s) _ (.str _)⟩
      | _ => cases e
theorem ok_intT : OkRN X (fun xs H Q => ∃ a n, xs = [.str a] ∧ PySem.intText? a = some n ∧ a.length ≤ 640 ∧ Q (.int n) H) fIntT := by
  intro xs d e vs G H Q s rv q
  cases rv with
  | nil => cases e
  | cons r1 rr =>
    cases rr with
    | cons r2 rr => cases r1 <;> cases e
    | nil =>
      cases r1 with
      | str z =>
        unfold fIntT at e
        dsimp only at e
        split at e
        · rename_i n hn
          split at e
          · rename_i hz
            cases e
            exact ⟨z, n, rfl, hn, hz, q _ _ (Gr.refl s) _ (.int _)⟩
          · cases e
        · cases e
      | _ => cases e
theorem okO_str : CallR X (.type "str") (fun xs H Q => (∃ i, xs = [.int i] ∧ i.natAbs.log2 < 1920 ∧ Q (.str (toString i)) H) ∨ ∃ a, xs = [.str a] ∧ Q (.str a) H) := call_str_int.or SkE.call_str_str
end
end DL

/-! SX1: a set whose elements are tuples of texts: searching it, adding to it. -/
namespace DS
open PySem PySem.Spec PyProof.Rows L2
/-! ### the probes from a step of the way on -/
def pb (m : Nat) (z : Int) (c : Nat) : SetTable.Probe := nth m (runAt m (SetTable.bits z % (m + 1)) (SetTable.bits z)) c
theorem pb_add (m : Nat) (z : Int) (c q : Nat) : nth m (pb m z c) q = pb m z (c + q) := (nth_add m c _ q).symm
theorem nodummy (m : Nat) : ∀ (n : Nat) (p : SetTable.Probe), p.dummy = none → (nth m p n).dummy = none
  | 0, _, h => h
  | n + 1, p, h => nodummy m n (adv m p) (by unfold adv; split <;> exact h)
/-- from step c on: a slot whose entry has the hash, or the free slot at the end -/
theorem scout {t : SetTable} (r : Ris t.place.toList) (hd : t.dummies = #[]) (g : Nat → Int) (z : Int) {K c : Nat} (hf : K < 10 * SetTable.turns t.mask) (hc : c ≤ K)
    (full : ∀ d, d < K → way t.mask z d ∈ t.place.toList) (free : way t.mask z K ∉ t.place.toList) :
    (∃ d i, c ≤ d ∧ d < K ∧ t.place.toList[i]? = some (way t.mask z d) ∧ (∀ e j, c ≤ e → e < d → t.place.toList[j]? = some (way t.mask z e) → g j ≠ z) ∧
      t.probe g z (pb t.mask z c) = some (.candidate (way t.mask z d) i (pb t.mask z (d + 1)))) ∨
    ((∀ e j, c ≤ e → e < K → t.place.toList[j]? = some (way t.mask z e) → g j ≠ z) ∧ t.probe g z (pb t.mask z c) = some (.empty (way t.mask z K) none)) := by
  have go := go_spec t r hd g z (10 * SetTable.turns t.mask) (K - c) (pb t.mask z c) (nodummy _ _ _ rfl) (Nat.lt_of_le_of_lt (Nat.sub_le _ _) hf)
    (fun q hq => by rw [pb_add]; exact full (c + q) (by omega)) (by rw [pb_add, Nat.add_sub_cancel' hc]; exact free)
  simp only [pb_add] at go
  rcases go with ⟨q, i, h1, h2, _, h4, h5⟩ | ⟨h1, h2⟩
  · refine .inl ⟨c + q, i, Nat.le_add_right _ _, by omega, h2, fun e j he hq hj => ?_, h5⟩
    exact h4 (e - c) j (by omega) (by rw [Nat.add_sub_cancel' he]; exact hj)
  · refine .inr ⟨fun e j he hq hj => ?_, ?_⟩
    · exact h1 (e - c) j (by omega) (by rw [Nat.add_sub_cancel' he]; exact hj)
    · rw [Nat.add_sub_cancel' hc] at h2
      exact h2
/-! ### tuples of texts -/
abbrev Tu (P : Program) (w : World) (h : Heap) (k : List Str) (b : Addr) : Prop := IsTupleKey (strKind P w) h k b
def hK (P : Program) (w : World) (k : List Str) : Int := tupleKeyHash (strKind P w) k
abbrev En := Addr × List Str
def ent (P : Program) (w : World) (p : En) : Int × Value := (hK P w p.2, .ref p.1)
section
variable {P : Program} {w : World} {A : Around} {E : Value → Shared → Prop} {s : Shared}
theorem only_texts {k : List Str} {vs : List Value} (h : ItemsAre (strKind P w) k vs) : ∀ v ∈ vs, ∃ z t, v = Value.str z t := by
  induction h with
  | nil => exact fun v hv => nomatch hv
  | cons h1 _ ih =>
    intro v hv
    rcases List.mem_cons.mp hv with rfl | hv
    · obtain ⟨t, e⟩ := Value.isStrOf_shape h1
      exact ⟨_, t, e⟩
    · exact ih v hv
theorem noclass (n : Nat) (z : Str) (t : Tok) : ofAClassStatement n (.str z t) = pure false := by cases n <;> rfl
theorem nobyval (n : Nat) (z : Str) (t : Tok) : hashByValue n (.str z t) = pure false := by cases n <;> rfl
/-- no class statement made it -/
theorem tu_class {k : List Str} {b : Addr} {Q : Bool → Shared → Prop} (x : Tu P w s.heap k b) (q : Q false s) : wpAny (model P w) A (ofAClassStatement 8 (.ref b)) Q E s := by
  have ty := x.typeIs
  obtain ⟨o, items, n, e1, _, e2, e3⟩ := x
  have hz := only_texts e3
  unfold ofAClassStatement
  refine wpAny_bind (wpAny_typeOf ty ?_)
  have et : (("tuple" : String) == "tuple") = true := by decide
  simp only [et, if_true, Bool.not_true, Bool.false_eq_true, if_false]
  try simp only [Bool.not_true, Bool.false_eq_true, if_false]
  try refine wpAny_bind (wpAny_pure ?_)
  show wpAny _ _ (seqItems? (.ref b) >>= _) _ _ s
  refine wpAny_bind (wpAny_seqItems e1 e2 (wpAny_bind ?_))
  show wpAny _ _ (forIn items _ _) _ _ s
  rw [← Array.forIn_toList]
  refine wpAny_forIn_list _ (fun todo st s1 => s1 = s ∧ st.1 = none ∧ ∀ v ∈ todo, ∃ z t, v = Value.str z t) _ (fun v todo st s1 inv => ?_) (fun st s1 inv => ?_) _ _ ⟨rfl, rfl, hz⟩
  · obtain ⟨rfl, h0, hv⟩ := inv
    obtain ⟨z, t, rfl⟩ := hv v (.head _)
    rw [noclass]
    refine wpAny_bind (wpAny_pure ?_)
    simp only [Bool.false_eq_true, if_false]
    exact wpAny_pure ⟨rfl, rfl, fun u hu => hv u (.tail _ hu)⟩
  · obtain ⟨st1, st2⟩ := st
    obtain ⟨rfl, h0, _⟩ := inv
    dsimp only at h0
    subst h0
    exact wpAny_pure q
/-- by value or not -/
theorem tu_byval {k : List Str} {b : Addr} {Q : Bool → Shared → Prop} (x : Tu P w s.heap k b) (q : ∀ r, Q r s) : wpAny (model P w) A (hashByValue 8 (.ref b)) Q E s := by
  have ty := x.typeIs
  obtain ⟨o, items, n, e1, _, e2, e3⟩ := x
  have hz := only_texts e3
  unfold hashByValue
  refine wpAny_bind (wpAny_specialOf ty F.slot_tuple_hash.lookup ?_)
  show wpAny _ _ (seqItems? (.ref b) >>= _) _ _ s
  refine wpAny_bind (wpAny_seqItems e1 e2 (wpAny_bind ?_))
  show wpAny _ _ (forIn items _ _) _ _ s
  rw [← Array.forIn_toList]
  generalize items.toList = l at hz
  cases l with
  | nil =>
    rw [List.forIn_nil]
    exact wpAny_pure (wpAny_pure (q _))
  | cons v l =>
    obtain ⟨z, t, rfl⟩ := hz v (.head _)
    rw [List.forIn_cons, nobyval]
    refine wpAny_bind (wpAny_bind (wpAny_pure ?_))
    simp only [Bool.not_false, if_true]
    exact wpAny_pure (wpAny_pure (wpAny_pure (q _)))
/-- looking for it shows nothing of the table -/
theorem tu_unseen {k : List Str} {b : Addr} {Q : Bool → Shared → Prop} {ys : List Value} (x : Tu P w s.heap k b) (hy : ∀ y ∈ ys, ∃ k' c, Tu P w s.heap k' c ∧ y = Value.ref c) (q : Q false s) : wpAny (model P w) A (searchCouldBeSeen (.ref b) ys) Q E s := by
  unfold searchCouldBeSeen
  refine wpAny_bind (wpAny_forIn_list _ (fun todo st s1 => s1 = s ∧ st.1 = none ∧ ∀ y ∈ todo, ∃ k' c, Tu P w s.heap k' c ∧ y = Value.ref c) _ (fun v todo st s1 inv => ?_) (fun st s1 inv => ?_) _ _ ⟨rfl, rfl, hy⟩)
  · obtain ⟨rfl, h0, hv⟩ := inv
    obtain ⟨k', c, xc, rfl⟩ := hv v (.head _)
    have next : ∀ y ∈ todo, ∃ k' c, Tu P w s1.heap k' c ∧ y = Value.ref c := fun u hu => hv u (.tail _ hu)
    dsimp only
    by_cases same : (b == c || (carriedByValue (.ref b) && carriedByValue (.ref c))) = true
    · exact wp_if_pos same (wpAny_pure ⟨rfl, rfl, next⟩)
    · refine wp_if_neg same (wpAny_bind (wpAny_eqIsQuiet_tuple x ?_))
      simp only [Bool.not_true, Bool.false_eq_true, if_false]
      refine wpAny_bind (wpAny_eqIsQuiet_tuple xc ?_)
      simp only [Bool.not_true, Bool.false_eq_true, if_false]
      refine wpAny_bind (tu_class x ?_)
      simp only [Bool.false_eq_true, if_false]
      refine wpAny_bind (tu_class xc ?_)
      simp only [Bool.false_eq_true, if_false]
      exact wpAny_pure ⟨rfl, rfl, next⟩
  · obtain ⟨st1, st2⟩ := st
    obtain ⟨rfl, h0, _⟩ := inv
    dsimp only at h0
    subst h0
    exact wpAny_pure q
end
/-! ### the table of such a set -/
structure Tab (P : Program) (w : World) (L : List En) (es : Array (Int × Value)) (t : SetTable) : Prop where
  row : es.toList = L.map (ent P w)
  tab : TabOk t (L.map fun p => hK P w p.2)
  nd : (L.map (·.2)).Nodup
  led : w.params.followText "set-order" = true ∨ t.led = true
  room : L.length * 5 < t.mask * 3
  few : L.length < 64
/-- the set object at a -/
def SetIs (P : Program) (w : World) (h : Heap) (a : Addr) (L : List En) : Prop := ∃ es ep t, (∃ o, h.get? a = some o ∧ o.ExactSet ∧ o.data = .set es ep t) ∧ Tab P w L es t
section
variable {P : Program} {w : World} {A : Around} {E : Value → Shared → Prop} {s : Shared} {L : List En} {es : Array (Int × Value)} {ep : Nat} {t : SetTable}
theorem Tab.size (R : Tab P w L es t) : es.size = L.length := by rw [← Array.length_toList, R.row, List.length_map]
theorem Tab.psz (R : Tab P w L es t) : t.place.size = L.length := R.tab.sz.trans (List.length_map ..)
theorem fits_by {n : Nat} (hd : t.dummies = #[]) (h : t.place.size = n) (hm : n ≤ t.mask) : t.fits n = true := by
  unfold SetTable.fits SetTable.fill
  rw [hd, h]
  simpa using hm
theorem Tab.fits (R : Tab P w L es t) : t.fits es.size = true := fits_by R.tab.dm (by rw [R.psz, R.size]) (by have := R.room; have := R.size; omega)
theorem Tab.at (R : Tab P w L es t) {i : Nat} {p : En} (h : L[i]? = some p) : es[i]? = some (hK P w p.2, Value.ref p.1) := by
  rw [← Array.getElem?_toList, R.row, List.getElem?_map, h]
  rfl
theorem Tab.hash (R : Tab P w L es t) {i : Nat} {p : En} (h : L[i]? = some p) : (es[i]?.map (·.1)).getD 0 = hK P w p.2 := by
  rw [R.at h]
  rfl
theorem Tab.have (R : Tab P w L es t) {i j : Nat} (h : t.place.toList[i]? = some j) : ∃ p, L[i]? = some p := by
  have h1 := (List.getElem?_eq_some_iff.mp h).1
  rw [Array.length_toList, R.psz] at h1
  exact ⟨_, List.getElem?_eq_getElem h1⟩
/-- THE SEARCH, from step c of the way on, what lies before c being no one's -/
theorem seek {a x : Addr} {o : Obj} {k : List Str} {K : Nat} {Q : SetFound → Shared → Prop} (ho : s.heap.get? a = some o) (hd : o.data = .set es ep t) (R : Tab P w L es t) (tu : ∀ p ∈ L, Tu P w s.heap p.2 p.1) (hx : Tu P w s.heap k x) (hu : A.units < cLine)
    (hf : K < 10 * SetTable.turns t.mask) (full : ∀ d, d < K → way t.mask (hK P w k) d ∈ t.place.toList) (free : way t.mask (hK P w k) K ∉ t.place.toList)
    (yes : k ∈ L.map (·.2) → Q (.there none) s) (no : k ∉ L.map (·.2) → Q (.free (way t.mask (hK P w k) K) false) s) :
    ∀ (f c : Nat) (st : Option SetTable.Probe), st.getD (t.probeStart (hK P w k)) = pb t.mask (hK P w k) c → c ≤ K → K - c < f → (∀ (i : Nat) (p : En) (e : Nat), L[i]? = some p → p.2 = k → e < c → t.place.toList[i]? ≠ some (way t.mask (hK P w k) e)) →
      wpAny (model P w) A (setSearchFrom a (.ref x) (hK P w k) true f st) Q E s := by
  intro f
  induction f with
  | zero => exact fun c st _ _ h => absurd h (Nat.not_lt_zero _)
  | succ f ih =>
    intro c st est hc hcf past
    rw [setSearchFrom_succ]
    refine wpAny_bind (wpAny_setState_of ho hd R.fits ?_)
    have ngw : ¬ t.gaveWay = true := by
      unfold SetTable.gaveWay
      rw [mask_odd R.tab.mok]
      decide
    refine wp_if_neg ngw ?_
    try refine wpAny_bind (wpAny_pure ?_)
    rw [est]
    rcases scout R.tab.ris R.tab.dm (fun i => (es[i]?.map (·.1)).getD 0) (hK P w k) hf hc full free with ⟨d, i, h1, h2, h3, h4, h5⟩ | ⟨h1, h2⟩
    · rw [h5]
      dsimp only
      obtain ⟨p, hp⟩ := R.have h3
      have hpm := List.mem_of_getElem? hp
      have look : wpAny (model P w) A (searchRest a (.ref x) (hK P w k) true f es t (way t.mask (hK P w k) d) i (pb t.mask (hK P w k) (d + 1))) Q E s := by
        unfold searchRest
        rw [R.at hp]
        refine wpAny_bind (wpAny_holding (wpAny_eqBool_tuple hu (tu p hpm) hx (wpAny_bind (wpAny_setState_of ho hd R.fits ?_))))
        by_cases same : p.2 = k
        · rw [decide_eq_true same]
          exact wp_if_pos rfl (wpAny_pure (yes (List.mem_map.mpr ⟨p, hpm, same⟩)))
        · rw [decide_eq_false same]
          refine wp_if_neg (by decide) ?_
          try refine wpAny_bind (wpAny_pure ?_)
          rw [sameMem]
          dsimp only
          simp only [if_true, slot_live R.tab.ris h3, R.at hp]
          refine wpAny_bind (wpAny_isSame_ref_self (wpAny_bind (wpAny_pure ?_)))
          simp only [if_true]
          refine wp_if_neg (by decide) ?_
          refine ih (d + 1) _ rfl h2 (by omega) fun j q e hj hq he z => ?_
          rcases Nat.lt_trichotomy e d with g | g | g
          · rcases Nat.lt_or_ge e c with y | y
            · exact past j q e hj hq y z
            · exact h4 e j y g z ((R.hash hj).trans (congrArg (hK P w) hq))
          · subst g
            have u1 := slot_live R.tab.ris z
            rw [slot_live R.tab.ris h3] at u1
            injection u1 with u1
            subst u1
            rw [hp] at hj
            cases hj
            exact same hq
          · omega
      by_cases hl : t.led = true
      · refine wp_if_neg (by rw [hl]; decide) ?_
        try refine wpAny_bind (wpAny_pure ?_)
        exact look
      · refine wp_if_pos (by simpa using hl) (wpAny_bind (tu_unseen hx (fun y hy => ?_) ?_))
        · obtain ⟨e, he, rfl⟩ := List.mem_map.mp hy
          have he2 : e ∈ es.toList := by
            rw [Array.toList_filter, List.mem_filter] at he
            exact he.1
          rw [R.row] at he2
          obtain ⟨q, hq, rfl⟩ := List.mem_map.mp he2
          exact ⟨q.2, q.1, tu q hq, rfl⟩
        · refine wp_if_neg (by decide) ?_
          try refine wpAny_bind (wpAny_pure ?_)
          exact look
    · rw [h2]
      refine wpAny_pure (no fun hm => ?_)
      obtain ⟨p, hp, e⟩ := List.mem_map.mp hm
      obtain ⟨i, hi⟩ := List.getElem?_of_mem hp
      have hil : i < t.place.toList.length := by
        rw [Array.length_toList, R.psz]
        exact (List.getElem?_eq_some_iff.mp hi).1
      have hj := List.getElem?_eq_getElem hil
      obtain ⟨d, d1, d2⟩ := R.tab.before free (i := i) (h := hK P w k) (by rw [List.getElem?_map, hi, ← e]; rfl) hj
      rw [← d2] at hj
      rcases Nat.lt_or_ge d c with y | y
      · exact past i p d hi e y hj
      · exact h1 d i y d1 hj ((R.hash hi).trans (congrArg (hK P w) e))
end
end DS

/-! SX2: adding a tuple of texts to a set. -/
namespace DS
open PySem PySem.Spec PyProof.Rows L2
section
variable {P : Program} {w : World} {A : Around} {E : Value → Shared → Prop} {s : Shared} {L : List En} {es : Array (Int × Value)} {ep : Nat} {t : SetTable}
theorem range_items {α : Type} (d : α) (l : List α) : (List.range l.length).map (fun i => l[i]?.getD d) = l := by
  refine List.ext_getElem? fun i => ?_
  rw [List.getElem?_map]
  rcases Nat.lt_or_ge i l.length with h | h
  · rw [List.getElem?_eq_getElem (by rw [List.length_range]; exact h), List.getElem_range]
    show some (l[i]?.getD d) = l[i]?
    rw [List.getElem?_eq_getElem h]
    rfl
  · rw [List.getElem?_eq_none (by rw [List.length_range]; exact h), List.getElem?_eq_none h]
    rfl
theorem filterMap_all {α β : Type} {f : α → Option β} {g : α → β} : ∀ {l : List α}, (∀ x ∈ l, f x = some (g x)) → l.filterMap f = l.map g
  | [], _ => rfl
  | x :: l, h => by
    rw [List.filterMap_cons_some (h x (.head _)), List.map_cons, filterMap_all fun y hy => h y (.tail _ hy)]
/-- the entries in another order -/
theorem reorder {order : Array Nat} (hr : es.toList = L.map (ent P w)) (hp : order.toList.Perm (List.range L.length)) :
    ∃ L2, List.Perm L2 L ∧ (order.filterMap (es[·]?)).toList = L2.map (ent P w) ∧ (L2.map fun p => hK P w p.2) = order.toList.map fun i => (es.map (·.1)).getD i 0 := by
  have hat : ∀ i ∈ order.toList, es[i]? = some (ent P w (L[i]?.getD (0, []))) := fun i hi => by
    have hl : i < L.length := List.mem_range.mp (hp.mem_iff.mp hi)
    rw [← Array.getElem?_toList, hr, List.getElem?_map, List.getElem?_eq_getElem hl]
    rfl
  refine ⟨order.toList.map fun i => L[i]?.getD (0, []), ?_, ?_, ?_⟩
  · have z := hp.map fun i => L[i]?.getD (0, [])
    rw [range_items] at z
    exact z
  · rw [Array.toList_filterMap, List.map_map]
    exact filterMap_all hat
  · rw [List.map_map]
    refine List.map_congr_left fun i hi => ?_
    rw [Array.getD_eq_getD_getElem?, Array.getElem?_map, hat i hi]
    rfl
/-- a larger table -/
theorem widen {a : Addr} {o : Obj} {wanted M : Nat} {Q : Unit → Shared → Prop} (ho : s.heap.get? a = some o) (hex : o.ExactSet) (hd : o.data = .set es ep t) (hr : es.toList = L.map (ent P w)) (psz : t.place.size = L.length) (dm : t.dummies = #[]) (fit : L.length ≤ t.mask)
    (nd : (L.map (·.2)).Nodup) (led : w.params.followText "set-order" = true ∨ t.led = true) (few : L.length < 64) (hw : SetTable.sizeAbove wanted - 1 = M) (hM : MaskOk M) (small : SetTable.sizeAbove wanted ≤ 128) (room : L.length * 5 < M * 3)
    (q : ∀ h' L', Heap.SameBut a s.heap h' → SetIs P w h' a L' → List.Perm L' L → Q () { s with heap := h' }) : wpAny (model P w) A (setRelay a wanted) Q E s := by
  have esz : es.size = L.length := by rw [← Array.length_toList, hr, List.length_map]
  obtain ⟨t2, order, r1, r2, r3, r4, r5, _, r7⟩ := relaid_ok t (hs := es.map (·.1)) (wanted := wanted) hw hM (by rw [Array.size_map, esz]; omega)
  rw [Array.size_map, esz] at r2
  obtain ⟨L2, l1, l2, l3⟩ := reorder hr r2
  rw [← l3] at r3
  have osz : (order.filterMap (es[·]?)).size = es.size := by rw [← Array.length_toList, l2, List.length_map, l1.length_eq, esz]
  rw [setRelay_eq]
  refine wpAny_bind (wpAny_setState_of ho hd (fits_by dm (by rw [psz, esz]) (by omega)) ?_)
  refine wp_if_neg (by rw [sizeLine_eq]; omega) ?_
  try refine wpAny_bind (wpAny_pure ?_)
  rw [r1]
  dsimp only
  refine wpAny_bind (wp_if_neg (by rw [osz]; simp) ?_)
  try refine wpAny_bind (wpAny_pure ?_)
  refine wpAny_pure (wpAny_storeSet_of ho hd ?_ (by rw [osz, esz, sizeLine_eq]; omega))
  have lz := l1.length_eq
  refine q _ L2 (Heap.SameBut.update ..) ⟨_, _, t2, ⟨_, store_at ho hd, ⟨hex.1, hex.2.1, hex.2.2⟩, rfl⟩, l2, r3, (l1.map (·.2)).nodup_iff.mpr nd, by rw [r5]; exact led, by rw [lz, r4]; exact room, by rw [lz]; exact few⟩ l1
theorem wider {n m : Nat} (hm : MaskOk m) (n1 : n < 63) (below : n * 5 < m * 3) (full : m * 3 ≤ (n + 1) * 5) : ∃ M, SetTable.sizeAbove (SetTable.grown (n + 1)) - 1 = M ∧ MaskOk M ∧ SetTable.sizeAbove (SetTable.grown (n + 1)) ≤ 128 ∧ (n + 1) * 5 < M * 3 := by
  rcases hm with e | e | e
  · obtain rfl : n = 4 := by omega
    exact ⟨31, by rw [size_20], .inr (.inl rfl), by rw [size_20]; decide, by decide⟩
  · obtain rfl : n = 18 := by omega
    exact ⟨127, by rw [size_76], .inr (.inr rfl), by rw [size_76]; decide, by decide⟩
  · omega
/-- adding -/
theorem add_tu {a x : Addr} {k : List Str} {Q : Bool → Shared → Prop} (S : SetIs P w s.heap a L) (tu : ∀ p ∈ L, Tu P w s.heap p.2 p.1) (hx : Tu P w s.heap k x) (hu : A.units < cLine) (few : L.length + 1 < 64)
    (q : ∀ b h' L', Heap.SameBut a s.heap h' → SetIs P w h' a L' → (k ∈ L.map (·.2) ∧ L' = L ∨ k ∉ L.map (·.2) ∧ List.Perm L' ((x, k) :: L)) → Q b { s with heap := h' }) : wpAny (model P w) A (setAddHashed a (.ref x) (hK P w k)) Q E s := by
  obtain ⟨es, ep, t, ⟨o, ho, hex, hd⟩, R⟩ := id S
  have room := R.room
  have esz := R.size
  obtain ⟨K, f1, f2, f3⟩ := R.tab.first (by rw [List.length_map]; omega) (hK P w k)
  have turns : K < 100000 := by
    have : 10 * SetTable.turns t.mask ≤ 1420 := by
      unfold SetTable.turns
      rcases R.tab.mok with e | e | e <;> omega
    omega
  unfold setAddHashed
  refine wpAny_holding ?_
  rw [show (100000 : Nat) = 99999 + 1 from rfl, setAddHashedIn_succ]
  refine wpAny_bind (wpAny_setState_of ho hd R.fits (wp_if_neg (by simp [byScan, Value.scannable]) ?_))
  try refine wpAny_bind (wpAny_pure ?_)
  unfold setSearch
  refine wpAny_bind (seek ho hd R tu hx hu f1 f3 f2 (fun hm => wpAny_pure (q false s.heap L (Heap.SameBut.refl ..) S (.inl ⟨hm, rfl⟩))) (fun hm => ?_) 100000 0 none rfl (Nat.zero_le _) (by omega) fun _ _ _ _ _ z => absurd z (Nat.not_lt_zero _))
  dsimp only
  refine wpAny_bind (wpAny_setState_of ho hd R.fits ?_)
  dsimp only
  obtain ⟨p1, p2, p3, p4, p5, _, _, _, p9⟩ := R.tab.put f2 f3
  generalize hput : t.put (way t.mask (hK P w k) K) = pt at p1 p3 p4 p5 p9 ⊢
  obtain ⟨t1, j⟩ := pt
  dsimp only at p1 p3 p4 p5 p9 ⊢
  subst p1
  generalize SetTable.below t.place (way t.mask (hK P w k) K) = j at p2 p3 ⊢
  rw [List.length_map] at p9
  have pm := put_perm L j (x, k)
  have hrow : (SetTable.insertAt es j (hK P w k, Value.ref x)).toList = (L.take j ++ (x, k) :: L.drop j).map (ent P w) := by
    rw [SetTable.toList_insertAt, R.row, List.map_append, List.map_cons, List.map_take, List.map_drop]
    rfl
  have hhash : ((L.take j ++ (x, k) :: L.drop j).map fun p => hK P w p.2) = (L.map fun p => hK P w p.2).take j ++ hK P w k :: (L.map fun p => hK P w p.2).drop j := by
    rw [List.map_append, List.map_cons, List.map_take, List.map_drop]
  rw [← hhash] at p3
  generalize SetTable.insertAt es j (hK P w k, Value.ref x) = es1 at hrow ⊢
  generalize L.take j ++ (x, k) :: L.drop j = L1 at pm p3 hrow
  have lz : L1.length = L.length + 1 := pm.length_eq
  have ez : es1.size = L.length + 1 := by rw [← Array.length_toList, hrow, List.length_map, lz]
  have nd1 : (L1.map (·.2)).Nodup := (pm.map (·.2)).nodup_iff.mpr (by
    rw [List.map_cons]
    exact List.nodup_cons.mpr ⟨hm, R.nd⟩)
  -- the table as it is kept
  have fin : ∀ t2 : SetTable, TabOk t2 (L1.map fun p => hK P w p.2) → t2.mask = t.mask → t2.led = t.led → t2.fill = L.length + 1 → wpAny (model P w) A (do
      storeSet a es1 t2
      if !false && t2.tooFull then setRelay a (SetTable.grown (es.size + 1))
      return true) Q E s := fun t2 T2 m2 l2 z2 => by
    refine wpAny_bind (wpAny_storeSet_of ho hd ?_ (by rw [ez, sizeLine_eq]; omega))
    have sb : Heap.SameBut a s.heap (s.heap.update a (Obj.putSet es1 t2)) := Heap.SameBut.update ..
    have at1 := store_at (es' := es1) (t' := t2) ho hd
    generalize s.heap.update a (Obj.putSet es1 t2) = h1 at sb at1 ⊢
    have led2 : w.params.followText "set-order" = true ∨ t2.led = true := by rw [l2]; exact R.led
    by_cases tf : t2.tooFull = true
    · have full : t.mask * 3 ≤ (L.length + 1) * 5 := by
        unfold SetTable.tooFull at tf
        rw [decide_eq_true_eq, z2, m2] at tf
        exact tf
      obtain ⟨M, w1, w2, w3, w4⟩ := wider R.tab.mok (by omega) room full
      rw [tf, esz]
      have psz : t2.place.size = L1.length := T2.sz.trans (List.length_map ..)
      have big : wpAny (model P w) A (setRelay a (SetTable.grown (L.length + 1))) (fun _ s' => wpAny (model P w) A (pure true) Q E s') E { s with heap := h1 } :=
        widen (s := { s with heap := h1 }) at1 ⟨hex.1, hex.2.1, hex.2.2⟩ rfl hrow psz T2.dm (by rw [m2, lz]; omega) nd1 led2 (by omega) w1 w2 w3 (by rw [lz]; exact w4) fun h2 L2 sb2 S2 pm2 =>
          wpAny_pure (q true h2 L2 (sb.trans sb2) S2 (.inr ⟨hm, pm2.trans pm⟩))
      exact wpAny_bind big
    · have tf2 : t2.tooFull = false := by simpa using tf
      rw [tf2]
      have nf : L1.length * 5 < t2.mask * 3 := by
        unfold SetTable.tooFull at tf
        rw [decide_eq_true_eq, z2] at tf
        rw [lz]
        omega
      have S1 : SetIs P w h1 a L1 := ⟨es1, _, t2, ⟨_, at1, ⟨hex.1, hex.2.1, hex.2.2⟩, rfl⟩, hrow, T2, nd1, led2, nf, by omega⟩
      exact wpAny_bind (wpAny_pure (wpAny_pure (q true h1 L1 sb S1 (.inr ⟨hm, pm⟩))))
  by_cases pl : t1.plain = true
  · refine wp_if_pos pl (wpAny_bind (tu_byval hx fun r => ?_))
    cases r
    · exact fin { t1 with plain := false } ⟨p3.ris, p3.dm, p3.sz, p3.mok, p3.bd, p3.reach⟩ p4 p5 p9
    · exact fin t1 p3 p4 p5 p9
  · refine wp_if_neg pl (wpAny_bind (wpAny_pure ?_))
    exact fin t1 p3 p4 p5 p9
end
end DS

/-! SX3: the set comprehension of tuples of texts; sorted of such a set. -/
namespace DS
open PySem PySem.Spec PyProof.Rows L2
theorem tu_of {P : Program} {w : World} : ∀ {k : List Str} {us : List Value}, Vals (k.map V.str) us → ItemsAre (strKind P w) k us
  | [], _, .nil => .nil
  | z :: k, _, .cons r t => by
    obtain ⟨u, rfl⟩ := r
    exact .cons (strKind_is P w z u) (tu_of t)
def SetO (P : Program) (w : World) (a : Addr) (L : List En) : HO := .ext fun h => SetIs P w h a L
theorem setO_ok {P : Program} {w : World} {H : Hp} {h : Heap} {a : Addr} {L : List En} (S : SetIs P w h a L) : ObjOk P w H h a (SetO P w a L) := by
  refine ⟨S, ?_, fun g1 g2 x k => ?_⟩
  · obtain ⟨_, _, _, ⟨o, e, _⟩, _⟩ := S
    exact ⟨o, e⟩
  · obtain ⟨es, ep, t, ⟨o, e, r⟩, R⟩ := x
    exact ⟨es, ep, t, ⟨o, k o e, r⟩, R⟩
/-- a new set -/
theorem set_new {P : Program} {w : World} {h : Heap} {a : Addr} {led : Bool} (hl : led = !(w.params.followText "set-order")) (e : h.get? a = some { cls := .type "set", dict := none, data := .set #[] 0 (.fresh 0 0 led) }) : SetIs P w h a [] :=
  ⟨#[], 0, .fresh 0 0 led, ⟨_, e, ⟨rfl, rfl, rfl⟩, rfl⟩, rfl, ⟨List.Pairwise.nil, rfl, rfl, .inl rfl, fun x hx => (by cases hx), fun i h j hi => (by simp at hi)⟩, List.nodup_nil, by
    show _ ∨ led = true
    rw [hl]
    cases w.params.followText "set-order" <;> simp, by show 0 * 5 < 7 * 3; decide, by show 0 < 64; decide⟩
/-- the three cases of adding -/
def Added (L : List En) (x : Addr) (k : List Str) (L' : List En) : Prop := k ∈ L.map (·.2) ∧ L' = L ∨ k ∉ L.map (·.2) ∧ List.Perm L' ((x, k) :: L)
section
variable {X : Cx} {pins : List (Addr × Obj)} {σ : L2.St} {H : Hp} {s : Shared}
theorem inv_tu {b : Addr} {k : List Str} (I : Inv X pins σ H s) (h : SqT X.K H b (k.map V.str)) : Tu X.prog X.w s.heap k b := by
  obtain ⟨its, r, ⟨o, e, c, n, d⟩, _⟩ := I.tuple h
  exact ⟨o, its.toArray, n, e, c, d, by simpa using tu_of r⟩
/-- set.add -/
theorem setadd_ok {E : Value → Shared → Prop} {D x : Addr} {k : List Str} {L : List En} {Q : Value → Shared → Prop} (I : Inv X pins σ H s) (hu : X.A.units + 64 < cLine) (hD : H D = some (SetO X.prog X.w D L)) (tu : ∀ p ∈ L, SqT X.K H p.1 (p.2.map V.str)) (hx : SqT X.K H x (k.map V.str)) (few : L.length + 1 < 64)
    (q : ∀ L' s', Added L x k L' → Inv X pins σ (upd H D (SetO X.prog X.w D L')) s' → Q .none s') : wpAny (model X.prog X.w) X.A (call (.builtin "set.add") [.ref D, .ref x]) Q E s := by
  have S : SetIs X.prog X.w s.heap D L := (I.hok D _ hD).1
  have tx := inv_tu I hx
  have hty : s.TypeIs (.ref D) "set" := by
    obtain ⟨_, _, _, ⟨o, e, c, _⟩, _⟩ := S
    exact ⟨o, e, c.1⟩
  refine wpAny_call_entry F.slot_set_add hty F.entry_set_add ?_ (F.args_set_add_2 _ _)
  unfold Builtin.«set.add» Builtin.Frozenset.oneOther
  simp only [List.isEmpty_nil, bind_assoc]
  unfold Builtin.Frozenset.addrOf setAdd
  refine wpAny_bind (wpAny_pure ?_)
  try dsimp only
  refine wpAny_bind (wpAny_pure ?_)
  try dsimp only
  have hu1 : X.A.in1.units < cLine := by
    show X.A.units + 1 < cLine
    omega
  refine wpAny_bind (wpAny_holding (wpAny_bind (wpAny_pyHash_tuple hu1 tx ?_)))
  refine add_tu (s := { s with toks := s.toks + (k.length + 1) }) S (fun p hp => show Tu X.prog X.w s.heap p.2 p.1 from inv_tu I (tu p hp)) tx hu1 few fun b h' L' sb S' ad => ?_
  show wpAny _ _ (ret Value.none) _ _ _
  refine wpAny_pure ⟨_, rfl, q L' _ ad (I.write (t' := s.toks + (k.length + 1)) (by rw [hD]; trivial) (.inl rfl) (fun b u hb e => (sb.2 b hb).trans e) ?_ (setO_ok S'))⟩
  obtain ⟨_, _, _, ⟨o, e, _⟩, _⟩ := S'
  exact ⟨o, e⟩
end
section
variable {X : Cx}
/-- {elt for target in iter} -/
def tSc (P : Program) (w : World) (K : PySem.W.Frag) (wi : TI) (g : TG) (te : TE) (vs : List Nat) : TE := fun σ H Q => wi σ H fun J H1 => ∀ D, H1 D = none → ∃ Wt : Nat → Nat → Hp → Prop, (∃ m, Wt 0 m (upd H1 D (SetO P w D []))) ∧
  ∀ i m G, Wt i m G → (J.stop i G ∧ Q (.ref D) G) ∨ (J.go i G ∧ ∃ Nx : Hp → Prop, (∀ G', Nx G' → ∃ m', m' < m ∧ Wt (i + 1) m' G') ∧
    ∀ x G', J.yld i G x G' → g x (wipe σ vs) G' fun σ2 G2 => wipe σ2 vs = wipe σ vs ∧ te σ2 G2 fun y G3 => ∃ L b k, y = V.ref b ∧ G3 D = some (SetO P w D L) ∧ SqT K G3 b (k.map V.str) ∧ (∀ p ∈ L, SqT K G3 p.1 (p.2.map V.str)) ∧ L.length + 1 < 64 ∧
      ∀ L', Added L b k L' → Nx (upd G3 D (SetO P w D L')))
theorem pe_sc {elt tg iter : Expr} {scope : Scope} {own : List (Str × Nat)} {pos : Pos} {wi : TI} {g : TG} {te : TE} (hc : X.calm = true) (hN : X.N.Nodup) (hu : X.A.units + 64 < cLine) (hi : PI X tg iter wi) (ok : BlkOk X.N X.env.scope scope own)
    (hg : ∀ (s : Shared) (H : Hp) (C : Addr) (cl : List (Str × Addr)) (fp : List Addr), PG (X.blk s H scope (compEnvC scope cl C X.env) fp) tg g)
    (he : ∀ (s : Shared) (H : Hp) (C : Addr) (cl : List (Str × Addr)) (fp : List Addr), PE (X.blk s H scope (compEnvC scope cl C X.env) fp) elt te) (hs : ∀ x, foldedSetIterable iter X.env x = pure x := by intro _; rfl) :
    PE X (.SetComp elt [⟨tg, iter, [], 0⟩] scope pos) (tSc X.prog X.w X.K wi g te (own.map (·.2))) := by
  refine ⟨fun pins s σ H Q I h => ?_⟩
  have cells : ∀ y ∈ scope.names, y.2 = .free → ∃ c, X.env.cells.lookup y.1 = some c := fun y hy e => (ok.free y hy e).elim (fun z => I.ok.has _ (.inl z)) fun z => I.ok.has _ (.inr z)
  rw [arm_eval_SetComp]
  refine wpAny_comprehension_free (use := none) rfl hs (closure_ok cells) ok.kind (fun y hy e => by rw [ok.uniq y hy, e]) (thn (hi.run pins s σ H _ I h) fun _ _ h1 => thn h1 fun _ s2 h2 => ?_)
  obtain ⟨it, fp, tn, J, H2, rfl, I2, T, st2, f2, q⟩ := h2
  refine wpAny_newSet_raw fun led hled => newEnv_comp ?_
  obtain ⟨D, hD⟩ : ∃ D, D = s2.heap.objs.size := ⟨_, rfl⟩
  rw [← hD]
  have nD : H2 D = none := I2.hok.fresh (Nat.le_of_eq hD.symm)
  obtain ⟨Wt, ⟨m0, w0⟩, turn⟩ := q D nD
  obtain ⟨s3, hs3⟩ : ∃ s3 : Shared, s3 = { s2 with heap := s2.heap.push { cls := .type "set", dict := none, data := .set #[] 0 (.fresh 0 0 led) } } := ⟨_, rfl⟩
  have up : ∀ b o, s2.heap.get? b = some o → s3.heap.get? b = some o := fun b o e => by
    rw [hs3]
    exact Heap.get?_push_of_some _ e
  have sz : s3.heap.objs.size = s2.heap.objs.size + 1 := by rw [hs3, Heap.size_push]
  have I3 : Inv X pins σ (upd H2 D (SetO X.prog X.w D [])) s3 := by
    have S0 : SetIs X.prog X.w s3.heap D [] := set_new hled (by
      rw [hs3, hD]
      exact Heap.get?_push_size _ rfl)
    have z := I2.laid (t' := s2.toks) up (Nat.le_of_eq hD.symm) (setO_ok S0)
    rw [hs3] at z ⊢
    exact z
  have lo : ∀ b ∈ fp, b < s2.heap.objs.size := fun b hb => by
    obtain ⟨o, e, _⟩ := T.obj _ _ st2 b hb
    exact Heap.lt_size e
  have f3 : ∀ b ∈ fp, FpOk X pins (upd H2 D (SetO X.prog X.w D [])) b ∧ b < s3.heap.objs.size := fun b hb => by
    have l := lo b hb
    refine ⟨⟨?_, (f2 b hb).2⟩, by rw [sz]; exact Nat.lt_succ_of_lt l⟩
    rw [upd_ne (by rw [hD]; exact Nat.ne_of_lt l)]
    exact (f2 b hb).1
  have st3 := T.keep _ _ _ st2 fun b _ o e => up b o e
  have I4 := block_start I3 ok hN f3
  have pg := hg s3 (upd H2 D (SetO X.prog X.w D [])) s3.heap.objs.size (cellsFrom (s3.heap.objs.size + 1) scope.names (cloFrom X.env.cells scope.names [])) fp
  have pe := he s3 (upd H2 D (SetO X.prog X.w D [])) s3.heap.objs.size (cellsFrom (s3.heap.objs.size + 1) scope.names (cloFrom X.env.cells scope.names [])) fp
  rw [← hs3]
  show codeAny _ _ (.compStart (.SetComp elt [⟨tg, iter, [], 0⟩] scope pos) 0 (.ref it) (.ref D) (compEnvC scope (cellsFrom (s3.heap.objs.size + 1) scope.names (cloFrom X.env.cells scope.names [])) s3.heap.objs.size X.env)) (compPost (model X.prog X.w) X.A X.xe none (EP X pins σ Q) (.ref D) s3.heap.objs.size) { s3 with heap := pushCells (s3.heap.push { cls := .type "dict", data := .dict #[] }) scope.names }
  generalize hce : compEnvC scope (cellsFrom (s3.heap.objs.size + 1) scope.names (cloFrom X.env.cells scope.names [])) s3.heap.objs.size X.env = ce at I4 pg pe ⊢
  have cl : ce.locals = s3.heap.objs.size := by rw [← hce]; rfl
  have n3 : ∀ b ∈ fp, (upd H2 D (SetO X.prog X.w D [])) b = none := fun b hb => (f3 b hb).1.1
  generalize upd H2 D (SetO X.prog X.w D []) = H3 at I3 I4 pg pe w0 n3 f3
  obtain ⟨s4, hs4⟩ : ∃ s4 : Shared, s4 = { s3 with heap := pushCells (s3.heap.push { cls := .type "dict", data := .dict #[] }) scope.names } := ⟨_, rfl⟩
  rw [← hs4] at I4 ⊢
  have st4 := T.keep _ _ s4.heap st3 fun b _ o e => by
    rw [hs4]
    exact pushCells_keeps _ _ _ _ (Heap.get?_push_of_some _ e)
  have own_fp : ∀ {σ' : L2.St} {G : Hp} {s' : Shared}, Inv (X.blk s3 H3 scope ce fp) [] σ' G s' → (∀ b ∈ fp, G b = none) → ∀ b ∈ fp, FpOk (X.blk s3 H3 scope ce fp) [] G b := fun I' hn b hb =>
    ⟨hn b hb, (I'.ok.exf b hb).1, I'.ok.exfs b hb, .inl hb, fun x c e => (I'.ok.exf b hb).2 x c e, fun p hp => absurd (show p ∈ ([] : List (Addr × Obj)) ++ [] from hp) (by simp)⟩
  have loop : codeAny (model X.prog X.w) X.A (.compLoop (.SetComp elt [⟨tg, iter, [], 0⟩] scope pos) 0 (.ref it) (.ref D) ce) (compPost (model X.prog X.w) X.A X.xe none (EP X pins σ Q) (.ref D) s3.heap.objs.size) s4 := by
    refine compLoop_set_any (fun n s' => ∃ i G, Wt i n G ∧ Inv (X.blk s3 H3 scope ce fp) [] (wipe σ (own.map (·.2))) G s' ∧ (∀ b ∈ fp, G b = none) ∧ tn i s'.heap) (fun n s5 inv => ?_) m0 ⟨0, H3, w0, I4, n3, st4⟩
    obtain ⟨i, G5, w5, I5, n5, st5⟩ := inv
    rcases turn i n G5 w5 with ⟨stop, fin⟩ | ⟨go, Nx, nx, step⟩
    · refine thnF (T.done (X.blk s3 H3 scope ce fp) rfl rfl rfl hc i [] s5 _ G5 (fun _ _ => False) I5 (own_fp I5 n5) st5 stop) fun r s6 ⟨hr, I6⟩ => ?_
      subst hr
      have I7 : Inv X pins σ G5 s6 := I3.call' (ch := fp) I6.os I6.base I6.hok I6.bare fun b hb => ⟨(f3 b hb).1.2.2.2.1, (f3 b hb).1.2.1, (f3 b hb).1.2.2.2.2.1, (f3 b hb).1.2.2.2.2.2⟩
      have nC : G5 s3.heap.objs.size = none := by
        have z : G5 ce.locals = none := I6.free
        rwa [cl] at z
      obtain ⟨m, hm, _⟩ := I6.loc
      have hm : s6.heap.Ns ce.locals m := hm
      rw [cl] at hm
      obtain ⟨a0, a1, _, a3, a4, a5⟩ := I3.fpOk (Nat.le_refl _) nC
      exact ⟨m, hm, fun h'' sb => ⟨.ref D, G5, I7.turned (t' := s6.toks) (fun b o hb e => (sb.2 b hb).trans e) a0 a1 a3 a4 a5, rfl, fin⟩⟩
    · refine thnF (T.item (X.blk s3 H3 scope ce fp) rfl rfl rfl hc i [] s5 _ G5 (fun _ _ => False) I5 (own_fp I5 n5) st5 go) fun r s6 ⟨u, hr, h6⟩ => ?_
      subst hr
      refine thnF h6 fun _ s7 ⟨x, G7, I7, r7, y7, st7, n7⟩ => ?_
      have J7 := I7.pinned (own_fp I7 n7) (T.obj _ _ st7)
      refine thnF (pg.run _ s7 _ G7 x u _ J7 r7 (step x G7 y7)) fun _ s8 ⟨σ8, G8, I8, e8, q8⟩ => ?_
      refine wpAny_pure ?_
      rw [if_pos rfl]
      refine thnF (pe.run _ s8 σ8 G8 _ I8 q8) fun z s9 ⟨yv, G9, I9, r9, L, b, k, hy, hS, hb, hL, few, nxt⟩ => ?_
      subst hy
      cases r9
      refine setadd_ok (X := X.blk s3 H3 scope ce fp) I9 hu hS hL hb few fun L' s10 ad I10 => ?_
      obtain ⟨m', lt, w'⟩ := nx _ (nxt L' ad)
      have pin : ∀ b ∈ fp, ∀ o, s7.heap.get? b = some o → s10.heap.get? b = some o ∧ (upd G9 D (SetO X.prog X.w D L')) b = none := fun b hb o e => by
        have z := I10.pin (b, o) (List.mem_append_right _ (List.mem_append_right _ (mem_pinsAt hb e)))
        exact ⟨z.1, z.2.1⟩
      refine ⟨m', lt, i + 1, _, w', (I10.unpinned (pins := [])).weak (by rw [← e8, wipe_length]) (fun j v e => ?_), fun b hb => ?_, T.keep _ _ _ st7 fun b hb o e => (pin b hb o e).1⟩
      · rw [← e8] at e
        exact (wipe_some e).1
      · obtain ⟨o, e, _⟩ := T.obj _ _ st7 b hb
        exact (pin b hb o e).2
  exact codeAny_compStart_set loop (T.self X.A 0 _ _ _ st4 loop)
end
end DS

/-! SX4: sorted of a set of pairs of texts. -/
namespace DS
open PySem PySem.Spec PyProof.Rows L2
abbrev Pr := Str × Str
def kp (p : En) : Pr := (p.2.getD 0 "", p.2.getD 1 "")
def dPr (q : Pr) : PyData := .tuple [.str q.1, .str q.2]
def setLe (p q : Pr) : Bool := PySem.W.dataLe false dPr p q
theorem refs_is : ∀ L : List En, PySem.W.EachIs (fun v (p : En) => v = Value.ref p.1) (L.map fun p => Value.ref p.1) L
  | [] => .nil
  | p :: L => .cons rfl (refs_is L)
theorem is_refs : ∀ {us : List Value} {L : List En}, PySem.W.EachIs (fun v (p : En) => v = Value.ref p.1) us L → us = L.map fun p => Value.ref p.1
  | _, _, .nil => rfl
  | _, _, .cons h r => by rw [List.map_cons, h, is_refs r]
theorem each_of {R : Value → En → Prop} : ∀ {L : List En}, (∀ p ∈ L, R (.ref p.1) p) → PySem.W.EachIs R (L.map fun p => Value.ref p.1) L
  | [], _ => .nil
  | p :: L, h => .cons (h p (.head _)) (each_of fun q hq => h q (.tail _ hq))
section
variable {P : Program} {w : World} {A : Around} {E : Value → Shared → Prop} {s : Shared} {L : List En}
theorem two_texts {x y : Str} : ∀ {l : List Value}, ItemsAre (strKind P w) [x, y] l → ∃ t u, l = [Value.str x t, Value.str y u]
  | _, .cons h1 (.cons h2 .nil) => by
    obtain ⟨t, e1⟩ := Value.isStrOf_shape h1
    obtain ⟨u, e2⟩ := Value.isStrOf_shape h2
    exact ⟨t, u, by rw [e1, e2]⟩
theorem tu_reads {h : Heap} {b : Addr} {x y : Str} (t : Tu P w h [x, y] b) : Reads h (.ref b) (dPr (x, y)) [] := by
  obtain ⟨o, items, n, e, c, d, r⟩ := t
  obtain ⟨l⟩ := items
  obtain ⟨t, u, rfl⟩ := two_texts (show ItemsAre (strKind P w) [x, y] l from r)
  exact Reads.tuple (as := []) e c d (ReadsAll.cons (as := []) (bs := []) (.str _ _) (ReadsAll.cons (as := []) (bs := []) (.str _ _) .nil))
theorem sorted_set {a : Addr} {Q : Value → Shared → Prop} (S : SetIs P w s.heap a L) (tu : ∀ p ∈ L, Tu P w s.heap p.2 p.1) (two : ∀ p ∈ L, ∃ x y, p.2 = [x, y]) (hh : A.handled = none) (hu : A.units + 64 < cLine)
    (q : ∀ s' b (out : Array Value) c L1, (∀ b o, s.heap.get? b = some o → s'.heap.get? b = some o) → s'.gens = s.gens → s'.os = s.os → s.heap.objs.size ≤ b → s'.heap.get? b = some (seqObj "list" out c) → List.Perm L1 L →
      out.toList = (L1.mergeSort (PySem.W.dataLe false fun p => dPr (kp p))).map (fun p => Value.ref p.1) → Q (.ref b) s') : wpAny (model P w) A (call (.builtin "sorted") [.ref a]) Q E s := by
  obtain ⟨es, ep, t, ⟨o, ho, hex, hd⟩, R⟩ := id S
  have esz := R.size
  have few := R.few
  refine Calls.call_function_entry kind_sorted plain_sorted entry_sorted (args_sorted1 _) ?_
  unfold Builtin.«sorted»
  refine wpAny_bind (m := checkCount "sorted" 1 1 _) (wpAny_pure (wpAny_bind ?_))
  refine collect_set (A := A.in1) hh ⟨o, ho, hex.1, hd⟩ R.fits (by unfold scanBound; omega) R.tab.ris R.led fun s1 vs up hz g1 o1 pm => ?_
  rw [R.row, List.map_map] at pm
  obtain ⟨L1, p1, e1⟩ := perm_lift (fun p : En => Value.ref p.1) pm L rfl
  subst e1
  have len : L1.length = L.length := p1.length_eq
  refine wpAny_bind (wpAny_newList ?_ (by rw [List.length_map, sizeLine_eq]; omega))
  have hl : (s1.heap.push (seqObj "list" (L1.map fun p => Value.ref p.1).toArray 0)).get? s1.heap.objs.size = some (seqObj "list" (L1.map fun p => Value.ref p.1).toArray 0) := Heap.get?_push_size _ rfl
  have rd : ∀ p ∈ L1, ∃ as, Reads (s1.heap.push (seqObj "list" (L1.map fun p => Value.ref p.1).toArray 0)) (.ref p.1) (dPr (kp p)) as ∧ s1.heap.objs.size ∉ as := fun p hp => by
    have hp2 := p1.mem_iff.mp hp
    obtain ⟨x, y, e⟩ := two p hp2
    have t := tu p hp2
    have ek : kp p = (x, y) := by unfold kp; rw [e]; rfl
    rw [e] at t
    rw [ek]
    obtain ⟨o', items, n, t1, t2⟩ := t
    exact ⟨[], tu_reads (P := P) (w := w) ⟨o', items, n, Heap.get?_push_of_some _ (up _ _ t1), t2⟩, fun z => nomatch z⟩
  refine wpAny_bind (wpAny_holding (PySem.W.list_sort_data (s := { s1 with heap := s1.heap.push (seqObj "list" (L1.map fun p => Value.ref p.1).toArray 0) }) (enc := fun p => dPr (kp p)) hl (refs_is L1) (each_of rd)
    (PySem.W.AllAlike.of fun _ _ => by simp [dPr, PySem.W.alike, PySem.W.alikeAll]) (PySem.W.Sortable.tuples fun _ => ⟨_, _, rfl⟩) (by rw [sizeLine_eq]; omega) (fun p _ => ?_) fun out zl eo => ?_))
  · have hdp : (dPr (kp p)).depth = 1 := by simp [dPr, PyData.depth, PyData.depthAll]
    rw [hdp]
    show A.units + 1 + 1 + 1 < cLine
    omega
  · have eo' := is_refs eo
    obtain ⟨c, hc⟩ := sortedHeap_at (vs := L1.map fun p => Value.ref p.1) (out := out.toArray) hl
    refine wpAny_pure ⟨_, rfl, q _ s1.heap.objs.size out.toArray c L1 (fun b u e => ?_) g1 o1 hz hc p1 (by simpa using eo')⟩
    have z := up b u e
    have lt := Heap.lt_size z
    show (sortedHeap (s1.heap.push (seqObj "list" (L1.map fun p => Value.ref p.1).toArray 0)) s1.heap.objs.size (L1.map fun p => Value.ref p.1) out.toArray).get? b = some u
    rw [sortedHeap_old (Nat.ne_of_lt lt) (by rw [Heap.size_push]; exact Nat.lt_succ_of_lt lt)]
    exact Heap.get?_push_of_some _ z
end
/-- sorted(set) -/
def rSortSet (P : Program) (w : World) (K : PySem.W.Frag) : List V → Hp → VK → Prop := fun vs H Q => ∃ (a : Addr) (L : List En), vs = [V.ref a] ∧ H a = some (SetO P w a L) ∧ (∀ p ∈ L, SqT K H p.1 (p.2.map V.str)) ∧ (∀ p ∈ L, ∃ x y, p.2 = [x, y]) ∧
  ∀ L1 b, List.Perm L1 L → H b = none → Q (.ref b) (upd H b (.lst ((L1.mergeSort (PySem.W.dataLe false fun p => dPr (kp p))).map fun p => V.ref p.1)))
theorem refs_vals : ∀ L : List En, Vals (L.map fun p => V.ref p.1) (L.map fun p => Value.ref p.1)
  | [] => .nil
  | _ :: L => .cons rfl (refs_vals L)
section
variable {X : Cx}
theorem cr_sortSet (hc : X.calm = true) (hu : X.A.units + 64 < cLine) : CallR X (.builtin "sorted") (rSortSet X.prog X.w X.K) := by
  intro pins s σ H vs us Q I r h
  obtain ⟨a, L, rfl, ha, hk, two, q⟩ := h
  have S : SetIs X.prog X.w s.heap a L := (I.hok a _ ha).1
  obtain ⟨_, _, _, _, R⟩ := id S
  have few := R.few
  rw [Vals.ref1 r]
  refine sorted_set S (fun p hp => inv_tu I (hk p hp)) two (I.ok.hd hc) hu fun s' b out c L1 up g o lo e p1 eo => ?_
  have nb : H b = none := I.hok.fresh lo
  have J : Inv X pins σ (upd H b (.lst ((L1.mergeSort (PySem.W.dataLe false fun p => dPr (kp p))).map fun p => V.ref p.1))) { s with heap := s'.heap, gens := s'.gens, drawn := s'.drawn, toks := s'.toks } :=
    I.call (ch := []) (Un.laid up lo nb) (I.hok.laid up lo ⟨by rw [List.length_map, List.length_mergeSort, p1.length_eq, sizeLine_eq]; omega, out.toList, c, by rw [eo]; exact refs_vals _, e⟩) (by rw [g]; exact I.bare) (fun _ z => nomatch z)
  have es : s' = { s with heap := s'.heap, gens := s'.gens, drawn := s'.drawn, toks := s'.toks } := by
    cases s'
    cases o
    rfl
  rw [es]
  exact ⟨.ref b, _, J, rfl, q L1 b p1 nb⟩
end
end DS

/-! SX5: sorted({pair for x in xs}) as it is read. -/
namespace DL
open PySem PySem.Spec PyProof.Rows L2 DS
def pairD : D → Option Pr
  | .tuple [.str x, .str y] => some (x, y)
  | _ => none
def pairsD : List D → Option (List Pr)
  | [] => some []
  | d :: ds => match pairD d, pairsD ds with
    | some p, some r => some (p :: r)
    | _, _ => none
def ded : List Pr → List Pr
  | [] => []
  | p :: r => if p ∈ r then ded r else p :: ded r
def sortPr (ks : List Pr) : List Pr := (ded ks).mergeSort setLe
def setD (ds : List D) : Res (List D) := match pairsD ds with
  | some ks => if (ded ks).length < 63 then .ok ((sortPr ks).map dPr) else .no
  | none => .no
def lSc (it : Bt → Res (List D)) (tg : Tgt) (e : Bt → Res D) (vs : List Nat) : Bt → Res (List D) := fun β => (it β).bind fun ds => (lcD (cmD tg yesT e (wipeB β vs)) ds).bind setD
/-! ### pairs in order, each once -/
theorem ded_mem {q : Pr} : ∀ {ks : List Pr}, q ∈ ded ks ↔ q ∈ ks
  | [] => Iff.rfl
  | p :: r => by
    unfold ded
    by_cases h : p ∈ r
    · rw [if_pos h, ded_mem, List.mem_cons]
      refine ⟨.inr, fun z => z.elim (fun e => e ▸ h) id⟩
    · rw [if_neg h, List.mem_cons, ded_mem, List.mem_cons]
theorem ded_nodup : ∀ ks : List Pr, (ded ks).Nodup
  | [] => List.nodup_nil
  | p :: r => by
    unfold ded
    by_cases h : p ∈ r
    · rw [if_pos h]
      exact ded_nodup r
    · rw [if_neg h]
      exact List.nodup_cons.mpr ⟨fun z => h (ded_mem.mp z), ded_nodup r⟩
theorem sub_len {α : Type} [DecidableEq α] : ∀ {l m : List α}, l.Nodup → (∀ x ∈ l, x ∈ m) → l.length ≤ m.length
  | [], _, _, _ => Nat.zero_le _
  | x :: l, m, n, h => by
    obtain ⟨n1, n2⟩ := List.nodup_cons.mp n
    have hx := h x (.head _)
    have ih := sub_len (m := m.erase x) n2 fun y hy => (List.mem_erase_of_ne (fun e : y = x => n1 (by rw [← e]; exact hy))).mpr (h y (.tail _ hy))
    rw [List.length_erase_of_mem hx] at ih
    have := List.length_pos_of_mem hx
    rw [List.length_cons]
    omega
def ls (a b : Str) : Bool := decide (a.cps.toList < b.cps.toList)
theorem ls_irr (a : Str) : ls a a = false := decide_eq_false (List.lt_irrefl _)
theorem ls_tr {a b c : Str} (h : ls a b = true) (k : ls b c = true) : ls a c = true := decide_eq_true (List.lt_trans (of_decide_eq_true h) (of_decide_eq_true k))
theorem ls_tri {a b : Str} (h : ls a b = false) (k : ls b a = false) : a = b := by
  have e : a.cps.toList = b.cps.toList := List.le_antisymm (of_decide_eq_false k) (of_decide_eq_false h)
  cases a
  cases b
  congr
  exact Array.toList_inj.mp e
def plt (p q : Pr) : Bool := ls p.1 q.1 || (decide (p.1 = q.1) && ls p.2 q.2)
theorem setLe_eq (p q : Pr) : setLe p q = !plt q p := by
  show (!PySem.W.dataLt (dPr q) (dPr p)) = _
  unfold dPr
  rw [PySem.W.dataLt_pair (by simp [PySem.W.alike]) (by simp [PySem.W.alike]), PySem.W.dataLt_str, PySem.W.dataLt_str]
  unfold plt ls
  by_cases h1 : q.1 = p.1
  · by_cases h2 : q.2 = p.2
    · simp [h1, h2, PyData.eqv, List.lt_irrefl]
    · simp [h1, h2, PyData.eqv, List.lt_irrefl]
  · simp [h1, PyData.eqv]
theorem plt_irr (p : Pr) : plt p p = false := by simp [plt, ls_irr]
theorem plt_tr {p q r : Pr} (h : plt p q = true) (k : plt q r = true) : plt p r = true := by
  unfold plt at *
  simp only [Bool.or_eq_true, Bool.and_eq_true, decide_eq_true_eq] at *
  rcases h with h | ⟨h1, h2⟩ <;> rcases k with k | ⟨k1, k2⟩
  · exact .inl (ls_tr h k)
  · exact .inl (k1 ▸ h)
  · exact .inl (h1 ▸ k)
  · exact .inr ⟨h1.trans k1, ls_tr h2 k2⟩
theorem plt_tri {p q : Pr} (h : plt p q = false) (k : plt q p = false) : p = q := by
  unfold plt at *
  rw [Bool.or_eq_false_iff, Bool.and_eq_false_iff] at h k
  have e : p.1 = q.1 := ls_tri h.1 k.1
  exact Prod.ext e (ls_tri (h.2.resolve_left (by simp [e])) (k.2.resolve_left (by simp [e])))
theorem plt_asy {p q : Pr} (h : plt p q = true) : plt q p = false := by
  cases z : plt q p with
  | false => rfl
  | true => exact absurd (plt_tr h z) (by rw [plt_irr]; decide)
theorem setLe_tr {a b c : Pr} (h1 : setLe a b = true) (h2 : setLe b c = true) : setLe a c = true := by
  rw [setLe_eq, Bool.not_eq_true'] at *
  cases z : plt c a with
  | false => rfl
  | true =>
    cases y : plt b c with
    | true => exact absurd (plt_tr y z) (by rw [h1]; decide)
    | false =>
      have e := plt_tri h2 y
      rw [e, h1] at z
      cases z
theorem setLe_tot (a b : Pr) : (setLe a b || setLe b a) = true := by
  rw [setLe_eq, setLe_eq]
  cases z : plt b a with
  | false => rfl
  | true => simp [plt_asy z]
theorem setLe_as {a b : Pr} (h1 : setLe a b = true) (h2 : setLe b a = true) : a = b := by
  rw [setLe_eq, Bool.not_eq_true'] at h1 h2
  exact plt_tri h2 h1
theorem sort_perm {l m : List Pr} (h : l.Perm m) : l.mergeSort setLe = m.mergeSort setLe :=
  perm_same (le := fun a b => setLe a b = true) (fun _ _ => setLe_as) _ _ ((List.mergeSort_perm ..).trans (h.trans (List.mergeSort_perm ..).symm)) (List.pairwise_mergeSort (le := setLe) (fun _ _ _ => setLe_tr) setLe_tot _) (List.pairwise_mergeSort (le := setLe) (fun _ _ _ => setLe_tr) setLe_tot _)
theorem sort_keys {L : List En} {ks : List Pr} (nd : (L.map kp).Nodup) (h : ∀ q, q ∈ L.map kp ↔ q ∈ ks) : (L.mergeSort (PySem.W.dataLe false fun p => dPr (kp p))).map kp = sortPr ks := by
  have e : (L.mergeSort (PySem.W.dataLe false fun p => dPr (kp p))).map kp = (L.map kp).mergeSort setLe := PySem.W.sort_maps kp fun _ _ _ _ => rfl
  rw [e]
  exact sort_perm ((List.perm_ext_iff_of_nodup nd (ded_nodup ks)).mpr fun q => (h q).trans ded_mem.symm)
/-! ### what is read -/
theorem pairD_of {d : D} {q : Pr} (h : pairD d = some q) : d = dPr q := by
  unfold pairD at h
  split at h
  · cases h
    rfl
  · cases h
theorem pair_rp {K : PySem.W.Frag} {w : World} {G : Hp} {v : V} {q : Pr} (r : Rp K w G v (dPr q)) : ∃ b, v = .ref b ∧ SqT K G b ([q.1, q.2].map V.str) := by
  unfold dPr at r
  cases r with
  | tup hx rx =>
    have e := rpAll_strs (xs := [q.1, q.2]) rx
    subst e
    exact ⟨_, rfl, hx⟩
theorem pairsD_cons {d : D} {ds : List D} {ks : List Pr} (h : pairsD (d :: ds) = some ks) : ∃ q r, pairD d = some q ∧ pairsD ds = some r ∧ ks = q :: r := by
  unfold pairsD at h
  split at h
  · cases h
    exact ⟨_, _, by assumption, by assumption, rfl⟩
  · cases h
theorem pairs_app : ∀ {xs ys : List D} {ks : List Pr}, pairsD (xs ++ ys) = some ks → ∃ a b, pairsD xs = some a ∧ pairsD ys = some b ∧ ks = a ++ b
  | [], ys, ks, h => ⟨[], ks, rfl, h, rfl⟩
  | x :: xs, ys, ks, h => by
    obtain ⟨q, r, h1, h2, rfl⟩ := pairsD_cons h
    obtain ⟨a, b, h3, h4, rfl⟩ := pairs_app h2
    refine ⟨q :: a, b, ?_, h4, rfl⟩
    unfold pairsD
    rw [h1, h3]
theorem lcD_yes {tg : Tgt} {e : Bt → Res D} {β : Bt} {d : D} {o : Option D} (h : cmD tg yesT e β d = .ok o) : ∃ β' y, setT tg d β = some β' ∧ e β' = .ok y ∧ o = some y := by
  unfold cmD yesT at h
  split at h
  · cases h
  · rename_i β' hs
    have h : noEr ((e β').bind fun y => Res.ok (some y)) = .ok o := h
    cases q : e β' with
    | no => rw [q] at h; cases h
    | er x => rw [q] at h; cases h
    | ok y =>
      rw [q] at h
      have h : Res.ok (some y) = Res.ok o := h
      cases h
      exact ⟨β', y, hs, q, rfl⟩
theorem kp_two (x y : Str) (b : Addr) : kp (b, [x, y]) = (x, y) := rfl
/-- what the set has got -/
structure Has (K : PySem.W.Frag) (w : World) (G : Hp) (L : List En) (pre : List Pr) : Prop where
  rp : ∀ p ∈ L, SqT K G p.1 (p.2.map V.str)
  two : ∀ p ∈ L, ∃ x y, p.2 = [x, y]
  nd : (L.map kp).Nodup
  mem : ∀ q, q ∈ L.map kp ↔ q ∈ pre
theorem Has.mono {K : PySem.W.Frag} {w : World} {G G' : Hp} {L : List En} {pre : List Pr} (h : Has K w G L pre) (s : Same G G') : Has K w G' L pre := ⟨fun p hp => seqT s (h.rp p hp), h.two, h.nd, h.mem⟩
theorem Has.add {K : PySem.W.Frag} {w : World} {G : Hp} {L L' : List En} {pre : List Pr} {b : Addr} {q : Pr} (h : Has K w G L pre) (hb : SqT K G b ([q.1, q.2].map V.str)) (ad : Added L b [q.1, q.2] L') : Has K w G L' (pre ++ [q]) := by
  have key : [q.1, q.2] ∈ L.map (·.2) ↔ q ∈ L.map kp := by
    constructor
    · intro m
      obtain ⟨p, hp, e⟩ := List.mem_map.mp m
      refine List.mem_map.mpr ⟨p, hp, ?_⟩
      have e : p.2 = [q.1, q.2] := e
      unfold kp
      rw [e]
      rfl
    · intro m
      obtain ⟨p, hp, e⟩ := List.mem_map.mp m
      obtain ⟨x, y, e2⟩ := h.two p hp
      refine List.mem_map.mpr ⟨p, hp, ?_⟩
      have e3 : kp p = (x, y) := by
        unfold kp
        rw [e2]
        rfl
      rw [← e, e3]
      exact e2
  rcases ad with ⟨m, rfl⟩ | ⟨m, pm⟩
  · refine ⟨h.rp, h.two, h.nd, fun z => ?_⟩
    rw [h.mem z, List.mem_append, List.mem_singleton]
    refine ⟨.inl, fun k => k.elim id fun e => ?_⟩
    rw [e, ← h.mem]
    exact key.mp m
  · refine ⟨fun p hp => ?_, fun p hp => ?_, ?_, fun z => ?_⟩
    · rcases List.mem_cons.mp (pm.mem_iff.mp hp) with rfl | k
      · exact hb
      · exact h.rp p k
    · rcases List.mem_cons.mp (pm.mem_iff.mp hp) with rfl | k
      · exact ⟨_, _, rfl⟩
      · exact h.two p k
    · refine (pm.map kp).nodup_iff.mpr ?_
      rw [List.map_cons]
      exact List.nodup_cons.mpr ⟨fun k => m (key.mpr k), h.nd⟩
    · rw [(pm.map kp).mem_iff, List.map_cons, List.mem_cons, List.mem_append, List.mem_singleton, h.mem z]
      exact Or.comm
theorem sc_rd {X : Cx} {W : WA} {dit : Bt → Res (List D)} {tg : Tgt} {e : Bt → Res D} {vs : List Nat} (hv : ∀ i ∈ tg.slots, i ∈ vs) (σ : L2.St) (H : Hp) (Q : VK) (h : TRf X W (lSc dit tg e vs) σ H Q) :
    tSc X.prog X.w X.K (TRi X W dit) (tgt X.K tg) (TR X W0 e) vs σ H (fun v H1 => rSortSet X.prog X.w X.K [v] H1 Q) := by
  obtain ⟨G, β, s, ev, rp⟩ := h
  refine ⟨G, β, s, ev, rp.bind fun ds ed G1 H1 g1 rp1 J hJ P hP => ?_⟩
  cases hr : lcD (cmD tg yesT e (wipeB β vs)) ds with
  | no => rw [hr] at rp1; exact rp1.elim
  | er x => exact (lcD_er (fun d x => cmD_er) hr).elim
  | ok rs =>
    rw [hr] at rp1
    have rp1 : RP X.K X.w X.mg W σ G1 H1 (fun ds G' H' => ∀ a vs, H a = none → G' a = none → H' a = some (.lst vs) → RpAll X.K X.w G' vs ds → Q (.ref a) H') (setD rs) := rp1
    unfold setD at rp1
    cases hk : pairsD rs with
    | none => rw [hk] at rp1; exact rp1.elim
    | some ks =>
      rw [hk] at rp1
      dsimp only at rp1
      by_cases hz : (ded ks).length < 63
      · rw [if_pos hz] at rp1
        refine ⟨fun i m H2 => m = ds.length - i ∧ i ≤ ds.length ∧ ∃ G2 L pre post r, Gr G1 H1 G2 H2 ∧ G2 P = none ∧ H2 P = some (SetO X.prog X.w P L) ∧ Has X.K X.w G2 L pre ∧ lcD (cmD tg yesT e (wipeB β vs)) (ds.drop i) = .ok r ∧ pairsD r = some post ∧ pre ++ post = ks,
          ⟨ds.length, rfl, Nat.zero_le _, G1, [], [], ks, rs, (Gr.refl g1.s).put hP (g1.s.free hP), g1.s.free hP, upd_same, ⟨fun _ z => (nomatch z), fun _ z => (nomatch z), List.nodup_nil, fun _ => Iff.rfl⟩, hr, hk, rfl⟩, fun i m H2 hI => ?_⟩
        obtain ⟨rfl, hi, G2, L, pre, post, r, g2, hG, hA, has, hd, hp, he⟩ := hI
        by_cases hlt : i < ds.length
        · refine .inr ⟨hJ.go i H2 (g2.g.trans g2.s) hlt, fun H' => ∃ m', m' < ds.length - i ∧ (m' = ds.length - (i + 1) ∧ i + 1 ≤ ds.length ∧ ∃ G2 L pre post r, Gr G1 H1 G2 H' ∧ G2 P = none ∧ H' P = some (SetO X.prog X.w P L) ∧ Has X.K X.w G2 L pre ∧ lcD (cmD tg yesT e (wipeB β vs)) (ds.drop (i + 1)) = .ok r ∧ pairsD r = some post ∧ pre ++ post = ks),
            fun H' q => q, fun x H' hy => ?_⟩
          rw [List.drop_eq_getElem_cons hlt] at hd
          obtain ⟨o, r', ho, hr', rfl⟩ := lcD_cons hd
          obtain ⟨β', y, hs, hee, rfl⟩ := lcD_yes ho
          obtain ⟨q, post', hq, hpost, rfl⟩ := pairsD_cons (show pairsD (y :: r') = some post from hp)
          obtain ⟨G3, g3, rx⟩ := hJ.yld i _ G2 H2 x H' (List.getElem?_eq_getElem hlt) g2.g g2.s hy
          have ev3 : Ev X.K X.w W0 G3 (wipe σ vs) (wipeB β vs) := (((ev.mono g1.g).mono g2.g).mono g3.g).wipe vs
          have hP2 : H2 P ≠ none := by rw [hA]; exact fun z => nomatch z
          refine tgt_run (g3.s) rx ev3 hs fun σ2 ev2 hw => ⟨?_, ?_⟩
          · rw [hw vs hv, wipe_idem σ vs vs fun _ h => h]
          · refine ⟨G3, β', g3.s, ev2, ?_⟩
            rw [hee]
            intro G5 H5 g5 u ru
            rw [pairD_of hq] at ru
            obtain ⟨b, rfl, hb⟩ := pair_rp ru
            have g25 := g3.trans g5
            have hP5 : G5 P = none := g25.o P hP2 hG
            have has5 := has.mono g25.g
            have hq2 : q ∈ ded ks := ded_mem.mpr (by rw [← he]; exact List.mem_append_right _ (.head _))
            have few : L.length + 1 < 64 := by
              have z := sub_len has.nd (m := ded ks) fun z hz => ded_mem.mpr (by
                rw [← he]
                exact List.mem_append_left _ ((has.mem z).mp hz))
              rw [List.length_map] at z
              omega
            refine ⟨L, b, [q.1, q.2], rfl, g25.h _ _ hA, seqT g5.s hb, fun p hp => seqT g5.s (has5.rp p hp), few, fun L' ad => ⟨ds.length - (i + 1), by omega, rfl, hlt, G5, L', pre ++ [q], post', r', (g2.trans g25).put hP hP5, hP5, upd_same, has5.add hb ad, hr', hpost, ?_⟩⟩
            rw [← he, List.append_assoc]
            rfl
        · have e1 : i = ds.length := by omega
          subst e1
          rw [List.drop_length] at hd
          cases hd
          cases hp
          rw [List.append_nil] at he
          subst he
          refine .inl ⟨hJ.stop _ H2 (g2.g.trans g2.s) (Nat.le_refl _), P, L, rfl, hA, fun p hp => seqT g2.s (has.rp p hp), has.two, fun L1 b pm hb => ?_⟩
          have nd1 : (L1.map kp).Nodup := (pm.map kp).nodup_iff.mpr has.nd
          have hs := sort_keys nd1 (ks := pre) fun q => ((pm.map kp).mem_iff).trans (has.mem q)
          refine rp1.here (g2.put (g2.h.free hb) (g2.s.free hb)) b _ (g1.h.free (g2.h.free hb)) (g2.s.free hb) upd_same ?_
          rw [← hs, List.map_map]
          have pm2 : (L1.mergeSort (PySem.W.dataLe false fun p => dPr (kp p))).Perm L := (List.mergeSort_perm ..).trans pm
          have each : ∀ M : List En, (∀ p ∈ M, p ∈ L) → RpAll X.K X.w G2 (M.map fun p => V.ref p.1) (M.map (dPr ∘ kp)) := by
            intro M
            induction M with
            | nil => exact fun _ => .nil
            | cons p M ih =>
              intro hM
              have hp := hM p (.head _)
              obtain ⟨x, y, e⟩ := has.two p hp
              have hx := has.rp p hp
              refine .cons ?_ (ih fun q hq => hM q (.tail _ hq))
              show Rp X.K X.w G2 (.ref p.1) (dPr (kp p))
              have ek : kp p = (x, y) := by
                unfold kp
                rw [e]
                rfl
              rw [ek]
              rw [e] at hx
              exact .tup hx (strs_rp [x, y])
          exact each _ fun p hp => pm2.mem_iff.mp hp
      · rw [if_neg hz] at rp1
        exact rp1.elim
section
variable {X : Cx} {W : WA} {tg elt iter : Expr} {dit : Bt → Res (List D)} {tgd : Tgt} {de : Bt → Res D} {own : List (Str × Nat)} {scope : Scope} {p pos pos2 : Pos} {k : Nat}
theorem rfsortset (hr : Room k X.A) (hm : X.mg "sorted" = none) (hi : RI X W tg iter dit) (ok : BlkOk X.N X.env.scope scope own) (hN : X.N.Nodup)
    (hg : ∀ (s : Shared) (H : Hp) (C : Addr) (cl : List (Str × Addr)) (fp : List Addr), RG (X.blk s H scope (compEnvC scope cl C X.env) fp) tg tgd)
    (he : ∀ (s : Shared) (H : Hp) (C : Addr) (cl : List (Str × Addr)) (fp : List Addr), RE (X.blk s H scope (compEnvC scope cl C X.env) fp) W0 elt de)
    (hv : ∀ i ∈ tgd.slots, i ∈ own.map (·.2)) (hgl : Gl X "sorted" := by rfl) (hvb : bootBuiltins "sorted" = some (.builtin "sorted") := by decide +kernel) (hc : X.calm = true := by rfl) (hs : ∀ x, foldedSetIterable iter X.env x = pure x := by intro _; rfl)
    (hst : starEach [.SetComp elt [⟨tg, iter, [], 0⟩] scope pos] X.env = (false, eval (.SetComp elt [⟨tg, iter, [], 0⟩] scope pos) X.env) :: starEach [] X.env := by rfl) :
    RF X W (.Call (.Name "sorted" p) [.SetComp elt [⟨tg, iter, [], 0⟩] scope pos] [] pos2) (lSc dit tgd de (own.map (·.2))) :=
  PE.imp (pe_callB (cr_sortSet hc (by have := hr.un; omega)) hgl hm hvb (pa_cons (pe_sc (g := tgt X.K tgd) (te := TR X W0 de) hc hN (by have := hr.un; omega) hi ok hg he hs) pa_nil hst) (he := hst)) fun σ H Q h => sc_rd hv σ H Q h
end
end DL

/-! SX6: sorted of a list of pairs of texts. -/
namespace DL
open PySem PySem.Spec PyProof.Rows L2 DS
def rSortPr (K : PySem.W.Frag) : List V → Hp → VK → Prop := fun vs H Q => ∃ (a : Addr) (L : List En), vs = [V.ref a] ∧ SqL K H a (L.map fun p => V.ref p.1) ∧ (∀ p ∈ L, SqT K H p.1 (p.2.map V.str)) ∧ (∀ p ∈ L, ∃ x y, p.2 = [x, y]) ∧
  ∀ b, H b = none → Q (.ref b) (upd H b (.lst ((L.mergeSort (PySem.W.dataLe false fun p => dPr (kp p))).map fun p => V.ref p.1)))
theorem refs_eq : ∀ {L : List En} {us : List Value}, Vals (L.map fun p => V.ref p.1) us → us = L.map fun p => Value.ref p.1
  | [], _, .nil => rfl
  | p :: L, _, .cons h r => by
    cases h
    rw [refs_eq r]
    rfl
section
variable {X : Cx}
theorem cr_sortPr {k : Nat} (hr : Room k X.A) : CallR X (.builtin "sorted") (rSortPr X.K) := by
  intro pins s σ H vs us Q I r h
  obtain ⟨a, L, rfl, ha, hk, two, q⟩ := h
  rw [Vals.ref1 r]
  obtain ⟨its, rv, hl, hz⟩ := I.list ha
  have ei := refs_eq rv
  have hz' : L.length ≤ sizeLine := by simpa using hz
  refine PySem.W.sorted_data (R := fun v (p : En) => v = Value.ref p.1) (vs := its) (bs := L) (enc := fun p => dPr (kp p)) hl.isList (by rw [ei]; exact refs_is L) (by
    rw [ei]
    exact each_of fun p hp => by
      obtain ⟨x, y, e⟩ := two p hp
      have t := inv_tu I (hk p hp)
      have ek : kp p = (x, y) := by unfold kp; rw [e]; rfl
      rw [e] at t
      rw [ek]
      exact ⟨[], tu_reads t⟩)
    (PySem.W.AllAlike.of fun _ _ => by simp [dPr, PySem.W.alike, PySem.W.alikeAll]) (PySem.W.Sortable.tuples fun _ => ⟨_, _, rfl⟩) hz' (fun p _ => ?_) fun out zl eo => ?_
  · have hdp : (dPr (kp p)).depth = 1 := by simp [dPr, PyData.depth, PyData.depthAll]
    have := hr.un
    rw [hdp]
    omega
  · obtain ⟨c, hc⟩ := PyProof.Rows.sortedAll_at s.heap its out.toArray
    have eo' := is_refs eo
    refine ⟨.ref _, upd H (s.heap.objs.size + 1) (.lst _), I.laid (t' := s.toks) (fun _ _ => sortedAll_old) (Nat.le_succ _) ⟨?_, out, c, ?_, hc⟩, rfl, q _ (I.hok.fresh (Nat.le_succ _))⟩
    · rw [List.length_map, List.length_mergeSort]
      exact hz'
    · rw [eo']
      exact refs_vals _
theorem pairs_rp {K : PySem.W.Frag} {w : World} {G : Hp} : ∀ {vs : List V} {ds : List D} {ks : List Pr}, RpAll K w G vs ds → pairsD ds = some ks → ∃ L : List En, vs = (L.map fun p => V.ref p.1) ∧ ks = L.map kp ∧ (∀ p ∈ L, SqT K G p.1 (p.2.map V.str)) ∧ ∀ p ∈ L, ∃ x y, p.2 = [x, y]
  | _, _, _, .nil, h => by
    cases h
    exact ⟨[], rfl, rfl, fun _ z => (nomatch z), fun _ z => (nomatch z)⟩
  | _, _, _, .cons r rr, h => by
    obtain ⟨q, t, h1, h2, rfl⟩ := pairsD_cons h
    rw [pairD_of h1] at r
    obtain ⟨b, rfl, hb⟩ := pair_rp r
    obtain ⟨L, rfl, rfl, l1, l2⟩ := pairs_rp rr h2
    refine ⟨(b, [q.1, q.2]) :: L, rfl, rfl, fun p hp => ?_, fun p hp => ?_⟩
    · rcases List.mem_cons.mp hp with rfl | hp
      · exact hb
      · exact l1 p hp
    · rcases List.mem_cons.mp hp with rfl | hp
      · exact ⟨_, _, rfl⟩
      · exact l2 p hp
theorem refs_rp {K : PySem.W.Frag} {w : World} {G : Hp} : ∀ {M : List En}, (∀ p ∈ M, SqT K G p.1 (p.2.map V.str)) → (∀ p ∈ M, ∃ x y, p.2 = [x, y]) → RpAll K w G (M.map fun p => V.ref p.1) ((M.map kp).map dPr)
  | [], _, _ => .nil
  | p :: M, h1, h2 => by
    obtain ⟨x, y, e⟩ := h2 p (.head _)
    have hx := h1 p (.head _)
    have ek : kp p = (x, y) := by
      unfold kp
      rw [e]
      rfl
    rw [e] at hx
    refine .cons ?_ (refs_rp (fun q hq => h1 q (.tail _ hq)) fun q hq => h2 q (.tail _ hq))
    show Rp K w G (.ref p.1) (dPr (kp p))
    rw [ek]
    exact .tup hx (strs_rp [x, y])
def fSortP : List D → Option D
  | [.list ds] => match pairsD ds with
    | some ks => some (.list ((ks.mergeSort setLe).map dPr))
    | none => none
  | _ => none
theorem ok_sortP : OkRN X (rSortPr X.K) fSortP := by
  intro xs d e vs G H Q s rv q
  cases rv with
  | nil => cases e
  | cons r1 rr =>
    cases rr with
    | cons r2 rr => cases r1 <;> cases e
    | nil =>
      cases r1 with
      | lst hx rx =>
        unfold fSortP at e
        dsimp only at e
        split at e
        · rename_i ks hk
          cases e
          obtain ⟨L, rfl, rfl, l1, l2⟩ := pairs_rp rx hk
          refine ⟨_, L, rfl, SqL.of (s _ _ hx), fun p hp => seqT s (l1 p hp), l2, fun b hb => ?_⟩
          have g := Gr.new (o := .lst ((L.mergeSort (PySem.W.dataLe false fun p => dPr (kp p))).map fun p => V.ref p.1)) s hb
          have e1 : (L.map kp).mergeSort setLe = (L.mergeSort (PySem.W.dataLe false fun p => dPr (kp p))).map kp := (PySem.W.sort_maps kp fun _ _ _ _ => rfl).symm
          have pm : (L.mergeSort (PySem.W.dataLe false fun p => dPr (kp p))).Perm L := List.mergeSort_perm ..
          rw [e1] at q
          refine q _ _ g _ (.lst upd_same (refs_rp (fun p hp => ?_) fun p hp => l2 p (pm.mem_iff.mp hp)))
          exact seqT g.g (l1 p (pm.mem_iff.mp hp))
        · cases e
      | _ => cases e
end
end DL

/-! SX7: list of a text. -/
namespace DL
open PySem PySem.Spec PyProof.Rows L2
def chs (z : Str) : List Str := z.cps.toList.map fun c => ⟨#[c]⟩
theorem vals_chs {z : Str} {acc : Array Value} (h : ItemsOf (SignAt z) acc z.cps.size) : Vals ((chs z).map V.str) acc.toList := by
  refine vals_of_idx _ _ ?_ fun j u hj => ?_
  · rw [List.length_map, chs, List.length_map]
    exact h.1
  · obtain ⟨c, t, e, rfl⟩ := h.2 j u (by rw [← Array.getElem?_toList]; exact hj)
    refine ⟨.str ⟨#[c]⟩, ?_, t, rfl⟩
    unfold chs
    rw [List.map_map, List.getElem?_map, Array.getElem?_toList, e]
    rfl
section
variable {X : Cx}
theorem call_list_txt (hc : X.calm = true) : CallR X (.type "list") (fun xs H Q => ∃ z : Str, xs = [.str z] ∧ z.cps.size ≤ sizeLine ∧ ∀ l, H l = none → Q (.ref l) (upd H l (.lst ((chs z).map V.str)))) := by
  intro pins s σ H vs us Q I r h
  obtain ⟨z, rfl, hz, q⟩ := h
  obtain ⟨u, rfl, t, rfl⟩ := vals1 r
  refine PySem.call_list_str (I.ok.hd hc) z t (fun h' tk acc c keep e its => ?_) hz
  refine ⟨.ref _, upd H s.heap.objs.size (.lst _), I.laid (t' := tk) keep (Nat.le_refl _) ⟨?_, acc.toList, c, vals_chs its, e⟩, rfl, q _ (I.hok.fresh (Nat.le_refl _))⟩
  rw [List.length_map, chs, List.length_map]
  exact hz
def fListX : List D → Option D
  | [.list xs] => some (.list xs)
  | [.tuple xs] => some (.list xs)
  | [.str z] => if z.cps.size ≤ 1000 then some (.list ((chs z).map PyData.str)) else none
  | _ => none
theorem okO_listX (hc : X.calm = true) : CallR X (.type "list") (fun vs H Q => (∃ p ys, vs = [V.ref p] ∧ (SqL X.K H p ys ∨ SqT X.K H p ys) ∧ ∀ l, H l = none → Q (.ref l) (upd H l (.lst ys))) ∨ ∃ z : Str, vs = [.str z] ∧ z.cps.size ≤ sizeLine ∧ ∀ l, H l = none → Q (.ref l) (upd H l (.lst ((chs z).map V.str)))) := call_list_of.or (call_list_txt hc)
theorem ok_listX : OkRN X (fun vs H Q => (∃ p ys, vs = [V.ref p] ∧ (SqL X.K H p ys ∨ SqT X.K H p ys) ∧ ∀ l, H l = none → Q (.ref l) (upd H l (.lst ys))) ∨ ∃ z : Str, vs = [.str z] ∧ z.cps.size ≤ sizeLine ∧ ∀ l, H l = none → Q (.ref l) (upd H l (.lst ((chs z).map V.str)))) fListX := by
  intro xs d e vs G H Q s rv q
  cases rv with
  | nil => cases e
  | cons r1 rr =>
    cases rr with
    | cons r2 rr => cases r1 <;> cases e
    | nil =>
      cases r1 with
      | str z =>
        unfold fListX at e
        dsimp only at e
        split at e
        · rename_i hz
          cases e
          refine .inr ⟨z, rfl, by rw [sizeLine_eq]; omega, fun l hl => ?_⟩
          exact q _ _ (Gr.new s hl) _ (.lst upd_same (strs_rp _))
        · cases e
      | lst hx rx =>
        cases e
        exact .inl (ok_list [.list _] _ rfl _ G H Q s (.cons (.lst hx rx) .nil) q)
      | tup hx rx =>
        cases e
        exact .inl (ok_list [.tuple _] _ rfl _ G H Q s (.cons (.tup hx rx) .nil) q)
      | _ => cases e
end
end DL

/-! SX8: calls with an item of a list of our own. -/
namespace DL
open PySem PySem.Spec PyProof.Rows L2
def oIx (i : Nat) (k : Int) : At → Res D := fun α => match α[i]? with
  | some (.own ds) => Res.of (atI ds k)
  | _ => .no
def TSa (X : Cx) (W : WA) (den : At → Res (List D)) : TA := fun σ H Q => ∃ G0 H0 G α, Sv X.K X.w W G0 H0 G H σ α ∧ RP X.K X.w X.mg W σ G H (fun ds G' H' => ∀ vs, RpAll X.K X.w G' vs ds → Q vs H') (den α)
def SA (X : Cx) (W : WA) (es : List Expr) (den : At → Res (List D)) : Prop := PA X es (TSa X W den)
def sAc (a : At → Res D) (r : At → Res (List D)) : At → Res (List D) := fun α => (a α).bind fun x => (r α).bind fun xs => .ok (x :: xs)
def sCal (g : List D → Res D) (r : At → Res (List D)) : At → Res D := fun α => (r α).bind g
section
variable {X : Cx} {W : WA} {e : Expr} {es : List Expr}
theorem sa {d : Bt → Res (List D)} (h : RA X W es d) : SA X W es (sD d) := PA.imp h fun σ H Q ⟨G0, H0, G, α, S, rp⟩ => ⟨G, dats α, S.gr.s, S.ev, rp⟩
theorem sacons {da : At → Res D} {dr : At → Res (List D)} (ha : SE X W e da) (hr : SA X W es dr) (hs : starEach (e :: es) X.env = (false, eval e X.env) :: starEach es X.env := by rfl) : SA X W (e :: es) (sAc da dr) :=
  PA.imp (pa_cons ha hr hs) fun σ H Q ⟨G0, H0, G, α, S, rp⟩ => by
    refine ⟨G0, H0, G, α, S, rp.bind fun x ex G1 H1 g1 rp1 v rv => ?_⟩
    refine ⟨G0, H0, G1, α, S.grow g1, rp1.bind fun y ey G2 H2 g2 rp2 u ru => ?_⟩
    exact rp2.here (Gr.refl g2.s) (v :: u) (.cons (rv.mono g2.g) ru)
theorem soix {i : Nat} {x : Str} {k : Int} {c : Nat} {p1 p2 p3 : Pos} (hi : X.N[i]? = some x := by rfl) (hv : Vis X.env.scope x := by first | exact Or.inl rfl | exact Or.inr (Or.inl rfl) | exact Or.inr (Or.inr rfl)) (hd : (x == ("__debug__" : Str)) = false := by decide) (hcd : (x == ("__classdict__" : Str)) = false := by decide) :
    SE X W (.Subscript (.Name x p1) (.Constant (.int k) c p2) p3) (oIx i k) :=
  PE.imp (pe_ix ix_seq (pv i hi hv hd hcd) (se (rint (i := k))) (fun _ _ => rfl)) fun σ H Q ⟨G0, H0, G, α, S, rp⟩ => by
    unfold oIx at rp
    split at rp
    · rename_i ds ea
      obtain ⟨p, vs, b1, b2, b3, b4, b5⟩ := S.own i ds ea
      refine ⟨.ref p, b1, G0, H0, G, α, S, ?_⟩
      cases hq : atI ds k with
      | none => rw [hq] at rp; exact rp.elim
      | some d =>
        rw [hq] at rp
        intro G1 H1 g1 v rv
        cases rv
        have S1 := S.grow g1
        obtain ⟨p', vs', c1, c2, c3, c4, c5⟩ := S1.own i ds ea
        rw [b1] at c1
        cases c1
        obtain ⟨z, e1, e2⟩ := atI_rp c5 hq
        exact .inl ⟨_, _, _, z, rfl, rfl, SqL.of c4, e1, rp _ _ g1 _ e2⟩
    · exact rp.elim
theorem scall {k k' : Nat} {g : List D → Res D} {x : Str} {p pos : Pos} {da : At → Res (List D)} (C : Cal X.prog X.w X.K X.mg X.base k x g) (hr : Room k' X.A) (tk : Takes X W.x) (ha : SA X W (e :: es) da) (hk : k ≤ k' := by decide)
    (hg : Gl X x := by rfl) (hdb : (x == ("__debug__" : Str)) = false := by decide) (he : starEach (e :: es) X.env = (false, eval e X.env) :: starEach es X.env := by rfl) (hpl : (backTo pos (starEach es X.env)).any (·.1) = false := by rfl) :
    SE X W (.Call (.Name x p) (e :: es) [] pos) (sCal g da) := by
  obtain ⟨f, fd, ps, F, hm, kp, hb⟩ := C
  refine PE.imp (pe_callSD (E := fun σ => WE W.x σ) F (hr.mono hk) hg hm kp hb .nil (passAt tk) ha hdb he hpl) fun σ H Q h => ?_
  obtain ⟨G0, H0, G, α, S, rp⟩ := h
  refine ⟨G0, H0, G, α, S, rp.bind fun ds ed G1 H1 g1 rp1 vs rv => ?_⟩
  show SpF X.K X.w X.mg g (vs ++ []) H1 Q (WE W.x σ)
  rw [List.append_nil]
  refine ⟨G1, ds, g1.s, rv, ?_⟩
  cases q : g ds with
  | no => rw [q] at rp1; exact rp1
  | er e => rw [q] at rp1; exact rp1
  | ok d => rw [q] at rp1; exact rp1
end
end DL

namespace Cm
open PySem PySem.Spec PyProof.Rows L2 DL
def b__law_kinds : At → Out :=
 (sSeq (sSet 0 (sD (dLst (aCons (dC (.str "bolt")) (aCons (dC (.str "claim")) (aCons (dC (.str "class")) (aCons (dC (.str "cloth")) (aCons (dC (.str "day")) (aCons (dC (.str "grant")) (aCons (dC (.str "hand")) (aCons (dC (.str "master")) (aCons (dC (.str "measurer")) (aCons (dC (.str "order")) aNil)))))))))))))
 (sRet (sD (d2 fAdd (dV 0) (dLst (aCons (dC (.str "panel")) (aCons (dC (.str "reef")) (aCons (dC (.str "repair")) (aCons (dC (.str "revoke")) (aCons (dC (.str "rig")) (aCons (dC (.str "sail")) (aCons (dC (.str "seen")) (aCons (dC (.str "share")) (aCons (dC (.str "table")) (aCons (dC (.str "wind")) aNil)))))))))))))))
def f__law_kinds : List D → Res D := fD 0 1 b__law_kinds
def b__law_before : At → Out :=
 (sRet (sD (dOr (d2 fLt (d2 fIx (dV 0) (dC (.int (0)))) (d2 fIx (dV 1) (dC (.int (0))))) (dAnd (d2 fEq (d2 fIx (dV 0) (dC (.int (0)))) (d2 fIx (dV 1) (dC (.int (0))))) (d2 fLt (d2 fIx (dV 0) (dC (.int (1)))) (d2 fIx (dV 1) (dC (.int (1)))))))))
def f__law_before : List D → Res D := fD 2 2 b__law_before
def b__law_placed : At → Out :=
 (sSeq (sLay 2 (sD (dLc (iSeq (dV 0)) (.nm 4) (tV (dCall f__law_before (aCons (dV 4) (aCons (dV 1) aNil)))) (dV 4) [4])))
 (sSeq (sLay 3 (sD (dLc (iSeq (dV 0)) (.nm 4) (tV (dCall f__law_before (aCons (dV 1) (aCons (dV 4) aNil)))) (dV 4) [4])))
 (sRet (sD (d2 fAdd (d2 fAdd (dV 2) (dLst (aCons (dV 1) aNil))) (dV 3))))))
def f__law_placed : List D → Res D := fD 2 5 b__law_placed
def b__law_lowest : At → Out :=
 (sSeq (sSet 2 (sD (dN fAbs (aCons (dV 0) aNil))))
 (sSeq (sSet 3 (sD (dV 1)))
 (sSeq (sFor (iRange1 (dC (.int (200)))) (.nm 4)
 (sIf (sD (tV (d2 fNe (dV 3) (dC (.int (0))))))
 (sSeq (sSet 5 (sD (d2 fMod (dN fInt (aCons (dV 2) aNil)) (dV 3))))
 (sSeq (sSet 2 (sD (dV 3)))
 (sSet 3 (sD (dV 5)))))
 sNil))
 (sRet (sD (dTup (aCons (d2 fDiv (dV 0) (dV 2)) (aCons (d2 fDiv (dV 1) (dV 2)) aNil))))))))
def f__law_lowest : List D → Res D := fD 2 6 b__law_lowest
def b__law_grain : At → Out :=
 (sSeq (sIf (sD (tV (d2 fEq (dV 0) (dC (.int (0))))))
 (sRet (sD (dTup (aCons (dC (.int (0))) (aCons (dC (.int (1))) aNil)))))
 sNil)
 (sRet (sD (d1 fRevA (dCall f__law_lowest (aCons (dV 1) (aCons (dV 0) aNil)))))))
def f__law_grain : List D → Res D := fD 2 2 b__law_grain
def b__law_line : At → Out :=
 (sSeq (sIf (sD (tV (d2 fEq (d2 fMod (dV 1) (dC (.int (2)))) (dC (.int (0))))))
 (sRet (sD (dTup (aCons (d2 fIx (dV 0) (dC (.int (0)))) (aCons (d2 fIx (dV 0) (d2 fAdd (dC (.int (1))) (d2 fMod (d2 fDiv (dV 1) (dC (.int (2)))) (dC (.int (2)))))) aNil)))))
 sNil)
 (sRet (sD (dTup (aCons (d2 fIx (dV 0) (dC (.int (2)))) (aCons (d2 fIx (dV 0) (d2 fMod (d2 fDiv (dV 1) (dC (.int (2)))) (dC (.int (2))))) aNil))))))
def f__law_line : List D → Res D := fD 2 2 b__law_line
def b__law_piece : At → Out :=
 (sSeq (sSet 2 (sD (dCall f__law_lowest (aCons (d2 fSub (d2 fMod (d2 fIx (dV 0) (dC (.int (0)))) (dC (.int (41)))) (dC (.int (20)))) (aCons (d2 fAdd (dC (.int (1))) (d2 fMod (d2 fIx (dV 0) (dC (.int (1)))) (dC (.int (6))))) aNil)))))
 (sSeq (sSet 3 (sD (dCall f__law_lowest (aCons (d2 fSub (d2 fMod (d2 fIx (dV 0) (dC (.int (2)))) (dC (.int (41)))) (dC (.int (20)))) (aCons (d2 fAdd (dC (.int (1))) (d2 fMod (d2 fIx (dV 0) (dC (.int (3)))) (dC (.int (6))))) aNil)))))
 (sSeq (sSet 4 (sD (dCall f__law_lowest (aCons (d2 fAdd (d2 fIx (dV 2) (dC (.int (0)))) (d2 fMul (d2 fAdd (dC (.int (1))) (d2 fMod (d2 fIx (dV 0) (dC (.int (4)))) (dC (.int (9))))) (d2 fIx (dV 2) (dC (.int (1)))))) (aCons (d2 fIx (dV 2) (dC (.int (1)))) aNil)))))
 (sSeq (sSet 5 (sD (dCall f__law_lowest (aCons (d2 fAdd (d2 fIx (dV 3) (dC (.int (0)))) (d2 fMul (d2 fAdd (dC (.int (1))) (d2 fMod (d2 fIx (dV 0) (dC (.int (5)))) (dC (.int (9))))) (d2 fIx (dV 3) (dC (.int (1)))))) (aCons (d2 fIx (dV 3) (dC (.int (1)))) aNil)))))
 (sSeq (sIf (sD (tOr (tV (d2 fEq (d2 fMod (d2 fIx (dV 0) (dC (.int (6)))) (dC (.int (2)))) (dC (.int (0))))) (tV (d2 fLt (dV 1) (dC (.int (4)))))))
 (sRet (sD (dTup (aCons (dTup (aCons (dV 2) (aCons (dV 3) aNil))) (aCons (dTup (aCons (dV 4) (aCons (dV 3) aNil))) (aCons (dTup (aCons (dV 2) (aCons (dV 5) aNil))) aNil))))))
 sNil)
 (sRet (sD (dTup (aCons (dTup (aCons (dV 2) (aCons (dV 3) aNil))) (aCons (dTup (aCons (dV 4) (aCons (dV 3) aNil))) (aCons (dTup (aCons (dV 4) (aCons (dV 5) aNil))) (aCons (dTup (aCons (dV 2) (aCons (dV 5) aNil))) aNil))))))))))))
def f__law_piece : List D → Res D := fD 2 6 b__law_piece
def b__law_shape_row : At → Out :=
 (sSeq (sSet 4 (sD (d2 fMod (d2 fIx (dV 3) (dC (.int (5)))) (dC (.int (100))))))
 (sSeq (sSet 5 (sD (dCall f__law_lowest (aCons (d2 fMod (d2 fIx (dV 3) (dC (.int (7)))) (dC (.int (8)))) (aCons (dC (.int (7))) aNil)))))
 (sSeq (sSet 6 (sD (dCall f__law_lowest (aCons (d2 fAdd (dC (.int (1))) (d2 fMod (d2 fIx (dV 3) (dC (.int (7)))) (dC (.int (30))))) (aCons (d2 fAdd (dC (.int (1))) (d2 fMod (d2 fIx (dV 3) (dC (.int (8)))) (dC (.int (7))))) aNil)))))
 (sSeq (sIf (sD (tV (d2 fEq (dV 0) (dC (.str "panel")))))
 (sSeq (sSet 7 (sD (dCall f__law_grain (aCons (d2 fMod (d2 fIx (dV 3) (dC (.int (7)))) (dC (.int (9)))) (aCons (d2 fSub (d2 fMod (d2 fIx (dV 3) (dC (.int (8)))) (dC (.int (19)))) (dC (.int (9)))) aNil)))))
 (sRet (sD (dTup (aCons (dV 0) (aCons (dV 1) (aCons (d2 fIx (dV 2) (dC (.int (0)))) (aCons (dCall f__law_piece (aCons (dV 3) (aCons (dC (.int (4))) aNil))) (aCons (dV 7) (aCons (d2 fIx (dLst (aCons (dC (.str "flips")) (aCons (dC (.str "plain")) aNil))) (d2 fMod (d2 fIx (dV 3) (dC (.int (9)))) (dC (.int (2))))) aNil))))))))))
 sNil)
 (sSeq (sIf (sD (tV (d2 fEq (dV 0) (dC (.str "reef")))))
 (sRet (sD (dTup (aCons (dV 0) (aCons (dV 1) (aCons (dCall f__law_line (aCons (dCall f__law_piece (aCons (dV 3) (aCons (dC (.int (3))) aNil))) (aCons (d2 fIx (dV 3) (dC (.int (9)))) aNil))) aNil))))))
 sNil)
 (sSeq (sIf (sD (tV (d2 fEq (dV 0) (dC (.str "repair")))))
 (sRet (sD (dTup (aCons (dV 0) (aCons (dV 1) (aCons (d2 fIx (dV 2) (dC (.int (0)))) (aCons (d2 fMod (d2 fIx (dV 3) (dC (.int (0)))) (dC (.int (4)))) (aCons (d2 fAdd (dC (.int (1))) (d2 fMod (d2 fIx (dV 3) (dC (.int (1)))) (dC (.int (6))))) (aCons (d2 fMod (d2 fIx (dV 3) (dC (.int (2)))) (dC (.int (1001)))) aNil)))))))))
 sNil)
 (sSeq (sIf (sD (tV (d2 fEq (dV 0) (dC (.str "revoke")))))
 (sRet (sD (dTup (aCons (dV 0) (aCons (dV 1) (aCons (d2 fIx (dV 2) (dC (.int (0)))) (aCons (d2 fIx (dV 2) (dC (.int (1)))) (aCons (d2 fIx (dV 2) (dC (.int (2)))) (aCons (dV 4) aNil)))))))))
 sNil)
 (sSeq (sIf (sD (tV (d2 fEq (dV 0) (dC (.str "rig")))))
 (sRet (sD (dTup (aCons (dV 0) (aCons (dV 1) (aCons (dN fTuple (aCons (dN fSorted (aCons (dSl (dV 2) pNone (pSome (d2 fAdd (dC (.int (1))) (d2 fMod (d2 fIx (dV 3) (dC (.int (0)))) (dC (.int (4))))))) aNil)) aNil)) aNil))))))
 sNil)
 (sSeq (sIf (sD (tV (d2 fEq (dV 0) (dC (.str "sail")))))
 (sSeq (sSet 8 (sD (dCall f__law_piece (aCons (dV 3) (aCons (dC (.int (6))) aNil)))))
 (sSeq (sSet 9 (sD (d2 fMod (d2 fIx (dV 3) (dC (.int (7)))) (dC (.int (3))))))
 (sSeq (sSet 10 (sD (dLst (aCons (dV 6) (aCons (dCall f__law_lowest (aCons (d2 fMul (dC (.int (2))) (d2 fIx (dV 6) (dC (.int (0))))) (aCons (d2 fIx (dV 6) (dC (.int (1)))) aNil))) (aCons (dCall f__law_lowest (aCons (d2 fMul (dC (.int (5))) (d2 fIx (dV 6) (dC (.int (0))))) (aCons (d2 fIx (dV 6) (dC (.int (1)))) aNil))) aNil))))))
 (sSeq (sSet 11 (sD (dTup (aCons (dV 0) (aCons (dV 1) (aCons (dV 8) (aCons (dV 9) (aCons (d2 fMod (d2 fAdd (d2 fAdd (dV 9) (dC (.int (1)))) (d2 fMod (d2 fIx (dV 3) (dC (.int (8)))) (dC (.int (2))))) (dC (.int (3)))) (aCons (d2 fIx (dV 2) (dC (.int (0)))) (aCons (d2 fIx (dV 2) (dC (.int (1)))) (aCons (dN fTuple (aCons (dSl (dV 10) pNone (pSome (d2 fAdd (dC (.int (1))) (d2 fMod (d2 fIx (dV 3) (dC (.int (9)))) (dC (.int (3))))))) aNil)) aNil)))))))))))
 (sRet (sD (d2 fAdd (dV 11) (dTup (aCons (dN fTuple (aCons (dSl (dV 2) (pSome (dC (.int (2)))) (pSome (d2 fAdd (dC (.int (3))) (d2 fMod (d2 fIx (dV 3) (dC (.int (6)))) (dC (.int (4))))))) aNil)) (aCons (dN fTuple (aCons (dSl (dV 2) pNone (pSome (d2 fMod (d2 fIx (dV 3) (dC (.int (5)))) (dC (.int (4)))))) aNil)) aNil))))))))))
 sNil)
 (sSeq (sIf (sD (tV (d2 fEq (dV 0) (dC (.str "seen")))))
 (sRet (sD (dTup (aCons (dV 0) (aCons (dV 1) (aCons (dN fTuple (aCons (dFz (dLc (iRange1 (d2 fAdd (dC (.int (1))) (d2 fMod (d2 fIx (dV 3) (dC (.int (9)))) (dC (.int (4)))))) (.nm 12) yesT (dTup (aCons (d2 fMod (d2 fIx (dV 3) (dV 12)) (dC (.int (4)))) (aCons (d2 fAdd (d2 fMod (d2 fIx (dV 3) (dV 12)) (dC (.int (4)))) (d2 fMod (d2 fIx (dV 3) (d2 fAdd (dV 12) (dC (.int (4))))) (dC (.int (3))))) aNil))) [12])) aNil)) aNil))))))
 sNil)
 (sSeq (sIf (sD (tV (d2 fEq (dV 0) (dC (.str "share")))))
 (sRet (sD (dTup (aCons (dV 0) (aCons (dV 1) (aCons (d2 fIx (dV 2) (dC (.int (0)))) (aCons (d2 fIx (dV 2) (dC (.int (1)))) (aCons (d2 fIx (dV 2) (dC (.int (2)))) (aCons (dV 5) aNil)))))))))
 sNil)
 (sRet (sD (dTup (aCons (dV 0) (aCons (dV 1) (aCons (dTup (aCons (d2 fSub (d2 fMod (d2 fIx (dV 3) (dC (.int (0)))) (dC (.int (201)))) (dC (.int (100)))) (aCons (d2 fAdd (dC (.int (1))) (d2 fMod (d2 fIx (dV 3) (dC (.int (1)))) (dC (.int (100))))) aNil))) (aCons (d2 fMod (d2 fIx (dV 3) (dC (.int (2)))) (dC (.int (1001)))) aNil))))))))))))))))))
def f__law_shape_row : List D → Res D := fD 4 13 b__law_shape_row
def b__law_row : At → Out :=
 (sSeq (sSet 4 (sD (d2 fMod (d2 fIx (dV 3) (dC (.int (5)))) (dC (.int (100))))))
 (sSeq (sSet 5 (sD (d2 fMod (d2 fIx (dV 3) (dC (.int (6)))) (dC (.int (10))))))
 (sSeq (sSet 6 (sD (dCall f__law_lowest (aCons (d2 fAdd (dC (.int (1))) (d2 fMod (d2 fIx (dV 3) (dC (.int (7)))) (dC (.int (90))))) (aCons (d2 fAdd (dC (.int (1))) (d2 fMod (d2 fIx (dV 3) (dC (.int (8)))) (dC (.int (7))))) aNil)))))
 (sSeq (sIf (sD (tV (d2 fEq (dV 0) (dC (.str "bolt")))))
 (sRet (sD (dTup (aCons (dV 0) (aCons (dV 1) (aCons (d2 fIx (dV 2) (dC (.int (0)))) (aCons (dV 6) (aCons (d2 fMod (d2 fIx (dV 3) (dC (.int (0)))) (dC (.int (1001)))) (aCons (dCall f__law_lowest (aCons (d2 fMul (d2 fIx (dV 6) (dC (.int (0)))) (d2 fMod (d2 fIx (dV 3) (dC (.int (1)))) (dC (.int (4))))) (aCons (d2 fMul (d2 fIx (dV 6) (dC (.int (1)))) (dC (.int (3)))) aNil))) aNil)))))))))
 sNil)
 (sSeq (sIf (sD (tV (d2 fEq (dV 0) (dC (.str "claim")))))
 (sRet (sD (dTup (aCons (dV 0) (aCons (dV 1) (aCons (d2 fIx (dV 2) (dC (.int (0)))) (aCons (d2 fIx (dV 2) (dC (.int (1)))) (aCons (dV 6) (aCons (dV 4) aNil)))))))))
 sNil)
 (sSeq (sIf (sD (tV (d2 fEq (dV 0) (dC (.str "class")))))
 (sSeq (sSet 7 (sD (dCall f__law_lowest (aCons (d2 fMod (d2 fIx (dV 3) (dC (.int (0)))) (dC (.int (50)))) (aCons (d2 fAdd (dC (.int (1))) (d2 fMod (d2 fIx (dV 3) (dC (.int (1)))) (dC (.int (4))))) aNil)))))
 (sSeq (sSet 8 (sD (dCall f__law_lowest (aCons (d2 fAdd (d2 fMul (d2 fIx (dV 7) (dC (.int (0)))) (d2 fIx (dV 6) (dC (.int (1))))) (d2 fMul (d2 fMul (d2 fIx (dV 6) (dC (.int (0)))) (d2 fMod (d2 fIx (dV 3) (dC (.int (2)))) (dC (.int (3))))) (d2 fIx (dV 7) (dC (.int (1)))))) (aCons (d2 fMul (d2 fIx (dV 7) (dC (.int (1)))) (d2 fIx (dV 6) (dC (.int (1))))) aNil)))))
 (sSeq (sSet 9 (sD (dN fTuple (aCons (dN fSorted (aCons (dSl (dV 2) pNone (pSome (d2 fMod (d2 fIx (dV 3) (dC (.int (3)))) (dC (.int (5)))))) aNil)) aNil))))
 (sRet (sD (dTup (aCons (dV 0) (aCons (dV 1) (aCons (dV 7) (aCons (dV 8) (aCons (d2 fAdd (dC (.int (1))) (d2 fMod (d2 fIx (dV 3) (dC (.int (4)))) (dC (.int (4))))) (aCons (dV 9) (aCons (dN fTuple (aCons (dSl (dV 2) (pSome (d2 fMod (d2 fIx (dV 3) (dC (.int (9)))) (dC (.int (3))))) pNone) aNil)) aNil)))))))))))))
 sNil)
 (sSeq (sIf (sD (tV (d2 fEq (dV 0) (dC (.str "cloth")))))
 (sSeq (sSet 10 (sD (d2 fAdd (dC (.int (1))) (d2 fMod (d2 fIx (dV 3) (dC (.int (0)))) (dC (.int (1000)))))))
 (sSeq (sSet 11 (sD (d2 fAdd (dC (.int (1))) (d2 fMod (d2 fIx (dV 3) (dC (.int (1)))) (dC (.int (1000)))))))
 (sRet (sD (dTup (aCons (dV 0) (aCons (dV 1) (aCons (dV 10) (aCons (dV 11) (aCons (d2 fMod (d2 fIx (dV 3) (dC (.int (2)))) (d2 fAdd (dN fMin2 (aCons (dV 10) (aCons (dV 11) aNil))) (dC (.int (1))))) (aCons (d2 fAdd (dC (.int (1))) (d2 fMod (d2 fIx (dV 3) (dC (.int (3)))) (dC (.int (100))))) (aCons (d2 fMod (d2 fIx (dV 3) (dC (.int (4)))) (dC (.int (1001)))) aNil))))))))))))
 sNil)
 (sSeq (sIf (sD (tV (d2 fEq (dV 0) (dC (.str "day")))))
 (sRet (sD (dTup (aCons (dV 0) (aCons (dV 1) (aCons (d2 fIx (dV 2) (dC (.int (0)))) (aCons (dV 4) (aCons (d2 fMod (d2 fIx (dV 3) (dC (.int (0)))) (dC (.int (4)))) (aCons (dN fTuple (aCons (dSl (dV 2) (pSome (dC (.int (1)))) (pSome (d2 fAdd (dC (.int (2))) (d2 fMod (d2 fIx (dV 3) (dC (.int (1)))) (dC (.int (3))))))) aNil)) aNil)))))))))
 sNil)
 (sSeq (sIf (sD (tV (d2 fEq (dV 0) (dC (.str "grant")))))
 (sRet (sD (dTup (aCons (dV 0) (aCons (dV 1) (aCons (d2 fIx (dV 2) (dC (.int (0)))) (aCons (d2 fIx (dV 2) (dC (.int (1)))) (aCons (d2 fIx (dV 2) (dC (.int (2)))) (aCons (d2 fIx (dLst (aCons (dC (.str "onward")) (aCons (dC (.str "only")) aNil))) (d2 fMod (d2 fIx (dV 3) (dC (.int (0)))) (dC (.int (2))))) (aCons (dV 4) (aCons (d2 fMod (d2 fIx (dV 3) (dC (.int (1)))) (dC (.int (100)))) aNil)))))))))))
 sNil)
 (sSeq (sIf (sD (tOr (tV (d2 fEq (dV 0) (dC (.str "hand")))) (tV (d2 fEq (dV 0) (dC (.str "table"))))))
 (sRet (sD (dTup (aCons (dV 0) (aCons (dV 1) (aCons (dV 5) (aCons (d2 fMod (d2 fIx (dV 3) (dC (.int (0)))) (dC (.int (7)))) aNil)))))))
 sNil)
 (sSeq (sIf (sD (tV (d2 fEq (dV 0) (dC (.str "master")))))
 (sRet (sD (dTup (aCons (dV 0) (aCons (dV 1) aNil)))))
 sNil)
 (sSeq (sIf (sD (tV (d2 fEq (dV 0) (dC (.str "measurer")))))
 (sRet (sD (dTup (aCons (dV 0) (aCons (dV 1) (aCons (dCall f__law_lowest (aCons (d2 fMod (d2 fIx (dV 3) (dC (.int (0)))) (dC (.int (7)))) (aCons (d2 fAdd (dC (.int (7))) (d2 fMod (d2 fIx (dV 3) (dC (.int (1)))) (dC (.int (5))))) aNil))) aNil))))))
 sNil)
 (sSeq (sIf (sD (tV (d2 fEq (dV 0) (dC (.str "order")))))
 (sSeq (sSet 12 (sD (d2 fIx (dLst (aCons (dC (.str "new")) (aCons (dC (.str "mend")) aNil))) (d2 fMod (d2 fIx (dV 3) (dC (.int (0)))) (dC (.int (2)))))))
 (sRet (sD (dTup (aCons (dV 0) (aCons (dV 1) (aCons (dV 4) (aCons (dV 12) (aCons (d2 fIx (dV 2) (dC (.int (0)))) (aCons (d2 fIx (dV 2) (dC (.int (1)))) (aCons (dV 5) (aCons (d2 fMod (d2 fIx (dV 3) (dC (.int (1)))) (dC (.int (10)))) (aCons (d2 fMod (d2 fIx (dV 3) (dC (.int (2)))) (dC (.int (10)))) (aCons (d2 fIx (dV 2) (dC (.int (2)))) aNil))))))))))))))
 sNil)
 (sRet (sD (dCall f__law_shape_row (aCons (dV 0) (aCons (dV 1) (aCons (dV 2) (aCons (dV 3) aNil))))))))))))))))))))
def f__law_row : List D → Res D := fD 4 13 b__law_row
def b__law_book : At → Out :=
 (sSeq (sSet 5 (sD (dLst aNil)))
 (sSeq (sSet 6 (sD (dCall f__law_kinds aNil)))
 (sSeq (sFor (iRange1 (dV 2)) (.nm 7)
 (sSeq (sLay 8 (sD (dLc (iRange1 (dC (.int (10)))) (.nm 10) yesT (d2 fIx (dV 0) (d2 fMod (d2 fAdd (d2 fAdd (dV 1) (d2 fMul (dC (.int (5))) (dV 7))) (dV 10)) (dN fLen (aCons (dV 0) aNil)))) [10])))
 (sSeq (sSet 9 (sD (d2 fIx (dV 6) (d2 fMod (d2 fIx (dV 4) (d2 fMod (d2 fIx (dV 8) (dC (.int (0)))) (dN fLen (aCons (dV 4) aNil)))) (dC (.int (20)))))))
 (sSet 5 (sD (dCall f__law_placed (aCons (dV 5) (aCons (dCall f__law_row (aCons (dV 9) (aCons (d2 fIx (dV 3) (d2 fMod (d2 fIx (dV 8) (dC (.int (1)))) (dN fLen (aCons (dV 3) aNil)))) (aCons (dV 3) (aCons (d2 fAdd (dSl (dV 8) (pSome (dC (.int (2)))) pNone) (dSl (dV 8) pNone (pSome (dC (.int (2)))))) aNil))))) aNil))))))))
 (sRet (sD (dV 5))))))
def f__law_book : List D → Res D := fD 5 11 b__law_book
def b__law_same (f__law_same : List D → Res D) : At → Out :=
 (sSeq (sIf (sD (tV (dIsi "tuple" (dV 1))))
 (sSeq (sIf (sD (tOr (tNot (tV (dIsi "tuple" (dV 0)))) (tV (d2 fNe (dN fLen (aCons (dV 0) aNil)) (dN fLen (aCons (dV 1) aNil))))))
 (sRet (sD (dC (.bool false))))
 sNil)
 (sRet (sD (d2 fEq (dN fLen (aCons (dFz (dLc (iRange1 (dN fLen (aCons (dV 1) aNil))) (.nm 2) (tNot (tV (dCall f__law_same (aCons (d2 fIx (dV 0) (dV 2)) (aCons (d2 fIx (dV 1) (dV 2)) aNil))))) (dV 2) [2])) aNil)) (dC (.int (0)))))))
 sNil)
 (sSeq (sIf (sD (tOr (tV (dIsi "bool" (dV 1))) (tV (dIsi "bool" (dV 0)))))
 (sRet (sD (dAnd (dIsi "bool" (dV 0)) (dAnd (dIsi "bool" (dV 1)) (d2 fEq (dV 0) (dV 1))))))
 sNil)
 (sSeq (sIf (sD (tV (dIsi "str" (dV 1))))
 (sRet (sD (dAnd (dIsi "str" (dV 0)) (d2 fEq (dV 0) (dV 1)))))
 sNil)
 (sSeq (sIf (sD (tV (d2 fIs (dV 1) (dC .none))))
 (sRet (sD (d2 fIs (dV 0) (dC .none))))
 sNil)
 (sRet (sD (dAnd (dIsi "int" (dV 0)) (d2 fEq (dV 0) (dV 1)))))))))
def F__law_same : Nat → List D → Res D
  | 0 => fun _ => .no
  | n + 1 => fD 2 3 (b__law_same (F__law_same n))
def f__law_same : List D → Res D := F__law_same 12
def b_row_key : At → Out :=
 (sRet (sD (dTup (aCons (d2 fIx (dV 0) (dC (.int (0)))) (aCons (d2 fIx (dV 0) (dC (.int (1)))) aNil)))))
def f_row_key : List D → Res D := fD 1 1 b_row_key
def b_find_row : At → Out :=
 (sSeq (sFor (iSeq (dV 0)) (.nm 3)
 (sIf (sD (tAnd (tV (d2 fEq (d2 fIx (dV 3) (dC (.int (0)))) (dV 1))) (tV (d2 fEq (d2 fIx (dV 3) (dC (.int (1)))) (dV 2)))))
 (sRet (sD (dV 3)))
 sNil))
 (fun _ => .no))
def f_find_row : List D → Res D := fD 3 4 b_find_row
def b_has_row : At → Out :=
 (sSeq (sFor (iSeq (dV 0)) (.nm 3)
 (sIf (sD (tAnd (tV (d2 fEq (d2 fIx (dV 3) (dC (.int (0)))) (dV 1))) (tV (d2 fEq (d2 fIx (dV 3) (dC (.int (1)))) (dV 2)))))
 (sRet (sD (dC (.bool true))))
 sNil))
 (sRet (sD (dC (.bool false)))))
def f_has_row : List D → Res D := fD 3 4 b_has_row
def b_kind_rows : At → Out :=
 (sRet (sD (dN fTuple (aCons (dFz (dLc (iSeq (dV 0)) (.nm 2) (tV (d2 fEq (d2 fIx (dV 2) (dC (.int (0)))) (dV 1))) (dV 2) [2])) aNil))))
def f_kind_rows : List D → Res D := fD 2 3 b_kind_rows
def b__law_name : At → Out :=
 (sSeq (sSet 1 (sD (dC (.str "abcdefghijklmnopqrstuvwxyz"))))
 (sRet (sD (d2 fAdd (d2 fIx (dV 1) (d2 fMod (dV 0) (dC (.int (26))))) (d2 fIx (dLst (aCons (dC (.str "")) (aCons (dC (.str "x")) (aCons (dC (.str "7")) (aCons (dC (.str "q0")) aNil))))) (d2 fMod (d2 fDiv (dV 0) (dC (.int (26)))) (dC (.int (4)))))))))
def f__law_name : List D → Res D := fD 1 2 b__law_name
def b__law_names : At → Out :=
 (sRet (sD (dFz (dLc (iRange1 (dC (.int (6)))) (.nm 1) yesT (d2 fAdd (dCall f__law_name (aCons (d2 fIx (dV 0) (dV 1)) aNil)) (d2 fIx (dC (.str "pqrstu")) (dV 1))) [1]))))
def f__law_names : List D → Res D := fD 1 2 b__law_names
def b__law_numbers : At → Out :=
 (sSeq (sOwn 2 (sD (dLc (iSeq (dSl (dV 0) pNone (pSome (dC (.int (63)))))) (.nm 9) yesT (dN fInt (aCons (dV 9) aNil)) [9])))
 (sSeq (sIf (sBt (tV (d2 fEq (dN fLen (aCons (dV 2) aNil)) (dC (.int (0))))))
 (sOwn 2 (sD (fLst (aCons (dC (.int (0))) aNil))))
 sNil)
 (sSeq (sSet 3 (sB (dN fLen (aCons (dV 2) aNil))))
 (sSeq (sLay 4 (sBf (dLc (iSeq (dV 2)) (.nm 9) yesT (d2 fGe (dV 9) (d2 fPow (dC (.int (10))) (dC (.int (18))))) [9])))
 (sSeq (sOwn 5 (sD (fLst aNil)))
 (sSeq (sFor (iRange1 (dV 1)) (.nm 6)
 (sSeq (sSet 7 (sD (d2 fMod (dV 6) (dV 3))))
 (sIf (sBt (tAnd (tV (d2 fIx (dV 4) (dV 7))) (tV (d2 fGt (d2 fIx (dV 2) (dV 7)) (dC (.int (0)))))))
 (sSeq (sApp 5 (sB (d2 fMod (dN fInt (aCons (d2 fIx (dV 2) (dV 7)) aNil)) (dC (.int (5040))))))
 (sSetI 2 (sD (dV 7)) (sB (d2 fDiv (d2 fIx (dV 2) (dV 7)) (dC (.int (5040)))))))
 (sSeq (sSet 8 (sB (d2 fMod (d2 fMul (d2 fAdd (d2 fAdd (d2 fMod (dN fInt (aCons (d2 fIx (dV 2) (dV 7)) aNil)) (dC (.int (1000003)))) (d2 fMul (dC (.int (17))) (dV 6))) (dC (.int (1)))) (dC (.int (48271)))) (dC (.int (2147483647))))))
 (sSeq (sSet 8 (sD (d2 fMod (d2 fMul (dN fInt (aCons (d2 fAdd (d2 fAdd (dV 8) (d2 fMul (d2 fMul (dV 6) (dV 6)) (dC (.int (7))))) (dC (.int (3)))) aNil)) (dC (.int (69621)))) (dC (.int (1000003))))))
 (sApp 5 (sD (d2 fMod (d2 fDiv (dV 8) (dC (.int (7)))) (dC (.int (5040)))))))))))
 (fun α => (sRet (sD (dV 5))) (frzA 5 α))))))))
def f__law_numbers : List D → Res D := fD 2 10 b__law_numbers
end Cm

namespace Cg
open PySem PySem.Spec PyProof.Rows L2 DL Cm
def k_KIND_NAMES : D := .tuple [.str "bolt", .str "claim", .str "class", .str "cloth", .str "day", .str "grant", .str "hand", .str "master", .str "measurer", .str "order", .str "panel", .str "reef", .str "repair", .str "revoke", .str "rig", .str "sail", .str "seen", .str "share", .str "table", .str "wind"]
def k_MOST_ROWS : D := .int (12)
def b__law_crowd : At → Out :=
 (sSeq (sFor (iRange1 (dV 2)) (.nm 3)
 (sSet 0 (sD (dCall f__law_placed (aCons (dV 0) (aCons (dTup (aCons (dC (.str "wind")) (aCons (d2 fIx (dC (.str "abcdefghijklmnopqrst")) (d2 fAdd (dV 1) (dV 3))) (aCons (dTup (aCons (dC (.int (1))) (aCons (dC (.int (0))) aNil))) (aCons (dC (.int (5))) aNil))))) aNil))))))
 (sRet (sD (dV 0))))
def f__law_crowd : List D → Res D := fD 3 4 b__law_crowd
def b__law_hand : At → Out :=
 (sSeq (sSet 4 (sD (dN fList (aCons (dV 0) aNil))))
 (sSeq (sSet 5 (sD (dLst (aCons (dC (.str "hand")) (aCons (dC (.str "master")) (aCons (dC (.str "table")) (aCons (dC (.str "bolt")) aNil)))))))
 (sSeq (sFor (iRange1 (d2 fMod (d2 fIx (dV 2) (d2 fMod (dV 3) (dN fLen (aCons (dV 2) aNil)))) (dC (.int (4))))) (.nm 6)
 (sSeq (sLay 7 (sD (dLc (iRange1 (dC (.int (10)))) (.nm 10) yesT (d2 fIx (dV 2) (d2 fMod (d2 fAdd (d2 fAdd (d2 fAdd (dV 3) (dC (.int (1)))) (d2 fMul (dC (.int (4))) (dV 6))) (dV 10)) (dN fLen (aCons (dV 2) aNil)))) [10])))
 (sSeq (sSet 8 (sD (d2 fIx (dV 1) (d2 fMod (d2 fIx (dV 7) (dC (.int (1)))) (dC (.int (6)))))))
 (sSeq (sSet 9 (sD (d2 fIx (dV 5) (d2 fMod (d2 fIx (dV 7) (dC (.int (0)))) (dC (.int (4)))))))
 (sIf (sD (tV (d2 fEq (d2 fMod (d2 fIx (dV 7) (dC (.int (2)))) (dC (.int (3)))) (dC (.int (0))))))
 (sLay 4 (sD (dLc (iSeq (dV 4)) (.nm 11) (tOr (tV (d2 fNe (d2 fIx (dV 11) (dC (.int (0)))) (dV 9))) (tV (d2 fNe (d2 fIx (dV 11) (dC (.int (1)))) (dV 8)))) (dV 11) [11])))
 (sSet 4 (sD (dCall f__law_placed (aCons (dV 4) (aCons (dCall f__law_row (aCons (dV 9) (aCons (dV 8) (aCons (dV 1) (aCons (d2 fMul (dLst (aCons (d2 fMod (d2 fIx (dV 7) (dC (.int (3)))) (dC (.int (2)))) aNil)) (dC (.int (10)))) aNil))))) aNil))))))))))
 (sRet (sD (dV 4))))))
def f__law_hand : List D → Res D := fD 4 12 b__law_hand
def b__law_version : At → Out :=
 (sSeq (sFor (iSeq (dV 0)) (.nm 2)
 (sIf (sD (tAnd (tV (d2 fEq (d2 fIx (dV 2) (dC (.int (0)))) (d2 fIx (dV 1) (dC (.int (0)))))) (tV (d2 fEq (d2 fIx (dV 2) (dC (.int (1)))) (d2 fIx (dV 1) (dC (.int (1))))))))
 (sRet (sD (dV 2)))
 sNil))
 (sRet (sD (dC .none))))
def f__law_version : List D → Res D := fD 2 3 b__law_version
def b__law_changes : At → Out :=
 (sSeq (sSet 3 (sD (dCall f__law_version (aCons (dV 0) (aCons (dV 2) aNil)))))
 (sSeq (sSet 4 (sD (dFz (dLc (iSeq (dV 1)) (.nm 5) yesT (dCall f__law_version (aCons (dV 5) (aCons (dV 2) aNil))) [5]))))
 (sRet (sD (dFz (dLc (iRange1 (dN fLen (aCons (dV 1) aNil))) (.nm 6) (tV (d2 fNe (d2 fIx (dV 4) (dV 6)) (dV 3))) (dTup (aCons (dV 6) (aCons (d2 fIx (dV 4) (dV 6)) aNil))) [6]))))))
def f__law_changes : List D → Res D := fD 3 7 b__law_changes
def b__law_keys : At → Out :=
 (sSeq (sOwn 1 (sD (fLst aNil)))
 (sSeq (sFor (iSeq (dV 0)) (.nm 2)
 (sFor (iSeq (dV 2)) (.nm 3)
 (sIf (sBt (tV (d2 fNotIn (dTup (aCons (d2 fIx (dV 3) (dC (.int (0)))) (aCons (d2 fIx (dV 3) (dC (.int (1)))) aNil))) (dV 1))))
 (sApp 1 (sD (dTup (aCons (d2 fIx (dV 3) (dC (.int (0)))) (aCons (d2 fIx (dV 3) (dC (.int (1)))) aNil)))))
 sNil)))
 (fun α => (sRet (sD (dN fSortP (aCons (dV 1) aNil)))) (frzA 1 α))))
def f__law_keys : List D → Res D := fD 1 4 b__law_keys
def b__law_merged : At → Out :=
 (sSeq (sOwn 2 (sD (fLst aNil)))
 (sSeq (sOwn 3 (sD (fLst aNil)))
 (sSeq (sOwn 4 (sD (fLst aNil)))
 (sSeq (sFor (iSeq (dCall f__law_keys (aCons (d2 fAdd (dLst (aCons (dV 0) aNil)) (dV 1)) aNil))) (.nm 5)
 (sSeq (sSet 6 (sD (dCall f__law_changes (aCons (dV 0) (aCons (dV 1) (aCons (dV 5) aNil))))))
 (sSeq (sSet 7 (sD (dCall f__law_version (aCons (dV 0) (aCons (dV 5) aNil)))))
 (sSeq (sIf (sD (tV (d2 fGt (dN fLen (aCons (dV 6) aNil)) (dC (.int (0))))))
 (sSet 7 (sD (d2 fIx (d2 fIx (dV 6) (dC (.int (0)))) (dC (.int (1))))))
 sNil)
 (sSeq (sIf (sD (tV (d2 fGt (dN fLen (aCons (dFz (dLc (iSeq (dV 6)) (.nm 9) (tV (d2 fNe (d2 fIx (dV 9) (dC (.int (1)))) (dV 7))) (dV 9) [9])) aNil)) (dC (.int (0))))))
 (sApp 2 (sD (d2 fAdd (dV 5) (dTup (aCons (dN fTuple (aCons (dV 6) aNil)) aNil)))))
 sNil)
 (sIf (sD (tV (d2 fIsNot (dV 7) (dC .none))))
 (sSeq (sApp 3 (sD (dV 7)))
 (sApp 4 (sD (dN fTuple (aCons (dFz (dLc (iSeq (dV 6)) (.nm 9) yesT (d2 fIx (dV 9) (dC (.int (0)))) [9])) aNil)))))
 sNil))))))
 (sSeq (sLay 8 (sBf (dLc (iSeq (dCall f__law_kinds aNil)) (.nm 10) (tV (d2 fGt (dN fLen (aCons (dFz (dLc (iSeq (dV 3)) (.nm 7) (tV (d2 fEq (d2 fIx (dV 7) (dC (.int (0)))) (dV 10))) (dV 7) [7])) aNil)) (dC (.int (12))))) (dV 10) [10])))
 (sSeq (sIf (sBt (tV (d2 fGt (dN fLen (aCons (dV 2) aNil)) (dC (.int (0))))))
 (fun α => (fun α => (sRet (sD (dTup (aCons (dTup (aCons (dC (.str "torn")) (aCons (dN fTuple (aCons (dV 2) aNil)) aNil))) (aCons (dV 3) (aCons (dV 8) aNil)))))) (frzA 2 α)) (frzA 3 α))
 sNil)
 (sSeq (sIf (sD (tV (d2 fGt (dN fLen (aCons (dV 8) aNil)) (dC (.int (0))))))
 (fun α => (sRet (sD (dTup (aCons (dTup (aCons (dC (.str "full")) (aCons (d2 fIx (dV 8) (dC (.int (0)))) aNil))) (aCons (dV 3) (aCons (dV 8) aNil)))))) (frzA 3 α))
 sNil)
 (fun α => (fun α => (sRet (sD (dTup (aCons (dTup (aCons (dC (.str "merged")) (aCons (dN fTuple (aCons (dV 3) aNil)) (aCons (dN fTuple (aCons (dV 4) aNil)) aNil)))) (aCons (dV 3) (aCons (dV 8) aNil)))))) (frzA 4 α)) (frzA 3 α)))))))))
def f__law_merged : List D → Res D := fD 2 11 b__law_merged
def b_row_version : At → Out :=
 (sSeq (sIf (sD (tV (dCall f_has_row (aCons (dV 0) (aCons (dV 1) (aCons (dV 2) aNil))))))
 (sRet (sD (dCall f_find_row (aCons (dV 0) (aCons (dV 1) (aCons (dV 2) aNil))))))
 sNil)
 (sRet (sD (dC .none))))
def f_row_version : List D → Res D := fD 3 3 b_row_version
def b_key_changes : At → Out :=
 (sSeq (sSet 4 (sD (dCall f_row_version (aCons (dV 0) (aCons (dV 2) (aCons (dV 3) aNil))))))
 (sSeq (sOwn 5 (sD (fLst aNil)))
 (sSeq (sFor (iEnumD (dV 1)) (.tup [6, 7])
 (sSeq (sSet 8 (sD (dCall f_row_version (aCons (dV 7) (aCons (dV 2) (aCons (dV 3) aNil))))))
 (sIf (sD (tV (d2 fNe (dV 8) (dV 4))))
 (sApp 5 (sD (dTup (aCons (dV 6) (aCons (dV 8) aNil)))))
 sNil)))
 (fun α => (sRet (sD (dN fTuple (aCons (dV 5) aNil)))) (frzA 5 α)))))
def f_key_changes : List D → Res D := fD 4 9 b_key_changes
def b_merge_keys : At → Out :=
 (sSeq (sOwn 2 (sD (iSq (dV 0))))
 (sSeq (sFor (iSeq (dV 1)) (.nm 3)
 (sExt 2 (sD (dN fList (aCons (dV 3) aNil)))))
 (fun α => (sRet (sD (dFz (lSc (iSeq (dV 2)) (.nm 4) (dCall f_row_key (aCons (dV 4) aNil)) [4])))) (frzA 2 α))))
def f_merge_keys : List D → Res D := fD 2 5 b_merge_keys
def b_first_rows : At → Out :=
 (sSeq (sOwn 2 (sD (fLst aNil)))
 (sSeq (sOwn 3 (sD (fLst aNil)))
 (sSeq (sFor (iSeq (dCall f_merge_keys (aCons (dV 0) (aCons (dV 1) aNil)))) (.tup [4, 5])
 (sSeq (sSet 6 (sD (dCall f_key_changes (aCons (dV 0) (aCons (dV 1) (aCons (dV 4) (aCons (dV 5) aNil)))))))
 (sSeq (sSet 7 (sD (dCall f_row_version (aCons (dV 0) (aCons (dV 4) (aCons (dV 5) aNil))))))
 (sSeq (sIf (sD (tV (d2 fGt (dN fLen (aCons (dV 6) aNil)) (dC (.int (0))))))
 (sSet 7 (sD (d2 fIx (d2 fIx (dV 6) (dC (.int (0)))) (dC (.int (1))))))
 sNil)
 (sIf (sD (tV (d2 fIsNot (dV 7) (dC .none))))
 (sSeq (sApp 2 (sD (dV 7)))
 (sApp 3 (sD (dN fTuple (aCons (dFz (dLc (iSeq (dV 6)) (.tup [8, 9]) yesT (dV 8) [8, 9])) aNil)))))
 sNil)))))
 (fun α => (fun α => (sRet (sD (dTup (aCons (dN fTuple (aCons (dV 2) aNil)) (aCons (dN fTuple (aCons (dV 3) aNil)) aNil))))) (frzA 3 α)) (frzA 2 α)))))
def f_first_rows : List D → Res D := fD 2 10 b_first_rows
def b_full_kind : At → Out :=
 (sSeq (sFor (iSeq (dC k_KIND_NAMES)) (.nm 1)
 (sIf (sD (tV (d2 fGt (dN fLen (aCons (dCall f_kind_rows (aCons (dV 0) (aCons (dV 1) aNil))) aNil)) (dC k_MOST_ROWS))))
 (sRet (sD (dV 1)))
 sNil))
 (sRet (sD (dC .none))))
def f_full_kind : List D → Res D := fD 1 2 b_full_kind
def b_versions_differ : At → Out :=
 (sSeq (sFor (iSeq (dV 0)) (.tup [1, 2])
 (sIf (sD (tV (d2 fNe (dV 2) (d2 fIx (d2 fIx (dV 0) (dC (.int (0)))) (dC (.int (1)))))))
 (sRet (sD (dC (.bool true))))
 sNil))
 (sRet (sD (dC (.bool false)))))
def f_versions_differ : List D → Res D := fD 1 3 b_versions_differ
def b_key_conflicts : At → Out :=
 (sSeq (sOwn 2 (sD (fLst aNil)))
 (sSeq (sFor (iSeq (dCall f_merge_keys (aCons (dV 0) (aCons (dV 1) aNil)))) (.tup [3, 4])
 (sSeq (sSet 5 (sD (dCall f_key_changes (aCons (dV 0) (aCons (dV 1) (aCons (dV 3) (aCons (dV 4) aNil)))))))
 (sIf (sD (tV (dCall f_versions_differ (aCons (dV 5) aNil))))
 (sApp 2 (sD (dTup (aCons (dV 3) (aCons (dV 4) (aCons (dV 5) aNil))))))
 sNil)))
 (fun α => (sRet (sD (dN fTuple (aCons (dV 2) aNil)))) (frzA 2 α))))
def f_key_conflicts : List D → Res D := fD 2 6 b_key_conflicts
def b_merge_books : At → Out :=
 (sSeq (sSet 2 (sD (dCall f_key_conflicts (aCons (dV 0) (aCons (dV 1) aNil)))))
 (sSeq (sIf (sD (tV (d2 fGt (dN fLen (aCons (dV 2) aNil)) (dC (.int (0))))))
 (sRet (sD (dTup (aCons (dC (.str "torn")) (aCons (dV 2) aNil)))))
 sNil)
 (sSeq (sSetT (.tup [3, 4]) (sD (dCall f_first_rows (aCons (dV 0) (aCons (dV 1) aNil)))))
 (sSeq (sSet 5 (sD (dCall f_full_kind (aCons (dV 3) aNil))))
 (sSeq (sIf (sD (tV (d2 fIsNot (dV 5) (dC .none))))
 (sRet (sD (dTup (aCons (dC (.str "full")) (aCons (dV 5) aNil)))))
 sNil)
 (sRet (sD (dTup (aCons (dC (.str "merged")) (aCons (dV 3) (aCons (dV 4) aNil)))))))))))
def f_merge_books : List D → Res D := fD 2 6 b_merge_books
end Cg

namespace K71
open PySem PySem.Spec PyProof.Rows L2 DL Cm Cg

def top (i : Nat) : Stmt := PySem.Challenge.pw_sailloft_k71_whole_merge_without_order.main.body.getD i (.Pass ⟨0, 0, 0, 0⟩)
def s__law_same : Stmt := top 30
def N__law_same : List Str := ["one", "two", "k"]
def P__law_same : List Str := ["one", "two"]
theorem sc__law_same : FnScope N__law_same P__law_same (defScope s__law_same) := ⟨rfl, rfl, rfl, by decide +kernel, rfl, by decide +kernel, by decide +kernel⟩
def s_find_row : Stmt := top 9
def N_find_row : List Str := ["book", "kind", "name", "row"]
def P_find_row : List Str := ["book", "kind", "name"]
theorem sc_find_row : FnScope N_find_row P_find_row (defScope s_find_row) := ⟨rfl, rfl, rfl, by decide +kernel, rfl, by decide +kernel, by decide +kernel⟩
def s_has_row : Stmt := top 8
def N_has_row : List Str := ["book", "kind", "name", "row"]
def P_has_row : List Str := ["book", "kind", "name"]
theorem sc_has_row : FnScope N_has_row P_has_row (defScope s_has_row) := ⟨rfl, rfl, rfl, by decide +kernel, rfl, by decide +kernel, by decide +kernel⟩
def s_row_version : Stmt := top 11
def N_row_version : List Str := ["book", "kind", "name"]
def P_row_version : List Str := ["book", "kind", "name"]
theorem sc_row_version : FnScope N_row_version P_row_version (defScope s_row_version) := ⟨rfl, rfl, rfl, by decide +kernel, rfl, by decide +kernel, by decide +kernel⟩
def s_key_changes : Stmt := top 13
def N_key_changes : List Str := ["base", "books", "kind", "name", "old", "found", "index", "book", "version"]
def P_key_changes : List Str := ["base", "books", "kind", "name"]
theorem sc_key_changes : FnScope N_key_changes P_key_changes (defScope s_key_changes) := ⟨rfl, rfl, rfl, by decide +kernel, rfl, by decide +kernel, by decide +kernel⟩
def s_row_key : Stmt := top 6
def N_row_key : List Str := ["row"]
def P_row_key : List Str := ["row"]
theorem sc_row_key : FnScope N_row_key P_row_key (defScope s_row_key) := ⟨rfl, rfl, rfl, by decide +kernel, rfl, by decide +kernel, by decide +kernel⟩
def s_merge_keys : Stmt := top 12
def N_merge_keys : List Str := ["base", "books", "rows", "book", "row"]
def P_merge_keys : List Str := ["base", "books"]
theorem sc_merge_keys : FnScope N_merge_keys P_merge_keys (defScope s_merge_keys) := ⟨rfl, rfl, rfl, by decide +kernel, rfl, by decide +kernel, by decide +kernel⟩
def s_first_rows : Stmt := top 16
def N_first_rows : List Str := ["base", "books", "rows", "origins", "kind", "name", "changes", "row", "index", "version"]
def P_first_rows : List Str := ["base", "books"]
theorem sc_first_rows : FnScope N_first_rows P_first_rows (defScope s_first_rows) := ⟨rfl, rfl, rfl, by decide +kernel, rfl, by decide +kernel, by decide +kernel⟩
def s_kind_rows : Stmt := top 7
def N_kind_rows : List Str := ["book", "kind", "row"]
def P_kind_rows : List Str := ["book", "kind"]
theorem sc_kind_rows : FnScope N_kind_rows P_kind_rows (defScope s_kind_rows) := ⟨rfl, rfl, rfl, by decide +kernel, rfl, by decide +kernel, by decide +kernel⟩
def s_full_kind : Stmt := top 17
def N_full_kind : List Str := ["rows", "kind"]
def P_full_kind : List Str := ["rows"]
theorem sc_full_kind : FnScope N_full_kind P_full_kind (defScope s_full_kind) := ⟨rfl, rfl, rfl, by decide +kernel, rfl, by decide +kernel, by decide +kernel⟩
def s_versions_differ : Stmt := top 14
def N_versions_differ : List Str := ["changes", "index", "version"]
def P_versions_differ : List Str := ["changes"]
theorem sc_versions_differ : FnScope N_versions_differ P_versions_differ (defScope s_versions_differ) := ⟨rfl, rfl, rfl, by decide +kernel, rfl, by decide +kernel, by decide +kernel⟩
def s_key_conflicts : Stmt := top 15
def N_key_conflicts : List Str := ["base", "books", "found", "kind", "name", "changes"]
def P_key_conflicts : List Str := ["base", "books"]
theorem sc_key_conflicts : FnScope N_key_conflicts P_key_conflicts (defScope s_key_conflicts) := ⟨rfl, rfl, rfl, by decide +kernel, rfl, by decide +kernel, by decide +kernel⟩
def s_merge_books : Stmt := top 18
def N_merge_books : List Str := ["base", "books", "conflicts", "rows", "origins", "kind"]
def P_merge_books : List Str := ["base", "books"]
theorem sc_merge_books : FnScope N_merge_books P_merge_books (defScope s_merge_books) := ⟨rfl, rfl, rfl, by decide +kernel, rfl, by decide +kernel, by decide +kernel⟩
def s__law_alone : Stmt := top 41
def N__law_alone : List Str := ["base", "books", "k", "changed", "paper", "merged", "due"]
def P__law_alone : List Str := ["base", "books"]
theorem sc__law_alone : FnScope N__law_alone P__law_alone (defScope s__law_alone) := ⟨rfl, rfl, rfl, by decide +kernel, rfl, by decide +kernel, by decide +kernel⟩
def b__law_alone : At → Out :=
 (sSeq (sLay 3 (sD (dLc (iRange1 (dN fLen (aCons (dV 1) aNil))) (.nm 2) (tV (d2 fNe (d2 fIx (dV 1) (dV 2)) (dV 0))) (dV 2) [2])))
 (sSeq (sIf (sD (tV (d2 fGt (dN fLen (aCons (dV 3) aNil)) (dC (.int (1))))))
 (sRet (sD (dC (.bool true))))
 sNil)
 (sSeq (sSet 4 (sD (dCall f_merge_books (aCons (dV 0) (aCons (dV 1) aNil)))))
 (sSeq (sSet 5 (sD (dV 0)))
 (sSeq (sIf (sD (tV (d2 fEq (dN fLen (aCons (dV 3) aNil)) (dC (.int (1))))))
 (sSet 5 (sD (d2 fIx (dV 1) (d2 fIx (dV 3) (dC (.int (0)))))))
 sNil)
 (sSeq (sIf (sD (tOr (tV (d2 fNe (d2 fIx (dV 4) (dC (.int (0)))) (dC (.str "merged")))) (tNot (tV (dCall f__law_same (aCons (d2 fIx (dV 4) (dC (.int (1)))) (aCons (dV 5) aNil)))))))
 (sRet (sD (dC (.bool false))))
 sNil)
 (sSeq (sFor (iRange1 (dN fLen (aCons (dV 5) aNil))) (.nm 2)
 (sSeq (sSet 6 (sD (dTup aNil)))
 (sSeq (sIf (sD (tV (d2 fNotIn (d2 fIx (dV 5) (dV 2)) (dV 0))))
 (sSet 6 (sD (dN fTuple (aCons (dV 3) aNil))))
 sNil)
 (sIf (sD (tNot (tV (dCall f__law_same (aCons (d2 fIx (d2 fIx (dV 4) (dC (.int (2)))) (dV 2)) (aCons (dV 6) aNil))))))
 (sRet (sD (dC (.bool false))))
 sNil))))
 (sRet (sD (dC (.bool true)))))))))))
def f__law_alone : List D → Res D := fD 2 7 b__law_alone
def s__law_kinds : Stmt := top 29
def N__law_kinds : List Str := ["first"]
def P__law_kinds : List Str := []
theorem sc__law_kinds : FnScope N__law_kinds P__law_kinds (defScope s__law_kinds) := ⟨rfl, rfl, rfl, by decide +kernel, rfl, by decide +kernel, by decide +kernel⟩
def s__law_before : Stmt := top 31
def N__law_before : List Str := ["one", "two"]
def P__law_before : List Str := ["one", "two"]
theorem sc__law_before : FnScope N__law_before P__law_before (defScope s__law_before) := ⟨rfl, rfl, rfl, by decide +kernel, rfl, by decide +kernel, by decide +kernel⟩
def s__law_placed : Stmt := top 32
def N__law_placed : List Str := ["rows", "row", "below", "above", "old"]
def P__law_placed : List Str := ["rows", "row"]
theorem sc__law_placed : FnScope N__law_placed P__law_placed (defScope s__law_placed) := ⟨rfl, rfl, rfl, by decide +kernel, rfl, by decide +kernel, by decide +kernel⟩
def s__law_lowest : Stmt := top 22
def N__law_lowest : List Str := ["n", "d", "a", "b", "k", "c"]
def P__law_lowest : List Str := ["n", "d"]
theorem sc__law_lowest : FnScope N__law_lowest P__law_lowest (defScope s__law_lowest) := ⟨rfl, rfl, rfl, by decide +kernel, rfl, by decide +kernel, by decide +kernel⟩
def s__law_grain : Stmt := top 23
def N__law_grain : List Str := ["x", "y"]
def P__law_grain : List Str := ["x", "y"]
theorem sc__law_grain : FnScope N__law_grain P__law_grain (defScope s__law_grain) := ⟨rfl, rfl, rfl, by decide +kernel, rfl, by decide +kernel, by decide +kernel⟩
def s__law_line : Stmt := top 25
def N__law_line : List Str := ["piece", "number"]
def P__law_line : List Str := ["piece", "number"]
theorem sc__law_line : FnScope N__law_line P__law_line (defScope s__law_line) := ⟨rfl, rfl, rfl, by decide +kernel, rfl, by decide +kernel, by decide +kernel⟩
def s__law_piece : Stmt := top 24
def N__law_piece : List Str := ["numbers", "most", "x", "y", "far", "top"]
def P__law_piece : List Str := ["numbers", "most"]
theorem sc__law_piece : FnScope N__law_piece P__law_piece (defScope s__law_piece) := ⟨rfl, rfl, rfl, by decide +kernel, rfl, by decide +kernel, by decide +kernel⟩
def s__law_shape_row : Stmt := top 28
def N__law_shape_row : List Str := ["kind", "name", "names", "n", "day", "share", "strain", "grain", "outline", "luff", "rule", "row", "k"]
def P__law_shape_row : List Str := ["kind", "name", "names", "n"]
theorem sc__law_shape_row : FnScope N__law_shape_row P__law_shape_row (defScope s__law_shape_row) := ⟨rfl, rfl, rfl, by decide +kernel, rfl, by decide +kernel, by decide +kernel⟩
def s__law_row : Stmt := top 27
def N__law_row : List Str := ["kind", "name", "names", "n", "day", "small", "area", "low", "high", "some", "along", "across", "work"]
def P__law_row : List Str := ["kind", "name", "names", "n"]
theorem sc__law_row : FnScope N__law_row P__law_row (defScope s__law_row) := ⟨rfl, rfl, rfl, by decide +kernel, rfl, by decide +kernel, by decide +kernel⟩
def s__law_book : Stmt := top 33
def N__law_book : List Str := ["numbers", "start", "count", "names", "pool", "rows", "kinds", "k", "n", "kind", "j"]
def P__law_book : List Str := ["numbers", "start", "count", "names", "pool"]
theorem sc__law_book : FnScope N__law_book P__law_book (defScope s__law_book) := ⟨rfl, rfl, rfl, by decide +kernel, rfl, by decide +kernel, by decide +kernel⟩
def s__law_crowd : Stmt := top 39
def N__law_crowd : List Str := ["rows", "first", "count", "k"]
def P__law_crowd : List Str := ["rows", "first", "count"]
theorem sc__law_crowd : FnScope N__law_crowd P__law_crowd (defScope s__law_crowd) := ⟨rfl, rfl, rfl, by decide +kernel, rfl, by decide +kernel, by decide +kernel⟩
def s__law_hand : Stmt := top 38
def N__law_hand : List Str := ["base", "names", "numbers", "start", "rows", "kinds", "k", "n", "name", "kind", "j", "row"]
def P__law_hand : List Str := ["base", "names", "numbers", "start"]
theorem sc__law_hand : FnScope N__law_hand P__law_hand (defScope s__law_hand) := ⟨rfl, rfl, rfl, by decide +kernel, rfl, by decide +kernel, by decide +kernel⟩
def s__law_version : Stmt := top 34
def N__law_version : List Str := ["rows", "key", "row"]
def P__law_version : List Str := ["rows", "key"]
theorem sc__law_version : FnScope N__law_version P__law_version (defScope s__law_version) := ⟨rfl, rfl, rfl, by decide +kernel, rfl, by decide +kernel, by decide +kernel⟩
def s__law_changes : Stmt := top 36
def N__law_changes : List Str := ["base", "books", "key", "old", "versions", "rows", "k"]
def P__law_changes : List Str := ["base", "books", "key"]
theorem sc__law_changes : FnScope N__law_changes P__law_changes (defScope s__law_changes) := ⟨rfl, rfl, rfl, by decide +kernel, rfl, by decide +kernel, by decide +kernel⟩
def s__law_keys : Stmt := top 35
def N__law_keys : List Str := ["books", "keys", "rows", "row"]
def P__law_keys : List Str := ["books"]
theorem sc__law_keys : FnScope N__law_keys P__law_keys (defScope s__law_keys) := ⟨rfl, rfl, rfl, by decide +kernel, rfl, by decide +kernel, by decide +kernel⟩
def s__law_merged : Stmt := top 37
def N__law_merged : List Str := ["base", "books", "conflicts", "rows", "origins", "key", "changes", "row", "full", "change", "kind"]
def P__law_merged : List Str := ["base", "books"]
theorem sc__law_merged : FnScope N__law_merged P__law_merged (defScope s__law_merged) := ⟨rfl, rfl, rfl, by decide +kernel, rfl, by decide +kernel, by decide +kernel⟩
def s__law_moved : Stmt := top 40
def N__law_moved : List Str := ["paper", "places", "origins", "row", "at", "conflicts", "versions", "pair"]
def P__law_moved : List Str := ["paper", "places"]
theorem sc__law_moved : FnScope N__law_moved P__law_moved (defScope s__law_moved) := ⟨rfl, rfl, rfl, by decide +kernel, rfl, by decide +kernel, by decide +kernel⟩
def b__law_moved : At → Out :=
 (sSeq (sIf (sD (tV (d2 fEq (d2 fIx (dV 0) (dC (.int (0)))) (dC (.str "merged")))))
 (sSeq (sOwn 2 (sD (fLst aNil)))
 (sSeq (sFor (iSeq (d2 fIx (dV 0) (dC (.int (2))))) (.nm 3)
 (sApp 2 (sD (dN fTuple (aCons (dN fSorted (aCons (dFz (dLc (iSeq (dV 3)) (.nm 4) yesT (d2 fIx (dV 1) (dV 4)) [4])) aNil)) aNil)))))
 (fun α => (sRet (sD (dTup (aCons (dC (.str "merged")) (aCons (d2 fIx (dV 0) (dC (.int (1)))) (aCons (dN fTuple (aCons (dV 2) aNil)) aNil)))))) (frzA 2 α))))
 sNil)
 (sSeq (sIf (sD (tV (d2 fEq (d2 fIx (dV 0) (dC (.int (0)))) (dC (.str "torn")))))
 (sSeq (sOwn 5 (sD (fLst aNil)))
 (sSeq (sFor (iSeq (d2 fIx (dV 0) (dC (.int (1))))) (.nm 3)
 (sSeq (sSet 6 (sD (dLst aNil)))
 (sSeq (sFor (iRange1 (d2 fAdd (dN fLen (aCons (dV 1) aNil)) (dC (.int (1))))) (.nm 4)
 (sSet 6 (sD (d2 fAdd (dV 6) (dFz (dLc (iSeq (d2 fIx (dV 3) (dC (.int (2))))) (.nm 7) (tV (d2 fEq (d2 fIx (dV 1) (d2 fIx (dV 7) (dC (.int (0))))) (dV 4))) (dTup (aCons (dV 4) (aCons (d2 fIx (dV 7) (dC (.int (1)))) aNil))) [7]))))))
 (sApp 5 (sD (dTup (aCons (d2 fIx (dV 3) (dC (.int (0)))) (aCons (d2 fIx (dV 3) (dC (.int (1)))) (aCons (dN fTuple (aCons (dV 6) aNil)) aNil)))))))))
 (fun α => (sRet (sD (dTup (aCons (dC (.str "torn")) (aCons (dN fTuple (aCons (dV 5) aNil)) aNil))))) (frzA 5 α))))
 sNil)
 (sRet (sD (dV 0)))))
def f__law_moved : List D → Res D := fD 2 8 b__law_moved
def s__law_name : Stmt := top 21
def N__law_name : List Str := ["number", "letters"]
def P__law_name : List Str := ["number"]
theorem sc__law_name : FnScope N__law_name P__law_name (defScope s__law_name) := ⟨rfl, rfl, rfl, by decide +kernel, rfl, by decide +kernel, by decide +kernel⟩
def s__law_names : Stmt := top 26
def N__law_names : List Str := ["numbers", "k"]
def P__law_names : List Str := ["numbers"]
theorem sc__law_names : FnScope N__law_names P__law_names (defScope s__law_names) := ⟨rfl, rfl, rfl, by decide +kernel, rfl, by decide +kernel, by decide +kernel⟩
def s__law_numbers : Stmt := top 20
def N__law_numbers : List Str := ["script", "count", "rest", "size", "large", "numbers", "k", "at", "mixed", "cell"]
def P__law_numbers : List Str := ["script", "count"]
theorem sc__law_numbers : FnScope N__law_numbers P__law_numbers (defScope s__law_numbers) := ⟨rfl, rfl, rfl, by decide +kernel, rfl, by decide +kernel, by decide +kernel⟩
def s_law : Stmt := top 42
def N_law : List Str := ["script", "numbers", "names", "base", "k", "books", "shown", "size", "due", "paper", "turn", "turned", "at", "places", "rows"]
def P_law : List Str := ["script"]
theorem sc_law : FnScope N_law P_law (defScope s_law) := ⟨rfl, rfl, rfl, by decide +kernel, rfl, by decide +kernel, by decide +kernel⟩
def b_law : At → Out :=
 (sSeq (sSet 1 (sD (dCall f__law_numbers (aCons (dV 0) (aCons (dC (.int (90))) aNil)))))
 (sSeq (sSet 2 (sD (dCall f__law_names (aCons (dV 1) aNil))))
 (sSeq (sSet 3 (sD (dCall f__law_book (aCons (dV 1) (aCons (dC (.int (8))) (aCons (d2 fMod (d2 fIx (dV 1) (dC (.int (6)))) (dC (.int (15)))) (aCons (dV 2) (aCons (dLst (aCons (dC (.int (6))) (aCons (dC (.int (7))) (aCons (dC (.int (18))) (aCons (dC (.int (0))) aNil))))) aNil))))))))
 (sSeq (sOwn 5 (sD (dLc (iRange1 (d2 fAdd (dC (.int (1))) (d2 fMod (d2 fIx (dV 1) (dC (.int (7)))) (dC (.int (5)))))) (.nm 4) yesT (dCall f__law_hand (aCons (dV 3) (aCons (dV 2) (aCons (dV 1) (aCons (d2 fAdd (dC (.int (30))) (d2 fMul (dC (.int (13))) (dV 4))) aNil))))) [4])))
 (sSeq (sIf (sBt (tAnd (tV (d2 fEq (d2 fMod (d2 fIx (dV 1) (dC (.int (8)))) (dC (.int (6)))) (dC (.int (0))))) (tV (d2 fGt (dN fLen (aCons (dV 5) aNil)) (dC (.int (1)))))))
 (sSeq (sSetI 5 (sD (dC (.int (0)))) (sCal f__law_crowd (sAc (oIx 5 (0)) (sAc (sD (dC (.int (0)))) (sAc (sD (dC (.int (6)))) (sD aNil))))))
 (sSetI 5 (sD (dC (.int (1)))) (sCal f__law_crowd (sAc (oIx 5 (1)) (sAc (sD (dC (.int (6)))) (sAc (sD (d2 fAdd (dC (.int (6))) (d2 fMod (d2 fIx (dV 1) (dC (.int (10)))) (dC (.int (2)))))) (sD aNil)))))))
 sNil)
 (sSeq (sIf (sD (tV (d2 fEq (d2 fMod (d2 fIx (dV 1) (dC (.int (9)))) (dC (.int (2)))) (dC (.int (0))))))
 (fun α => (sOwn 5 (sD (lAdd (d2 fMul (dLst (aCons (dV 3) aNil)) (d2 fSub (dN fLen (aCons (dV 5) aNil)) (dC (.int (1))))) (dLst (aCons (d2 fIx (dV 5) (dC (.int (0)))) aNil))))) (frzA 5 α))
 sNil)
 (sSeq (sSet 3 (sD (dN fTuple (aCons (dV 3) aNil))))
 (sSeq (sSet 6 (sB (dN fTuple (aCons (dFz (dLc (iSeq (dV 5)) (.nm 14) yesT (dN fTuple (aCons (dV 14) aNil)) [14])) aNil))))
 (sSeq (sSet 7 (sD (dN fLen (aCons (dV 6) aNil))))
 (sSeq (sSet 8 (sB (d2 fIx (dCall f__law_merged (aCons (dN fListX (aCons (dV 3) aNil)) (aCons (dV 5) aNil))) (dC (.int (0))))))
 (sSeq (sSet 9 (sD (dCall f_merge_books (aCons (dV 3) (aCons (dV 6) aNil)))))
 (sSeq (sIf (sD (tNot (tV (dCall f__law_same (aCons (dV 9) (aCons (dV 8) aNil))))))
 (sRet (sD (dC (.bool false))))
 sNil)
 (sSeq (sFor (iSeq (dLst (aCons (dFz (dLc (iRange1 (dV 7)) (.nm 4) yesT (d2 fSub (d2 fSub (dV 7) (dC (.int (1)))) (dV 4)) [4])) (aCons (dFz (dLc (iRange1 (dV 7)) (.nm 4) yesT (d2 fMod (d2 fAdd (dV 4) (dC (.int (1)))) (dV 7)) [4])) aNil)))) (.nm 10)
 (sSeq (sOwn 11 (sD (lMul (dLst (aCons (dTup aNil) aNil)) (dV 7))))
 (sSeq (sFor (iRange1 (dV 7)) (.nm 4)
 (sSetI 11 (sD (d2 fIx (dV 10) (dV 4))) (sD (d2 fIx (dV 6) (dV 4)))))
 (sIf (sBt (tNot (tV (dCall f__law_same (aCons (dCall f_merge_books (aCons (dV 3) (aCons (dN fTuple (aCons (dV 11) aNil)) aNil))) (aCons (dCall f__law_moved (aCons (dV 8) (aCons (dV 10) aNil))) aNil))))))
 (sRet (sD (dC (.bool false))))
 sNil))))
 (sSeq (sIf (sD (tV (d2 fLt (dV 7) (dC (.int (5))))))
 (sSeq (sSet 12 (sD (d2 fMod (d2 fIx (dV 1) (dC (.int (11)))) (d2 fAdd (dV 7) (dC (.int (1)))))))
 (sSeq (sLay 13 (sD (dLc (iRange1 (dV 7)) (.nm 4) yesT (d2 fAdd (dV 4) (dN fInt (aCons (d2 fGe (dV 4) (dV 12)) aNil))) [4])))
 (sIf (sD (tNot (tV (dCall f__law_same (aCons (dCall f_merge_books (aCons (dV 3) (aCons (d2 fAdd (d2 fAdd (dSl (dV 6) pNone (pSome (dV 12))) (dTup (aCons (dV 3) aNil))) (dSl (dV 6) (pSome (dV 12)) pNone)) aNil))) (aCons (dCall f__law_moved (aCons (dV 8) (aCons (dV 13) aNil))) aNil))))))
 (sRet (sD (dC (.bool false))))
 sNil)))
 sNil)
 (sSeq (sIf (sD (tAnd (tV (d2 fLt (dV 7) (dC (.int (3))))) (tV (d2 fNe (d2 fIx (dV 9) (dC (.int (0)))) (dC (.str "torn"))))))
 (sIf (sD (tNot (tV (dCall f__law_same (aCons (dSl (dCall f_merge_books (aCons (dV 3) (aCons (d2 fAdd (dV 6) (dV 6)) aNil))) pNone (pSome (dC (.int (2))))) (aCons (dSl (dV 8) pNone (pSome (dC (.int (2))))) aNil))))))
 (sRet (sD (dC (.bool false))))
 sNil)
 sNil)
 (sSeq (sIf (sD (tAnd (tV (d2 fEq (d2 fIx (dV 9) (dC (.int (0)))) (dC (.str "merged")))) (tNot (tV (dCall f__law_same (aCons (d2 fIx (dCall f_merge_books (aCons (dV 3) (aCons (dTup (aCons (d2 fIx (dV 9) (dC (.int (1)))) aNil)) aNil))) (dC (.int (1)))) (aCons (d2 fIx (dV 9) (dC (.int (1)))) aNil)))))))
 (sRet (sD (dC (.bool false))))
 sNil)
 (sRet (sD (dCall f__law_alone (aCons (dV 3) (aCons (dV 6) aNil)))))))))))))))))))))
def f_law : List D → Res D := fD 1 15 b_law
end K71

namespace K71
open PySem PySem.Spec PyProof.Rows L2 DL Cm Cg
def d__law_same : He.DefD := ⟨("_law_same", none), "_law_same", "_law_same", defArgs s__law_same, defBody s__law_same, defScope s__law_same, [], []⟩
def d_find_row : He.DefD := ⟨("find_row", none), "find_row", "find_row", defArgs s_find_row, defBody s_find_row, defScope s_find_row, [], []⟩
def d_has_row : He.DefD := ⟨("has_row", none), "has_row", "has_row", defArgs s_has_row, defBody s_has_row, defScope s_has_row, [], []⟩
def d_row_version : He.DefD := ⟨("row_version", none), "row_version", "row_version", defArgs s_row_version, defBody s_row_version, defScope s_row_version, [], []⟩
def d_key_changes : He.DefD := ⟨("key_changes", none), "key_changes", "key_changes", defArgs s_key_changes, defBody s_key_changes, defScope s_key_changes, [], []⟩
def d_row_key : He.DefD := ⟨("row_key", none), "row_key", "row_key", defArgs s_row_key, defBody s_row_key, defScope s_row_key, [], []⟩
def d_merge_keys : He.DefD := ⟨("merge_keys", none), "merge_keys", "merge_keys", defArgs s_merge_keys, defBody s_merge_keys, defScope s_merge_keys, [], []⟩
def d_first_rows : He.DefD := ⟨("first_rows", none), "first_rows", "first_rows", defArgs s_first_rows, defBody s_first_rows, defScope s_first_rows, [], []⟩
def d_kind_rows : He.DefD := ⟨("kind_rows", none), "kind_rows", "kind_rows", defArgs s_kind_rows, defBody s_kind_rows, defScope s_kind_rows, [], []⟩
def d_full_kind : He.DefD := ⟨("full_kind", none), "full_kind", "full_kind", defArgs s_full_kind, defBody s_full_kind, defScope s_full_kind, [], []⟩
def d_versions_differ : He.DefD := ⟨("versions_differ", none), "versions_differ", "versions_differ", defArgs s_versions_differ, defBody s_versions_differ, defScope s_versions_differ, [], []⟩
def d_key_conflicts : He.DefD := ⟨("key_conflicts", none), "key_conflicts", "key_conflicts", defArgs s_key_conflicts, defBody s_key_conflicts, defScope s_key_conflicts, [], []⟩
def d_merge_books : He.DefD := ⟨("merge_books", none), "merge_books", "merge_books", defArgs s_merge_books, defBody s_merge_books, defScope s_merge_books, [], []⟩
def d__law_alone : He.DefD := ⟨("_law_alone", none), "_law_alone", "_law_alone", defArgs s__law_alone, defBody s__law_alone, defScope s__law_alone, [], []⟩
def d__law_kinds : He.DefD := ⟨("_law_kinds", none), "_law_kinds", "_law_kinds", defArgs s__law_kinds, defBody s__law_kinds, defScope s__law_kinds, [], []⟩
def d__law_before : He.DefD := ⟨("_law_before", none), "_law_before", "_law_before", defArgs s__law_before, defBody s__law_before, defScope s__law_before, [], []⟩
def d__law_placed : He.DefD := ⟨("_law_placed", none), "_law_placed", "_law_placed", defArgs s__law_placed, defBody s__law_placed, defScope s__law_placed, [], []⟩
def d__law_lowest : He.DefD := ⟨("_law_lowest", none), "_law_lowest", "_law_lowest", defArgs s__law_lowest, defBody s__law_lowest, defScope s__law_lowest, [], []⟩
def d__law_grain : He.DefD := ⟨("_law_grain", none), "_law_grain", "_law_grain", defArgs s__law_grain, defBody s__law_grain, defScope s__law_grain, [], []⟩
def d__law_line : He.DefD := ⟨("_law_line", none), "_law_line", "_law_line", defArgs s__law_line, defBody s__law_line, defScope s__law_line, [], []⟩
def d__law_piece : He.DefD := ⟨("_law_piece", none), "_law_piece", "_law_piece", defArgs s__law_piece, defBody s__law_piece, defScope s__law_piece, [], []⟩
def d__law_shape_row : He.DefD := ⟨("_law_shape_row", none), "_law_shape_row", "_law_shape_row", defArgs s__law_shape_row, defBody s__law_shape_row, defScope s__law_shape_row, [], []⟩
def d__law_row : He.DefD := ⟨("_law_row", none), "_law_row", "_law_row", defArgs s__law_row, defBody s__law_row, defScope s__law_row, [], []⟩
def d__law_book : He.DefD := ⟨("_law_book", none), "_law_book", "_law_book", defArgs s__law_book, defBody s__law_book, defScope s__law_book, [], []⟩
def d__law_crowd : He.DefD := ⟨("_law_crowd", none), "_law_crowd", "_law_crowd", defArgs s__law_crowd, defBody s__law_crowd, defScope s__law_crowd, [], []⟩
def d__law_hand : He.DefD := ⟨("_law_hand", none), "_law_hand", "_law_hand", defArgs s__law_hand, defBody s__law_hand, defScope s__law_hand, [], []⟩
def d__law_version : He.DefD := ⟨("_law_version", none), "_law_version", "_law_version", defArgs s__law_version, defBody s__law_version, defScope s__law_version, [], []⟩
def d__law_changes : He.DefD := ⟨("_law_changes", none), "_law_changes", "_law_changes", defArgs s__law_changes, defBody s__law_changes, defScope s__law_changes, [], []⟩
def d__law_keys : He.DefD := ⟨("_law_keys", none), "_law_keys", "_law_keys", defArgs s__law_keys, defBody s__law_keys, defScope s__law_keys, [], []⟩
def d__law_merged : He.DefD := ⟨("_law_merged", none), "_law_merged", "_law_merged", defArgs s__law_merged, defBody s__law_merged, defScope s__law_merged, [], []⟩
def d__law_moved : He.DefD := ⟨("_law_moved", none), "_law_moved", "_law_moved", defArgs s__law_moved, defBody s__law_moved, defScope s__law_moved, [], []⟩
def d__law_name : He.DefD := ⟨("_law_name", none), "_law_name", "_law_name", defArgs s__law_name, defBody s__law_name, defScope s__law_name, [], []⟩
def d__law_names : He.DefD := ⟨("_law_names", none), "_law_names", "_law_names", defArgs s__law_names, defBody s__law_names, defScope s__law_names, [], []⟩
def d__law_numbers : He.DefD := ⟨("_law_numbers", none), "_law_numbers", "_law_numbers", defArgs s__law_numbers, defBody s__law_numbers, defScope s__law_numbers, [], []⟩
def d_law : He.DefD := ⟨("law", none), "law", "law", defArgs s_law, defBody s_law, defScope s_law, [], []⟩
def fn : List He.DefD := [d__law_same, d_find_row, d_has_row, d_row_version, d_key_changes, d_row_key, d_merge_keys, d_first_rows, d_kind_rows, d_full_kind, d_versions_differ, d_key_conflicts, d_merge_books, d__law_alone, d__law_kinds, d__law_before, d__law_placed, d__law_lowest, d__law_grain, d__law_line, d__law_piece, d__law_shape_row, d__law_row, d__law_book, d__law_crowd, d__law_hand, d__law_version, d__law_changes, d__law_keys, d__law_merged, d__law_moved, d__law_name, d__law_names, d__law_numbers, d_law]
def fa : List He.Fa := [.glo "_law_same", .glo "find_row", .glo "has_row", .glo "row_version", .glo "key_changes", .glo "row_key", .glo "merge_keys", .glo "first_rows", .glo "kind_rows", .glo "full_kind", .glo "versions_differ", .glo "key_conflicts", .glo "merge_books", .glo "_law_alone", .glo "_law_kinds", .glo "_law_before", .glo "_law_placed", .glo "_law_lowest", .glo "_law_grain", .glo "_law_line", .glo "_law_piece", .glo "_law_shape_row", .glo "_law_row", .glo "_law_book", .glo "_law_crowd", .glo "_law_hand", .glo "_law_version", .glo "_law_changes", .glo "_law_keys", .glo "_law_merged", .glo "_law_moved", .glo "_law_name", .glo "_law_names", .glo "_law_numbers", .glo "law", .free "abs", .free "bool", .free "enumerate", .free "int", .free "isinstance", .free "len", .free "list", .free "min", .free "range", .free "sorted", .free "str", .free "tuple", .int "MOST_ROWS" (12)]
def loose0 : List Str := ["LoftError", "Unknown", "MOST_ROWS", "KIND_NAMES", "row_key", "kind_rows", "has_row", "find_row", "row_version", "merge_keys", "key_changes", "versions_differ", "key_conflicts", "first_rows", "full_kind", "merge_books", "_law_numbers", "_law_name", "_law_lowest", "_law_grain", "_law_piece", "_law_line", "_law_names", "_law_row", "_law_shape_row", "_law_kinds", "_law_same", "_law_before", "_law_placed", "_law_book"]
def loose1 : List Str := ["_law_version", "_law_keys", "_law_changes", "_law_merged", "_law_hand", "_law_crowd", "_law_moved", "_law_alone"]
def loose : List Str := loose0 ++ loose1
def as0 : List Addr := [2, 3, 6, 4, 24, 46, 49, 56, 61, 68, 75, 82, 87, 94, 101, 108, 113, 120, 127, 132, 139, 146, 153, 160, 167, 172, 179, 184, 191, 196, 203, 208, 213, 220, 227, 232, 237, 242, 249, 254, 259, 264, 0, 23, 45, 55, 60, 67, 74, 81, 86, 93, 100, 107, 112, 119, 126, 131, 138, 145, 152, 159, 166, 171, 178, 183, 190, 195, 202, 207, 212, 219, 226, 231, 236, 241, 248, 253, 258, 263, 22, 25, 43, 44, 50, 51, 52, 53, 54, 57, 58, 59, 62, 63, 64, 65, 66, 69, 70, 71, 72, 73, 76, 77, 78, 79, 80, 83, 84, 85, 88, 89, 90, 91, 92, 95, 96, 97, 98, 99, 102, 103, 104, 105, 106, 109, 110, 111, 114, 115, 116, 117, 118, 121, 122, 123, 124, 125, 128, 129, 130, 133, 134, 135, 136, 137, 140, 141, 142, 143, 144, 147, 148, 149, 150, 151, 154, 155, 156, 157, 158, 161, 162, 163, 164, 165, 168, 169, 170, 173, 174, 175, 176, 177, 180, 181, 182, 185, 186, 187, 188, 189, 192, 193, 194, 197, 198, 199, 200, 201, 204, 205, 206, 209, 210, 211, 214, 215, 216, 217, 218, 221, 222, 223, 224, 225, 228, 229, 230, 233, 234, 235, 238, 239, 240, 243, 244, 245, 246, 247, 250, 251, 252, 255, 256, 257, 260, 261, 262, 42, 31]
def ex (K : PySem.W.Frag) : Bool := cstB "KIND_NAMES" k_KIND_NAMES K
def ts : List He.Tab := []
abbrev R : PySem.W.OpenRow := PySem.W.OpenLaw.row PySem.Challenge.rw_sailloft_k71_whole_merge_without_order
abbrev hk : PySem.W.Hook := hookE as0 fa fn ts ex
def ob (s : PySem.W.SharedT) : AlE := obsE as0 fa fn ts ex (HandSHeadRun.getT s)
theorem ob_eq (s : PySem.W.SharedT) : ob s = hk.obs s.abs := obsE_eq (HandSHeadRun.getT_eq s)
theorem runT (w : World) : HandSHeadRun.RunEq R (PySem.W.view R.prog [42]) hk ob 6000 loose (wf w true) := by
  intro os
  kernel_rfl
theorem runF (w : World) : HandSHeadRun.RunEq R (PySem.W.view R.prog [42]) hk ob 6000 loose (wf w false) := by
  intro os
  kernel_rfl
theorem run (w : World) : HandSHeadRun.RunEq R (PySem.W.view R.prog [42]) hk ob 6000 loose w := run_of (P := fun w => HandSHeadRun.RunEq R (PySem.W.view R.prog [42]) hk ob 6000 loose w) runT runF w
end K71

/-! PL1: how the readings answer: the rules by which they are reckoned. -/
namespace DL
open PySem PySem.Spec PyProof.Rows L2
section
variable (β : Bt) (α : At) (f : D → D → Option D) (a b : Bt → Res D) (i : Nat) (d : D)
@[simp] theorem dC_ap : dC d β = .ok d := nr rfl
theorem dV_ap : dV i β = match β[i]? with | some (some d) => .ok d | _ => .no := rfl
@[simp] theorem dV_z (x : D) : dV 0 (some x :: β) = .ok x := nr rfl
@[simp] theorem dV_s (x : Option D) (i : Nat) : dV (i + 1) (x :: β) = dV i β := nr rfl
@[simp] theorem d2_ap : d2 f a b β = (a β).bind fun x => (b β).bind fun y => Res.of (f x y) := nr rfl
@[simp] theorem d1_ap (f : D → Option D) : d1 f a β = (a β).bind fun x => Res.of (f x) := nr rfl
@[simp] theorem aNil_ap : aNil β = .ok [] := nr rfl
@[simp] theorem aCons_ap (r : Bt → Res (List D)) : aCons a r β = (a β).bind fun x => (r β).bind fun xs => .ok (x :: xs) := nr rfl
@[simp] theorem dN_ap (f : List D → Option D) (r : Bt → Res (List D)) : dN f r β = (r β).bind fun xs => Res.of (f xs) := nr rfl
@[simp] theorem dTup_ap (r : Bt → Res (List D)) : dTup r β = (r β).bind fun xs => if xs.length ≤ sizeLine then .ok (.tuple xs) else .no := nr rfl
@[simp] theorem dLst_ap (r : Bt → Res (List D)) : dLst r β = (r β).bind fun xs => if xs.length ≤ sizeLine then .ok (.list xs) else .no := nr rfl
@[simp] theorem fLst_ap (r : Bt → Res (List D)) : fLst r β = (r β).bind fun xs => if xs.length ≤ sizeLine then .ok xs else .no := nr rfl
@[simp] theorem dCall_ap (g : List D → Res D) (r : Bt → Res (List D)) : dCall g r β = (r β).bind g := nr rfl
@[simp] theorem tV_ap : tV a β = (a β).bind fun x => Res.of (asB x) := nr rfl
@[simp] theorem tNot_ap (a : Bt → Res Bool) : tNot a β = (a β).bind fun x => .ok (!x) := nr rfl
@[simp] theorem tAnd_ap (a b : Bt → Res Bool) : tAnd a b β = (a β).bind fun x => if x = true then b β else .ok false := nr rfl
@[simp] theorem tOr_ap (a b : Bt → Res Bool) : tOr a b β = (a β).bind fun x => if x = true then .ok true else b β := nr rfl
@[simp] theorem dNot_ap : dNot a β = (a β).bind fun x => (Res.of (asB x)).bind fun x => .ok (.bool !x) := nr rfl
@[simp] theorem dAnd_ap : dAnd a b β = (a β).bind fun x => (Res.of (asB x)).bind fun x => if x = true then b β else .ok (.bool false) := nr rfl
@[simp] theorem dOr_ap : dOr a b β = (a β).bind fun x => (Res.of (asB x)).bind fun x => if x = true then .ok (.bool true) else b β := nr rfl
@[simp] theorem dIf_ap (t : Bt → Res Bool) : dIf t a b β = (t β).bind fun x => if x = true then a β else b β := nr rfl
@[simp] theorem asB_ap (x : Bool) : asB (.bool x) = some x := nr rfl
@[simp] theorem pNone_ap : pNone β = .ok none := nr rfl
@[simp] theorem pSome_ap : pSome a β = (a β).bind fun x => (Res.of (asI x)).bind fun i => .ok (some i) := nr rfl
@[simp] theorem asI_ap (x : Int) : asI (.int x) = some x := nr rfl
@[simp] theorem dSl_ap (l h : Bt → Res (Option Int)) : dSl a l h β = (a β).bind fun x => (l β).bind fun lo => (h β).bind fun hi => Res.of (fSl x lo hi) := nr rfl
@[simp] theorem iSeq_ap : iSeq a β = (a β).bind fun x => Res.of (itemsOf x) := nr rfl
@[simp] theorem iSq_list (xs : List D) (h : a β = .ok (.list xs)) : iSq a β = .ok xs := by unfold iSq; rw [h]; rfl
@[simp] theorem items_l (xs : List D) : itemsOf (.list xs) = some xs := nr rfl
@[simp] theorem items_t (xs : List D) : itemsOf (.tuple xs) = some xs := nr rfl
@[simp] theorem dFz_ap (r : Bt → Res (List D)) : dFz r β = (r β).bind fun ds => .ok (.list ds) := nr rfl
@[simp] theorem dLc_ap (it : Bt → Res (List D)) (tg : Tgt) (t : Bt → Res Bool) (e : Bt → Res D) (vs : List Nat) : dLc it tg t e vs β = (it β).bind fun ds => if ds.length ≤ sizeLine then lcD (cmD tg t e (wipeB β vs)) ds else .no := nr rfl
@[simp] theorem yesT_ap : yesT β = .ok true := nr rfl
@[simp] theorem Res.of_ite {α : Type} (c : Prop) [Decidable c] (x y : Option α) : Res.of (if c then x else y) = if c then Res.of x else Res.of y := by split <;> rfl
@[simp] theorem dats_nil : dats [] = [] := nr rfl
@[simp] theorem dats_cons (v : AV) : dats (v :: α) = v.dt :: dats α := nr rfl
@[simp] theorem view_nil : view [] = [] := nr rfl
@[simp] theorem view_cons (v : AV) : view (v :: α) = v.vw :: view α := nr rfl
@[simp] theorem dt_d : (AV.dat d).dt = some d := nr rfl
@[simp] theorem dt_u : AV.un.dt = none := nr rfl
@[simp] theorem dt_o (ds : List D) : (AV.own ds).dt = none := nr rfl
@[simp] theorem vw_d : (AV.dat d).vw = some d := nr rfl
@[simp] theorem vw_u : AV.un.vw = none := nr rfl
@[simp] theorem vw_o (ds : List D) : (AV.own ds).vw = some (.list ds) := nr rfl
@[simp] theorem sD_ap {γ : Type} (x : Bt → Res γ) : sD x α = x (dats α) := nr rfl
@[simp] theorem sB_ap : sB a α = bor noL (a (view α)) := nr rfl
@[simp] theorem sBt_ap (a : Bt → Res Bool) : sBt a α = bor (fun _ => true) (a (view α)) := nr rfl
@[simp] theorem sBf_ap (a : Bt → Res (List D)) : sBf a α = bor noLs (a (view α)) := nr rfl
@[simp] theorem bor_ok {γ : Type} (k : γ → Bool) (x : γ) : bor k (.ok x) = if k x = true then .ok x else .no := nr rfl
@[simp] theorem noL_int (x : Int) : noL (.int x) = true := nr rfl
@[simp] theorem noL_bool (x : Bool) : noL (.bool x) = true := nr rfl
@[simp] theorem noL_str (x : Str) : noL (.str x) = true := nr rfl
@[simp] theorem noL_none : noL .none = true := nr rfl
@[simp] theorem noL_tup (xs : List D) : noL (.tuple xs) = noLs xs := nr rfl
@[simp] theorem noLs_nil : noLs [] = true := nr rfl
@[simp] theorem noLs_cons (x : D) (xs : List D) : noLs (x :: xs) = (noL x && noLs xs) := nr rfl
@[simp] theorem ofR_ok {γ : Type} (x : γ) (k : γ → Out) : ofR (.ok x) α k = k x := nr rfl
@[simp] theorem sSet_ap (x : At → Res D) : sSet i x α = ofR (x α) α fun x => .nx (α.set i (.dat x)) := nr rfl
@[simp] theorem sOwn_ap (x : At → Res (List D)) : sOwn i x α = ofR (x α) α fun x => .nx (α.set i (.own x)) := nr rfl
@[simp] theorem sLay_ap (x : At → Res (List D)) : sLay i x α = ofR (x α) α fun x => .nx (α.set i (.dat (.list x))) := nr rfl
@[simp] theorem sRet_ap (x : At → Res D) : sRet x α = ofR (x α) α fun x => .rt x := nr rfl
@[simp] theorem sDrop_ap (x : At → Res D) : sDrop x α = ofR (x α) α fun x => .nx α := nr rfl
@[simp] theorem sNil_ap : sNil α = .nx α := nr rfl
theorem sIf_ap (t : At → Res Bool) (x y : At → Out) : sIf t x y α = ofR (t α) α fun c => if c = true then x α else y α := rfl
theorem sFor_ap (it : Bt → Res (List D)) (tg : Tgt) (x : At → Out) : sFor it tg x α = ofR (it (dats α)) α fun ds => forD tg x ds α := rfl
@[simp] theorem sApp_ap (x : At → Res D) : sApp i x α = ownAt i α fun ds => ofR (x α) α fun x => if ds.length < sizeLine then .nx (α.set i (.own (ds ++ [x]))) else .no := nr rfl
@[simp] theorem ownAt_z (ds : List D) (k : List D → Out) : ownAt 0 (.own ds :: α) k = k ds := nr rfl
@[simp] theorem ownAt_s (v : AV) (k : List D → Out) : ownAt (i + 1) (v :: α) k = ownAt i α k := nr rfl
end
/-- one after the other -/
def Out.andThen (o : Out) (b : At → Out) : Out := match o with
  | .nx α => b α
  | o => o
theorem sSeq_ap (a b : At → Out) (α : At) : sSeq a b α = (a α).andThen b := rfl
@[simp] theorem then_nx (b : At → Out) (α : At) : (Out.nx α).andThen b = b α := nr rfl
@[simp] theorem then_rt (b : At → Out) (d : D) : (Out.rt d).andThen b = .rt d := nr rfl
@[simp] theorem then_rl (b : At → Out) (d : List D) : (Out.rl d).andThen b = .rl d := nr rfl
@[simp] theorem sRetL_ap (x : At → Res (List D)) (α : At) : sRetL x α = ofR (x α) α fun x => .rl x := nr rfl
@[simp] theorem then_no (b : At → Out) : Out.no.andThen b = .no := nr rfl
@[simp] theorem then_bk (b : At → Out) (α : At) : (Out.bk α).andThen b = .bk α := nr rfl
@[simp] theorem then_ct (b : At → Out) (α : At) : (Out.ct α).andThen b = .ct α := nr rfl
@[simp] theorem then_er (b : At → Out) (e : Er) (α : At) : (Out.er e α).andThen b = .er e α := nr rfl
def Out.fin : Out → Res D
  | .rt d => .ok d
  | .rl ds => .ok (.list ds)
  | .nx _ => .ok .none
  | .er e _ => .er e
  | _ => .no
@[simp] theorem fin_rt (d : D) : (Out.rt d).fin = .ok d := nr rfl
@[simp] theorem fin_rl (d : List D) : (Out.rl d).fin = .ok (.list d) := nr rfl
@[simp] theorem fin_nx (α : At) : (Out.nx α).fin = .ok .none := nr rfl
@[simp] theorem fin_er (e : Er) (α : At) : (Out.er e α).fin = .er e := nr rfl
theorem fD_ap {n N : Nat} {b : At → Out} {ds : List D} (h : ds.length = n) : fD n N b ds = (b (ds.map AV.dat ++ List.replicate (N - n) AV.un)).fin := by
  unfold fD
  rw [if_pos h]
  rfl
@[simp] theorem forD_nil (tg : Tgt) (b : At → Out) (α : At) : forD tg b [] α = .nx α := nr rfl
@[simp] theorem setTA_nm (i : Nat) (d : D) (α : At) : setTA (.nm i) d α = some (α.set i (.dat d)) := nr rfl
@[simp] theorem setT_nm (i : Nat) (d : D) (β : Bt) : setT (.nm i) d β = some (β.set i (some d)) := nr rfl
theorem forD_nx {tg : Tgt} {b : At → Out} {d : D} {ds : List D} {α α1 α2 : At} (h1 : setTA tg d α = some α1) (h2 : b α1 = .nx α2) : forD tg b (d :: ds) α = forD tg b ds α2 := by
  rw [forD, h1]
  simp only [h2]
theorem forD_rl {tg : Tgt} {b : At → Out} {d : D} {x : List D} {ds : List D} {α α1 : At} (h1 : setTA tg d α = some α1) (h2 : b α1 = .rl x) : forD tg b (d :: ds) α = .rl x := by
  rw [forD, h1]
  simp only [h2]
theorem forD_rt {tg : Tgt} {b : At → Out} {d x : D} {ds : List D} {α α1 : At} (h1 : setTA tg d α = some α1) (h2 : b α1 = .rt x) : forD tg b (d :: ds) α = .rt x := by
  rw [forD, h1]
  simp only [h2]
/-- a loop with an invariant that runs through -/
theorem forD_inv {tg : Tgt} {b : At → Out} (I : List D → At → Prop) (step : ∀ d ds α, I (d :: ds) α → ∃ α1, setTA tg d α = some α1 ∧ ∃ α2, b α1 = .nx α2 ∧ I ds α2) : ∀ ds α, I ds α → ∃ α', forD tg b ds α = .nx α' ∧ I [] α'
  | [], α, h => ⟨α, rfl, h⟩
  | d :: ds, α, h => by
    obtain ⟨α1, h1, α2, h2, h3⟩ := step d ds α h
    rw [forD_nx h1 h2]
    exact forD_inv I step ds α2 h3
/-- a comprehension over what each item gives -/
theorem lcD_map {f : D → Res (Option D)} {g : D → Option D} : ∀ {ds : List D}, (∀ d ∈ ds, f d = .ok (g d)) → lcD f ds = .ok (ds.filterMap g)
  | [], _ => rfl
  | d :: ds, h => by
    unfold lcD
    rw [h d (List.mem_cons_self ..), lcD_map fun x hx => h x (List.mem_cons_of_mem _ hx)]
    cases e : g d <;> simp [e]
theorem lcD_enc {γ : Type} {f : D → Res (Option D)} (enc : γ → D) (g : γ → Option D) : ∀ {xs : List γ}, (∀ x ∈ xs, f (enc x) = .ok (g x)) → lcD f (xs.map enc) = .ok (xs.filterMap g)
  | [], _ => rfl
  | x :: xs, h => by
    rw [List.map_cons]
    unfold lcD
    rw [h x (List.mem_cons_self ..), lcD_enc enc g fun y hy => h y (List.mem_cons_of_mem _ hy)]
    cases e : g x <;> simp [e]
/-- .. when each gives one -/
theorem lcD_all {γ : Type} {f : D → Res (Option D)} (enc : γ → D) (g : γ → D) {xs : List γ} (h : ∀ x ∈ xs, f (enc x) = .ok (some (g x))) : lcD f (xs.map enc) = .ok (xs.map g) := by
  rw [lcD_enc enc (fun x => some (g x)) h]
  congr 1
  induction xs with
  | nil => rfl
  | cons x xs ih => simp
/-- .. when it sieves -/
theorem lcD_sieve {f : D → Res (Option D)} (p : D → Bool) {ds : List D} (h : ∀ d ∈ ds, f d = .ok (if p d = true then some d else none)) : lcD f ds = .ok (ds.filter p) := by
  rw [lcD_map h]
  congr 1
  induction ds with
  | nil => rfl
  | cons x xs ih =>
    have ih := ih fun d hd => h d (List.mem_cons_of_mem _ hd)
    by_cases q : p x = true <;> simp_all
theorem cmD_nm {i : Nat} {t : Bt → Res Bool} {e : Bt → Res D} {β : Bt} {d : D} {c : Bool} (h : t (β.set i (some d)) = .ok c) : cmD (.nm i) t e β d = if c = true then noEr ((e (β.set i (some d))).bind fun y => .ok (some y)) else .ok none := by
  unfold cmD
  simp only [setT_nm, h, Res.bind_ok]
  cases c <;> rfl
@[simp] theorem noEr_ok {α : Type} (x : α) : noEr (.ok x) = .ok x := nr rfl
@[simp] theorem wipeB_nil (β : Bt) : wipeB β [] = β := nr rfl
@[simp] theorem wipeB_cons (β : Bt) (v : Nat) (vs : List Nat) : wipeB β (v :: vs) = (wipeB β vs).set v none := nr rfl
theorem rangeL_eq (n : Nat) : rangeL 0 n = (List.range n).map fun i : Nat => PyData.int i := by
  unfold rangeL
  simp
theorem inR_small {i : Int} (h1 : -4611686018427387904 ≤ i) (h2 : i < 4611686018427387904) : inR i = true := by
  unfold inR
  simp only [Bool.and_eq_true, decide_eq_true_eq]
  omega
@[simp] theorem le_size {n : Nat} (h : n < 16777217) : (n ≤ sizeLine) = True := eq_true (by rw [PySem.sizeLine_eq]; omega)
@[simp] theorem lt_size {n : Nat} (h : n < 16777216) : (n < sizeLine) = True := eq_true (by rw [PySem.sizeLine_eq]; omega)
/-! ### what holds behind a statement -/
inductive ON (P : At → Prop) (R : D → Prop) : Out → Prop
  | nx (α : At) (h : P α) : ON P R (.nx α)
  | rt (d : D) (h : R d) : ON P R (.rt d)
  | rl (d : List D) (h : R (.list d)) : ON P R (.rl d)
def Sat (P : D → Prop) (r : Res D) : Prop := ∃ d, r = .ok d ∧ P d
section
variable {P : At → Prop} {R : D → Prop} {α : At}
@[simp] theorem ON_nx : ON P R (.nx α) = P α := propext ⟨fun h => by cases h; assumption, .nx α⟩
@[simp] theorem ON_rl (d : List D) : ON P R (.rl d) = R (.list d) := propext ⟨fun h => by cases h; assumption, .rl d⟩
@[simp] theorem ON_rt (d : D) : ON P R (.rt d) = R d := propext ⟨fun h => by cases h; assumption, .rt d⟩
theorem ON.imp {P' : At → Prop} {R' : D → Prop} {o : Out} (h : ON P R o) (i : ∀ α, P α → P' α) (j : ∀ d, R d → R' d) : ON P' R' o := by
  cases h with
  | nx α h => exact .nx _ (i _ h)
  | rt d h => exact .rt _ (j _ h)
  | rl d h => exact .rl _ (j _ h)
theorem ON.seq {a b : At → Out} (h : ON (fun α' => ON P R (b α')) R (a α)) : ON P R (sSeq a b α) := by
  rw [sSeq_ap]
  generalize a α = o at h
  cases h with
  | nx α' h => exact h
  | rt d h => exact .rt _ h
  | rl d h => exact .rl _ h
theorem ON.iff {t : At → Res Bool} {a b : At → Out} {c : Bool} (h : t α = .ok c) (h1 : c = true → ON P R (a α)) (h2 : c = false → ON P R (b α)) : ON P R (sIf t a b α) := by
  rw [sIf_ap, h, ofR_ok]
  cases c with
  | true => exact h1 rfl
  | false => exact h2 rfl
theorem ON.for_ {it : Bt → Res (List D)} {tg : Tgt} {b : At → Out} {ds : List D} (I : List D → At → Prop) (hi : it (dats α) = .ok ds) (h0 : I ds α) (step : ∀ d ds α, I (d :: ds) α → ∃ α1, setTA tg d α = some α1 ∧ ON (I ds) R (b α1)) (hd : ∀ α, I [] α → P α) : ON P R (sFor it tg b α) := by
  rw [sFor_ap, hi, ofR_ok]
  clear hi
  induction ds generalizing α with
  | nil => exact .nx _ (hd _ h0)
  | cons d ds ih =>
    obtain ⟨α1, h1, h2⟩ := step d ds α h0
    generalize e : b α1 = o at h2
    cases h2 with
    | nx α2 h =>
      rw [forD_nx h1 e]
      exact ih h
    | rt x h =>
      rw [forD_rt h1 e]
      exact .rt _ h
    | rl x h =>
      rw [forD_rl h1 e]
      exact .rl _ h
theorem Sat.eq {r : Res D} {v : D} (h : Sat (fun d => d = v) r) : r = .ok v := by
  obtain ⟨d, rfl, rfl⟩ := h
  rfl
theorem Sat.fD {n N : Nat} {b : At → Out} {ds : List D} (h : ds.length = n) (k : ON (fun _ => R .none) R (b (ds.map AV.dat ++ List.replicate (N - n) AV.un))) : Sat R (DL.fD n N b ds) := by
  rw [fD_ap h]
  generalize b (ds.map AV.dat ++ List.replicate (N - n) AV.un) = o at k
  cases k with
  | nx α k => exact ⟨_, rfl, k⟩
  | rt d k => exact ⟨_, rfl, k⟩
  | rl d k => exact ⟨_, rfl, k⟩
end
theorem atI_lt {α : Type} (xs : List α) (i : Nat) (h : i < xs.length) : atI xs (i : Int) = some xs[i] := L2.atI_nat (List.getElem?_eq_getElem h)
theorem atI_int {α : Type} (xs : List α) {i : Int} (h0 : 0 ≤ i) (h : i < xs.length) : atI xs i = some (xs[i.toNat]'(by omega)) := by
  have e : ((i.toNat : Nat) : Int) = i := by omega
  have := atI_lt xs i.toNat (by omega)
  rw [e] at this
  exact this
theorem atI_map {γ : Type} (f : γ → D) (xs : List γ) {i : Int} (h0 : 0 ≤ i) (h : i < xs.length) : atI (xs.map f) i = some (f (xs[i.toNat]'(by omega))) := by
  rw [atI_int (xs.map f) h0 (by simpa using h), List.getElem_map]
@[simp] theorem sSetI_ap (i : Nat) (dk d : At → Res D) (α : At) : sSetI i dk d α = ofR (d α) α fun v => ownAt i α fun _ => ofR (dk α) α fun k => ownAt i α fun ds => (match k with
  | .int k => (match ixN ds.length k with
    | some j => .nx (α.set i (.own (ds.set j v)))
    | none => .no)
  | _ => .no) := nr rfl
theorem ixN_int {n : Nat} {i : Int} (h0 : 0 ≤ i) (h : i < n) : ixN n i = some i.toNat := by
  unfold ixN
  rw [if_pos h0, if_pos h]
end DL

/-! PL2: numbers: operators, numbers in lowest terms. -/
namespace DL
open PySem L2
theorem fMod_pos {i k : Int} (h : 0 < k) : fMod (.int i) (.int k) = some (.int (i % k)) := by
  rw [← Int.fmod_eq_emod_of_nonneg _ (by omega)]
  exact if_pos (by omega)
theorem fDiv_pos {i k : Int} (h : 0 < k) (h2 : k < 1073741824) : fDiv (.int i) (.int k) = some (.int (i / k)) := by
  rw [← Int.fdiv_eq_ediv_of_nonneg _ (by omega)]
  refine if_pos ?_
  unfold divOk
  simp only [Bool.or_eq_true, Bool.and_eq_true, decide_eq_true_eq]
  left
  omega
theorem fMul_sm {i k : Int} (h : -18446744073709551616 < k) (h2 : k < 18446744073709551616) : fMul (.int i) (.int k) = some (.int (i * k)) := by
  unfold fMul mulOk small64
  have e : (decide (-(2 ^ 64) < k) && decide (k < 2 ^ 64)) = true := by
    simp only [Bool.and_eq_true, decide_eq_true_eq]
    omega
  simp only [e, Bool.true_or, Bool.or_true, if_pos]
theorem fMul_sm' {i k : Int} (h : -18446744073709551616 < i) (h2 : i < 18446744073709551616) : fMul (.int i) (.int k) = some (.int (i * k)) := by
  unfold fMul mulOk small64
  have e : (decide (-(2 ^ 64) < i) && decide (i < 2 ^ 64)) = true := by
    simp only [Bool.and_eq_true, decide_eq_true_eq]
    omega
  simp only [e, Bool.true_or, if_pos]
@[simp] theorem fAdd_int (i j : Int) : fAdd (.int i) (.int j) = some (.int (i + j)) := nr rfl
@[simp] theorem fSub_int (i j : Int) : fSub (.int i) (.int j) = some (.int (i - j)) := nr rfl
@[simp] theorem fNeg_int (i : Int) : fNeg (.int i) = some (.int (-i)) := nr rfl
@[simp] theorem fEq_int (i j : Int) : fEq (.int i) (.int j) = some (.bool (i == j)) := nr rfl
@[simp] theorem fNe_int (i j : Int) : fNe (.int i) (.int j) = some (.bool !(i == j)) := nr rfl
@[simp] theorem fEq_str (i j : Str) : fEq (.str i) (.str j) = some (.bool (i == j)) := nr rfl
@[simp] theorem fNe_str (i j : Str) : fNe (.str i) (.str j) = some (.bool !(i == j)) := nr rfl
@[simp] theorem fEq_bool (i j : Bool) : fEq (.bool i) (.bool j) = some (.bool (i == j)) := nr rfl
@[simp] theorem fLt_int (i j : Int) : fLt (.int i) (.int j) = some (.bool (decide (i < j))) := nr rfl
def sl (a b : Str) : Bool := decide (a.cps.toList < b.cps.toList)
@[simp] theorem fLt_str (i j : Str) : fLt (.str i) (.str j) = some (.bool (sl i j)) := nr rfl
@[simp] theorem fLe_int (f : Int → Int → Bool) (i j : Int) : fCmp f (.int i) (.int j) = some (.bool (f i j)) := nr rfl
@[simp] theorem fAbs_int (i : Int) : fAbs [.int i] = some (.int (if i < 0 then -i else i)) := nr rfl
@[simp] theorem fInt_int (i : Int) : fInt [.int i] = some (.int i) := nr rfl
@[simp] theorem fInt_bool (k : Bool) : fInt [.bool k] = some (.int (if k then 1 else 0)) := nr rfl
@[simp] theorem fLen_l (xs : List D) : fLen [.list xs] = some (.int xs.length) := nr rfl
@[simp] theorem fLen_t (xs : List D) : fLen [.tuple xs] = some (.int xs.length) := nr rfl
@[simp] theorem fTuple_l (xs : List D) : fTuple [.list xs] = some (.tuple xs) := nr rfl
@[simp] theorem fTuple_t (xs : List D) : fTuple [.tuple xs] = some (.tuple xs) := nr rfl
@[simp] theorem fMin2_int (i j : Int) : fMin2 [.int i, .int j] = some (.int (if j < i then j else i)) := nr rfl
@[simp] theorem fMax2_int (i j : Int) : fMax2 [.int i, .int j] = some (.int (if j > i then j else i)) := nr rfl
@[simp] theorem fRevA_l (xs : List D) : fRevA (.list xs) = some (.list xs.reverse) := nr rfl
@[simp] theorem fRevA_t (xs : List D) : fRevA (.tuple xs) = some (.tuple xs.reverse) := nr rfl
theorem fAdd_l (xs ys : List D) (h : xs.length + ys.length ≤ sizeLine) : fAdd (.list xs) (.list ys) = some (.list (xs ++ ys)) := if_pos h
theorem fAdd_t (xs ys : List D) (h : xs.length + ys.length ≤ sizeLine) : fAdd (.tuple xs) (.tuple ys) = some (.tuple (xs ++ ys)) := if_pos h
theorem fAdd_s (x y : Str) (h : x.length + y.length ≤ sizeLine) : fAdd (.str x) (.str y) = some (.str (x ++ y)) := if_pos h
@[simp] theorem fIx_l (xs : List D) (i : Int) : fIx (.list xs) (.int i) = atI xs i := nr rfl
@[simp] theorem fIx_t (xs : List D) (i : Int) : fIx (.tuple xs) (.int i) = atI xs i := nr rfl
@[simp] theorem atI_z (x : D) (xs : List D) : atI (x :: xs) 0 = some x := by
  have := L2.atI_nat (xs := x :: xs) (j := 0) (v := x) rfl
  simpa using this
/-- places told by a number that is written -/
theorem atI_lit {α : Type} (xs : List α) (i : Nat) (x : α) (h : xs[i]? = some x) : atI xs (OfNat.ofNat i : Int) = some x := L2.atI_nat h
theorem iRange1_ap {a : Bt → Res D} {β : Bt} {n : Int} (h : a β = .ok (.int n)) (h1 : -4611686018427387904 ≤ n) (h2 : n < 4611686018427387904) : iRange1 a β = .ok (rangeL 0 n.toNat) := by
  unfold iRange1
  rw [h]
  exact if_pos (inR_small h1 h2)
end DL
namespace Cm
open PySem L2 DL
def euc : Nat → Nat → Nat → Nat × Nat
  | 0, a, b => (a, b)
  | n + 1, a, b => if b ≠ 0 then euc n b (a % b) else euc n a b
theorem euc_z : ∀ (n a : Nat), euc n a 0 = (a, 0)
  | 0, _ => rfl
  | n + 1, a => by simp [euc, euc_z n a]
theorem euc_gcd : ∀ (n a b : Nat), (b < 2 ^ (n / 2)) → euc n a b = (Nat.gcd a b, 0)
  | 0, a, b, h => by
    have : b = 0 := by simp at h; omega
    subst this
    simp [euc]
  | 1, a, b, h => by
    have : b = 0 := by simp at h; omega
    subst this
    simp [euc]
  | n + 2, a, b, h => by
    by_cases hb : b = 0
    · subst hb
      rw [euc_z]; simp
    · rw [euc, if_pos hb, euc]
      by_cases hc : a % b = 0
      · rw [if_neg (by simpa using hc), hc, euc_z, ← Nat.gcd_comm, Nat.gcd_rec, hc]; simp
      · rw [if_pos hc, euc_gcd n (a % b) (b % (a % b)) ?_]
        · rw [Nat.gcd_comm (a % b), ← Nat.gcd_rec, ← Nat.gcd_rec, Nat.gcd_comm]
        · have h1 : a % b < b := Nat.mod_lt _ (by omega)
          have h2 : b % (a % b) < a % b := Nat.mod_lt _ (by omega)
          have h3 : b = (a % b) * (b / (a % b)) + b % (a % b) := (Nat.div_add_mod _ _).symm
          have h4 : 0 < b / (a % b) := Nat.div_pos (by omega) (by omega)
          have h5 : a % b ≤ (a % b) * (b / (a % b)) := Nat.le_mul_of_pos_right _ h4
          have e : (n + 2) / 2 = n / 2 + 1 := by omega
          rw [e, Nat.pow_succ] at h
          omega
theorem low_loop : ∀ (ds : List D) (n d : D) (a b : Nat) (u v : AV), ∃ u' v', forD (.nm 4)
 (sIf (sD (tV (d2 fNe (dV 3) (dC (.int (0))))))
 (sSeq (sSet 5 (sD (d2 fMod (dN fInt (aCons (dV 2) aNil)) (dV 3))))
 (sSeq (sSet 2 (sD (dV 3)))
 (sSet 3 (sD (dV 5)))))
 sNil) ds [.dat n, .dat d, .dat (.int a), .dat (.int b), u, v] = .nx [.dat n, .dat d, .dat (.int (euc ds.length a b).1), .dat (.int (euc ds.length a b).2), u', v']
  | [], n, d, a, b, u, v => ⟨u, v, rfl⟩
  | x :: ds, n, d, a, b, u, v => by
    by_cases hb : b = 0
    · subst hb
      obtain ⟨u', v', h⟩ := low_loop ds n d a 0 (.dat x) v
      refine ⟨u', v', ?_⟩
      rw [forD_nx (α2 := [.dat n, .dat d, .dat (.int a), .dat (.int (0 : Nat)), .dat x, v]) rfl (by simp [sIf_ap, sSeq_ap]), h]
      simp [euc]
    · obtain ⟨u', v', h⟩ := low_loop ds n d b (a % b) (.dat x) (.dat (.int (a % b : Nat)))
      refine ⟨u', v', ?_⟩
      rw [forD_nx (α2 := [.dat n, .dat d, .dat (.int b), .dat (.int (a % b : Nat)), .dat x, .dat (.int (a % b : Nat))]) rfl (by
        have h0 : (b : Int) ≠ 0 := by omega
        have h1 : fMod (.int a) (.int b) = some (.int ((a % b : Nat) : Int)) := by rw [fMod_pos (by omega)]; rfl
        simp [h0, h1, hb, sIf_ap, sSeq_ap]), h]
      simp [euc, hb]
theorem low_eq {n d : Int} (h : 0 < d) (h2 : d < 1073741824) : f__law_lowest [.int n, .int d] = .ok (.tuple [.int (n / (Int.gcd n d : Nat)), .int (d / (Int.gcd n d : Nat))]) := by
  unfold f__law_lowest
  rw [fD_ap (by rfl)]
  obtain ⟨u', v', hl⟩ := low_loop (rangeL 0 200) (.int n) (.int d) n.natAbs d.natAbs .un .un
  have e1 : (if n < 0 then -n else n) = (n.natAbs : Int) := by omega
  have e2 : d = (d.natAbs : Int) := by omega
  have e3 : euc (rangeL 0 200).length n.natAbs d.natAbs = (Int.gcd n d, 0) := by
    rw [euc_gcd _ _ _ (by
      rw [rangeL_length]
      have : d.natAbs < 1073741824 := by omega
      exact Nat.lt_trans this (by decide))]
    rfl
  rw [e3] at hl
  have g0 : 0 < Int.gcd n d := Int.gcd_pos_of_ne_zero_right _ (by omega)
  have g1 : (Int.gcd n d : Int) ≤ d := by
    have := Nat.le_of_dvd (by omega) (Int.gcd_dvd_natAbs_right n d)
    omega
  rw [← e2] at hl
  have r : DL.inR 200 = true := inR_small (by decide) (by decide)
  unfold b__law_lowest
  simp [sSeq_ap, sFor_ap, iRange1, e1, r, hl, fDiv_pos (i := n) (k := (Int.gcd n d : Nat)) (by omega) (by omega), fDiv_pos (i := d) (k := (Int.gcd n d : Nat)) (by omega) (by omega)]
theorem iRangeL {a : Bt → Res D} {β : Bt} {n : Int} (h : a β = .ok (.int n)) (h1 : -4611686018427387904 ≤ n) (h2 : n < 4611686018427387904) : iRange1 a β = .ok ((List.range n.toNat).map fun i : Nat => PyData.int i) := by
  rw [iRange1_ap h h1 h2, rangeL_eq]
theorem pow18 : fPow (.int 10) (.int 18) = some (.int 1000000000000000000) := by
  unfold fPow
  simp
def NI (sc : D) (c : Nat) (L : List Bool) (rs : List Int) (z : Int) (ds : List D) (α : At) : Prop := (∀ d ∈ ds, ∃ k : Int, d = .int k ∧ 0 ≤ k ∧ k < 1000000) ∧ ∃ (xs rs' : List Int) (u v w x : AV), xs.length + ds.length = c ∧ (∀ x ∈ xs, 0 ≤ x ∧ x < 5040) ∧ rs'.length = rs.length ∧
      α = [AV.dat sc, .dat (.int c), .own (rs'.map PyData.int), .dat (.int z), .dat (.list (L.map .bool)), .own (xs.map PyData.int), u, v, w, x]
theorem numbers_loop (sc : D) (c : Nat) (hc : c < 1000000) (L : List Bool) (rs : List Int) (hL : L.length = rs.length) (h0 : 0 < rs.length) (z : Int) (hz : z = rs.length) : ON (fun _ => False) (fun d => ∃ xs : List Int, d = .list (xs.map PyData.int) ∧ xs.length = c ∧ ∀ x ∈ xs, 0 ≤ x ∧ x < 5040)
 ((sSeq (sFor (iRange1 (dV 1)) (.nm 6)
 (sSeq (sSet 7 (sD (d2 fMod (dV 6) (dV 3))))
 (sIf (sBt (tAnd (tV (d2 fIx (dV 4) (dV 7))) (tV (d2 fGt (d2 fIx (dV 2) (dV 7)) (dC (.int (0)))))))
 (sSeq (sApp 5 (sB (d2 fMod (dN fInt (aCons (d2 fIx (dV 2) (dV 7)) aNil)) (dC (.int (5040))))))
 (sSetI 2 (sD (dV 7)) (sB (d2 fDiv (d2 fIx (dV 2) (dV 7)) (dC (.int (5040)))))))
 (sSeq (sSet 8 (sB (d2 fMod (d2 fMul (d2 fAdd (d2 fAdd (d2 fMod (dN fInt (aCons (d2 fIx (dV 2) (dV 7)) aNil)) (dC (.int (1000003)))) (d2 fMul (dC (.int (17))) (dV 6))) (dC (.int (1)))) (dC (.int (48271)))) (dC (.int (2147483647))))))
 (sSeq (sSet 8 (sD (d2 fMod (d2 fMul (dN fInt (aCons (d2 fAdd (d2 fAdd (dV 8) (d2 fMul (d2 fMul (dV 6) (dV 6)) (dC (.int (7))))) (dC (.int (3)))) aNil)) (dC (.int (69621)))) (dC (.int (1000003))))))
 (sApp 5 (sD (d2 fMod (d2 fDiv (dV 8) (dC (.int (7)))) (dC (.int (5040)))))))))))
 (fun α => (sRet (sD (dV 5))) (frzA 5 α))) [AV.dat sc, .dat (.int c), .own (rs.map PyData.int), .dat (.int z), .dat (.list (L.map .bool)), .own [], .un, .un, .un, .un]) := by
  refine ON.seq (ON.imp (P := fun α => ∃ xs : List Int, xs.length = c ∧ (∀ x ∈ xs, 0 ≤ x ∧ x < 5040) ∧ α[5]? = some (.own (xs.map PyData.int))) (R := fun _ => False) ?_ ?_ (fun _ h => h.elim))
  · refine ON.for_ (NI sc c L rs z)
      (iRangeL (n := c) (by simp) (by omega) (by omega)) ?_ ?_ ?_
    · refine ⟨fun d hd => ?_, [], rs, .un, .un, .un, .un, by simp, by simp, rfl, rfl⟩
      obtain ⟨k, hk, rfl⟩ := List.mem_map.mp hd
      exact ⟨k, rfl, by omega, by simp at hk; omega⟩
    · rintro d ds α ⟨hk, xs, rs', u, v, w, x, hl, hx, hr, rfl⟩
      obtain ⟨k, rfl, hk0, hk1⟩ := hk d (List.mem_cons_self ..)
      refine ⟨_, rfl, ON.seq ?_⟩
      have m1 : fMod (.int k) (.int z) = some (.int (k % z)) := fMod_pos (by omega)
      have ht0 : 0 ≤ k % z := Int.emod_nonneg _ (by omega)
      have ht : k % z < z := Int.emod_lt_of_pos _ (by omega)
      have hk' : ∀ d ∈ ds, ∃ k : Int, d = .int k ∧ 0 ≤ k ∧ k < 1000000 := fun d hd => hk d (List.mem_cons_of_mem _ hd)
      clear hk
      simp only [List.length_cons] at hl
      simp only [sSet_ap, sD_ap, d2_ap, dats_cons, dt_d, dt_o, dt_u, dV_s, dV_z, Res.bind_ok, Res.of_some, ofR_ok, List.set, m1, ON_nx]
      generalize k % z = t at ht ht0
      have q1 : atI (L.map PyData.bool) t = some (.bool (L[t.toNat]'(by omega))) := atI_map _ _ ht0 (by omega)
      have q2 : atI (rs'.map PyData.int) t = some (.int (rs'[t.toNat]'(by omega))) := atI_map _ _ ht0 (by omega)
      have lx : xs.length < 16777216 := by omega
      refine ON.iff (c := L[t.toNat]'(by omega) && decide (0 < rs'[t.toNat]'(by omega))) ?_ (fun hc => ?_) (fun hc => ?_)
      · cases e : L[t.toNat]'(by omega) <;> simp [q1, q2, e]
      · refine ON.seq ?_
        simp [q2, fMod_pos, lx]
        have i1 : ixN rs'.length t = some t.toNat := ixN_int (by omega) (by omega)
        simp [q2, fDiv_pos, i1]
        refine ⟨hk', xs ++ [rs'[t.toNat]'(by omega) % 5040], rs'.set t.toNat (rs'[t.toNat]'(by omega) / 5040), _, _, _, _, by simp; omega, ?_, by simpa using hr, by simp; exact ⟨rfl, rfl, rfl, rfl⟩⟩
        intro x hx'
        rcases List.mem_append.mp hx' with h | h
        · exact hx x h
        · simp at h
          omega
      · have b1 : True := trivial
        refine ON.seq (ON.imp (P := fun α => ∃ m : Int, α = [AV.dat sc, .dat (.int c), .own (rs'.map PyData.int), .dat (.int z), .dat (.list (L.map .bool)), .own (xs.map PyData.int), .dat (.int k), .dat (.int t), .dat (.int m), x]) (R := fun _ => False) ?_ ?_ (fun _ h => h.elim))
        · simp [q2, fMod_pos, fMul_sm, fMul_sm']
        rintro α ⟨m, rfl⟩
        have w1 : fMul (.int k) (.int k) = some (.int (k * k)) := fMul_sm' (by omega) (by omega)
        refine ON.seq (ON.imp (P := fun α => ∃ m : Int, α = [AV.dat sc, .dat (.int c), .own (rs'.map PyData.int), .dat (.int z), .dat (.list (L.map .bool)), .own (xs.map PyData.int), .dat (.int k), .dat (.int t), .dat (.int m), x]) (R := fun _ => False) ?_ ?_ (fun _ h => h.elim))
        · have w2 : fMul (.int (k * k)) (.int 7) = some (.int (k * k * 7)) := fMul_sm (by decide) (by decide)
          have w3 : fMul (.int (m + k * k * 7 + 3)) (.int 69621) = some (.int ((m + k * k * 7 + 3) * 69621)) := fMul_sm (by decide) (by decide)
          have w4 : fMod (.int ((m + k * k * 7 + 3) * 69621)) (.int 1000003) = some (.int ((m + k * k * 7 + 3) * 69621 % 1000003)) := fMod_pos (by decide)
          generalize (m + k * k * 7 + 3) * 69621 % 1000003 = m2 at w4
          simp only [sSet_ap, sD_ap, d2_ap, dN_ap, aCons_ap, aNil_ap, dC_ap, dats_cons, dt_d, dt_o, dV_s, dV_z, Res.bind_ok, Res.of_some, w1, w2, w3, w4, fAdd_int, fInt_int, ofR_ok, List.set, ON_nx]
          exact ⟨m2, rfl⟩
        rintro α ⟨m, rfl⟩
        simp [fMod_pos, fDiv_pos, lx]
        refine ⟨hk', xs ++ [_ ], rs', _, _, _, _, by simp; omega, ?_, hr, by simp; exact ⟨rfl, rfl, rfl, rfl, rfl⟩⟩
        intro x hx'
        rcases List.mem_append.mp hx' with h | h
        · exact hx x h
        · simp at h
          omega
    · rintro α ⟨_, xs, rs', u, v, w, x, hl, hx, hr, rfl⟩
      exact ⟨xs, by simpa using hl, hx, rfl⟩
  · rintro α ⟨xs, hl, hx, ha⟩
    have e : frzA 5 α = α.set 5 (.dat (.list (xs.map PyData.int))) := by unfold DL.frzA; rw [ha]
    have l5 : 5 < α.length := (List.getElem?_eq_some_iff.mp ha).1
    have v : dV 5 (dats (frzA 5 α)) = .ok (.list (xs.map PyData.int)) := by
      unfold dV dats
      rw [e, List.getElem?_map, List.getElem?_set_self l5]
      rfl
    show ON _ _ (ofR (dV 5 (dats (frzA 5 α))) (frzA 5 α) fun x => Out.rt x)
    rw [v, ofR_ok]
    exact .rt _ ⟨xs, rfl, hl, hx⟩
theorem numbers_ok (ns : List Int) (hn : ns.length < 16777217) (c : Nat) (hc : c < 1000000) : Sat (fun d => ∃ xs : List Int, d = .list (xs.map PyData.int) ∧ xs.length = c ∧ ∀ x ∈ xs, 0 ≤ x ∧ x < 5040) (f__law_numbers [.dict [(.none, .list (ns.map PyData.int))], .int c]) := by
  refine Sat.fD rfl ?_
  unfold b__law_numbers
  have e1 : fSl (.dict [(.none, .list (ns.map PyData.int))]) none (some 63) = some (.list ((cutD ns none (some 63)).map PyData.int)) := by
    simp [fSl, cutD, List.map_take, List.map_drop]
  have l1 : (cutD ns none (some 63)).length < 16777217 := by
    simp [cutD]; omega
  generalize cutD ns none (some 63) = cs at e1 l1
  have e2 : lcD (cmD (.nm 9) yesT (dN fInt (aCons (dV 9) aNil)) [some (.dict [(.none, .list (ns.map PyData.int))]), some (.int c), none, none, none, none, none, none, none, none]) (cs.map PyData.int) = .ok (cs.map PyData.int) := lcD_all _ _ fun x _ => rfl
  refine ON.seq ?_
  simp [e1, l1, List.set, e2]
  -- an empty script stands as [0]
  refine ON.seq (ON.imp (P := fun α => ∃ rs : List Int, 0 < rs.length ∧ rs.length < 16777217 ∧ α = [AV.dat (.dict [(.none, .list (ns.map PyData.int))]), .dat (.int c), .own (rs.map PyData.int), .un, .un, .un, .un, .un, .un, .un]) (R := fun _ => False) ?_ ?_ (fun _ h => h.elim))
  · refine ON.iff (c := ((cs.length : Int) == 0)) (by simp) (fun h => ?_) (fun h => ?_)
    · simp
      exact ⟨[0], by decide, by decide, rfl⟩
    · simp
      refine ⟨cs, ?_, l1, rfl⟩
      cases cs with
      | nil => simp at h
      | cons => simp
  clear e2 e1
  rintro α ⟨rs, h0, h1, rfl⟩
  refine ON.seq ?_
  simp
  refine ON.seq ?_
  have e3 : ∃ L : List Bool, L.length = rs.length ∧ lcD (cmD (.nm 9) yesT (d2 fGe (dV 9) (d2 fPow (dC (.int 10)) (dC (.int 18)))) [some (.dict [(.none, .list (ns.map PyData.int))]), some (.int c), some (.list (rs.map PyData.int)), some (.int rs.length), none, none, none, none, none, none]) (rs.map PyData.int) = .ok (L.map .bool) :=
    ⟨rs.map fun x => decide (1000000000000000000 ≤ x), by simp, by rw [List.map_map]; exact lcD_all _ _ fun x _ => by simp [cmD, pow18]⟩
  obtain ⟨L, hL, e3⟩ := e3
  have n3 : noLs (L.map .bool) = true := by
    clear e3 hL
    induction L with
    | nil => rfl
    | cons x rs ih => exact ih
  simp [h1, e3, n3]
  refine ON.seq ?_
  simp
  exact numbers_loop _ c hc L rs hL h0 _ rfl
end Cm

/-! PL3: rows in order: keys, lists that rise by their keys. -/
namespace DL
open PySem L2
theorem sx {a b : Str} (h : a.cps.toList = b.cps.toList) : a = b := by
  obtain ⟨⟨x⟩⟩ := a
  obtain ⟨⟨y⟩⟩ := b
  exact congrArg (fun z => Str.mk ⟨z⟩) h
theorem sl_irr (a : Str) : sl a a = false := decide_eq_false (List.lt_irrefl _)
theorem sl_tr {a b c : Str} (h : sl a b = true) (k : sl b c = true) : sl a c = true := decide_eq_true (List.lt_trans (of_decide_eq_true h) (of_decide_eq_true k))
theorem sl_tri {a b : Str} (h : sl a b = false) (k : sl b a = false) : a = b :=
  sx (List.le_antisymm (List.not_lt.mp (of_decide_eq_false k)) (List.not_lt.mp (of_decide_eq_false h)))
abbrev Ky := Str × Str
def kl (a b : Ky) : Bool := sl a.1 b.1 || (decide (a.1 = b.1) && sl a.2 b.2)
theorem kl_irr (a : Ky) : kl a a = false := by simp [kl, sl_irr]
theorem kl_tr {a b c : Ky} (h : kl a b = true) (k : kl b c = true) : kl a c = true := by
  simp only [kl, Bool.or_eq_true, Bool.and_eq_true, decide_eq_true_eq] at *
  rcases h with h | ⟨e, h⟩ <;> rcases k with k | ⟨e2, k⟩
  · exact .inl (sl_tr h k)
  · exact .inl (e2 ▸ h)
  · exact .inl (e ▸ k)
  · exact .inr ⟨e.trans e2, sl_tr h k⟩
theorem kl_tri {a b : Ky} (h : kl a b = false) (k : kl b a = false) : a = b := by
  simp only [kl, Bool.or_eq_false_iff, Bool.and_eq_false_iff, decide_eq_false_iff_not] at *
  have e := sl_tri h.1 k.1
  have h2 := h.2.resolve_left fun z => z e
  have k2 := k.2.resolve_left fun z => z e.symm
  exact Prod.ext e (sl_tri h2 k2)
/-! ### rising lists -/
section
variable {γ : Type} {key : γ → Ky}
def Ris (key : γ → Ky) (l : List γ) : Prop := l.Pairwise fun a b => kl (key a) (key b) = true
theorem Ris.cons {x : γ} {l : List γ} : Ris key (x :: l) ↔ (∀ y ∈ l, kl (key x) (key y) = true) ∧ Ris key l := List.pairwise_cons
theorem Ris.not_mem {x : γ} {l : List γ} (h : Ris key (x :: l)) : x ∉ l := fun z => by
  have := (Ris.cons.mp h).1 x z
  rw [kl_irr] at this
  cases this
/-- rising lists with like members are like -/
theorem Ris.ext : ∀ {l m : List γ}, Ris key l → Ris key m → (∀ x, x ∈ l ↔ x ∈ m) → l = m
  | [], [], _, _, _ => rfl
  | [], y :: m, _, _, h => absurd ((h y).mpr (List.mem_cons_self ..)) (by simp)
  | x :: l, [], _, _, h => absurd ((h x).mp (List.mem_cons_self ..)) (by simp)
  | x :: l, y :: m, h1, h2, h => by
    have a := Ris.cons.mp h1
    have b := Ris.cons.mp h2
    have e : x = y := by
      by_cases e : x = y
      · exact e
      · have q1 : x ∈ m := ((List.mem_cons.mp ((h x).mp (List.mem_cons_self ..))).resolve_left e)
        have q2 : y ∈ l := ((List.mem_cons.mp ((h y).mpr (List.mem_cons_self ..))).resolve_left fun z => e z.symm)
        have z := kl_tr (a.1 y q2) (b.1 x q1)
        rw [kl_irr] at z
        cases z
    subst e
    refine congrArg (x :: ·) (Ris.ext a.2 b.2 fun z => ⟨fun hz => ?_, fun hz => ?_⟩)
    · exact (List.mem_cons.mp ((h z).mp (List.mem_cons_of_mem _ hz))).resolve_left fun e => h1.not_mem (e ▸ hz)
    · exact (List.mem_cons.mp ((h z).mpr (List.mem_cons_of_mem _ hz))).resolve_left fun e => h2.not_mem (e ▸ hz)
/-- like keys, like rows -/
theorem Ris.inj : ∀ {l : List γ}, Ris key l → ∀ {x y : γ}, x ∈ l → y ∈ l → key x = key y → x = y
  | [], _, _, _, h, _, _ => by cases h
  | z :: l, h, x, y, hx, hy, e => by
    have a := Ris.cons.mp h
    rcases List.mem_cons.mp hx with rfl | hx' <;> rcases List.mem_cons.mp hy with rfl | hy'
    · rfl
    · have q := a.1 y hy'
      rw [e, kl_irr] at q
      cases q
    · have q := a.1 x hx'
      rw [e, kl_irr] at q
      cases q
    · exact Ris.inj a.2 hx' hy' e
/-- x put at its place -/
def put (key : γ → Ky) (l : List γ) (x : γ) : List γ := (l.filter fun y => kl (key y) (key x)) ++ [x] ++ l.filter fun y => kl (key x) (key y)
theorem put_mem {l : List γ} {x y : γ} : y ∈ put key l x ↔ y = x ∨ (y ∈ l ∧ key y ≠ key x) := by
  simp only [put, List.mem_append, List.mem_filter, List.mem_singleton]
  constructor
  · rintro ((⟨h, k⟩ | h) | ⟨h, k⟩)
    · exact .inr ⟨h, fun e => by rw [e, kl_irr] at k; cases k⟩
    · exact .inl h
    · exact .inr ⟨h, fun e => by rw [e, kl_irr] at k; cases k⟩
  · rintro (h | ⟨h, k⟩)
    · exact .inl (.inr h)
    · cases q : kl (key y) (key x) with
      | true => exact .inl (.inl ⟨h, rfl⟩)
      | false =>
        cases q2 : kl (key x) (key y) with
        | true => exact .inr ⟨h, rfl⟩
        | false => exact absurd (kl_tri q q2) k
theorem put_ris {l : List γ} {x : γ} (h : Ris key l) : Ris key (put key l x) := by
  unfold put Ris
  rw [List.append_assoc, List.pairwise_append]
  refine ⟨h.filter _, ?_, fun a ha b hb => ?_⟩
  · rw [List.singleton_append, List.pairwise_cons]
    exact ⟨fun a ha => (List.mem_filter.mp ha).2, h.filter _⟩
  · have q := (List.mem_filter.mp ha).2
    rcases List.mem_append.mp hb with hb | hb
    · rw [List.mem_singleton.mp hb]; exact q
    · exact kl_tr q (List.mem_filter.mp hb).2
theorem two_sieves {l : List γ} {p q : γ → Bool} (h : ∀ x, p x = true → q x = false) : (l.filter p).length + (l.filter q).length ≤ l.length := by
  induction l with
  | nil => simp
  | cons x l ih =>
    simp only [List.filter_cons]
    cases e : p x with
    | true =>
      rw [h x e]
      simp
      omega
    | false =>
      cases q x <;> simp <;> omega
theorem put_len {l : List γ} {x : γ} : (put key l x).length ≤ l.length + 1 := by
  have := two_sieves (l := l) (p := fun y => kl (key y) (key x)) (q := fun y => kl (key x) (key y)) fun y h => by
    cases e : kl (key x) (key y) with
    | false => rfl
    | true =>
      have z := kl_tr h e
      rw [kl_irr] at z
      cases z
  simp only [put, List.length_append, List.length_singleton]
  omega
def cut (key : γ → Ky) (l : List γ) (k : Ky) : List γ := l.filter fun y => decide (key y ≠ k)
theorem cut_mem {l : List γ} {k : Ky} {y : γ} : y ∈ cut key l k ↔ y ∈ l ∧ key y ≠ k := by
  simp [cut]
theorem cut_ris {l : List γ} {k : Ky} (h : Ris key l) : Ris key (cut key l k) := h.filter _
theorem put_self {l : List γ} {x : γ} (h : Ris key l) (hx : x ∈ l) : put key l x = l :=
  Ris.ext (put_ris h) h fun y => by
    rw [put_mem]
    exact ⟨fun z => z.elim (fun e => e ▸ hx) fun z => z.1, fun z => by
      by_cases e : key y = key x
      · exact .inl (h.inj z hx e)
      · exact .inr ⟨z, e⟩⟩
/-! ### edits -/
inductive Ed (γ : Type) where
  | put (x : γ)
  | drop (k : Ky)
def Ed.ky (ke : γ → Ky) : Ed γ → Ky
  | .put x => ke x
  | .drop k => k
def app (key : γ → Ky) (l : List γ) : Ed γ → List γ
  | .put x => DL.put key l x
  | .drop k => DL.cut key l k
theorem app_ris {l : List γ} {e : Ed γ} (h : Ris key l) : Ris key (app key l e) := by
  cases e with
  | put x => exact put_ris h
  | drop k => exact cut_ris h
/-- what puts and drops of different keys make -/
theorem drops_mem {ks : List Ky} : ∀ {l : List γ} {y : γ}, y ∈ (ks.map Ed.drop).foldl (app key) l ↔ y ∈ l ∧ key y ∉ ks := by
  induction ks with
  | nil => intro l y; simp
  | cons k ks ih =>
    intro l y
    rw [List.map_cons, List.foldl_cons, ih]
    show y ∈ DL.cut key l k ∧ _ ↔ _
    rw [cut_mem, List.mem_cons, not_or, and_assoc]
theorem puts_mem {xs : List γ} : ∀ {l : List γ} {y : γ}, Ris key xs → (y ∈ (xs.map Ed.put).foldl (app key) l ↔ y ∈ xs ∨ (y ∈ l ∧ ∀ x ∈ xs, key y ≠ key x)) := by
  induction xs with
  | nil => intro l y _; simp
  | cons x xs ih =>
    intro l y h
    have h' := Ris.cons.mp h
    rw [List.map_cons, List.foldl_cons, ih h'.2]
    show y ∈ xs ∨ (y ∈ DL.put key l x ∧ _) ↔ _
    rw [put_mem]
    simp only [List.mem_cons]
    constructor
    · rintro (h1 | ⟨rfl | ⟨h1, h2⟩, h3⟩)
      · exact .inl (.inr h1)
      · exact .inl (.inl rfl)
      · exact .inr ⟨h1, fun z hz => hz.elim (fun e => e ▸ h2) (h3 z)⟩
    · rintro ((rfl | h1) | ⟨h1, h2⟩)
      · exact .inr ⟨.inl rfl, fun z hz e => by
          have q := h'.1 z hz
          rw [e, kl_irr] at q
          cases q⟩
      · exact .inl h1
      · exact .inr ⟨.inr ⟨h1, h2 x (.inl rfl)⟩, fun z hz => h2 z (.inr hz)⟩
theorem fold_ris {es : List (Ed γ)} : ∀ {l : List γ}, Ris key l → Ris key (es.foldl (app key) l) := by
  induction es with
  | nil => intro l h; exact h
  | cons e es ih => intro l h; exact ih (app_ris h)
theorem app_len {l : List γ} {e : Ed γ} : (app key l e).length ≤ l.length + 1 := by
  cases e with
  | put x => exact put_len
  | drop k => exact Nat.le_succ_of_le (List.length_filter_le ..)
open Classical in
/-- what differs -/
noncomputable def diff (key : γ → Ky) (b r : List γ) : List (Ed γ) := ((b.filter fun x => decide (key x ∉ r.map key)).map key).map Ed.drop ++ (r.filter fun x => decide (x ∉ b)).map Ed.put
theorem diff_app {b r : List γ} (hb : Ris key b) (hr : Ris key r) : (diff key b r).foldl (app key) b = r := by
  classical
  refine Ris.ext (fold_ris hb) hr fun y => ?_
  unfold diff
  rw [List.foldl_append, puts_mem (hr.filter _), drops_mem]
  simp only [List.mem_filter, decide_eq_true_eq, List.mem_map, not_exists, not_and]
  constructor
  · rintro (⟨h, _⟩ | ⟨⟨h1, h2⟩, h3⟩)
    · exact h
    · by_cases q : ∃ x ∈ r, key x = key y
      · obtain ⟨x, hx, e⟩ := q
        by_cases hb' : x ∈ b
        · rw [← hb.inj hb' h1 e]; exact hx
        · exact absurd e.symm (h3 x ⟨hx, hb'⟩)
      · exact absurd rfl (h2 y ⟨h1, fun x hx e => q ⟨x, hx, e⟩⟩)
  · intro h
    by_cases hy : y ∈ b
    · refine .inr ⟨⟨hy, fun x hx e => ?_⟩, fun x hx e => ?_⟩
      · exact hx.2 y h e.symm
      · have := hr.inj h hx.1 e
        exact hx.2 (this ▸ hy)
    · exact .inl ⟨h, hy⟩
/-- the undoing of an edit -/
def undo (key : γ → Ky) (l : List γ) (e : Ed γ) : Ed γ := match l.find? fun y => decide (key y = e.ky key) with
  | some r => .put r
  | none => .drop (e.ky key)
theorem find_key {l : List γ} {k : Ky} {r : γ} (h : l.find? (fun y => decide (key y = k)) = some r) : r ∈ l ∧ key r = k := ⟨List.mem_of_find?_eq_some h, by simpa using List.find?_some h⟩
theorem find_no {l : List γ} {k : Ky} (h : l.find? (fun y => decide (key y = k)) = none) : ∀ y ∈ l, key y ≠ k := fun y hy => by simpa using List.find?_eq_none.mp h y hy
theorem undo_app {l : List γ} {e : Ed γ} (h : Ris key l) : app key (app key l e) (undo key l e) = l := by
  refine Ris.ext (app_ris (app_ris h)) h fun y => ?_
  unfold undo
  cases q : l.find? fun y => decide (key y = e.ky key) with
  | some r =>
    obtain ⟨h1, h2⟩ := find_key q
    show y ∈ DL.put key _ r ↔ _
    rw [put_mem]
    cases e with
    | put x =>
      show y = r ∨ (y ∈ DL.put key l x ∧ _) ↔ _
      rw [put_mem]
      have h2 : key r = key x := h2
      constructor
      · rintro (rfl | ⟨rfl | ⟨z, _⟩, w⟩)
        · exact h1
        · exact absurd h2.symm w
        · exact z
      · intro z
        by_cases e : key y = key r
        · exact .inl (h.inj z h1 e)
        · exact .inr ⟨.inr ⟨z, fun e2 => e (e2.trans h2.symm)⟩, e⟩
    | drop k =>
      show y = r ∨ (y ∈ DL.cut key l k ∧ _) ↔ _
      rw [cut_mem]
      have h2 : key r = k := h2
      constructor
      · rintro (rfl | ⟨⟨z, _⟩, w⟩)
        · exact h1
        · exact z
      · intro z
        by_cases e : key y = key r
        · exact .inl (h.inj z h1 e)
        · exact .inr ⟨⟨z, fun e2 => e (e2.trans h2.symm)⟩, e⟩
  | none =>
    have no := find_no q
    show y ∈ DL.cut key _ _ ↔ _
    rw [cut_mem]
    cases e with
    | put x =>
      show (y ∈ DL.put key l x ∧ _) ↔ _
      rw [put_mem]
      constructor
      · rintro ⟨rfl | ⟨z, _⟩, w⟩
        · exact absurd rfl w
        · exact z
      · intro z
        exact ⟨.inr ⟨z, no y z⟩, no y z⟩
    | drop k =>
      show (y ∈ DL.cut key l k ∧ _) ↔ _
      rw [cut_mem]
      exact ⟨fun z => z.1.1, fun z => ⟨⟨z, no y z⟩, no y z⟩⟩
def undos (key : γ → Ky) : List γ → List (Ed γ) → List (Ed γ)
  | _, [] => []
  | l, e :: es => undo key l e :: undos key (app key l e) es
theorem undos_app : ∀ {es : List (Ed γ)} {l : List γ}, Ris key l → (undos key l es).reverse.foldl (app key) (es.foldl (app key) l) = l
  | [], _, _ => rfl
  | e :: es, l, h => by
    rw [undos, List.reverse_cons, List.foldl_append, List.foldl_cons (a := e), undos_app (app_ris h)]
    exact undo_app h
def Ed.may (ke : γ → Ky) (ok : γ → Prop) (l : List γ) : Ed γ → Prop
  | .put x => ok x
  | .drop k => ∃ x ∈ l, ke x = k
/-- edits that may be made: what is dropped is there, what is put is as it ought to be -/
def Val (key : γ → Ky) (ok : γ → Prop) : List γ → List (Ed γ) → Prop
  | _, [] => True
  | l, e :: es => e.may key ok l ∧ Val key ok (app key l e) es
theorem val_append {ok : γ → Prop} : ∀ {es fs : List (Ed γ)} {l : List γ}, Val key ok l (es ++ fs) ↔ Val key ok l es ∧ Val key ok (es.foldl (app key) l) fs
  | [], _, _ => by simp [Val]
  | e :: es, fs, l => by
    rw [List.cons_append, Val, Val, val_append, List.foldl_cons, and_assoc]
theorem val_puts {ok : γ → Prop} : ∀ {xs : List γ} {l : List γ}, (∀ x ∈ xs, ok x) → Val key ok l (xs.map Ed.put)
  | [], _, _ => trivial
  | x :: xs, l, h => ⟨h x (List.mem_cons_self ..), val_puts fun y hy => h y (List.mem_cons_of_mem _ hy)⟩
theorem val_drops {ok : γ → Prop} : ∀ {xs l : List γ}, Ris key xs → (∀ x ∈ xs, x ∈ l) → Val key ok l ((xs.map key).map Ed.drop)
  | [], _, _, _ => trivial
  | x :: xs, l, h, k => ⟨⟨x, k x (List.mem_cons_self ..), rfl⟩, val_drops (Ris.cons.mp h).2 fun y hy => cut_mem.mpr ⟨k y (List.mem_cons_of_mem _ hy), fun e => by
      have q := (Ris.cons.mp h).1 y hy
      rw [e, kl_irr] at q
      cases q⟩⟩
theorem val_diff {ok : γ → Prop} {b r : List γ} (hb : Ris key b) (hr : ∀ x ∈ r, ok x) : Val key ok b (diff key b r) := by
  unfold diff
  rw [val_append]
  exact ⟨val_drops (hb.filter _) fun x hx => (List.mem_filter.mp hx).1, val_puts fun x hx => hr x (List.mem_filter.mp hx).1⟩
theorem app_ok {ok : γ → Prop} {l : List γ} {e : Ed γ} (h : ∀ x ∈ l, ok x) (v : e.may key ok l) : ∀ x ∈ app key l e, ok x := by
  cases e with
  | put y =>
    intro x hx
    rcases put_mem.mp hx with rfl | hx
    · exact v
    · exact h x hx.1
  | drop k => exact fun x hx => h x (cut_mem.mp hx).1
theorem val_undos {ok : γ → Prop} : ∀ {es : List (Ed γ)} {l : List γ}, Ris key l → (∀ x ∈ l, ok x) → Val key ok l es → Val key ok (es.foldl (app key) l) (undos key l es).reverse
  | [], _, _, _, _ => trivial
  | e :: es, l, h, hl, v => by
    obtain ⟨v1, v2⟩ := v
    rw [undos, List.reverse_cons, val_append, List.foldl_cons]
    refine ⟨val_undos (app_ris h) (app_ok hl v1) v2, ?_⟩
    rw [undos_app (app_ris h)]
    refine ⟨?_, trivial⟩
    unfold undo
    cases q : l.find? fun y => decide (key y = e.ky key) with
    | some r => exact hl r (find_key q).1
    | none =>
      have no := find_no q
      cases e with
      | put x => exact ⟨x, put_mem.mpr (.inl rfl), rfl⟩
      | drop k =>
        obtain ⟨x, hx, hk⟩ := v1
        exact absurd hk (no x hx)
theorem undos_len : ∀ {es : List (Ed γ)} {l : List γ}, (undos key l es).length = es.length
  | [], _ => rfl
  | e :: es, l => congrArg Nat.succ undos_len
end
end DL

/-! PL4: plain data; when two are the same. -/
namespace DL
open PySem L2
def Pl : Nat → D → Bool
  | _, .int _ => true
  | _, .str s => PyData.strOk s
  | n + 1, .tuple ds => decide (ds.length < 1000) && ds.all (Pl n)
  | _, _ => false
theorem Pl.up : ∀ {n : Nat} {d : D}, Pl n d = true → Pl (n + 1) d = true
  | n, .int _, _ => by cases n <;> rfl
  | n, .str _, h => by cases n <;> exact h
  | n + 1, .tuple ds, h => by
    simp only [Pl, Bool.and_eq_true, List.all_eq_true] at h ⊢
    exact ⟨h.1, fun x hx => Pl.up (h.2 x hx)⟩
  | 0, .tuple _, h => by simp [Pl] at h
  | 0, .none, h => by simp [Pl] at h
  | 0, .bool _, h => by simp [Pl] at h
  | 0, .list _, h => by simp [Pl] at h
  | 0, .dict _, h => by simp [Pl] at h
  | n + 1, .none, h => by simp [Pl] at h
  | n + 1, .bool _, h => by simp [Pl] at h
  | n + 1, .list _, h => by simp [Pl] at h
  | n + 1, .dict _, h => by simp [Pl] at h
theorem Pl.mono {n m : Nat} {d : D} (h : Pl n d = true) (hm : n ≤ m) : Pl m d = true := by
  induction hm with
  | refl => exact h
  | step _ ih => exact Pl.up ih
/-- the kinds of plain data -/
theorem Pl.inv {n : Nat} {d : D} (h : Pl n d = true) : (∃ i, d = .int i) ∨ (∃ s, d = .str s ∧ PyData.strOk s = true) ∨ ∃ m ds, n = m + 1 ∧ d = .tuple ds ∧ ds.length < 1000 ∧ ∀ x ∈ ds, Pl m x = true := by
  cases d with
  | int i => exact .inl ⟨i, rfl⟩
  | str s => exact .inr (.inl ⟨s, rfl, by cases n <;> exact h⟩)
  | tuple ds =>
    cases n with
    | zero => simp [Pl] at h
    | succ m =>
      simp only [Pl, Bool.and_eq_true, List.all_eq_true, decide_eq_true_eq] at h
      exact .inr (.inr ⟨m, ds, rfl, rfl, h.1, h.2⟩)
  | none => cases n <;> simp [Pl] at h
  | bool _ => cases n <;> simp [Pl] at h
  | list _ => cases n <;> simp [Pl] at h
  | dict _ => cases n <;> simp [Pl] at h
theorem layAll {n : Nat} (ih : ∀ {d : D}, Pl n d = true → d.canLay0 = true) {ds : List D} (q : ∀ x ∈ ds, Pl n x = true) : PyData.canLayAll0 ds = true := by
  induction ds with
  | nil => rfl
  | cons x xs ih2 =>
    rw [PyData.canLayAll0, Bool.and_eq_true]
    exact ⟨ih (q x (List.mem_cons_self ..)), ih2 fun y hy => q y (List.mem_cons_of_mem _ hy)⟩
theorem depAll {n : Nat} (ih : ∀ {d : D}, Pl n d = true → d.depth ≤ n) {ds : List D} (q : ∀ x ∈ ds, Pl n x = true) : PyData.depthAll ds ≤ n := by
  induction ds with
  | nil => simp [PyData.depthAll]
  | cons x xs ih2 =>
    have h1 := ih (q x (List.mem_cons_self ..))
    have h2 := ih2 fun y hy => q y (List.mem_cons_of_mem _ hy)
    rw [PyData.depthAll]
    omega
theorem Pl.lay {n : Nat} : ∀ {d : D}, Pl n d = true → d.canLay0 = true := by
  induction n with
  | zero =>
    intro d h
    rcases Pl.inv h with ⟨i, rfl⟩ | ⟨s, rfl, q⟩ | ⟨m, ds, e, _⟩
    · simp [PyData.canLay0]
    · simpa only [PyData.canLay0] using q
    · cases e
  | succ n ih =>
    intro d h
    rcases Pl.inv h with ⟨i, rfl⟩ | ⟨s, rfl, q⟩ | ⟨m, ds, e, rfl, _, q⟩
    · simp [PyData.canLay0]
    · simpa only [PyData.canLay0] using q
    · cases e
      rw [PyData.canLay0]
      exact layAll ih q
theorem Pl.dep {n : Nat} : ∀ {d : D}, Pl n d = true → d.depth ≤ n := by
  induction n with
  | zero =>
    intro d h
    rcases Pl.inv h with ⟨i, rfl⟩ | ⟨s, rfl, q⟩ | ⟨m, ds, e, _⟩
    · simp [PyData.depth]
    · simp [PyData.depth]
    · cases e
  | succ n ih =>
    intro d h
    rcases Pl.inv h with ⟨i, rfl⟩ | ⟨s, rfl, q⟩ | ⟨m, ds, e, rfl, _, q⟩
    · simp [PyData.depth]
    · simp [PyData.depth]
    · cases e
      rw [PyData.depth]
      have := depAll ih q
      omega
theorem Pl.shaped {n : Nat} {d : D} (h : Pl n d = true) (hn : n ≤ 60) : SeqAt.shaped d = true := by
  have := Pl.dep h
  exact Bool.and_eq_true_iff.mpr ⟨Pl.lay h, decide_eq_true (by omega)⟩
theorem shapedL {n : Nat} {ds : List D} (h : ∀ d ∈ ds, Pl n d = true) (hn : n ≤ 60) : SeqAt.shaped (.list ds) = true ∧ SeqAt.shaped (.tuple ds) = true := by
  have a := layAll (fun {d} => Pl.lay (n := n) (d := d)) h
  have b := depAll (fun {d} => Pl.dep (n := n) (d := d)) h
  constructor
  · refine Bool.and_eq_true_iff.mpr ⟨by rw [PyData.canLay0]; exact a, decide_eq_true ?_⟩
    rw [PyData.depth]
    omega
  · refine Bool.and_eq_true_iff.mpr ⟨by rw [PyData.canLay0]; exact a, decide_eq_true ?_⟩
    rw [PyData.depth]
    omega
/-- == of plain data is equality -/
theorem Pl.eqv : ∀ {n : Nat} {x y : D}, Pl n x = true → Pl n y = true → (PyData.eqv x y = true ↔ x = y) := by
  intro n
  induction n with
  | zero =>
    intro x y hx hy
    rcases Pl.inv hx with ⟨i, rfl⟩ | ⟨s, rfl, _⟩ | ⟨m, ds, e, _⟩
    · rcases Pl.inv hy with ⟨j, rfl⟩ | ⟨t, rfl, _⟩ | ⟨m, ds, e, _⟩
      · simp [PyData.eqv]
      · simp [PyData.eqv]
      · cases e
    · rcases Pl.inv hy with ⟨j, rfl⟩ | ⟨t, rfl, _⟩ | ⟨m, ds, e, _⟩
      · simp [PyData.eqv]
      · simp [PyData.eqv]
      · cases e
    · cases e
  | succ n ih =>
    have all : ∀ xs ys : List D, (∀ x ∈ xs, Pl n x = true) → (∀ y ∈ ys, Pl n y = true) → (PyData.eqvAll xs ys = true ↔ xs = ys) := by
      intro xs
      induction xs with
      | nil =>
        intro ys _ _
        cases ys <;> simp [PyData.eqvAll]
      | cons x xs ih2 =>
        intro ys h1 h2
        cases ys with
        | nil => simp [PyData.eqvAll]
        | cons y ys =>
          rw [PyData.eqvAll, Bool.and_eq_true, ih (h1 x (List.mem_cons_self ..)) (h2 y (List.mem_cons_self ..)), ih2 ys (fun z hz => h1 z (List.mem_cons_of_mem _ hz)) fun z hz => h2 z (List.mem_cons_of_mem _ hz), List.cons.injEq]
    intro x y hx hy
    rcases Pl.inv hx with ⟨i, rfl⟩ | ⟨s, rfl, _⟩ | ⟨m, ds, e, rfl, _, q⟩
    · rcases Pl.inv hy with ⟨j, rfl⟩ | ⟨t, rfl, _⟩ | ⟨m, ds, e, rfl, _⟩ <;> simp [PyData.eqv]
    · rcases Pl.inv hy with ⟨j, rfl⟩ | ⟨t, rfl, _⟩ | ⟨m, ds, e, rfl, _⟩ <;> simp [PyData.eqv]
    · rcases Pl.inv hy with ⟨j, rfl⟩ | ⟨t, rfl, _⟩ | ⟨m', es, e', rfl, _, q'⟩
      · simp [PyData.eqv]
      · simp [PyData.eqv]
      · cases e
        cases e'
        rw [PyData.eqv, all ds es q q', PyData.tuple.injEq]
end DL

/-! PL5: the shared defs of the laws over rows: sameness, order, search. -/
namespace DL
open PySem L2
@[simp] theorem isi_int (T : String) (a : Bt → Res D) (β : Bt) (i : Int) (h : a β = .ok (.int i)) : dIsi T a β = .ok (.bool (subB "int" T)) := by unfold dIsi; rw [h]; rfl
theorem isi_str (T : String) (a : Bt → Res D) (β : Bt) (i : Str) (h : a β = .ok (.str i)) : dIsi T a β = .ok (.bool (subB "str" T)) := by unfold dIsi; rw [h]; rfl
theorem isi_tup (T : String) (a : Bt → Res D) (β : Bt) (i : List D) (h : a β = .ok (.tuple i)) : dIsi T a β = .ok (.bool (subB "tuple" T)) := by unfold dIsi; rw [h]; rfl
theorem beqI (i j : Int) (q : Decidable (i = j)) : (i == j) = @decide (i = j) q := by by_cases h : i = j <;> simp [h]
theorem beqS (i j : Str) (q : Decidable (i = j)) : (i == j) = @decide (i = j) q := by by_cases h : i = j <;> simp [h]
theorem lcD_none {γ : Type} (f : γ → Option D) (xs : List γ) : ((xs.filterMap f).length = 0) ↔ ∀ x ∈ xs, f x = none := by
  rw [List.length_eq_zero_iff, List.filterMap_eq_nil_iff]
end DL
namespace Cm
open PySem L2 DL
theorem len_int (n : Nat) : ∃ z : Int, z = (n : Int) := ⟨_, rfl⟩
open Classical in
theorem same_ok : ∀ (n m : Nat), n < m → ∀ x y : D, Pl n x = true → Pl n y = true → F__law_same m [x, y] = .ok (.bool (decide (x = y))) := by
  intro n
  induction n with
  | zero =>
    intro m hm x y hx hy
    obtain ⟨m, rfl⟩ : ∃ k, m = k + 1 := ⟨m - 1, by omega⟩
    rw [F__law_same, fD_ap (by rfl)]
    rcases Pl.inv hy with ⟨j, rfl⟩ | ⟨t, rfl, _⟩ | ⟨_, _, e, _⟩
    · rcases Pl.inv hx with ⟨i, rfl⟩ | ⟨s, rfl, _⟩ | ⟨_, _, e, _⟩
      · simp [b__law_same, sSeq_ap, sIf_ap, isi_int, isi_str, isi_tup, subB, fIs, isN, beqI, beqS]
      · simp [b__law_same, sSeq_ap, sIf_ap, isi_int, isi_str, isi_tup, subB, fIs, isN, beqI, beqS]
      · cases e
    · rcases Pl.inv hx with ⟨i, rfl⟩ | ⟨s, rfl, _⟩ | ⟨_, _, e, _⟩
      · simp [b__law_same, sSeq_ap, sIf_ap, isi_int, isi_str, isi_tup, subB, fIs, isN, beqI, beqS]
      · simp [b__law_same, sSeq_ap, sIf_ap, isi_int, isi_str, isi_tup, subB, fIs, isN, beqI, beqS]
      · cases e
    · cases e
  | succ n ih =>
    intro m hm x y hx hy
    obtain ⟨m, rfl⟩ : ∃ k, m = k + 1 := ⟨m - 1, by omega⟩
    rw [F__law_same, fD_ap (by rfl)]
    rcases Pl.inv hy with ⟨j, rfl⟩ | ⟨t, rfl, _⟩ | ⟨_, ys, e, rfl, ly, qy⟩
    · rcases Pl.inv hx with ⟨i, rfl⟩ | ⟨s, rfl, _⟩ | ⟨_, xs, e, rfl, lx, qx⟩
      · simp [b__law_same, sSeq_ap, sIf_ap, isi_int, isi_str, isi_tup, subB, fIs, isN, beqI, beqS]
      · simp [b__law_same, sSeq_ap, sIf_ap, isi_int, isi_str, isi_tup, subB, fIs, isN, beqI, beqS]
      · simp [b__law_same, sSeq_ap, sIf_ap, isi_int, isi_str, isi_tup, subB, fIs, isN, beqI, beqS]
    · rcases Pl.inv hx with ⟨i, rfl⟩ | ⟨s, rfl, _⟩ | ⟨_, xs, e, rfl, lx, qx⟩
      · simp [b__law_same, sSeq_ap, sIf_ap, isi_int, isi_str, isi_tup, subB, fIs, isN, beqI, beqS]
      · simp [b__law_same, sSeq_ap, sIf_ap, isi_int, isi_str, isi_tup, subB, fIs, isN, beqI, beqS]
      · simp [b__law_same, sSeq_ap, sIf_ap, isi_int, isi_str, isi_tup, subB, fIs, isN, beqI, beqS]
    · rcases Pl.inv hx with ⟨i, rfl⟩ | ⟨s, rfl, _⟩ | ⟨_, xs, e', rfl, lx, qx⟩
      · simp [b__law_same, sSeq_ap, sIf_ap, isi_int, isi_str, isi_tup, subB, fIs, isN, beqI, beqS]
      · simp [b__law_same, sSeq_ap, sIf_ap, isi_int, isi_str, isi_tup, subB, fIs, isN, beqI, beqS]
      · cases e
        cases e'
        by_cases hl : xs.length = ys.length
        · have e1 : iRange1 (dN fLen (aCons (dV 1) aNil)) [some (.tuple xs), some (.tuple ys), none] = .ok ((List.range ys.length).map fun i : Nat => PyData.int i) :=
            iRangeL (n := ys.length) (by simp) (by omega) (by omega)
          have e2 := lcD_enc (f := cmD (.nm 2) (tNot (tV (dCall (F__law_same m) (aCons (d2 fIx (dV 0) (dV 2)) (aCons (d2 fIx (dV 1) (dV 2)) aNil))))) (dV 2) [some (.tuple xs), some (.tuple ys), none]) (fun i : Nat => PyData.int i)
            (fun i => if xs[i]? = ys[i]? then none else some (.int i)) (xs := List.range ys.length) (fun i hi => by
              have h1 : i < ys.length := by simpa using hi
              have h2 : i < xs.length := by omega
              have a1 : atI xs (i : Int) = some xs[i] := atI_lt _ _ h2
              have a2 : atI ys (i : Int) = some ys[i] := atI_lt _ _ h1
              have a3 := ih m (by omega) xs[i] ys[i] (qx _ (List.getElem_mem ..)) (qy _ (List.getElem_mem ..))
              simp [cmD, a1, a2, a3, List.getElem?_eq_getElem h1, List.getElem?_eq_getElem h2]
              by_cases e : xs[i] = ys[i] <;> simp [e])
          have e3 : ((List.range ys.length).filterMap (fun i : Nat => if xs[i]? = ys[i]? then none else some (PyData.int (i : Int)))).length = 0 ↔ xs = ys := by
            rw [lcD_none]
            constructor
            · intro h
              refine List.ext_getElem? fun i => ?_
              by_cases hi : i < ys.length
              · have := h i (by simpa using hi)
                by_cases q : xs[i]? = ys[i]?
                · exact q
                · rw [if_neg q] at this; cases this
              · rw [List.getElem?_eq_none (by omega), List.getElem?_eq_none (by omega)]
            · rintro rfl i _
              simp
          generalize hg : (List.range ys.length).filterMap (fun i : Nat => if xs[i]? = ys[i]? then none else some (PyData.int i)) = zs at e2 e3
          have lz : (List.range ys.length).length < 16777217 := by simp; omega
          simp [b__law_same, sSeq_ap, sIf_ap, isi_int, isi_str, isi_tup, subB, fIs, isN, hl, e1, le_size (n := ys.length) (by omega), e2]
          by_cases q : xs = ys
          · rw [e3.mpr q]; simp [q]
          · have : zs.length ≠ 0 := fun z => q (e3.mp z)
            rw [beqI _ _ inferInstance]
            simp [q]
            intro z
            exact this (by simp [z])
        · have hl' : ((xs.length : Int) == (ys.length : Int)) = false := by simp; omega
          have hne : xs ≠ ys := fun e => hl (congrArg List.length e)
          simp [b__law_same, sSeq_ap, sIf_ap, isi_int, isi_str, isi_tup, subB, fIs, isN, hl', hne]
end Cm
namespace DL
open PySem L2
/-! ### rows -/
def kd : D → Str
  | .tuple (.str k :: _) => k
  | _ => ⟨#[]⟩
def nm : D → Str
  | .tuple (_ :: .str n :: _) => n
  | _ => ⟨#[]⟩
def ky (d : D) : Ky := (kd d, nm d)
def Rw (d : D) : Prop := ∃ k n rest, d = .tuple (.str k :: .str n :: rest) ∧ rest.length < 900 ∧ (∀ x ∈ rest, Pl 3 x = true) ∧ PyData.strOk k = true ∧ PyData.strOk n = true
theorem Rw.pl {d : D} (h : Rw d) : Pl 4 d = true := by
  obtain ⟨k, n, rest, rfl, h1, h2, h3, h4⟩ := h
  simp only [Pl, Bool.and_eq_true, List.all_eq_true, decide_eq_true_eq]
  refine ⟨by simp; omega, fun x hx => ?_⟩
  rcases List.mem_cons.mp hx with rfl | hx
  · exact h3
  · rcases List.mem_cons.mp hx with rfl | hx
    · exact h4
    · exact h2 x hx
theorem Rw.ix0 {d : D} (h : Rw d) : fIx d (.int 0) = some (.str (kd d)) := by
  obtain ⟨k, n, rest, rfl, h1, h2, h3, h4⟩ := h
  simp [kd]
theorem Rw.ix1 {d : D} (h : Rw d) : fIx d (.int 1) = some (.str (nm d)) := by
  obtain ⟨k, n, rest, rfl, h1, h2, h3, h4⟩ := h
  simp [nm]
  exact atI_lit _ 1 _ rfl
theorem beqK (a b c d : Str) : (a == b && c == d) = decide ((a, c) = (b, d)) := by
  by_cases h : a = b <;> by_cases q : c = d <;> simp [h, q]
end DL
namespace Cm
open PySem L2 DL
theorem row_key_ok {d : D} (h : Rw d) : f_row_key [d] = .ok (.tuple [.str (kd d), .str (nm d)]) := by
  rw [f_row_key, fD_ap (by rfl)]
  simp [b_row_key, h.ix0, h.ix1]
theorem before_ok {d e : D} (h : Rw d) (k : Rw e) : f__law_before [d, e] = .ok (.bool (kl (ky d) (ky e))) := by
  rw [f__law_before, fD_ap (by rfl)]
  cases q : sl (kd d) (kd e) with
  | true => simp [b__law_before, h.ix0, h.ix1, k.ix0, k.ix1, q, kl, ky]
  | false =>
    by_cases q2 : kd d = kd e
    · rw [q2] at q
      simp [b__law_before, h.ix0, h.ix1, k.ix0, k.ix1, q, kl, ky, q2]
    · simp [b__law_before, h.ix0, h.ix1, k.ix0, k.ix1, q, kl, ky, q2]
theorem placed_ok {rs : List D} {d : D} (h : ∀ x ∈ rs, Rw x) (k : Rw d) (hl : rs.length < 100000) : f__law_placed [.list rs, d] = .ok (.list (DL.put ky rs d)) := by
  rw [f__law_placed, fD_ap (by rfl)]
  have e1 := lcD_sieve (f := cmD (.nm 4) (tV (dCall f__law_before (aCons (dV 4) (aCons (dV 1) aNil)))) (dV 4) [some (.list rs), some d, none, none, none]) (fun x => kl (ky x) (ky d)) (ds := rs) fun x hx => by
    simp [cmD, before_ok (h x hx) k]
    cases kl (ky x) (ky d) <;> simp
  have e2 := lcD_sieve (f := cmD (.nm 4) (tV (dCall f__law_before (aCons (dV 1) (aCons (dV 4) aNil)))) (dV 4) [some (.list rs), some d, some (.list (rs.filter fun x => kl (ky x) (ky d))), none, none]) (fun x => kl (ky d) (ky x)) (ds := rs) fun x hx => by
    simp [cmD, before_ok k (h x hx)]
    cases kl (ky d) (ky x) <;> simp
  have l1 := List.length_filter_le (fun x => kl (ky x) (ky d)) rs
  have l2 := List.length_filter_le (fun x => kl (ky d) (ky x)) rs
  simp [b__law_placed, sSeq_ap, e1, le_size (n := rs.length) (by omega), e2]
  rw [fAdd_l _ _ (by rw [PySem.sizeLine_eq]; simp; omega)]
  simp
  rw [fAdd_l _ _ (by rw [PySem.sizeLine_eq]; simp; omega)]
  simp [DL.put]
theorem key_test {k n : Str} {x : D} (hr : Rw x) (β : Bt) (h0 : β[3]? = some (some x)) (h1 : β[1]? = some (some (.str k))) (h2 : β[2]? = some (some (.str n))) :
    DL.tAnd (tV (d2 fEq (d2 fIx (dV 3) (dC (.int (0)))) (dV 1))) (tV (d2 fEq (d2 fIx (dV 3) (dC (.int (1)))) (dV 2))) β = .ok (decide (ky x = (k, n))) := by
  have e0 : dV 3 β = .ok x := by rw [dV_ap, h0]
  have e1 : dV 1 β = .ok (.str k) := by rw [dV_ap, h1]
  have e2 : dV 2 β = .ok (.str n) := by rw [dV_ap, h2]
  by_cases q1 : kd x = k <;> by_cases q2 : nm x = n <;> simp [e0, e1, e2, hr.ix0, hr.ix1, ky, q1, q2]
theorem has_row_ok {rs : List D} {k n : Str} (h : ∀ x ∈ rs, Rw x) : f_has_row [.tuple rs, .str k, .str n] = .ok (.bool (rs.any fun x => decide (ky x = (k, n)))) := by
  refine Sat.eq (Sat.fD rfl (ON.seq ?_))
  refine ON.for_ (ds := rs) (fun ds α => (∀ x ∈ ds, Rw x) ∧ (rs.any fun x => decide (ky x = (k, n))) = (ds.any fun x => decide (ky x = (k, n))) ∧ ∃ u, α = [AV.dat (.tuple rs), .dat (.str k), .dat (.str n), u]) (by simp) ⟨h, rfl, .un, rfl⟩ ?_ ?_
  · rintro x ds α ⟨hx, e, u, rfl⟩
    refine ⟨_, rfl, ON.iff (c := decide (ky x = (k, n))) (key_test (hx x (List.mem_cons_self ..)) _ rfl rfl rfl) (fun hc => ?_) (fun hc => ?_)⟩
    · simp [e, hc]
    · exact .nx _ ⟨fun y hy => hx y (List.mem_cons_of_mem _ hy), by rw [e, List.any_cons, hc]; rfl, _, rfl⟩
  · rintro α ⟨_, e, u, rfl⟩
    simp [e]
theorem find_row_ok {rs : List D} {k n : Str} {r : D} (h : ∀ x ∈ rs, Rw x) (q : rs.find? (fun x => decide (ky x = (k, n))) = some r) : f_find_row [.tuple rs, .str k, .str n] = .ok r := by
  refine Sat.eq (Sat.fD rfl (ON.seq ?_))
  refine ON.for_ (ds := rs) (fun ds α => (∀ x ∈ ds, Rw x) ∧ (ds.find? fun x => decide (ky x = (k, n))) = some r ∧ ∃ u, α = [AV.dat (.tuple rs), .dat (.str k), .dat (.str n), u]) (by simp) ⟨h, q, .un, rfl⟩ ?_ ?_
  · rintro x ds α ⟨hx, e, u, rfl⟩
    refine ⟨_, rfl, ON.iff (c := decide (ky x = (k, n))) (key_test (hx x (List.mem_cons_self ..)) _ rfl rfl rfl) (fun hc => ?_) (fun hc => ?_)⟩
    · rw [List.find?_cons, hc] at e
      cases e
      simp
    · rw [List.find?_cons, hc] at e
      exact .nx _ ⟨fun y hy => hx y (List.mem_cons_of_mem _ hy), e, _, rfl⟩
  · rintro α ⟨_, e, u, rfl⟩
    cases e
theorem kind_rows_ok {rs : List D} {k : Str} (h : ∀ x ∈ rs, Rw x) (hl : rs.length < 100000) : f_kind_rows [.tuple rs, .str k] = .ok (.tuple (rs.filter fun x => decide (kd x = k))) := by
  rw [f_kind_rows, fD_ap (by rfl)]
  have e1 := lcD_sieve (f := cmD (.nm 2) (tV (d2 fEq (d2 fIx (dV 2) (dC (.int (0)))) (dV 1))) (dV 2) [some (.tuple rs), some (.str k), none]) (fun x => decide (kd x = k)) (ds := rs) fun x hx => by
    by_cases q : kd x = k <;> simp [cmD, (h x hx).ix0, q]
  simp [b_kind_rows, e1, le_size (n := rs.length) (by omega)]
end Cm

/-! PL6: the drawn rows. -/
namespace DL
open PySem L2
theorem ON.guard {P : At → Prop} {R : D → Prop} {α : At} {t : At → Res Bool} {a b : At → Out} {c : Bool} (h : t α = .ok c) (h1 : ON (fun _ => False) R (a α)) (h2 : ON P R (b α)) : ON P R (sSeq (sIf t a sNil) b α) :=
  ON.seq (ON.iff h (fun _ => h1.imp (fun _ z => z.elim) fun _ z => z) fun _ => .nx _ h2)
theorem ON.retS {R : D → Prop} {P : At → Prop} {α : At} {e : Bt → Res D} (h : Sat R (e (dats α))) : ON P R (sRet (sD e) α) := by
  obtain ⟨d, e1, h⟩ := h
  rw [sRet_ap, sD_ap, e1, ofR_ok]
  exact .rt _ h
theorem cut_strs (ss : List Str) (lo hi : Option Int) : ∃ ts : List Str, cutD (ss.map PyData.str) lo hi = ts.map PyData.str ∧ ts.length ≤ ss.length ∧ ∀ t ∈ ts, t ∈ ss := by
  refine ⟨cutD ss lo hi, by simp [cutD, List.map_take, List.map_drop], by simp [cutD]; omega, fun t ht => ?_⟩
  unfold cutD at ht
  exact List.mem_of_mem_drop (List.mem_of_mem_take ht)
theorem strsOf_map : ∀ ss : List Str, strsOf (ss.map PyData.str) = some ss
  | [] => rfl
  | s :: ss => by rw [List.map_cons, strsOf, strsOf_map ss]; rfl
theorem sorted_strs (ss : List Str) (h : ss.length < 64) : fSorted [.list (ss.map PyData.str)] = some (.list ((sortBy ltT ss).map PyData.str)) := by
  unfold fSorted
  simp only [strsOf_map, if_pos h]
@[simp] theorem fSl_l (xs : List D) (lo hi : Option Int) : fSl (.list xs) lo hi = some (.list (cutD xs lo hi)) := nr rfl
@[simp] theorem fSl_t (xs : List D) (lo hi : Option Int) : fSl (.tuple xs) lo hi = some (.tuple (cutD xs lo hi)) := nr rfl
theorem atI_in {α : Type} (xs : List α) {i : Int} (h0 : 0 ≤ i) (h : i < xs.length) : ∃ x, atI xs i = some x ∧ x ∈ xs := ⟨_, atI_int xs h0 h, List.getElem_mem ..⟩
theorem lcD_ex {f : D → Res (Option D)} {P : D → Prop} : ∀ {ds : List D}, (∀ d ∈ ds, ∃ y, f d = .ok (some y) ∧ P y) → ∃ ys, lcD f ds = .ok ys ∧ ys.length = ds.length ∧ ∀ y ∈ ys, P y
  | [], _ => ⟨[], rfl, rfl, by simp⟩
  | d :: ds, h => by
    obtain ⟨y, e, p⟩ := h d (List.mem_cons_self ..)
    obtain ⟨ys, e2, l, q⟩ := lcD_ex fun x hx => h x (List.mem_cons_of_mem _ hx)
    refine ⟨y :: ys, by rw [lcD, e, e2]; rfl, by simp [l], fun z hz => ?_⟩
    rcases List.mem_cons.mp hz with rfl | hz
    · exact p
    · exact q z hz
theorem Pl.strs {ss ts : List Str} (h : ∀ s ∈ ss, PyData.strOk s = true) (hs : ∀ t ∈ ts, t ∈ ss) (hl : ts.length < 1000) : Pl 3 (.tuple (ts.map PyData.str)) = true := by
  simp only [Pl, Bool.and_eq_true, List.all_eq_true, decide_eq_true_eq]
  refine ⟨by simpa using hl, fun x hx => ?_⟩
  obtain ⟨t, ht, rfl⟩ := List.mem_map.mp hx
  exact h t (hs t ht)
@[simp] theorem Pl_int (n : Nat) (i : Int) : Pl n (.int i) = true := by cases n <;> exact nr rfl
@[simp] theorem Pl_tup (n : Nat) (ds : List D) : Pl (n + 1) (.tuple ds) = (decide (ds.length < 1000) && ds.all (Pl n)) := nr rfl
theorem Pl_str (n : Nat) (s : Str) : Pl n (.str s) = PyData.strOk s := by cases n <;> rfl
end DL
namespace Cm
open PySem L2 DL
theorem low_sat (n d : Int) (h : 0 < d) (h2 : d < 1073741824) : ∃ x y : Int, f__law_lowest [.int n, .int d] = .ok (.tuple [.int x, .int y]) ∧ -(n.natAbs : Int) ≤ x ∧ x ≤ n.natAbs ∧ 1 ≤ y ∧ y ≤ d := by
  have g0 : 0 < Int.gcd n d := Int.gcd_pos_of_ne_zero_right _ (by omega)
  have g1 : (Int.gcd n d : Int) ≤ d := by
    have := Nat.le_of_dvd (by omega) (Int.gcd_dvd_natAbs_right n d)
    omega
  refine ⟨_, _, low_eq h h2, ?_, ?_, ?_, ?_⟩ <;> generalize hg : (Int.gcd n d : Int) = g at *
  · have g2 : 1 ≤ g := by omega
    have m := Int.ediv_mul_le (-(n.natAbs : Int)) (b := g) (by omega)
    refine (Int.le_ediv_iff_mul_le (by omega)).mpr ?_
    have : -(n.natAbs : Int) * g ≤ -(n.natAbs : Int) * 1 := Int.mul_le_mul_of_nonpos_left (by omega) g2
    omega
  · refine Int.le_trans (Int.ediv_le_ediv (by omega) (show n ≤ n.natAbs by omega)) (Int.ediv_le_self _ (by omega))
  · exact (Int.le_ediv_iff_mul_le (by omega)).mpr (by omega)
  · exact Int.ediv_le_self _ (by omega)
theorem at1 {x0 x1 : D} {r : List D} : atI (x0 :: x1 :: r) 1 = some x1 := atI_lit _ 1 x1 rfl
theorem at2 {x0 x1 x2 : D} {r : List D} : atI (x0 :: x1 :: x2 :: r) 2 = some x2 := atI_lit _ 2 x2 rfl
theorem at3 {x0 x1 x2 x3 : D} {r : List D} : atI (x0 :: x1 :: x2 :: x3 :: r) 3 = some x3 := atI_lit _ 3 x3 rfl
theorem at4 {x0 x1 x2 x3 x4 : D} {r : List D} : atI (x0 :: x1 :: x2 :: x3 :: x4 :: r) 4 = some x4 := atI_lit _ 4 x4 rfl
theorem at5 {x0 x1 x2 x3 x4 x5 : D} {r : List D} : atI (x0 :: x1 :: x2 :: x3 :: x4 :: x5 :: r) 5 = some x5 := atI_lit _ 5 x5 rfl
theorem at6 {x0 x1 x2 x3 x4 x5 x6 : D} {r : List D} : atI (x0 :: x1 :: x2 :: x3 :: x4 :: x5 :: x6 :: r) 6 = some x6 := atI_lit _ 6 x6 rfl
theorem at7 {x0 x1 x2 x3 x4 x5 x6 x7 : D} {r : List D} : atI (x0 :: x1 :: x2 :: x3 :: x4 :: x5 :: x6 :: x7 :: r) 7 = some x7 := atI_lit _ 7 x7 rfl
theorem at8 {x0 x1 x2 x3 x4 x5 x6 x7 x8 : D} {r : List D} : atI (x0 :: x1 :: x2 :: x3 :: x4 :: x5 :: x6 :: x7 :: x8 :: r) 8 = some x8 := atI_lit _ 8 x8 rfl
theorem at9 {x0 x1 x2 x3 x4 x5 x6 x7 x8 x9 : D} {r : List D} : atI (x0 :: x1 :: x2 :: x3 :: x4 :: x5 :: x6 :: x7 :: x8 :: x9 :: r) 9 = some x9 := atI_lit _ 9 x9 rfl
theorem grain_sat (x y : Int) (h : 0 ≤ x) (h2 : x < 1073741824) : ∃ a b : Int, f__law_grain [.int x, .int y] = .ok (.tuple [.int a, .int b]) := by
  suffices h : Sat (fun d => ∃ a b : Int, d = .tuple [.int a, .int b]) (f__law_grain [.int x, .int y]) by
    obtain ⟨_, e, a, b, rfl⟩ := h
    exact ⟨a, b, e⟩
  refine Sat.fD rfl (ON.seq (ON.iff (c := x == 0) (by simp) (fun c => ?_) (fun c => ?_)))
  · simp
  · obtain ⟨a, b, e, _⟩ := low_sat y x (by simp at c; omega) h2
    simp [e]
/-- a row of this kind and name -/
def RowIs (kind name : Str) (d : D) : Prop := ∃ rest, d = .tuple (.str kind :: .str name :: rest) ∧ rest.length < 900 ∧ ∀ x ∈ rest, Pl 3 x = true
def num (x : Int) : Prop := 0 ≤ x ∧ x < 5040
section
variable {kind name s0 s1 s2 s3 s4 s5 : Str} {n0 n1 n2 n3 n4 n5 n6 n7 n8 n9 : Int}
theorem piece_sat (m : Int) (h0 : num n0) (h1 : num n1) (h2 : num n2) (h3 : num n3) (h4 : num n4) (h5 : num n5) (h6 : num n6) : ∃ (p0 p1 p2 : D) (r : List D), f__law_piece [.list [.int n0, .int n1, .int n2, .int n3, .int n4, .int n5, .int n6, .int n7, .int n8, .int n9], .int m] = .ok (.tuple (p0 :: p1 :: p2 :: r)) ∧ r.length < 900 ∧ ∀ p ∈ p0 :: p1 :: p2 :: r, Pl 2 p = true := by
  suffices h : Sat (fun d => ∃ (p0 p1 p2 : D) (r : List D), d = .tuple (p0 :: p1 :: p2 :: r) ∧ r.length < 900 ∧ ∀ p ∈ p0 :: p1 :: p2 :: r, Pl 2 p = true) (f__law_piece [.list [.int n0, .int n1, .int n2, .int n3, .int n4, .int n5, .int n6, .int n7, .int n8, .int n9], .int m]) by
    obtain ⟨_, e, p0, p1, p2, r, rfl, h⟩ := h
    exact ⟨p0, p1, p2, r, e, h⟩
  refine Sat.fD rfl ?_
  unfold num at *
  obtain ⟨ax, ay, ea, a1, a2, a3, a4⟩ := low_sat (n0 % 41 - 20) (1 + n1 % 6) (by omega) (by omega)
  obtain ⟨bx, b_y, eb, b1, b2, b3, b4⟩ := low_sat (n2 % 41 - 20) (1 + n3 % 6) (by omega) (by omega)
  obtain ⟨cx, cy, ec, c1, c2, c3, c4⟩ := low_sat (ax + (1 + n4 % 9) * ay) ay (by omega) (by omega)
  obtain ⟨dx, dy, ed, d1, d2, d3, d4⟩ := low_sat (bx + (1 + n5 % 9) * b_y) b_y (by omega) (by omega)
  refine ON.seq ?_
  simp [at1, fMod_pos, ea]
  refine ON.seq ?_
  simp [at2, at3, fMod_pos, eb]
  refine ON.seq ?_
  simp [at1, at4, fMod_pos, fMul_sm (i := 1 + n4 % 9) (k := ay) (by omega) (by omega), ec]
  refine ON.seq ?_
  simp [at1, at5, fMod_pos, fMul_sm (i := 1 + n5 % 9) (k := b_y) (by omega) (by omega), ed]
  refine ON.guard (c := n6 % 2 == 0 || decide (m < 4)) ?_ (ON.retS ?_) (ON.retS ?_)
  · by_cases q : n6 % 2 = 0 <;> simp [at6, fMod_pos, q]
  · simp
    exact ⟨_, rfl, _, _, _, _, rfl, by simp, by simp⟩
  · simp
    exact ⟨_, rfl, _, _, _, _, rfl, by simp, by simp⟩
theorem line_sat {p0 p1 p2 : D} {r : List D} (k : Int) (h : ∀ p ∈ p0 :: p1 :: p2 :: r, Pl 2 p = true) : ∃ x y : D, f__law_line [.tuple (p0 :: p1 :: p2 :: r), .int k] = .ok (.tuple [x, y]) ∧ Pl 2 x = true ∧ Pl 2 y = true := by
  suffices h : Sat (fun d => ∃ x y : D, d = .tuple [x, y] ∧ Pl 2 x = true ∧ Pl 2 y = true) (f__law_line [.tuple (p0 :: p1 :: p2 :: r), .int k]) by
    obtain ⟨_, e, x, y, rfl, h⟩ := h
    exact ⟨x, y, e, h⟩
  refine Sat.fD rfl ?_
  obtain ⟨x1, e1, m1⟩ := atI_in (p0 :: p1 :: p2 :: r) (i := 1 + k / 2 % 2) (by omega) (by simp; omega)
  obtain ⟨x2, e2, m2⟩ := atI_in (p0 :: p1 :: p2 :: r) (i := k / 2 % 2) (by omega) (by simp; omega)
  refine ON.guard (c := k % 2 == 0) (by simp [fMod_pos]) (ON.retS ?_) (ON.retS ?_)
  · simp [fMod_pos, fDiv_pos, e1]
    exact ⟨_, rfl, _, _, rfl, h _ (List.mem_cons_self ..), h _ m1⟩
  · simp [fMod_pos, fDiv_pos, e2, at2]
    exact ⟨_, rfl, _, _, rfl, h _ (by simp), h _ m2⟩
theorem shape_sat (hs : ∀ s ∈ [s0, s1, s2, s3, s4, s5], PyData.strOk s = true) (h0 : num n0) (h1 : num n1) (h2 : num n2) (h3 : num n3) (h4 : num n4) (h5 : num n5) (h6 : num n6) (h7 : num n7) (h8 : num n8) (h9 : num n9) :
    Sat (RowIs kind name) (f__law_shape_row [.str kind, .str name, .list [.str s0, .str s1, .str s2, .str s3, .str s4, .str s5], .list [.int n0, .int n1, .int n2, .int n3, .int n4, .int n5, .int n6, .int n7, .int n8, .int n9]]) := by
  refine Sat.fD rfl ?_
  obtain ⟨p0, p1, p2, r, ep, lp, hp⟩ := piece_sat (n7 := n7) (n8 := n8) (n9 := n9) 4 h0 h1 h2 h3 h4 h5 h6
  obtain ⟨q0, q1, q2, r2, eq, lq, hq⟩ := piece_sat (n7 := n7) (n8 := n8) (n9 := n9) 3 h0 h1 h2 h3 h4 h5 h6
  obtain ⟨u0, u1, u2, r3, eu, lu, hu⟩ := piece_sat (n7 := n7) (n8 := n8) (n9 := n9) 6 h0 h1 h2 h3 h4 h5 h6
  unfold num at *
  obtain ⟨ax, ay, ea, a1, a2, a3, a4⟩ := low_sat (n7 % 8) 7 (by omega) (by omega)
  obtain ⟨bx, b_y, eb, b1, b2, b3, b4⟩ := low_sat (1 + n7 % 30) (1 + n8 % 7) (by omega) (by omega)
  refine ON.seq ?_
  simp [at5, fMod_pos]
  refine ON.seq ?_
  simp [at7, fMod_pos, ea]
  refine ON.seq ?_
  simp [at7, at8, fMod_pos, eb]
  -- panel
  refine ON.guard (by simp; rfl) (ON.seq ?_) ?_
  · obtain ⟨gx, gy, eg⟩ := grain_sat (n7 % 9) (n8 % 19 - 9) (by omega) (by omega)
    obtain ⟨w, ew, mw⟩ := atI_in [PyData.str "flips", PyData.str "plain"] (i := n9 % 2) (by omega) (by simp; omega)
    simp [at7, at8, at9, fMod_pos, eg, ep, ew]
    refine ⟨_, rfl, by simp, ?_⟩
    have hw : Pl 3 w = true := by
      simp at mw
      rcases mw with rfl | rfl <;> decide +kernel
    simp [Pl_str, hs, hw]
    exact ⟨by omega, by simpa using hp⟩
  -- reef
  refine ON.guard (by simp; rfl) (ON.retS ?_) ?_
  · obtain ⟨x, y, el, l1, l2⟩ := line_sat n9 hq
    simp [at9, eq, el]
    exact ⟨_, rfl, _, rfl, by simp, by simp [l1, l2]⟩
  -- repair
  refine ON.guard (by simp; rfl) (ON.retS ?_) ?_
  · simp [at1, at2, fMod_pos]
    exact ⟨_, rfl, _, rfl, by simp, by simp [Pl_str, hs]⟩
  -- revoke
  refine ON.guard (by simp; rfl) (ON.retS ?_) ?_
  · simp [at1, at2, fMod_pos]
    exact ⟨_, rfl, _, rfl, by simp, by simp [Pl_str, hs]⟩
  -- rig
  refine ON.guard (by simp; rfl) (ON.retS ?_) ?_
  · obtain ⟨ts, et, lt, mt⟩ := cut_strs [s0, s1, s2, s3, s4, s5] none (some (1 + n0 % 4))
    have et : cutD [PyData.str s0, .str s1, .str s2, .str s3, .str s4, .str s5] none (some (1 + n0 % 4)) = ts.map .str := et
    simp at lt
    have es := sorted_strs ts (by omega)
    simp [fMod_pos, et, es]
    refine ⟨_, rfl, _, rfl, by simp, ?_⟩
    rintro x hx
    rw [List.mem_singleton.mp hx]
    exact Pl.strs hs (fun t ht => mt t ((sortBy_perm ts).mem_iff.mp ht)) (by have := (sortBy_perm (lt := ltT) ts).length_eq; omega)
  -- sail
  refine ON.guard (by simp; rfl) (ON.seq ?_) ?_
  · simp [eu]
    refine ON.seq ?_
    simp [at7, fMod_pos]
    refine ON.seq ?_
    obtain ⟨cx, cy, ec, c1, c2, c3, c4⟩ := low_sat (2 * bx) b_y (by omega) (by omega)
    obtain ⟨dx, dy, ed, d1, d2, d3, d4⟩ := low_sat (5 * bx) b_y (by omega) (by omega)
    simp [at1, fMul_sm', ec, ed]
    refine ON.seq ?_
    have hcut : ∀ lo hi, (cutD [PyData.tuple [.int bx, .int b_y], .tuple [.int cx, .int cy], .tuple [.int dx, .int dy]] lo hi).length < 1000 ∧ ∀ x ∈ cutD [PyData.tuple [.int bx, .int b_y], .tuple [.int cx, .int cy], .tuple [.int dx, .int dy]] lo hi, Pl 2 x = true := by
      intro lo hi
      refine ⟨by simp [cutD]; omega, fun x hx => ?_⟩
      unfold cutD at hx
      have := List.mem_of_mem_drop (List.mem_of_mem_take hx)
      simp at this
      rcases this with rfl | rfl | rfl <;> simp
    obtain ⟨h1', h2'⟩ := hcut none (some (1 + n9 % 3))
    obtain ⟨ts, et, lt, mt⟩ := cut_strs [s0, s1, s2, s3, s4, s5] (some 2) (some (3 + n6 % 4))
    have et : cutD [PyData.str s0, .str s1, .str s2, .str s3, .str s4, .str s5] (some 2) (some (3 + n6 % 4)) = ts.map .str := et
    obtain ⟨ts2, et2, lt2, mt2⟩ := cut_strs [s0, s1, s2, s3, s4, s5] none (some (n5 % 4))
    have et2 : cutD [PyData.str s0, .str s1, .str s2, .str s3, .str s4, .str s5] none (some (n5 % 4)) = ts2.map .str := et2
    simp at lt lt2
    simp [at1, at8, at9, at5, at6, fMod_pos, et, et2]
    rw [fAdd_t _ _ (by rw [PySem.sizeLine_eq]; simp)]
    simp
    refine ⟨_, rfl, by simp, ?_⟩
    have q1 := Pl.strs hs mt (by omega)
    have q2 := Pl.strs hs mt2 (by omega)
    simp only [Pl_tup] at q1 q2
    simp [Pl_str, hs, q1, q2]
    exact ⟨⟨by omega, by simpa using hu⟩, ⟨h1', h2'⟩, ⟨by omega, fun x hx => hs x (mt x hx)⟩, by omega, fun x hx => hs x (mt2 x hx)⟩
  -- seen
  refine ON.guard (by simp; rfl) (ON.retS ?_) ?_
  · have hx : ∀ x ∈ [n0, n1, n2, n3, n4, n5, n6, n7, n8, n9], num x := by simp [num]; omega
    have q : ∀ i : Int, 0 ≤ i → i < 10 → ∃ j : Int, atI [PyData.int n0, .int n1, .int n2, .int n3, .int n4, .int n5, .int n6, .int n7, .int n8, .int n9] i = some (.int j) := fun i g1 g2 => by
      obtain ⟨x, e, m⟩ := atI_in [PyData.int n0, .int n1, .int n2, .int n3, .int n4, .int n5, .int n6, .int n7, .int n8, .int n9] g1 (by simp; omega)
      simp at m
      rcases m with rfl | rfl | rfl | rfl | rfl | rfl | rfl | rfl | rfl | rfl <;> exact ⟨_, e⟩
    have e1 := iRangeL (a := d2 fAdd (dC (.int (1))) (d2 fMod (d2 fIx (dV 3) (dC (.int (9)))) (dC (.int (4))))) (n := 1 + n9 % 4) (β := [some (PyData.str kind), some (.str name), some (.list [.str s0, .str s1, .str s2, .str s3, .str s4, .str s5]), some (.list [.int n0, .int n1, .int n2, .int n3, .int n4, .int n5, .int n6, .int n7, .int n8, .int n9]), some (.int (n5 % 100)), some (.tuple [.int ax, .int ay]), some (.tuple [.int bx, .int b_y]), none, none, none, none, none, none]) (by simp [at9, fMod_pos]) (by omega) (by omega)
    obtain ⟨ys, e2, l2, p2⟩ := lcD_ex (f := cmD (.nm 12) yesT (dTup (aCons (d2 fMod (d2 fIx (dV 3) (dV 12)) (dC (.int (4)))) (aCons (d2 fAdd (d2 fMod (d2 fIx (dV 3) (dV 12)) (dC (.int (4)))) (d2 fMod (d2 fIx (dV 3) (d2 fAdd (dV 12) (dC (.int (4))))) (dC (.int (3))))) aNil))) [some (PyData.str kind), some (.str name), some (.list [.str s0, .str s1, .str s2, .str s3, .str s4, .str s5]), some (.list [.int n0, .int n1, .int n2, .int n3, .int n4, .int n5, .int n6, .int n7, .int n8, .int n9]), some (.int (n5 % 100)), some (.tuple [.int ax, .int ay]), some (.tuple [.int bx, .int b_y]), none, none, none, none, none, none]) (P := fun d => Pl 2 d = true)
      (ds := (List.range (1 + n9 % 4).toNat).map fun i : Nat => PyData.int i) (fun d hd => by
        obtain ⟨i, hi, rfl⟩ := List.mem_map.mp hd
        obtain ⟨z, hz⟩ : ∃ z : Int, z = (i : Int) := ⟨_, rfl⟩
        have hi : i < (1 + n9 % 4).toNat := by simpa using hi
        rw [← hz]
        obtain ⟨j1, w1⟩ := q z (by omega) (by omega)
        obtain ⟨j2, w2⟩ := q (z + 4) (by omega) (by omega)
        refine ⟨.tuple [.int (j1 % 4), .int (j1 % 4 + j2 % 3)], ?_, by simp⟩
        simp [cmD, w1, w2, fMod_pos])
    have lr : ((List.range (1 + n9 % 4).toNat).map fun i : Nat => PyData.int i).length < 16777217 := by simp; omega
    simp only [dTup_ap, aCons_ap, dN_ap, dFz_ap, dLc_ap, aNil_ap, dats_cons, dats_nil, dt_d, dt_u, dV_s, dV_z, Res.bind_ok, e1, le_size lr, if_true, wipeB_cons, wipeB_nil, List.set, e2, fTuple_l, Res.of_some]
    refine ⟨_, if_pos (by rw [PySem.sizeLine_eq]; simp), _, rfl, by simp, fun x hx => ?_⟩
    rw [List.mem_singleton.mp hx, Pl_tup, Bool.and_eq_true, List.all_eq_true]
    exact ⟨decide_eq_true (by rw [l2]; simp; omega), p2⟩
  -- share
  refine ON.guard (by simp; rfl) (ON.retS ?_) ?_
  · simp [at1, at2]
    exact ⟨_, rfl, _, rfl, by simp, by simp [Pl_str, hs]⟩
  refine ON.retS ?_
  simp [at1, at2, fMod_pos]
  exact ⟨_, rfl, _, rfl, by simp, by simp⟩
theorem row_sat (hs : ∀ s ∈ [s0, s1, s2, s3, s4, s5], PyData.strOk s = true) (h0 : num n0) (h1 : num n1) (h2 : num n2) (h3 : num n3) (h4 : num n4) (h5 : num n5) (h6 : num n6) (h7 : num n7) (h8 : num n8) (h9 : num n9) :
    Sat (RowIs kind name) (f__law_row [.str kind, .str name, .list [.str s0, .str s1, .str s2, .str s3, .str s4, .str s5], .list [.int n0, .int n1, .int n2, .int n3, .int n4, .int n5, .int n6, .int n7, .int n8, .int n9]]) := by
  refine Sat.fD rfl ?_
  unfold num at *
  obtain ⟨ax, ay, ea, a1, a2, a3, a4⟩ := low_sat (1 + n7 % 90) (1 + n8 % 7) (by omega) (by omega)
  refine ON.seq ?_
  simp [at5, fMod_pos]
  refine ON.seq ?_
  simp [at6, fMod_pos]
  refine ON.seq ?_
  simp [at7, at8, fMod_pos, ea]
  -- bolt
  refine ON.guard (by simp; rfl) (ON.retS ?_) ?_
  · obtain ⟨x, y, e, b1, b2, b3, b4⟩ := low_sat (ax * (n1 % 4)) (ay * 3) (by omega) (by omega)
    simp [at1, fMod_pos, fMul_sm, fMul_sm (i := ax) (k := n1 % 4) (by omega) (by omega), e]
    exact ⟨_, rfl, _, rfl, by simp, by simp [Pl_str, hs]⟩
  -- claim
  refine ON.guard (by simp; rfl) (ON.retS ?_) ?_
  · simp [at1]
    exact ⟨_, rfl, _, rfl, by simp, by simp [Pl_str, hs]⟩
  -- class
  refine ON.guard (by simp; rfl) (ON.seq ?_) ?_
  · obtain ⟨lx, ly, el, l1, l2, l3, l4⟩ := low_sat (n0 % 50) (1 + n1 % 4) (by omega) (by omega)
    have hq : 1 ≤ ly * ay := by have := Int.mul_le_mul l3 a3 (by omega) (by omega); omega
    have hq2 : ly * ay ≤ 4 * 7 := Int.mul_le_mul (by omega) (by omega) (by omega) (by omega)
    obtain ⟨mx, my, em, m1, m2, m3, m4⟩ := low_sat (lx * ay + ax * (n2 % 3) * ly) (ly * ay) (by omega) (by omega)
    simp [at1, fMod_pos, el]
    refine ON.seq ?_
    simp [at1, at2, fMod_pos, fMul_sm (i := lx) (k := ay) (by omega) (by omega), fMul_sm (i := ax) (k := n2 % 3) (by omega) (by omega), fMul_sm (i := ax * (n2 % 3)) (k := ly) (by omega) (by omega), fMul_sm (i := ly) (k := ay) (by omega) (by omega), em]
    refine ON.seq ?_
    obtain ⟨ts, et, lt, mt⟩ := cut_strs [s0, s1, s2, s3, s4, s5] none (some (n3 % 5))
    have et : cutD [PyData.str s0, .str s1, .str s2, .str s3, .str s4, .str s5] none (some (n3 % 5)) = ts.map .str := et
    obtain ⟨ts2, et2, lt2, mt2⟩ := cut_strs [s0, s1, s2, s3, s4, s5] (some (n9 % 3)) none
    have et2 : cutD [PyData.str s0, .str s1, .str s2, .str s3, .str s4, .str s5] (some (n9 % 3)) none = ts2.map .str := et2
    simp at lt lt2
    have es := sorted_strs ts (by omega)
    simp [at3, fMod_pos, et, es]
    simp [at4, at9, fMod_pos, et2]
    have ml := (sortBy_perm (lt := ltT) ts).length_eq
    refine ⟨_, rfl, by simp, ?_⟩
    simp [Pl_str, hs]
    exact ⟨⟨by omega, fun x hx => hs x (mt x ((sortBy_perm ts).mem_iff.mp hx))⟩, by omega, fun x hx => hs x (mt2 x hx)⟩
  -- cloth
  refine ON.guard (by simp; rfl) (ON.seq ?_) ?_
  · simp [fMod_pos]
    refine ON.seq ?_
    simp [at1, fMod_pos]
    have hm : 0 < (if n1 % 1000 < n0 % 1000 then 1 + n1 % 1000 else 1 + n0 % 1000) + 1 := by split <;> omega
    simp [at2, at3, at4, fMod_pos, fMod_pos hm]
    exact ⟨_, rfl, by simp, by simp⟩
  -- day
  refine ON.guard (by simp; rfl) (ON.retS ?_) ?_
  · obtain ⟨ts, et, lt, mt⟩ := cut_strs [s0, s1, s2, s3, s4, s5] (some 1) (some (2 + n1 % 3))
    have et : cutD [PyData.str s0, .str s1, .str s2, .str s3, .str s4, .str s5] (some 1) (some (2 + n1 % 3)) = ts.map .str := et
    simp at lt
    simp [at1, fMod_pos, et]
    refine ⟨_, rfl, _, rfl, by simp, ?_⟩
    simp [Pl_str, hs]
    exact ⟨by omega, fun x hx => hs x (mt x hx)⟩
  -- grant
  refine ON.guard (by simp; rfl) (ON.retS ?_) ?_
  · obtain ⟨w, ew, mw⟩ := atI_in [PyData.str "onward", PyData.str "only"] (i := n0 % 2) (by omega) (by simp; omega)
    have hw : Pl 3 w = true := by
      simp at mw
      rcases mw with rfl | rfl <;> decide +kernel
    simp [at1, at2, fMod_pos, ew]
    exact ⟨_, rfl, _, rfl, by simp, by simp [Pl_str, hs, hw]⟩
  -- hand, table
  refine ON.guard (c := kind == "hand" || kind == "table") (by by_cases q : kind = "hand" <;> simp [q]) (ON.retS ?_) ?_
  · simp [fMod_pos]
    exact ⟨_, rfl, _, rfl, by simp, by simp⟩
  -- master
  refine ON.guard (by simp; rfl) (ON.retS ?_) ?_
  · simp
    exact ⟨_, rfl, _, rfl, by simp, by simp⟩
  -- measurer
  refine ON.guard (by simp; rfl) (ON.retS ?_) ?_
  · obtain ⟨x, y, e, _⟩ := low_sat (n0 % 7) (7 + n1 % 5) (by omega) (by omega)
    simp [at1, fMod_pos, e]
    exact ⟨_, rfl, _, rfl, by simp, by simp⟩
  -- order
  refine ON.guard (by simp; rfl) (ON.seq ?_) ?_
  · obtain ⟨w, ew, mw⟩ := atI_in [PyData.str "new", PyData.str "mend"] (i := n0 % 2) (by omega) (by simp; omega)
    have hw : Pl 3 w = true := by
      simp at mw
      rcases mw with rfl | rfl <;> decide +kernel
    simp [fMod_pos, ew]
    simp [at1, at2, fMod_pos]
    exact ⟨_, rfl, by simp, by simp [Pl_str, hs, hw]⟩
  have sh := shape_sat (kind := kind) (name := name) hs h0 h1 h2 h3 h4 h5 h6 h7 h8 h9
  refine ON.retS ?_
  simp
  exact sh
end
end Cm

/-! PL7: the drawn names and books. -/
namespace DL
open PySem L2
theorem fIx_str {z : Str} {i : Int} (h : z.cps.size < 16777217) : fIx (.str z) (.int i) = (atI z.cps.toList i).map fun c => .str ⟨#[c]⟩ := if_pos (by
  have e : z.length = z.cps.size := rfl
  rw [e, PySem.sizeLine_eq]
  omega)
theorem ok_one {c : Nat} (h : c < 1114112) : PyData.strOk ⟨#[c]⟩ = true := by
  unfold PyData.strOk
  simp
  omega
theorem ok_app {a b : Str} (h : PyData.strOk a = true) (k : PyData.strOk b = true) : PyData.strOk (a ++ b) = true := by
  have e : (a ++ b : Str) = ⟨a.cps ++ b.cps⟩ := rfl
  unfold PyData.strOk at *
  rw [e, Array.all_append, h, k]
  rfl
theorem app_cps (a b : Str) : (a ++ b : Str).cps = a.cps ++ b.cps := rfl
theorem fAdd_str {a b : Str} (h : a.cps.size + b.cps.size < 16777217) : fAdd (.str a) (.str b) = some (.str (a ++ b)) := fAdd_s a b (by
  have e : a.length = a.cps.size := rfl
  have e2 : b.length = b.cps.size := rfl
  rw [e, e2, PySem.sizeLine_eq]
  omega)
end DL
namespace Cm
open PySem L2 DL
theorem abc_cps : ("abcdefghijklmnopqrstuvwxyz" : Str).cps.toList = (List.range 26).map (97 + ·) := by decide +kernel
theorem abc_size : ("abcdefghijklmnopqrstuvwxyz" : Str).cps.size = 26 := by decide +kernel
theorem pqr_cps : ("pqrstu" : Str).cps.toList = (List.range 6).map (112 + ·) := by decide +kernel
theorem pqr_size : ("pqrstu" : Str).cps.size = 6 := by decide +kernel
def ends : List Str := ["", "x", "7", "q0"]
theorem ends_ok : ∀ s ∈ ends, s.cps.size ≤ 2 ∧ PyData.strOk s = true := by decide +kernel
theorem name_ok (n : Int) : ∃ s : Str, f__law_name [.int n] = .ok (.str s) ∧ s.cps.size ≤ 3 ∧ PyData.strOk s = true := by
  suffices h : Sat (fun d => ∃ s : Str, d = .str s ∧ s.cps.size ≤ 3 ∧ PyData.strOk s = true) (f__law_name [.int n]) by
    obtain ⟨_, e, s, rfl, h⟩ := h
    exact ⟨s, e, h⟩
  refine Sat.fD rfl (ON.seq ?_)
  obtain ⟨c, ec, mc⟩ := atI_in ("abcdefghijklmnopqrstuvwxyz" : Str).cps.toList (i := n % 26) (by omega) (by rw [abc_cps]; simp; omega)
  have hc : c < 1114112 := by
    rw [abc_cps] at mc
    simp at mc
    omega
  obtain ⟨w, ew, mw⟩ := atI_in (ends.map PyData.str) (i := n / 26 % 4) (by omega) (by simp [ends]; omega)
  obtain ⟨t, mt, rfl⟩ := List.mem_map.mp mw
  obtain ⟨t1, t2⟩ := ends_ok t mt
  have ew' : atI [PyData.str "", .str "x", .str "7", .str "q0"] (n / 26 % 4) = some (.str t) := ew
  have ex : fIx (.str "abcdefghijklmnopqrstuvwxyz") (.int (n % 26)) = some (.str ⟨#[c]⟩) := by
    rw [fIx_str (by rw [abc_size]; decide), ec]
    rfl
  have ea : fAdd (.str ⟨#[c]⟩) (.str t) = some (.str (⟨#[c]⟩ ++ t)) := fAdd_str (by simp; omega)
  simp [fMod_pos, fDiv_pos, ex, ew', ea]
  refine ⟨?_, ok_app (ok_one hc) t2⟩
  rw [app_cps]
  simp
  omega
theorem names_ok (xs : List Int) (h : 6 ≤ xs.length) : ∃ s0 s1 s2 s3 s4 s5 : Str, f__law_names [.list (xs.map PyData.int)] = .ok (.list [.str s0, .str s1, .str s2, .str s3, .str s4, .str s5]) ∧ (∀ s ∈ [s0, s1, s2, s3, s4, s5], PyData.strOk s = true) ∧ [s0, s1, s2, s3, s4, s5].Nodup := by
  have each : ∀ k : Nat, k < 6 → ∃ s : Str, cmD (.nm 1) yesT (d2 fAdd (dCall f__law_name (aCons (d2 fIx (dV 0) (dV 1)) aNil)) (d2 fIx (dC (.str "pqrstu")) (dV 1))) [some (.list (xs.map PyData.int)), none] (.int k) = .ok (some (.str s)) ∧ PyData.strOk s = true ∧ s.cps.toList.getLast? = some (112 + k) := fun k hk => by
    obtain ⟨s, es, s1, s2⟩ := name_ok (xs[k]'(by omega))
    have e1 : atI (xs.map PyData.int) (k : Int) = some (.int (xs[k]'(by omega))) := by rw [atI_lt _ k (by simp; omega), List.getElem_map]
    have e2 : fIx (.str "pqrstu") (.int (k : Int)) = some (.str ⟨#[112 + k]⟩) := by
      rw [fIx_str (by rw [pqr_size]; decide), pqr_cps, atI_lt _ k (by simp; omega)]
      simp
    have ea : fAdd (.str s) (.str ⟨#[112 + k]⟩) = some (.str (s ++ ⟨#[112 + k]⟩)) := fAdd_str (by simp; omega)
    refine ⟨s ++ ⟨#[112 + k]⟩, ?_, ok_app s2 (ok_one (by omega)), ?_⟩
    · simp [cmD, e1, e2, es, ea]
    · rw [app_cps]
      simp
  obtain ⟨s0, a0, b0, c0⟩ := each 0 (by decide)
  obtain ⟨s1, a1, b1, c1⟩ := each 1 (by decide)
  obtain ⟨s2, a2, b2, c2⟩ := each 2 (by decide)
  obtain ⟨s3, a3, b3, c3⟩ := each 3 (by decide)
  obtain ⟨s4, a4, b4, c4⟩ := each 4 (by decide)
  obtain ⟨s5, a5, b5, c5⟩ := each 5 (by decide)
  clear each
  refine ⟨s0, s1, s2, s3, s4, s5, ?_, by simp [*], ?_⟩
  · rw [f__law_names, fD_ap (by rfl)]
    have er := iRangeL (a := dC (.int 6)) (β := [some (.list (xs.map PyData.int)), none]) (n := 6) rfl (by decide) (by decide)
    have el : (List.range (6 : Int).toNat).map (fun i : Nat => PyData.int i) = [.int (0 : Nat), .int (1 : Nat), .int (2 : Nat), .int (3 : Nat), .int (4 : Nat), .int (5 : Nat)] := rfl
    rw [el] at er
    have ec : lcD (cmD (.nm 1) yesT (d2 fAdd (dCall f__law_name (aCons (d2 fIx (dV 0) (dV 1)) aNil)) (d2 fIx (dC (.str "pqrstu")) (dV 1))) [some (.list (xs.map PyData.int)), none]) [.int (0 : Nat), .int (1 : Nat), .int (2 : Nat), .int (3 : Nat), .int (4 : Nat), .int (5 : Nat)] = .ok [.str s0, .str s1, .str s2, .str s3, .str s4, .str s5] := by
      rw [lcD, a0, lcD, a1, lcD, a2, lcD, a3, lcD, a4, lcD, a5]
      rfl
    simp only [b__law_names, sRet_ap, sD_ap, dFz_ap, dLc_ap, List.map_cons, List.map_nil, List.cons_append, List.nil_append, List.replicate, dats_cons, dats_nil, dt_d, dt_u, er, Res.bind_ok, wipeB_cons, wipeB_nil, List.set, ec, Nat.reduceSub]
    simp
  · have ne : ∀ {a b : Str} {i j : Nat}, a.cps.toList.getLast? = some (112 + i) → b.cps.toList.getLast? = some (112 + j) → i ≠ j → a ≠ b := fun h1 h2 h3 e => by
      rw [e, h2] at h1
      simp at h1
      omega
    simp only [List.nodup_cons, List.mem_cons, not_or, List.not_mem_nil, not_false_eq_true, List.nodup_nil, and_true]
    refine ⟨⟨ne c0 c1 (by decide), ne c0 c2 (by decide), ne c0 c3 (by decide), ne c0 c4 (by decide), ne c0 c5 (by decide)⟩, ⟨ne c1 c2 (by decide), ne c1 c3 (by decide), ne c1 c4 (by decide), ne c1 c5 (by decide)⟩, ⟨ne c2 c3 (by decide), ne c2 c4 (by decide), ne c2 c5 (by decide)⟩, ⟨ne c3 c4 (by decide), ne c3 c5 (by decide)⟩, ne c4 c5 (by decide)⟩
/-! ### kinds, books -/
def kinds : List Str := ["bolt", "claim", "class", "cloth", "day", "grant", "hand", "master", "measurer", "order", "panel", "reef", "repair", "revoke", "rig", "sail", "seen", "share", "table", "wind"]
theorem kinds_strs : ∀ k ∈ kinds, PyData.strOk k = true := by decide +kernel
theorem kinds_ok : f__law_kinds [] = .ok (.list (kinds.map PyData.str)) := by
  rw [f__law_kinds, fD_ap (by rfl)]
  simp [b__law_kinds, sSeq_ap]
  rw [fAdd_l _ _ (by rw [PySem.sizeLine_eq]; simp)]
  simp [kinds]
/-- a row of a book with these names -/
def RwN (ss : List Str) (d : D) : Prop := Rw d ∧ nm d ∈ ss
theorem RowIs.rwN {ss : List Str} {k n : Str} {d : D} (h : RowIs k n d) (hk : PyData.strOk k = true) (hn : n ∈ ss) (hs : ∀ s ∈ ss, PyData.strOk s = true) : RwN ss d := by
  obtain ⟨rest, rfl, h1, h2⟩ := h
  exact ⟨⟨k, n, rest, rfl, h1, h2, hk, hs n hn⟩, hn⟩
def Bk (ss : List Str) (m : Nat) (rs : List D) : Prop := Ris ky rs ∧ (∀ r ∈ rs, RwN ss r) ∧ rs.length ≤ m
theorem Bk.put {ss : List Str} {m : Nat} {rs : List D} {r : D} (h : Bk ss m rs) (hr : RwN ss r) : Bk ss (m + 1) (DL.put ky rs r) := by
  obtain ⟨h1, h2, h3⟩ := h
  refine ⟨put_ris h1, fun x hx => ?_, Nat.le_trans put_len (by omega)⟩
  rcases put_mem.mp hx with rfl | hx
  · exact hr
  · exact h2 x hx.1
theorem atI_num {xs : List Int} (h : ∀ x ∈ xs, num x) {i : Int} (h0 : 0 ≤ i) (h1 : i < xs.length) : ∃ j, atI (xs.map PyData.int) i = some (.int j) ∧ num j :=
  ⟨_, atI_map PyData.int xs h0 h1, h _ (List.getElem_mem ..)⟩
theorem ten {ys : List D} (l : ys.length = 10) (h : ∀ y ∈ ys, ∃ j, y = .int j ∧ num j) : ∃ n0 n1 n2 n3 n4 n5 n6 n7 n8 n9 : Int, ys = [.int n0, .int n1, .int n2, .int n3, .int n4, .int n5, .int n6, .int n7, .int n8, .int n9] ∧ num n0 ∧ num n1 ∧ num n2 ∧ num n3 ∧ num n4 ∧ num n5 ∧ num n6 ∧ num n7 ∧ num n8 ∧ num n9 := by
  match ys, l with
  | [y0, y1, y2, y3, y4, y5, y6, y7, y8, y9], _ =>
    obtain ⟨n0, rfl, h0⟩ := h y0 (by simp)
    obtain ⟨n1, rfl, h1⟩ := h y1 (by simp)
    obtain ⟨n2, rfl, h2⟩ := h y2 (by simp)
    obtain ⟨n3, rfl, h3⟩ := h y3 (by simp)
    obtain ⟨n4, rfl, h4⟩ := h y4 (by simp)
    obtain ⟨n5, rfl, h5⟩ := h y5 (by simp)
    obtain ⟨n6, rfl, h6⟩ := h y6 (by simp)
    obtain ⟨n7, rfl, h7⟩ := h y7 (by simp)
    obtain ⟨n8, rfl, h8⟩ := h y8 (by simp)
    obtain ⟨n9, rfl, h9⟩ := h y9 (by simp)
    exact ⟨n0, n1, n2, n3, n4, n5, n6, n7, n8, n9, rfl, h0, h1, h2, h3, h4, h5, h6, h7, h8, h9⟩
section
variable {s0 s1 s2 s3 s4 s5 : Str} {xs : List Int} {p0 p1 p2 p3 p4 : Int}
def BI (s0 s1 s2 s3 s4 s5 : Str) (xs : List Int) (start count : Int) (ps : List D) (ds : List D) (α : At) : Prop := (∀ d ∈ ds, ∃ k : Int, d = .int k ∧ 0 ≤ k ∧ k < 1000) ∧ ∃ (rs : List D) (u7 u8 u9 u10 : AV), Bk [s0, s1, s2, s3, s4, s5] (count.toNat - ds.length) rs ∧ ds.length ≤ count.toNat ∧
  α = [AV.dat (.list (xs.map PyData.int)), .dat (.int start), .dat (.int count), .dat (.list [.str s0, .str s1, .str s2, .str s3, .str s4, .str s5]), .dat (.list ps), .dat (.list rs), .dat (.list (kinds.map PyData.str)), u7, u8, u9, u10]
theorem book_ok (hs : ∀ s ∈ [s0, s1, s2, s3, s4, s5], PyData.strOk s = true) (hx : ∀ x ∈ xs, num x) (h0 : 0 < xs.length) (hm : xs.length < 1000) (start count : Int) (t0 : 0 ≤ start) (t1 : start < 1000) (c0 : 0 ≤ count) (c1 : count < 1000) :
    ∃ rs, f__law_book [.list (xs.map PyData.int), .int start, .int count, .list [.str s0, .str s1, .str s2, .str s3, .str s4, .str s5], .list [.int p0, .int p1, .int p2, .int p3, .int p4]] = .ok (.list rs) ∧ Bk [s0, s1, s2, s3, s4, s5] count.toNat rs := by
  suffices h : Sat (fun d => ∃ rs, d = .list rs ∧ Bk [s0, s1, s2, s3, s4, s5] count.toNat rs) (f__law_book [.list (xs.map PyData.int), .int start, .int count, .list [.str s0, .str s1, .str s2, .str s3, .str s4, .str s5], .list [.int p0, .int p1, .int p2, .int p3, .int p4]]) by
    obtain ⟨_, e, rs, rfl, h⟩ := h
    exact ⟨rs, e, h⟩
  obtain ⟨z, hz⟩ : ∃ z : Int, z = xs.length := ⟨_, rfl⟩
  refine Sat.fD rfl (ON.seq ?_)
  simp
  refine ON.seq ?_
  simp [kinds_ok]
  refine ON.seq (ON.for_ (BI s0 s1 s2 s3 s4 s5 xs start count [.int p0, .int p1, .int p2, .int p3, .int p4]) (iRangeL (n := count) (by simp) (by omega) (by omega)) ?_ ?_ ?_)
  · refine ⟨fun d hd => ?_, [], .un, .un, .un, .un, ⟨List.Pairwise.nil, by simp, by simp⟩, by simp, rfl⟩
    obtain ⟨k, hk, rfl⟩ := List.mem_map.mp hd
    exact ⟨k, rfl, by omega, by simp at hk; omega⟩
  · rintro d ds α ⟨hk, rs, u7, u8, u9, u10, hb, hl, rfl⟩
    obtain ⟨k, rfl, k0, k1⟩ := hk d (List.mem_cons_self ..)
    refine ⟨_, rfl, ON.seq ?_⟩
    obtain ⟨ys, ey, ly, py⟩ := lcD_ex (f := cmD (.nm 10) yesT (d2 fIx (dV 0) (d2 fMod (d2 fAdd (d2 fAdd (dV 1) (d2 fMul (dC (.int (5))) (dV 7))) (dV 10)) (dN fLen (aCons (dV 0) aNil))))
        [some (.list (xs.map PyData.int)), some (.int start), some (.int count), some (.list [.str s0, .str s1, .str s2, .str s3, .str s4, .str s5]), some (.list [.int p0, .int p1, .int p2, .int p3, .int p4]), some (.list rs), some (.list (kinds.map PyData.str)), some (.int k), u8.dt, u9.dt, none])
      (P := fun d => ∃ j, d = .int j ∧ num j) (ds := (List.range 10).map fun i : Nat => PyData.int i) (fun d hd => by
        obtain ⟨i, hi, rfl⟩ := List.mem_map.mp hd
        obtain ⟨y, hy⟩ : ∃ y : Int, y = (i : Int) := ⟨_, rfl⟩
        have hi : i < 10 := by simpa using hi
        rw [← hy]
        obtain ⟨j, q, hj⟩ := atI_num hx (i := (start + 5 * k + y) % z) (Int.emod_nonneg _ (by omega)) (by have := Int.emod_lt_of_pos (start + 5 * k + y) (show 0 < z by omega); omega)
        refine ⟨.int j, ?_, j, rfl, hj⟩
        simp only [cmD, setT_nm, List.set, yesT_ap, Res.bind_ok, d2_ap, dN_ap, aCons_ap, aNil_ap, dC_ap, dV_s, dV_z, fMul_sm' (i := 5) (k := k) (by decide) (by decide), Res.of_some, fAdd_int, fLen_l, List.length_map, ← hz, fMod_pos (i := start + 5 * k + y) (k := z) (by omega), fIx_l, q, if_true, noEr_ok])
    obtain ⟨n0, n1, n2, n3, n4, n5, n6, n7, n8, n9, rfl, hn0, hn1, hn2, hn3, hn4, hn5, hn6, hn7, hn8, hn9⟩ := ten (by simpa using ly) py
    have er := iRangeL (a := dC (.int 10)) (β := [some (.list (xs.map PyData.int)), some (.int start), some (.int count), some (.list [.str s0, .str s1, .str s2, .str s3, .str s4, .str s5]), some (.list [.int p0, .int p1, .int p2, .int p3, .int p4]), some (.list rs), some (.list (kinds.map PyData.str)), some (.int k), u8.dt, u9.dt, u10.dt]) (n := 10) rfl (by decide) (by decide)
    simp only [sLay_ap, sD_ap, dLc_ap, dats_cons, dats_nil, dt_d, List.set, er, Res.bind_ok, show (10 : Int).toNat = 10 from rfl, le_size (n := ((List.range 10).map fun i : Nat => PyData.int i).length) (by decide), if_true, wipeB_cons, wipeB_nil, ey, ofR_ok, ON_nx]
    refine ON.seq ?_
    obtain ⟨w, ew, mw⟩ := atI_in [PyData.int p0, .int p1, .int p2, .int p3, .int p4] (i := n0 % 5) (by omega) (by simp; omega)
    obtain ⟨p, rfl⟩ : ∃ p, w = .int p := by
      simp at mw
      rcases mw with rfl | rfl | rfl | rfl | rfl <;> exact ⟨_, rfl⟩
    obtain ⟨v, ev, mv⟩ := atI_in (kinds.map PyData.str) (i := p % 20) (by omega) (by simp [kinds]; omega)
    obtain ⟨kd', hkd, rfl⟩ := List.mem_map.mp mv
    simp [fMod_pos, ew, ev]
    obtain ⟨v2, ev2, mv2⟩ := atI_in [PyData.str s0, .str s1, .str s2, .str s3, .str s4, .str s5] (i := n1 % 6) (by omega) (by simp; omega)
    obtain ⟨n', rfl, hn'⟩ : ∃ n' : Str, v2 = .str n' ∧ n' ∈ [s0, s1, s2, s3, s4, s5] := by
      simp at mv2
      rcases mv2 with rfl | rfl | rfl | rfl | rfl | rfl <;> exact ⟨_, rfl, by simp⟩
    obtain ⟨row, erow, hrow⟩ := row_sat (kind := kd') (name := n') hs hn2 hn3 hn4 hn5 hn6 hn7 hn8 hn9 hn0 hn1
    have hr := RowIs.rwN hrow (kinds_strs _ hkd) hn' hs
    have e1 : cutD [PyData.int n0, .int n1, .int n2, .int n3, .int n4, .int n5, .int n6, .int n7, .int n8, .int n9] (some 2) none = [.int n2, .int n3, .int n4, .int n5, .int n6, .int n7, .int n8, .int n9] := rfl
    have e2 : cutD [PyData.int n0, .int n1, .int n2, .int n3, .int n4, .int n5, .int n6, .int n7, .int n8, .int n9] none (some 2) = [.int n0, .int n1] := rfl
    have e3 : fAdd (.list [PyData.int n2, .int n3, .int n4, .int n5, .int n6, .int n7, .int n8, .int n9]) (.list [.int n0, .int n1]) = some (.list [.int n2, .int n3, .int n4, .int n5, .int n6, .int n7, .int n8, .int n9, .int n0, .int n1]) := fAdd_l _ _ (by rw [PySem.sizeLine_eq]; simp)
    have e4 := placed_ok (rs := rs) (d := row) (fun x hx => (hb.2.1 x hx).1) hr.1 (by have := hb.2.2; omega)
    simp [at1, fMod_pos, ev2, e1, e2, e3, erow, e4]
    refine ⟨fun d hd => hk d (List.mem_cons_of_mem _ hd), DL.put ky rs row, _, _, _, _, ?_, by simp at hl; omega, rfl⟩
    have := hb.put hr
    simp only [List.length_cons] at this hl
    rwa [show count.toNat - (ds.length + 1) + 1 = count.toNat - ds.length by omega] at this
  · rintro α ⟨_, rs, u7, u8, u9, u10, hb, _, rfl⟩
    simp
    exact hb
end
end Cm

/-! PL8: keys as tuples, rows in books, edits. -/
namespace DL
open PySem L2 Cm
theorem lcD_pick {f : D → Res (Option D)} (p : D → Bool) (g : D → D) {ds : List D} (h : ∀ d ∈ ds, f d = .ok (if p d = true then some (g d) else none)) : lcD f ds = .ok ((ds.filter p).map g) := by
  rw [lcD_map h]
  congr 1
  induction ds with
  | nil => rfl
  | cons x xs ih =>
    have ih := ih fun d hd => h d (List.mem_cons_of_mem _ hd)
    by_cases q : p x = true <;> simp_all
theorem bk_kind {ss : List Str} {m : Nat} {rs : List D} (h : Bk ss m rs) (k : Str) : (rs.filter fun x => decide (kd x = k)).length ≤ ss.length := by
  obtain ⟨h1, h2, h3⟩ := h
  rw [← List.length_map (f := nm)]
  refine List.Nodup.length_le_of_subset ?_ fun x hx => ?_
  · unfold List.Nodup
    rw [List.pairwise_map]
    refine List.Pairwise.imp_of_mem ?_ (h1.filter _)
    intro a b ha hb hab e
    have ka : kd a = k := by simpa using (List.mem_filter.mp ha).2
    have kb : kd b = k := by simpa using (List.mem_filter.mp hb).2
    have : ky a = ky b := Prod.ext (ka.trans kb.symm) e
    rw [this, kl_irr] at hab
    cases hab
  · obtain ⟨y, hy, rfl⟩ := List.mem_map.mp hx
    exact (h2 y (List.mem_filter.mp hy).1).2
theorem Rw.oks {d : D} (h : Rw d) : PyData.strOk (kd d) = true ∧ PyData.strOk (nm d) = true := by
  obtain ⟨k, n, rest, rfl, h1, h2, h3, h4⟩ := h
  exact ⟨h3, h4⟩
def keyD (k : Ky) : D := .tuple [.str k.1, .str k.2]
def okK (k : Ky) : Prop := PyData.strOk k.1 = true ∧ PyData.strOk k.2 = true
theorem key_pl {k : Ky} (h : okK k) : Pl 1 (keyD k) = true := by
  simp [keyD, Pl_str, h.1, h.2]
theorem keyD_inj {a b : Ky} : keyD a = keyD b ↔ a = b := by
  simp [keyD, Prod.ext_iff]
theorem eqv_dec {n : Nat} {x y : D} (hx : Pl n x = true) (hy : Pl n y = true) (q : Decidable (x = y)) : PyData.eqv x y = @decide (x = y) q := by
  have := Pl.eqv hx hy
  by_cases e : x = y <;> cases h : PyData.eqv x y <;> simp_all
theorem fNe_key {a b : Ky} (h1 : okK a) (h2 : okK b) : fNe (keyD a) (keyD b) = some (.bool (decide (a ≠ b))) := by
  have p1 := key_pl h1
  have p2 := key_pl h2
  have e : eqD (keyD a) (keyD b) = some (PyData.eqv (keyD a) (keyD b)) := if_pos ⟨Pl.shaped p1 (by decide), Pl.shaped p2 (by decide)⟩
  have w := Pl.eqv p1 p2
  rw [keyD_inj] at w
  unfold fNe
  rw [e]
  by_cases q : a = b
  · rw [w.mpr q]
    simp [q]
  · have : PyData.eqv (keyD a) (keyD b) = false := by
      cases z : PyData.eqv (keyD a) (keyD b) with
      | false => rfl
      | true => exact absurd (w.mp z) q
    simp [this, q]
theorem fLt_key (a b : Ky) : fLt (keyD a) (keyD b) = some (.bool (kl a b)) := by
  have e : kinAll [PyData.str a.1, .str a.2] [.str b.1, .str b.2] = true := rfl
  have e2 : lexB [PyData.str a.1, .str a.2] [.str b.1, .str b.2] = kl a b := by
    simp only [lexB, eqS, ltB, kl]
    by_cases q : a.1 = b.1
    · rw [q]
      have i := sl_irr b.1
      unfold sl at i ⊢
      by_cases q2 : a.2 = b.2
      · have i2 := sl_irr b.2
        unfold sl at i2
        simp [q2] at i2 ⊢
        try simp [i, i2]
      · simp [q2, sl]
        intro z
        exact absurd z (by simpa using i)
    · simp [q, sl]
  unfold fLt keyD
  simp only [e, if_true, e2]
theorem notin_rows {d : D} {rs : List D} (h : Rw d) (k : ∀ x ∈ rs, Rw x) (t : Bool) (q : Decidable (d ∈ rs)) : fNotIn d (if t then .tuple rs else .list rs) = some (.bool !(@decide (d ∈ rs) q)) := by
  have s := shapedL (n := 4) (ds := rs) (fun x hx => (k x hx).pl) (by decide)
  have e : inD d (if t then .tuple rs else .list rs) = some (rs.any fun z => PyData.eqv z d) := by
    cases t with
    | true => exact if_pos ⟨Pl.shaped h.pl (by decide), s.2⟩
    | false => exact if_pos ⟨Pl.shaped h.pl (by decide), s.1⟩
  unfold fNotIn
  rw [e]
  have w : (rs.any fun z => PyData.eqv z d) = @decide (d ∈ rs) q := by
    by_cases m : d ∈ rs
    · have : (rs.any fun z => PyData.eqv z d) = true := List.any_eq_true.mpr ⟨d, m, (Pl.eqv h.pl h.pl).mpr rfl⟩
      simp [this, m]
    · have : (rs.any fun z => PyData.eqv z d) = false := by
        rw [List.any_eq_false]
        intro z hz e
        exact m ((Pl.eqv (k z hz).pl h.pl).mp e ▸ hz)
      simp [this, m]
  rw [Option.map_some, w]
theorem any_key {rs : List D} {k : Ky} : (rs.any fun x => decide (ky x = k)) = decide (k ∈ rs.map ky) := by
  by_cases m : k ∈ rs.map ky
  · obtain ⟨x, hx, e⟩ := List.mem_map.mp m
    have : (rs.any fun x => decide (ky x = k)) = true := List.any_eq_true.mpr ⟨x, hx, by simpa using e⟩
    simp [this, m]
  · have : (rs.any fun x => decide (ky x = k)) = false := by
      rw [List.any_eq_false]
      intro z hz e
      exact m (List.mem_map.mpr ⟨z, hz, by simpa using e⟩)
    rw [this]
    simp [m]
end DL

/-! PM1: values with None among them: when two are the same. -/
namespace DL
open PySem L2
theorem isi_nn (T : String) (a : Bt → Res D) (β : Bt) (h : a β = .ok .none) : dIsi T a β = .ok (.bool (subB "NoneType" T)) := by unfold dIsi; rw [h]; rfl
theorem isi_li (T : String) (a : Bt → Res D) (β : Bt) (i : List D) (h : a β = .ok (.list i)) : dIsi T a β = .ok (.bool (subB "list" T)) := by unfold dIsi; rw [h]; rfl
/-- None, whole numbers, texts, tuples of these -/
def Pn : Nat → D → Bool
  | _, .none => true
  | _, .int _ => true
  | _, .str s => PyData.strOk s
  | n + 1, .tuple ds => decide (ds.length < 1000) && ds.all (Pn n)
  | _, _ => false
/-- .. and lists of anything -/
def Qn : Nat → D → Bool
  | _, .none => true
  | _, .int _ => true
  | _, .str _ => true
  | _, .list _ => true
  | n + 1, .tuple ds => decide (ds.length < 1000) && ds.all (Qn n)
  | _, _ => false
theorem Pn.inv {n : Nat} {d : D} (h : Pn n d = true) : d = .none ∨ (∃ i, d = .int i) ∨ (∃ s, d = .str s ∧ PyData.strOk s = true) ∨ ∃ m ds, n = m + 1 ∧ d = .tuple ds ∧ ds.length < 1000 ∧ ∀ x ∈ ds, Pn m x = true := by
  cases d with
  | none => exact .inl rfl
  | int i => exact .inr (.inl ⟨i, rfl⟩)
  | str s => exact .inr (.inr (.inl ⟨s, rfl, by cases n <;> exact h⟩))
  | tuple ds =>
    cases n with
    | zero => simp [Pn] at h
    | succ m =>
      simp only [Pn, Bool.and_eq_true, List.all_eq_true, decide_eq_true_eq] at h
      exact .inr (.inr (.inr ⟨m, ds, rfl, rfl, h.1, h.2⟩))
  | bool _ => cases n <;> simp [Pn] at h
  | list _ => cases n <;> simp [Pn] at h
  | dict _ => cases n <;> simp [Pn] at h
theorem Qn.inv {n : Nat} {d : D} (h : Qn n d = true) : d = .none ∨ (∃ i, d = .int i) ∨ (∃ s, d = .str s) ∨ (∃ ds, d = .list ds) ∨ ∃ m ds, n = m + 1 ∧ d = .tuple ds ∧ ds.length < 1000 ∧ ∀ x ∈ ds, Qn m x = true := by
  cases d with
  | none => exact .inl rfl
  | int i => exact .inr (.inl ⟨i, rfl⟩)
  | str s => exact .inr (.inr (.inl ⟨s, rfl⟩))
  | list ds => exact .inr (.inr (.inr (.inl ⟨ds, rfl⟩)))
  | tuple ds =>
    cases n with
    | zero => simp [Qn] at h
    | succ m =>
      simp only [Qn, Bool.and_eq_true, List.all_eq_true, decide_eq_true_eq] at h
      exact .inr (.inr (.inr (.inr ⟨m, ds, rfl, rfl, h.1, h.2⟩)))
  | bool _ => cases n <;> simp [Qn] at h
  | dict _ => cases n <;> simp [Qn] at h
theorem Pn.of_pl : ∀ {n : Nat} {d : D}, Pl n d = true → Pn n d = true := by
  intro n
  induction n with
  | zero =>
    intro d h
    rcases Pl.inv h with ⟨i, rfl⟩ | ⟨s, rfl, k⟩ | ⟨_, _, e, _⟩
    · rfl
    · exact k
    · cases e
  | succ n ih =>
    intro d h
    rcases Pl.inv h with ⟨i, rfl⟩ | ⟨s, rfl, k⟩ | ⟨m, ds, e, rfl, h1, h2⟩
    · rfl
    · exact k
    · cases e
      simp only [Pn, Bool.and_eq_true, List.all_eq_true, decide_eq_true_eq]
      exact ⟨h1, fun x hx => ih (h2 x hx)⟩
theorem Pn.q : ∀ {n : Nat} {d : D}, Pn n d = true → Qn n d = true := by
  intro n
  induction n with
  | zero =>
    intro d h
    rcases Pn.inv h with rfl | ⟨i, rfl⟩ | ⟨s, rfl, k⟩ | ⟨_, _, e, _⟩
    · rfl
    · rfl
    · rfl
    · cases e
  | succ n ih =>
    intro d h
    rcases Pn.inv h with rfl | ⟨i, rfl⟩ | ⟨s, rfl, k⟩ | ⟨m, ds, e, rfl, h1, h2⟩
    · rfl
    · rfl
    · rfl
    · cases e
      simp only [Qn, Bool.and_eq_true, List.all_eq_true, decide_eq_true_eq]
      exact ⟨h1, fun x hx => ih (h2 x hx)⟩
theorem Pn.up {n : Nat} : ∀ {d : D}, Pn n d = true → Pn (n + 1) d = true := by
  induction n with
  | zero =>
    intro d h
    rcases Pn.inv h with rfl | ⟨i, rfl⟩ | ⟨s, rfl, k⟩ | ⟨_, _, e, _⟩
    · rfl
    · rfl
    · exact k
    · cases e
  | succ n ih =>
    intro d h
    rcases Pn.inv h with rfl | ⟨i, rfl⟩ | ⟨s, rfl, k⟩ | ⟨m, ds, e, rfl, h1, h2⟩
    · rfl
    · rfl
    · exact k
    · cases e
      have : Pn (n + 1 + 1) (.tuple ds) = (decide (ds.length < 1000) && ds.all (Pn (n + 1))) := rfl
      rw [this]
      simp only [Bool.and_eq_true, List.all_eq_true, decide_eq_true_eq]
      exact ⟨h1, fun x hx => ih (h2 x hx)⟩
theorem Pn.mono {n m : Nat} {d : D} (h : Pn n d = true) (hm : n ≤ m) : Pn m d = true := by
  induction hm with
  | refl => exact h
  | step _ ih => exact Pn.up ih
theorem Pn.tup {n : Nat} {ds : List D} (h : ds.length < 1000) (k : ∀ x ∈ ds, Pn n x = true) : Pn (n + 1) (.tuple ds) = true := by
  simp only [Pn, Bool.and_eq_true, List.all_eq_true, decide_eq_true_eq]
  exact ⟨h, k⟩
theorem Qn.tup {n : Nat} {ds : List D} (h : ds.length < 1000) (k : ∀ x ∈ ds, Qn n x = true) : Qn (n + 1) (.tuple ds) = true := by
  simp only [Qn, Bool.and_eq_true, List.all_eq_true, decide_eq_true_eq]
  exact ⟨h, k⟩
theorem Qn.up {n : Nat} : ∀ {d : D}, Qn n d = true → Qn (n + 1) d = true := by
  induction n with
  | zero =>
    intro d h
    rcases Qn.inv h with rfl | ⟨i, rfl⟩ | ⟨s, rfl⟩ | ⟨l, rfl⟩ | ⟨_, _, e, _⟩
    · rfl
    · rfl
    · rfl
    · rfl
    · cases e
  | succ n ih =>
    intro d h
    rcases Qn.inv h with rfl | ⟨i, rfl⟩ | ⟨s, rfl⟩ | ⟨l, rfl⟩ | ⟨m, ds, e, rfl, h1, h2⟩
    · rfl
    · rfl
    · rfl
    · rfl
    · cases e
      exact Qn.tup h1 fun x hx => ih (h2 x hx)
theorem Qn.mono {n m : Nat} {d : D} (h : Qn n d = true) (hm : n ≤ m) : Qn m d = true := by
  induction hm with
  | refl => exact h
  | step _ ih => exact Qn.up ih
/-- a row or none -/
def Vn (d : D) : Prop := d = .none ∨ Rw d
theorem Vn.pn {d : D} (h : Vn d) : Pn 4 d = true := by
  rcases h with rfl | h
  · rfl
  · exact Pn.of_pl h.pl
theorem Rw.nn {d : D} (h : Rw d) : d ≠ .none := by
  obtain ⟨k, n, rest, rfl, _⟩ := h
  exact fun z => nomatch z
theorem eqD_ver {x y : D} (hx : Vn x) (hy : Vn y) (q : Decidable (x = y)) : eqD x y = some (@decide (x = y) q) := by
  rcases hx with rfl | hx
  · rcases hy with rfl | hy
    · have s0 : SeqAt.shaped .none = true := by decide +kernel
      have e : eqD .none .none = some (PyData.eqv .none .none) := by
        unfold eqD
        exact if_pos ⟨s0, s0⟩
      rw [e]
      simp [PyData.eqv]
    · have p := hy.pl
      obtain ⟨k, n, rest, rfl, _⟩ := hy
      have e : eqD .none (.tuple (.str k :: .str n :: rest)) = some (PyData.eqv .none (.tuple (.str k :: .str n :: rest))) := if_pos ⟨by decide +kernel, Pl.shaped p (by decide)⟩
      rw [e]
      simp [PyData.eqv]
  · have p := hx.pl
    rcases hy with rfl | hy
    · obtain ⟨k, n, rest, rfl, _⟩ := hx
      have e : eqD (.tuple (.str k :: .str n :: rest)) .none = some (PyData.eqv (.tuple (.str k :: .str n :: rest)) .none) := if_pos ⟨Pl.shaped p (by decide), by decide +kernel⟩
      rw [e]
      simp [PyData.eqv]
    · have p2 := hy.pl
      obtain ⟨k, n, rest, rfl, _⟩ := hx
      have e : eqD (.tuple (.str k :: .str n :: rest)) y = some (PyData.eqv (.tuple (.str k :: .str n :: rest)) y) := if_pos ⟨Pl.shaped p (by decide), Pl.shaped p2 (by decide)⟩
      rw [e, eqv_dec p p2 q]
theorem fNe_ver {x y : D} (hx : Vn x) (hy : Vn y) (q : Decidable (x = y)) : fNe x y = some (.bool !(@decide (x = y) q)) := by
  unfold fNe
  rw [eqD_ver hx hy q]
  rfl
end DL
namespace Cm
open PySem L2 DL
open Classical in
theorem same_any : ∀ (n m : Nat), n < m → ∀ x y : D, Qn n x = true → Pn n y = true → F__law_same m [x, y] = .ok (.bool (decide (x = y))) := by
  intro n
  induction n with
  | zero =>
    intro m hm x y hx hy
    obtain ⟨m, rfl⟩ : ∃ k, m = k + 1 := ⟨m - 1, by omega⟩
    rw [F__law_same, fD_ap (by rfl)]
    rcases Pn.inv hy with rfl | ⟨j, rfl⟩ | ⟨t, rfl, _⟩ | ⟨_, _, e, _⟩
    · rcases Qn.inv hx with rfl | ⟨i, rfl⟩ | ⟨s, rfl⟩ | ⟨l, rfl⟩ | ⟨_, _, e, _⟩
      case inr.inr.inr.inr => cases e
      all_goals simp [b__law_same, sSeq_ap, sIf_ap, isi_int, isi_str, isi_tup, isi_nn, isi_li, subB, fIs, isN, beqI, beqS]
    · rcases Qn.inv hx with rfl | ⟨i, rfl⟩ | ⟨s, rfl⟩ | ⟨l, rfl⟩ | ⟨_, _, e, _⟩
      case inr.inr.inr.inr => cases e
      all_goals simp [b__law_same, sSeq_ap, sIf_ap, isi_int, isi_str, isi_tup, isi_nn, isi_li, subB, fIs, isN, beqI, beqS]
    · rcases Qn.inv hx with rfl | ⟨i, rfl⟩ | ⟨s, rfl⟩ | ⟨l, rfl⟩ | ⟨_, _, e, _⟩
      case inr.inr.inr.inr => cases e
      all_goals simp [b__law_same, sSeq_ap, sIf_ap, isi_int, isi_str, isi_tup, isi_nn, isi_li, subB, fIs, isN, beqI, beqS]
    · cases e
  | succ n ih =>
    intro m hm x y hx hy
    obtain ⟨m, rfl⟩ : ∃ k, m = k + 1 := ⟨m - 1, by omega⟩
    rw [F__law_same, fD_ap (by rfl)]
    rcases Pn.inv hy with rfl | ⟨j, rfl⟩ | ⟨t, rfl, _⟩ | ⟨_, ys, e, rfl, ly, qy⟩
    · rcases Qn.inv hx with rfl | ⟨i, rfl⟩ | ⟨s, rfl⟩ | ⟨l, rfl⟩ | ⟨_, xs, e, rfl, lx, qx⟩
      all_goals simp [b__law_same, sSeq_ap, sIf_ap, isi_int, isi_str, isi_tup, isi_nn, isi_li, subB, fIs, isN, beqI, beqS]
    · rcases Qn.inv hx with rfl | ⟨i, rfl⟩ | ⟨s, rfl⟩ | ⟨l, rfl⟩ | ⟨_, xs, e, rfl, lx, qx⟩
      all_goals simp [b__law_same, sSeq_ap, sIf_ap, isi_int, isi_str, isi_tup, isi_nn, isi_li, subB, fIs, isN, beqI, beqS]
    · rcases Qn.inv hx with rfl | ⟨i, rfl⟩ | ⟨s, rfl⟩ | ⟨l, rfl⟩ | ⟨_, xs, e, rfl, lx, qx⟩
      all_goals simp [b__law_same, sSeq_ap, sIf_ap, isi_int, isi_str, isi_tup, isi_nn, isi_li, subB, fIs, isN, beqI, beqS]
    · rcases Qn.inv hx with rfl | ⟨i, rfl⟩ | ⟨s, rfl⟩ | ⟨l, rfl⟩ | ⟨_, xs, e', rfl, lx, qx⟩
      · simp [b__law_same, sSeq_ap, sIf_ap, isi_int, isi_str, isi_tup, isi_nn, isi_li, subB, fIs, isN, beqI, beqS]
      · simp [b__law_same, sSeq_ap, sIf_ap, isi_int, isi_str, isi_tup, isi_nn, isi_li, subB, fIs, isN, beqI, beqS]
      · simp [b__law_same, sSeq_ap, sIf_ap, isi_int, isi_str, isi_tup, isi_nn, isi_li, subB, fIs, isN, beqI, beqS]
      · simp [b__law_same, sSeq_ap, sIf_ap, isi_int, isi_str, isi_tup, isi_nn, isi_li, subB, fIs, isN, beqI, beqS]
      · cases e
        cases e'
        by_cases hl : xs.length = ys.length
        · have e1 : iRange1 (dN fLen (aCons (dV 1) aNil)) [some (.tuple xs), some (.tuple ys), none] = .ok ((List.range ys.length).map fun i : Nat => PyData.int i) :=
            iRangeL (n := ys.length) (by simp) (by omega) (by omega)
          have e2 := lcD_enc (f := cmD (.nm 2) (tNot (tV (dCall (F__law_same m) (aCons (d2 fIx (dV 0) (dV 2)) (aCons (d2 fIx (dV 1) (dV 2)) aNil))))) (dV 2) [some (.tuple xs), some (.tuple ys), none]) (fun i : Nat => PyData.int i)
            (fun i => if xs[i]? = ys[i]? then none else some (.int i)) (xs := List.range ys.length) (fun i hi => by
              have h1 : i < ys.length := by simpa using hi
              have h2 : i < xs.length := by omega
              have a1 : atI xs (i : Int) = some xs[i] := atI_lt _ _ h2
              have a2 : atI ys (i : Int) = some ys[i] := atI_lt _ _ h1
              have a3 := ih m (by omega) xs[i] ys[i] (qx _ (List.getElem_mem ..)) (qy _ (List.getElem_mem ..))
              simp [cmD, a1, a2, a3, List.getElem?_eq_getElem h1, List.getElem?_eq_getElem h2]
              by_cases e : xs[i] = ys[i] <;> simp [e])
          have e3 : ((List.range ys.length).filterMap (fun i : Nat => if xs[i]? = ys[i]? then none else some (PyData.int (i : Int)))).length = 0 ↔ xs = ys := by
            rw [lcD_none]
            constructor
            · intro h
              refine List.ext_getElem? fun i => ?_
              by_cases hi : i < ys.length
              · have := h i (by simpa using hi)
                by_cases q : xs[i]? = ys[i]?
                · exact q
                · rw [if_neg q] at this; cases this
              · rw [List.getElem?_eq_none (by omega), List.getElem?_eq_none (by omega)]
            · rintro rfl i _
              simp
          generalize hg : (List.range ys.length).filterMap (fun i : Nat => if xs[i]? = ys[i]? then none else some (PyData.int i)) = zs at e2 e3
          have lz : (List.range ys.length).length < 16777217 := by simp; omega
          simp [b__law_same, sSeq_ap, sIf_ap, isi_int, isi_str, isi_tup, subB, fIs, isN, hl, e1, le_size (n := ys.length) (by omega), e2]
          by_cases q : xs = ys
          · rw [e3.mpr q]; simp [q]
          · have : zs.length ≠ 0 := fun z => q (e3.mp z)
            rw [beqI _ _ inferInstance]
            simp [q]
            intro z
            exact this (by simp [z])
        · have hl' : ((xs.length : Int) == (ys.length : Int)) = false := by simp; omega
          have hne : xs ≠ ys := fun e => hl (congrArg List.length e)
          simp [b__law_same, sSeq_ap, sIf_ap, isi_int, isi_str, isi_tup, subB, fIs, isN, hl', hne]
end Cm

/-! PM2: versions of keys; the keys of books. -/
namespace Cg
open PySem L2 DL Cm
/-- the row of that key, or None -/
def ver (rs : List D) (k : Ky) : D := (rs.find? fun x => decide (ky x = k)).getD .none
theorem ver_in {rs : List D} {k : Ky} : ver rs k = .none ∨ ver rs k ∈ rs ∧ ky (ver rs k) = k := by
  unfold ver
  cases h : rs.find? fun x => decide (ky x = k) with
  | none => exact .inl rfl
  | some r => exact .inr ⟨List.mem_of_find?_eq_some h, by simpa using List.find?_some h⟩
theorem ver_vn {rs : List D} (h : ∀ x ∈ rs, Rw x) (k : Ky) : Vn (ver rs k) := ver_in.imp id fun z => h _ z.1
theorem key_ix0 (k : Ky) : fIx (keyD k) (.int 0) = some (.str k.1) := by
  simp [keyD]
theorem key_ix1 (k : Ky) : fIx (keyD k) (.int 1) = some (.str k.2) := by
  simp [keyD]
  exact atI_lit _ 1 _ rfl
theorem lver_test {k : Ky} {x : D} (hr : Rw x) (β : Bt) (h0 : β[2]? = some (some x)) (h1 : β[1]? = some (some (keyD k))) :
    DL.tAnd (tV (d2 fEq (d2 fIx (dV 2) (dC (.int (0)))) (d2 fIx (dV 1) (dC (.int (0)))))) (tV (d2 fEq (d2 fIx (dV 2) (dC (.int (1)))) (d2 fIx (dV 1) (dC (.int (1)))))) β = .ok (decide (ky x = k)) := by
  have e0 : dV 2 β = .ok x := by rw [dV_ap, h0]
  have e1 : dV 1 β = .ok (keyD k) := by rw [dV_ap, h1]
  obtain ⟨a, b⟩ := k
  by_cases q1 : kd x = a <;> by_cases q2 : nm x = b <;> simp [e0, e1, hr.ix0, hr.ix1, key_ix0, key_ix1, ky, q1, q2]
theorem lver_ok {rs : List D} {k : Ky} (h : ∀ x ∈ rs, Rw x) : f__law_version [.list rs, keyD k] = .ok (ver rs k) := by
  refine Sat.eq (Sat.fD rfl (ON.seq ?_))
  refine ON.for_ (ds := rs) (fun ds α => (∀ x ∈ ds, Rw x) ∧ ver ds k = ver rs k ∧ ∃ u, α = [AV.dat (.list rs), .dat (keyD k), u]) (by simp) ⟨h, rfl, .un, rfl⟩ ?_ ?_
  · rintro x ds α ⟨hx, e, u, rfl⟩
    refine ⟨_, rfl, ON.iff (c := decide (ky x = k)) (lver_test (hx x (List.mem_cons_self ..)) _ rfl rfl) (fun hc => ?_) (fun hc => ?_)⟩
    · rw [← e]
      unfold ver
      rw [List.find?_cons, hc]
      simp
    · refine .nx _ ⟨fun y hy => hx y (List.mem_cons_of_mem _ hy), ?_, _, rfl⟩
      rw [← e]
      unfold ver
      rw [List.find?_cons, hc]
  · rintro α ⟨_, e, u, rfl⟩
    rw [← e]
    simp [ver]
theorem rver_ok {rs : List D} {a b : Str} (h : ∀ x ∈ rs, Rw x) : f_row_version [.tuple rs, .str a, .str b] = .ok (ver rs (a, b)) := by
  rw [f_row_version, fD_ap (by rfl)]
  unfold ver
  cases q : rs.find? fun x => decide (ky x = (a, b)) with
  | none =>
    have e : (rs.any fun x => decide (ky x = (a, b))) = false := by
      rw [List.any_eq_false]
      exact List.find?_eq_none.mp q
    simp [b_row_version, sSeq_ap, sIf_ap, has_row_ok h, e]
  | some r =>
    have e : (rs.any fun x => decide (ky x = (a, b))) = true := List.any_eq_true.mpr ⟨r, List.mem_of_find?_eq_some q, by have z := List.find?_some q; simpa using z⟩
    simp [b_row_version, sSeq_ap, sIf_ap, has_row_ok h, e, find_row_ok h q]
/-! ### keys -/
def allK (rss : List (List D)) : List Ky := (rss.map fun rs => rs.map ky).flatten
theorem allK_cons (rs : List D) (rss : List (List D)) : allK (rs :: rss) = rs.map ky ++ allK rss := rfl
theorem pairs_keys : ∀ ks : List Ky, pairsD (ks.map keyD) = some ks
  | [] => rfl
  | k :: ks => by
    show (match pairD (keyD k), pairsD (ks.map keyD) with
      | some p, some r => some (p :: r)
      | _, _ => none) = _
    rw [pairs_keys ks]
    rfl
theorem dPr_eq : DS.dPr = keyD := rfl
theorem setD_keys {ks : List Ky} (h : (ded ks).length < 63) : setD (ks.map keyD) = .ok ((sortPr ks).map keyD) := by
  unfold setD
  rw [pairs_keys]
  dsimp only
  rw [if_pos h]
  rfl
theorem flat_tups (rss : List (List D)) : (rss.map PyData.tuple).length = rss.length := List.length_map ..
theorem keys_ok {base : List D} {books : List (List D)} (hb : ∀ x ∈ base, Rw x) (hk : ∀ rs ∈ books, ∀ x ∈ rs, Rw x) (few : (ded (allK (base :: books))).length < 63) (sm : (allK (base :: books)).length < 100000) :
    f_merge_keys [.tuple base, .tuple (books.map PyData.tuple)] = .ok (.list ((sortPr (allK (base :: books))).map keyD)) := by
  refine Sat.eq (Sat.fD rfl (ON.seq ?_))
  have hz := PySem.sizeLine_eq
  simp [iSq]
  refine ON.seq (ON.for_ (ds := books.map PyData.tuple) (fun ds α => ∃ (pre : List D) (post : List (List D)) (u v : AV), ds = post.map PyData.tuple ∧ α = [AV.dat (.tuple base), .dat (.tuple (books.map PyData.tuple)), .own pre, u, v] ∧ (∀ x ∈ pre, Rw x) ∧ (∀ rs ∈ post, ∀ x ∈ rs, Rw x) ∧ pre.map ky ++ allK post = allK (base :: books))
    (by simp) ⟨base, books, .un, .un, rfl, rfl, hb, hk, rfl⟩ ?_ ?_)
  · rintro d ds α ⟨pre, post, u, v, e, rfl, h1, h2, h3⟩
    cases post with
    | nil => cases e
    | cons rs post =>
      cases e
      have l3 := congrArg List.length h3
      rw [allK_cons, List.length_append, List.length_append, List.length_map, List.length_map] at l3
      refine ⟨_, rfl, ?_⟩
      have e1 : fList [.tuple rs] = some (.list rs) := rfl
      simp [sExt, e1]
      rw [if_pos (by omega)]
      simp
      refine ⟨pre ++ rs, post, rfl, rfl, fun x hx => ?_, fun q hq => h2 q (.tail _ hq), ?_⟩
      · rcases List.mem_append.mp hx with hx | hx
        · exact h1 x hx
        · exact h2 rs (.head _) x hx
      · rw [← h3, allK_cons, List.map_append, List.append_assoc]
  · rintro α ⟨pre, post, u, v, e, rfl, h1, h2, h3⟩
    cases post with
    | cons _ _ => cases e
    | nil =>
      have h3 : pre.map ky = allK (base :: books) := by rw [← h3]; simp [allK]
      have e2 : ∀ β : Bt, β.length = 5 → lcD (cmD (.nm 4) yesT (dCall f_row_key (aCons (dV 4) aNil)) β) pre = .ok ((pre.map ky).map keyD) := fun β hβ => by
        have z := lcD_all (f := cmD (.nm 4) yesT (dCall f_row_key (aCons (dV 4) aNil)) β) (fun x : D => x) (fun x => keyD (ky x)) (xs := pre) fun x hx => by
          have hr := row_key_ok (h1 x hx)
          have e4 : dV 4 (β.set 4 (some x)) = .ok x := by
            rw [dV_ap, List.getElem?_set_self (by omega)]
          simp [cmD, e4, hr, keyD, ky]
        rw [List.map_map]
        have z' : lcD (cmD (.nm 4) yesT (dCall f_row_key (aCons (dV 4) aNil)) β) pre = .ok (pre.map fun x => keyD (ky x)) := by simpa using z
        exact z'
      have e3 := setD_keys few
      rw [← h3, List.map_map] at e3
      have e2 := fun β hβ => (List.map_map ▸ e2 β hβ : _ = Res.ok (pre.map (keyD ∘ ky)))
      simp [lSc, wipeB, frzA, e2, e3]
      rw [h3]
end Cg

/-! PM3: the law's keys; what hands change. -/
namespace Cg
open PySem L2 DL Cm
theorem notin_keys {k : Ky} {ks : List Ky} (h : okK k) (hs : ∀ q ∈ ks, okK q) (q : Decidable (k ∈ ks)) : fNotIn (keyD k) (.list (ks.map keyD)) = some (.bool !(@decide (k ∈ ks) q)) := by
  have pl : ∀ x ∈ ks.map keyD, Pl 1 x = true := fun x hx => by
    obtain ⟨y, hy, rfl⟩ := List.mem_map.mp hx
    exact key_pl (hs y hy)
  have s := shapedL (n := 1) pl (by decide)
  have e : inD (keyD k) (.list (ks.map keyD)) = some ((ks.map keyD).any fun z => PyData.eqv z (keyD k)) := if_pos ⟨Pl.shaped (key_pl h) (by decide), s.1⟩
  unfold fNotIn
  rw [e]
  have w : ((ks.map keyD).any fun z => PyData.eqv z (keyD k)) = @decide (k ∈ ks) q := by
    by_cases m : k ∈ ks
    · have : ((ks.map keyD).any fun z => PyData.eqv z (keyD k)) = true := List.any_eq_true.mpr ⟨keyD k, List.mem_map.mpr ⟨k, m, rfl⟩, (Pl.eqv (key_pl h) (key_pl h)).mpr rfl⟩
      simp [this, m]
    · have : ((ks.map keyD).any fun z => PyData.eqv z (keyD k)) = false := by
        rw [List.any_eq_false]
        intro z hz e
        obtain ⟨y, hy, rfl⟩ := List.mem_map.mp hz
        exact m (keyD_inj.mp ((Pl.eqv (key_pl (hs y hy)) (key_pl h)).mp e) ▸ hy)
      simp [this, m]
  rw [Option.map_some, w]
theorem row_okK {x : D} (h : Rw x) : okK (ky x) := h.oks
/-- keys met so far -/
structure Met (l : List Ky) (seen : List Ky) : Prop where
  nd : l.Nodup
  mem : ∀ q, q ∈ l ↔ q ∈ seen
  ok : ∀ q ∈ seen, okK q
theorem Met.len {l seen : List Ky} (m : Met l seen) : l.length ≤ seen.length := sub_len m.nd fun q hq => (m.mem q).mp hq
theorem Met.old {l seen : List Ky} {k : Ky} (m : Met l seen) (h : k ∈ l) : Met l (seen ++ [k]) := by
  refine ⟨m.nd, fun q => ?_, fun q hq => ?_⟩
  · rw [m.mem q, List.mem_append, List.mem_singleton]
    refine ⟨.inl, fun z => z.elim id fun e => ?_⟩
    rw [e, ← m.mem]
    exact h
  · rcases List.mem_append.mp hq with hq | hq
    · exact m.ok q hq
    · rw [List.mem_singleton.mp hq]
      exact m.ok k ((m.mem k).mp h)
theorem Met.new {l seen : List Ky} {k : Ky} (m : Met l seen) (h : k ∉ l) (ok : okK k) : Met (l ++ [k]) (seen ++ [k]) := by
  refine ⟨?_, fun q => ?_, fun q hq => ?_⟩
  · refine List.nodup_append.mpr ⟨m.nd, by simp, fun a ha b hb e => ?_⟩
    rw [List.mem_singleton.mp hb] at e
    exact h (e ▸ ha)
  · rw [List.mem_append, List.mem_append, m.mem q]
  · rcases List.mem_append.mp hq with hq | hq
    · exact m.ok q hq
    · rw [List.mem_singleton.mp hq]
      exact ok
theorem lkeys_ok {rss : List (List D)} (h : ∀ rs ∈ rss, ∀ x ∈ rs, Rw x) (sm : (allK rss).length < 100000) : f__law_keys [.list (rss.map PyData.list)] = .ok (.list ((sortPr (allK rss)).map keyD)) := by
  refine Sat.eq (Sat.fD rfl (ON.seq ?_))
  have hz := PySem.sizeLine_eq
  simp
  refine ON.seq (ON.for_ (ds := rss.map PyData.list) (fun ds α => ∃ (l seen : List Ky) (post : List (List D)) (u v : AV), ds = post.map PyData.list ∧ α = [AV.dat (.list (rss.map PyData.list)), .own (l.map keyD), u, v] ∧ Met l seen ∧ (∀ rs ∈ post, ∀ x ∈ rs, Rw x) ∧ seen ++ allK post = allK rss)
    (by simp) ⟨[], [], rss, .un, .un, rfl, rfl, ⟨List.nodup_nil, fun _ => Iff.rfl, fun _ z => (nomatch z)⟩, h, rfl⟩ ?_ ?_)
  · rintro d ds α ⟨l, seen, post, u, v, e, rfl, m, h2, h3⟩
    cases post with
    | nil => cases e
    | cons rs post =>
      cases e
      have hrs := h2 rs (.head _)
      refine ⟨_, rfl, ?_⟩
      refine ON.for_ (ds := rs) (fun ds α => ∃ (l seen : List Ky) (v : AV), α = [AV.dat (.list (rss.map PyData.list)), .own (l.map keyD), .dat (.list rs), v] ∧ Met l seen ∧ (∀ x ∈ ds, Rw x) ∧ seen ++ ds.map ky ++ allK post = allK rss) (by simp) ⟨l, seen, v, rfl, m, hrs, by rw [← h3, allK_cons, List.append_assoc]⟩ ?_ ?_
      · rintro x ds α ⟨l, seen, v, rfl, m, hx, h4⟩
        have hr := hx x (.head _)
        have ln := m.len
        have l4 := congrArg List.length h4
        rw [List.length_append, List.length_append, List.map_cons, List.length_cons, List.length_map] at l4
        have ni := notin_keys (row_okK hr) (ks := l) (fun q hq => m.ok q ((m.mem q).mp hq)) inferInstance
        refine ⟨_, rfl, ON.iff (c := !decide (ky x ∈ l)) (by
          have ni' : fNotIn (PyData.tuple [.str (kd x), .str (nm x)]) (.list (l.map keyD)) = some (.bool !(decide (ky x ∈ l))) := ni
          simp [hr.ix0, hr.ix1, ni']) (fun hc => ?_) (fun hc => ?_)⟩
        · have hn : ky x ∉ l := by simpa using hc
          have ev : sApp 1 (sD (dTup (aCons (d2 fIx (dV 3) (dC (.int (0)))) (aCons (d2 fIx (dV 3) (dC (.int (1)))) aNil)))) [AV.dat (.list (rss.map PyData.list)), .own (l.map keyD), .dat (.list rs), .dat x] =
              .nx [AV.dat (.list (rss.map PyData.list)), .own ((l ++ [ky x]).map keyD), .dat (.list rs), .dat x] := by
            simp [hr.ix0, hr.ix1, keyD, ky]
            omega
          refine ev ▸ .nx _ ⟨l ++ [ky x], seen ++ [ky x], _, rfl, m.new hn (row_okK hr), fun y hy => hx y (.tail _ hy), ?_⟩
          rw [← h4]
          simp
        · have hn : ky x ∈ l := by simpa using hc
          refine .nx _ ⟨l, seen ++ [ky x], _, rfl, m.old hn, fun y hy => hx y (.tail _ hy), ?_⟩
          rw [← h4]
          simp
      · rintro α ⟨l, seen, v, rfl, m, _, h4⟩
        refine ⟨l, seen, post, _, _, rfl, rfl, m, fun q hq => h2 q (.tail _ hq), ?_⟩
        rw [← h4]
        simp
  · rintro α ⟨l, seen, post, u, v, e, rfl, m, h2, h3⟩
    cases post with
    | cons _ _ => cases e
    | nil =>
      have e1 : seen = allK rss := by rw [← h3]; simp [allK]
      subst e1
      have e2 : l.mergeSort DS.setLe = sortPr (allK rss) := sort_perm ((List.perm_ext_iff_of_nodup m.nd (ded_nodup _)).mpr fun q => (m.mem q).trans ded_mem.symm)
      have e3 : fSortP [.list (l.map keyD)] = some (.list ((sortPr (allK rss)).map keyD)) := by
        simp only [fSortP, pairs_keys, e2]
        rfl
      simp [frzA, e3]
theorem ks_mem {rss : List (List D)} {k : Ky} : k ∈ sortPr (allK rss) ↔ k ∈ allK rss := ((List.mergeSort_perm ..).mem_iff).trans ded_mem
theorem allK_ok {rss : List (List D)} (h : ∀ rs ∈ rss, ∀ x ∈ rs, Rw x) : ∀ k ∈ allK rss, okK k := by
  intro k hk
  obtain ⟨l, hl, hk⟩ := List.mem_flatten.mp hk
  obtain ⟨rs, hrs, rfl⟩ := List.mem_map.mp hl
  obtain ⟨x, hx, rfl⟩ := List.mem_map.mp hk
  exact row_okK (h rs hrs x hx)
end Cg

/-! PM4: what hands change. -/
namespace Cg
open PySem L2 DL Cm
open Classical
noncomputable def chgU (base : List D) (books : List (List D)) (k : Ky) (n : Nat) : List (Nat × D) := (List.range n).filterMap fun i => if ver (books.getD i []) k = ver base k then none else some (i, ver (books.getD i []) k)
noncomputable def chg (base : List D) (books : List (List D)) (k : Ky) : List (Nat × D) := chgU base books k books.length
def encC (p : Nat × D) : D := .tuple [.int (p.1 : Int), p.2]
def Bks (books : List (List D)) : Prop := ∀ rs ∈ books, ∀ x ∈ rs, Rw x
theorem Bks.at {books : List (List D)} (h : Bks books) (i : Nat) : ∀ x ∈ books.getD i [], Rw x := by
  rw [List.getD_eq_getElem?_getD]
  cases e : books[i]? with
  | none => exact fun x hx => nomatch hx
  | some rs => exact h rs (List.mem_of_getElem? e)
theorem chgU_len (base : List D) (books : List (List D)) (k : Ky) (n : Nat) : (chgU base books k n).length ≤ n := by
  have := List.length_filterMap_le (fun i => if ver (books.getD i []) k = ver base k then none else some (i, ver (books.getD i []) k)) (List.range n)
  unfold chgU
  simpa using this
theorem lchg_ok {base : List D} {books : List (List D)} {k : Ky} (hb : ∀ x ∈ base, Rw x) (hk : Bks books) (sm : books.length < 100000) : f__law_changes [.list base, .list (books.map PyData.list), keyD k] = .ok (.list ((chg base books k).map encC)) := by
  have hz := PySem.sizeLine_eq
  rw [f__law_changes, fD_ap (by rfl)]
  have e1 := lver_ok (k := k) hb
  have e2 := lcD_all (f := cmD (.nm 5) yesT (dCall f__law_version (aCons (dV 5) (aCons (dV 2) aNil))) [some (.list base), some (.list (books.map PyData.list)), some (keyD k), some (ver base k), none, none, none]) PyData.list (fun rs => ver rs k) (xs := books) fun rs hrs => by
    simp [cmD, lver_ok (k := k) (hk rs hrs)]
  have e3 : iRange1 (dN fLen (aCons (dV 1) aNil)) [some (.list base), some (.list (books.map PyData.list)), some (keyD k), some (ver base k), some (.list (books.map fun rs => ver rs k)), none, none] = .ok ((List.range books.length).map fun i : Nat => PyData.int i) :=
    iRangeL (n := books.length) (by simp) (by omega) (by omega)
  have e4 := lcD_enc (f := cmD (.nm 6) (tV (d2 fNe (d2 fIx (dV 4) (dV 6)) (dV 3))) (dTup (aCons (dV 6) (aCons (d2 fIx (dV 4) (dV 6)) aNil))) [some (.list base), some (.list (books.map PyData.list)), some (keyD k), some (ver base k), some (.list (books.map fun rs => ver rs k)), none, none]) (fun i : Nat => PyData.int i)
    (fun i => if ver (books.getD i []) k = ver base k then none else some (encC (i, ver (books.getD i []) k))) (xs := List.range books.length) (fun i hi => by
      have h1 : i < books.length := by simpa using hi
      have g : books.getD i [] = books[i] := by rw [List.getD_eq_getElem?_getD, List.getElem?_eq_getElem h1]; rfl
      have a1 : atI (books.map fun rs => ver rs k) (i : Int) = some (ver books[i] k) := by
        rw [atI_lt _ _ (by simpa using h1)]
        simp
      have a2 := fNe_ver (ver_vn (hk _ (List.getElem_mem h1)) k) (ver_vn hb k) (Classical.propDecidable _)
      rw [g]
      simp [cmD, a1, a2]
      by_cases e : ver books[i] k = ver base k <;> simp [e, encC])
  have e5 : (chg base books k).map encC = (List.range books.length).filterMap fun i => if ver (books.getD i []) k = ver base k then none else some (encC (i, ver (books.getD i []) k)) := by
    unfold chg chgU
    rw [List.map_filterMap]
    refine congrArg (fun f => List.filterMap f (List.range books.length)) (funext fun i => ?_)
    split <;> rfl
  rw [e5]
  have ez : (books.map PyData.list).length ≤ sizeLine := by simp; omega
  have ez2 : (List.range books.length).length ≤ sizeLine := by simp; omega
  simp [b__law_changes, sSeq_ap, e1, e2, e3, e4, le_size (n := books.length) (by omega)]
end Cg

/-! PM5: what hands change, told by the program; whether versions differ. -/
namespace Cg
open PySem L2 DL Cm
open Classical
theorem chgU_succ (base : List D) (books : List (List D)) (k : Ky) (n : Nat) : chgU base books k (n + 1) = chgU base books k n ++ (if ver (books.getD n []) k = ver base k then [] else [(n, ver (books.getD n []) k)]) := by
  unfold chgU
  rw [List.range_succ, List.filterMap_append]
  congr 1
  by_cases e : ver (books.getD n []) k = ver base k
  · simp only [List.filterMap_cons, List.filterMap_nil, if_pos e]
  · simp only [List.filterMap_cons, List.filterMap_nil, if_neg e]
theorem chgU_vn {base : List D} {books : List (List D)} {k : Ky} {n : Nat} (h : Bks books) : ∀ p ∈ chgU base books k n, Vn p.2 := by
  intro p hp
  unfold chgU at hp
  obtain ⟨i, _, e⟩ := List.mem_filterMap.mp hp
  split at e
  · cases e
  · cases e
    exact ver_vn (h.at i) k
theorem at_enc {cs : List (Nat × D)} {c : Nat × D} {r : List (Nat × D)} (h : cs = c :: r) : fIx (.tuple (cs.map encC)) (.int 0) = some (encC c) := by
  subst h
  simp
theorem enc_ix0 (c : Nat × D) : fIx (encC c) (.int 0) = some (.int (c.1 : Int)) := by simp [encC]
theorem enc_ix1 (c : Nat × D) : fIx (encC c) (.int 1) = some c.2 := by
  simp [encC]
  exact atI_lit _ 1 _ rfl
def KI (base : List D) (books : List (List D)) (a b : Str) (ds : List D) (α : At) : Prop := ∃ (i : Nat) (u6 u7 u8 : AV), ds = places i ((books.drop i).map PyData.tuple) ∧ i ≤ books.length ∧
    α = [AV.dat (.tuple base), .dat (.tuple (books.map PyData.tuple)), .dat (.str a), .dat (.str b), .dat (ver base (a, b)), .own ((chgU base books (a, b) i).map encC), u6, u7, u8]
theorem rchg_ok {base : List D} {books : List (List D)} {a b : Str} (hb : ∀ x ∈ base, Rw x) (hk : Bks books) (sm : books.length < 100000) :
    f_key_changes [.tuple base, .tuple (books.map PyData.tuple), .str a, .str b] = .ok (.tuple ((chg base books (a, b)).map encC)) := by
  have hz := PySem.sizeLine_eq
  refine Sat.eq (Sat.fD rfl (ON.seq ?_))
  have e1 := rver_ok (a := a) (b := b) hb
  simp [e1]
  refine ON.seq ?_
  simp
  refine ON.seq (ON.for_ (ds := places 0 (books.map PyData.tuple)) (KI base books a b) (by simp [iEnumD]) ⟨0, .un, .un, .un, rfl, Nat.zero_le _, rfl⟩ ?_ ?_)
  · rintro d ds α ⟨i, u6, u7, u8, e, hi, rfl⟩
    rcases Nat.lt_or_ge i books.length with lt | ge
    · rw [List.drop_eq_getElem_cons lt] at e
      cases e
      have g : books.getD i [] = books[i] := by rw [List.getD_eq_getElem?_getD, List.getElem?_eq_getElem lt]; rfl
      have hr := hk _ (List.getElem_mem lt)
      have e2 := rver_ok (a := a) (b := b) hr
      have e3 := fNe_ver (ver_vn hr (a, b)) (ver_vn hb (a, b)) (Classical.propDecidable _)
      have ln := chgU_len base books (a, b) i
      refine ⟨_, rfl, ON.seq ?_⟩
      simp [e2]
      refine ON.iff (c := !decide (ver books[i] (a, b) = ver base (a, b))) (by simp [e3]) (fun hc => ?_) (fun hc => ?_)
      · have ne : ver books[i] (a, b) ≠ ver base (a, b) := by simpa using hc
        have ev : sApp 5 (sD (dTup (aCons (dV 6) (aCons (dV 8) aNil)))) [AV.dat (.tuple base), .dat (.tuple (books.map PyData.tuple)), .dat (.str a), .dat (.str b), .dat (ver base (a, b)), .own ((chgU base books (a, b) i).map encC), .dat (.int (i : Int)), .dat (.tuple books[i]), .dat (ver books[i] (a, b))] =
            .nx [AV.dat (.tuple base), .dat (.tuple (books.map PyData.tuple)), .dat (.str a), .dat (.str b), .dat (ver base (a, b)), .own ((chgU base books (a, b) (i + 1)).map encC), .dat (.int (i : Int)), .dat (.tuple books[i]), .dat (ver books[i] (a, b))] := by
          rw [chgU_succ, g, if_neg ne]
          simp [encC]
          omega
        refine ev ▸ .nx _ ⟨i + 1, _, _, _, by rw [List.map_drop], lt, rfl⟩
      · have eq : ver books[i] (a, b) = ver base (a, b) := by simpa using hc
        refine .nx _ ⟨i + 1, .dat (.int (i : Int)), .dat (.tuple books[i]), .dat (ver books[i] (a, b)), by rw [List.map_drop], lt, ?_⟩
        rw [chgU_succ, g, if_pos eq, List.append_nil]
    · rw [List.drop_eq_nil_of_le ge] at e
      cases e
  · rintro α ⟨i, u6, u7, u8, e, hi, rfl⟩
    have ge : books.length ≤ i := by
      rcases Nat.lt_or_ge i books.length with lt | ge
      · rw [List.drop_eq_getElem_cons lt] at e
        cases e
      · exact ge
    obtain rfl : i = books.length := by omega
    have e1 : fTuple [.list ((chgU base books (a, b) books.length).map encC)] = some (.tuple ((chgU base books (a, b) books.length).map encC)) := rfl
    simp [frzA, e1, chg]
/-- two hands gave the key different rows -/
noncomputable def vdif : List (Nat × D) → Bool
  | [] => false
  | c :: r => (c :: r).any fun d => decide (d.2 ≠ c.2)
theorem vdif_ok {cs : List (Nat × D)} (h : ∀ p ∈ cs, Vn p.2) : f_versions_differ [.tuple (cs.map encC)] = .ok (.bool (vdif cs)) := by
  refine Sat.eq (Sat.fD rfl (ON.seq ?_))
  refine ON.for_ (ds := cs.map encC) (fun ds α => ∃ (post : List (Nat × D)) (u v : AV), ds = post.map encC ∧ α = [AV.dat (.tuple (cs.map encC)), u, v] ∧ (∀ p ∈ post, p ∈ cs) ∧ ∀ c r, cs = c :: r → vdif cs = post.any fun d => decide (d.2 ≠ c.2)) (by simp) ⟨cs, .un, .un, rfl, rfl, fun _ h => h, fun c r e => by subst e; rfl⟩ ?_ ?_
  · rintro d ds α ⟨post, u, v, e, rfl, h1, h2⟩
    cases post with
    | nil => cases e
    | cons p post =>
      cases e
      have hp := h1 p (.head _)
      cases hcs : cs with
      | nil => rw [hcs] at hp; cases hp
      | cons c r =>
        have h3 := h2 c r hcs
        have hc : c ∈ cs := by rw [hcs]; exact .head _
        have a0 := at_enc hcs
        rw [hcs] at a0
        have e3 := fNe_ver (h p hp) (h c hc) (Classical.propDecidable _)
        refine ⟨_, rfl, ON.iff (c := !decide (p.2 = c.2)) (by simp only [tV_ap, sD_ap, dats_cons, dats_nil, dt_d, d2_ap, dV_ap]; simp [a0, enc_ix1, e3]) (fun hq => ?_) (fun hq => ?_)⟩
        · have ne : p.2 ≠ c.2 := by simpa using hq
          simp
          rw [← hcs, h3]
          simp [ne]
        · have eq : p.2 = c.2 := by simpa using hq
          refine .nx _ ⟨post, _, _, rfl, rfl, fun q hq => hcs ▸ h1 q (.tail _ hq), fun c' r' e => ?_⟩
          cases e
          rw [← hcs, h3, List.any_cons]
          simp [eq]
  · rintro α ⟨post, u, v, e, rfl, h1, h2⟩
    cases post with
    | cons _ _ => cases e
    | nil =>
      have : vdif cs = false := by
        cases hcs : cs with
        | nil => rfl
        | cons c r => rw [← hcs, h2 c r hcs]; rfl
      simp [this]
end Cg

/-! PM6: the merge, told by the program. -/
namespace Cg
open PySem L2 DL Cm
open Classical
noncomputable def rowOf (base : List D) (books : List (List D)) (k : Ky) : D := match chg base books k with
  | [] => ver base k
  | c :: _ => c.2
noncomputable def confE (base : List D) (books : List (List D)) (k : Ky) : D := .tuple [.str k.1, .str k.2, .tuple ((chg base books k).map encC)]
noncomputable def orgE (base : List D) (books : List (List D)) (k : Ky) : D := .tuple ((chg base books k).map fun c => PyData.int (c.1 : Int))
noncomputable def conL (base : List D) (books : List (List D)) (ks : List Ky) : List D := (ks.filter fun k => vdif (chg base books k)).map (confE base books)
noncomputable def rowL (base : List D) (books : List (List D)) (ks : List Ky) : List D := (ks.filter fun k => !isN (rowOf base books k)).map (rowOf base books)
noncomputable def orgL (base : List D) (books : List (List D)) (ks : List Ky) : List D := (ks.filter fun k => !isN (rowOf base books k)).map (orgE base books)
def KS (base : List D) (books : List (List D)) : List Ky := sortPr (allK (base :: books))
structure Mb (base : List D) (books : List (List D)) : Prop where
  hb : ∀ x ∈ base, Rw x
  hk : Bks books
  few : (ded (allK (base :: books))).length < 63
  sm : (allK (base :: books)).length < 100000
  nb : books.length < 500
section
variable {base : List D} {books : List (List D)}
theorem Mb.len (m : Mb base books) : (KS base books).length < 63 := by
  have := m.few
  unfold KS sortPr
  rw [List.length_mergeSort]
  exact this
theorem conL_len (ks : List Ky) : (conL base books ks).length ≤ ks.length := by
  unfold conL
  rw [List.length_map]
  exact List.length_filter_le ..
theorem rowL_len (ks : List Ky) : (rowL base books ks).length ≤ ks.length := by
  unfold rowL
  rw [List.length_map]
  exact List.length_filter_le ..
theorem orgL_len (ks : List Ky) : (orgL base books ks).length ≤ ks.length := by
  unfold orgL
  rw [List.length_map]
  exact List.length_filter_le ..
theorem conL_snoc (ks : List Ky) (k : Ky) : conL base books (ks ++ [k]) = conL base books ks ++ (if vdif (chg base books k) = true then [confE base books k] else []) := by
  unfold conL
  rw [List.filter_append, List.map_append]
  congr 1
  by_cases e : vdif (chg base books k) = true <;> simp [e]
theorem rowL_snoc (ks : List Ky) (k : Ky) : rowL base books (ks ++ [k]) = rowL base books ks ++ (if isN (rowOf base books k) = true then [] else [rowOf base books k]) := by
  unfold rowL
  rw [List.filter_append, List.map_append]
  congr 1
  by_cases e : isN (rowOf base books k) = true <;> simp [e]
theorem orgL_snoc (ks : List Ky) (k : Ky) : orgL base books (ks ++ [k]) = orgL base books ks ++ (if isN (rowOf base books k) = true then [] else [orgE base books k]) := by
  unfold orgL
  rw [List.filter_append, List.map_append]
  congr 1
  by_cases e : isN (rowOf base books k) = true <;> simp [e]
theorem chg_len (k : Ky) : (chg base books k).length ≤ books.length := chgU_len ..
/-- the loop over the keys -/
def CI (base : List D) (books : List (List D)) (ds : List D) (α : At) : Prop := ∃ (pre post : List Ky) (u v w : AV), ds = post.map keyD ∧ pre ++ post = KS base books ∧ α = [AV.dat (.tuple base), .dat (.tuple (books.map PyData.tuple)), .own (conL base books pre), u, v, w]
theorem conf_ok (m : Mb base books) : f_key_conflicts [.tuple base, .tuple (books.map PyData.tuple)] = .ok (.tuple (conL base books (KS base books))) := by
  have hz := PySem.sizeLine_eq
  have hks := keys_ok m.hb m.hk m.few m.sm
  have hl := m.len
  have hnb := m.nb
  refine Sat.eq (Sat.fD rfl (ON.seq ?_))
  simp
  refine ON.seq (ON.for_ (ds := (KS base books).map keyD) (CI base books) (by simp [hks, KS]) ⟨[], KS base books, .un, .un, .un, rfl, rfl, rfl⟩ ?_ ?_)
  · rintro d ds α ⟨pre, post, u, v, w, e, hp, rfl⟩
    cases post with
    | nil => cases e
    | cons k post =>
      cases e
      have e1 := rchg_ok (a := k.1) (b := k.2) m.hb m.hk (by omega : books.length < 100000)
      have e2 := vdif_ok (cs := chg base books k) (chgU_vn m.hk)
      have lp := congrArg List.length hp
      rw [List.length_append, List.length_cons] at lp
      have lc := conL_len (base := base) (books := books) pre
      refine ⟨_, rfl, ON.seq ?_⟩
      simp [e1]
      have hp2 : pre ++ [k] ++ post = KS base books := by rw [← hp]; simp
      refine ON.iff (c := vdif (chg base books k)) (by simp [e2]) (fun hc => ?_) (fun hc => ?_)
      · have ev : sApp 2 (sD (dTup (aCons (dV 3) (aCons (dV 4) (aCons (dV 5) aNil))))) [AV.dat (.tuple base), .dat (.tuple (books.map PyData.tuple)), .own (conL base books pre), .dat (.str k.1), .dat (.str k.2), .dat (.tuple ((chg base books k).map encC))] =
            .nx [AV.dat (.tuple base), .dat (.tuple (books.map PyData.tuple)), .own (conL base books (pre ++ [k])), .dat (.str k.1), .dat (.str k.2), .dat (.tuple ((chg base books k).map encC))] := by
          rw [conL_snoc, if_pos hc]
          simp [confE]
          omega
        exact ev ▸ .nx _ ⟨pre ++ [k], post, _, _, _, rfl, hp2, rfl⟩
      · refine .nx _ ⟨pre ++ [k], post, .dat (.str k.1), .dat (.str k.2), .dat (.tuple ((chg base books k).map encC)), rfl, hp2, ?_⟩
        rw [conL_snoc, if_neg (by rw [hc]; decide), List.append_nil]
  · rintro α ⟨pre, post, u, v, w, e, hp, rfl⟩
    cases post with
    | cons _ _ => cases e
    | nil =>
      rw [List.append_nil] at hp
      subst hp
      have e1 : fTuple [.list (conL base books (KS base books))] = some (.tuple (conL base books (KS base books))) := rfl
      simp [frzA, e1]
def RI2 (base : List D) (books : List (List D)) (ds : List D) (α : At) : Prop := ∃ (pre post : List Ky) (u4 u5 u6 u7 u8 u9 : AV), ds = post.map keyD ∧ pre ++ post = KS base books ∧
  α = [AV.dat (.tuple base), .dat (.tuple (books.map PyData.tuple)), .own (rowL base books pre), .own (orgL base books pre), u4, u5, u6, u7, u8, u9]
theorem vn_N {d : D} (h : Vn d) (e : isN d = true) : d = .none := by
  rcases h with h | h
  · exact h
  · obtain ⟨k, n, rest, rfl, _⟩ := h
    cases e
theorem rowOf_vn (m : Mb base books) (k : Ky) : Vn (rowOf base books k) := by
  unfold rowOf
  cases h : chg base books k with
  | nil => exact ver_vn m.hb k
  | cons c r => exact chgU_vn (n := books.length) m.hk c (by show c ∈ chg base books k; rw [h]; exact .head _)
theorem ints_ok {cs : List (Nat × D)} {β : Bt} (h : β.length = 10) : lcD (cmD (.tup [8, 9]) yesT (dV 8) β) (cs.map encC) = .ok (cs.map fun c => PyData.int (c.1 : Int)) := by
  refine lcD_all encC (fun c => PyData.int (c.1 : Int)) fun c _ => ?_
  have h8 : 8 < β.length := by omega
  have h9 : 9 < (β.set 8 (some (.int (c.1 : Int)))).length := by rw [List.length_set]; omega
  have e : setT (.tup [8, 9]) (encC c) β = some ((β.set 8 (some (.int (c.1 : Int)))).set 9 (some c.2)) := rfl
  unfold cmD
  rw [e]
  have e2 : dV 8 ((β.set 8 (some (.int (c.1 : Int)))).set 9 (some c.2)) = .ok (.int (c.1 : Int)) := by
    rw [dV_ap, List.getElem?_set_ne (by decide), List.getElem?_set_self h8]
  simp [e2]
theorem first_ok (m : Mb base books) : f_first_rows [.tuple base, .tuple (books.map PyData.tuple)] = .ok (.tuple [.tuple (rowL base books (KS base books)), .tuple (orgL base books (KS base books))]) := by
  have hz := PySem.sizeLine_eq
  have hks := keys_ok m.hb m.hk m.few m.sm
  have hl := m.len
  have hnb := m.nb
  refine Sat.eq (Sat.fD rfl (ON.seq ?_))
  simp
  refine ON.seq ?_
  simp
  refine ON.seq (ON.for_ (ds := (KS base books).map keyD) (RI2 base books) (by simp [hks, KS]) ⟨[], KS base books, .un, .un, .un, .un, .un, .un, rfl, rfl, rfl⟩ ?_ ?_)
  · rintro d ds α ⟨pre, post, u4, u5, u6, u7, u8, u9, e, hp, rfl⟩
    cases post with
    | nil => cases e
    | cons k post =>
      cases e
      have e1 := rchg_ok (a := k.1) (b := k.2) m.hb m.hk (by omega : books.length < 100000)
      have e2 := rver_ok (a := k.1) (b := k.2) m.hb
      have lp := congrArg List.length hp
      rw [List.length_append, List.length_cons] at lp
      have lr := rowL_len (base := base) (books := books) pre
      have lo := orgL_len (base := base) (books := books) pre
      have lcg := chg_len (base := base) (books := books) k
      have hp2 : pre ++ [k] ++ post = KS base books := by rw [← hp]; simp
      refine ⟨_, rfl, ON.seq ?_⟩
      simp [e1]
      refine ON.seq ?_
      simp [e2]
      refine ON.seq ?_
      -- the row
      refine ON.imp (P := fun α => α = [AV.dat (.tuple base), .dat (.tuple (books.map PyData.tuple)), .own (rowL base books pre), .own (orgL base books pre), .dat (.str k.1), .dat (.str k.2), .dat (.tuple ((chg base books k).map encC)), .dat (rowOf base books k), u8, u9]) (R := fun _ => False) ?_ (fun α hα => ?_) fun _ z => z.elim
      · cases hc : chg base books k with
        | nil =>
          refine ON.iff (c := false) (by simp) (fun z => nomatch z) fun _ => .nx _ ?_
          simp [rowOf, hc]
        | cons c r =>
          have ln : ((r.length : Int) + 1) > 0 := by omega
          refine ON.iff (c := true) (by simp) (fun _ => ?_) fun z => nomatch z
          have a0 := at_enc (cs := c :: r) rfl
          rw [List.map_cons] at a0
          simp [a0, enc_ix1, rowOf, hc]
      · subst hα
        have hv := rowOf_vn m k
        refine ON.iff (c := !isN (rowOf base books k)) (by simp [fIsNot]) (fun hc => ?_) (fun hc => ?_)
        · have hn : isN (rowOf base books k) = false := by simpa using hc
          have e3 := ints_ok (cs := chg base books k) (β := [some (.tuple base), some (.tuple (books.map PyData.tuple)), none, none, some (.str k.1), some (.str k.2), some (.tuple ((chg base books k).map encC)), some (rowOf base books k), none, none]) rfl
          have e4 : fTuple [.list ((chg base books k).map fun c => PyData.int (c.1 : Int))] = some (orgE base books k) := rfl
          refine ON.seq ?_
          have ev : sApp 2 (sD (dV 7)) [AV.dat (.tuple base), .dat (.tuple (books.map PyData.tuple)), .own (rowL base books pre), .own (orgL base books pre), .dat (.str k.1), .dat (.str k.2), .dat (.tuple ((chg base books k).map encC)), .dat (rowOf base books k), u8, u9] =
              .nx [AV.dat (.tuple base), .dat (.tuple (books.map PyData.tuple)), .own (rowL base books (pre ++ [k])), .own (orgL base books pre), .dat (.str k.1), .dat (.str k.2), .dat (.tuple ((chg base books k).map encC)), .dat (rowOf base books k), u8, u9] := by
            rw [rowL_snoc, if_neg (by rw [hn]; decide)]
            simp
            omega
          rw [ev]
          refine .nx _ ?_
          have ev2 : sApp 3 (sD (dN fTuple (aCons (dFz (dLc (iSeq (dV 6)) (.tup [8, 9]) yesT (dV 8) [8, 9])) aNil))) [AV.dat (.tuple base), .dat (.tuple (books.map PyData.tuple)), .own (rowL base books (pre ++ [k])), .own (orgL base books pre), .dat (.str k.1), .dat (.str k.2), .dat (.tuple ((chg base books k).map encC)), .dat (rowOf base books k), u8, u9] =
              .nx [AV.dat (.tuple base), .dat (.tuple (books.map PyData.tuple)), .own (rowL base books (pre ++ [k])), .own (orgL base books (pre ++ [k])), .dat (.str k.1), .dat (.str k.2), .dat (.tuple ((chg base books k).map encC)), .dat (rowOf base books k), u8, u9] := by
            rw [orgL_snoc, if_neg (by rw [hn]; decide)]
            have ez : (chg base books k).length ≤ sizeLine := by omega
            simp [wipeB, ez, e3, e4]
            omega
          rw [ev2]
          exact .nx _ ⟨pre ++ [k], post, _, _, _, _, _, _, rfl, hp2, rfl⟩
        · have hn : isN (rowOf base books k) = true := by simpa using hc
          refine .nx _ ⟨pre ++ [k], post, .dat (.str k.1), .dat (.str k.2), .dat (.tuple ((chg base books k).map encC)), .dat (rowOf base books k), u8, u9, rfl, hp2, ?_⟩
          rw [rowL_snoc, orgL_snoc, if_pos hn, if_pos hn, List.append_nil, List.append_nil]
  · rintro α ⟨pre, post, u4, u5, u6, u7, u8, u9, e, hp, rfl⟩
    cases post with
    | cons _ _ => cases e
    | nil =>
      rw [List.append_nil] at hp
      subst hp
      have e1 : fTuple [.list (rowL base books (KS base books))] = some (.tuple (rowL base books (KS base books))) := rfl
      have e2 : fTuple [.list (orgL base books (KS base books))] = some (.tuple (orgL base books (KS base books))) := rfl
      simp [frzA, e1, e2]
end
end Cg

/-! PM7: kinds that are full; the merge paper. -/
namespace Cg
open PySem L2 DL Cm
open Classical
def fewK (rs : List D) (k : Str) : Nat := (rs.filter fun x => decide (kd x = k)).length
def fulls (rs : List D) : List Str := kinds.filter fun k => decide (12 < fewK rs k)
def fullD : List Str → D
  | [] => .none
  | k :: _ => .str k
noncomputable def paper (base : List D) (books : List (List D)) : D := if (conL base books (KS base books)).length > 0 then .tuple [.str "torn", .tuple (conL base books (KS base books))] else
  match fulls (rowL base books (KS base books)) with
  | k :: _ => .tuple [.str "full", .str k]
  | [] => .tuple [.str "merged", .tuple (rowL base books (KS base books)), .tuple (orgL base books (KS base books))]
theorem kn_eq : k_KIND_NAMES = .tuple (kinds.map PyData.str) := rfl
def FI3 (rs : List D) (ds : List D) (α : At) : Prop := ∃ (post : List Str) (u : AV), ds = post.map PyData.str ∧ α = [AV.dat (.tuple rs), u] ∧ fulls rs = post.filter fun k => decide (12 < fewK rs k)
theorem full_ok {rs : List D} (h : ∀ x ∈ rs, Rw x) (hl : rs.length < 1000) : f_full_kind [.tuple rs] = .ok (fullD (fulls rs)) := by
  refine Sat.eq (Sat.fD rfl (ON.seq ?_))
  refine ON.for_ (ds := kinds.map PyData.str) (FI3 rs) (by simp [kn_eq]) ⟨kinds, .un, rfl, rfl, rfl⟩ ?_ ?_
  · rintro d ds α ⟨post, u, e, rfl, hf⟩
    cases post with
    | nil => cases e
    | cons k post =>
      cases e
      have e1 := kind_rows_ok (k := k) h (by omega)
      have lf : (rs.filter fun x => decide (kd x = k)).length ≤ rs.length := List.length_filter_le ..
      refine ⟨_, rfl, ON.iff (c := decide (12 < fewK rs k)) (by
        have q : decide ((12 : Int) < ((rs.filter fun x => decide (kd x = k)).length : Int)) = decide (12 < fewK rs k) := decide_eq_decide.mpr (by unfold fewK; omega)
        simp [e1, k_MOST_ROWS, q]) (fun hc => ?_) (fun hc => ?_)⟩
      · rw [hf, List.filter_cons, if_pos hc]
        simp [fullD]
      · refine .nx _ ⟨post, _, rfl, rfl, ?_⟩
        rw [hf, List.filter_cons, if_neg (by rw [hc]; decide)]
  · rintro α ⟨post, u, e, rfl, hf⟩
    cases post with
    | cons _ _ => cases e
    | nil =>
      rw [hf]
      simp [fullD]
section
variable {base : List D} {books : List (List D)}
theorem rowL_rw (m : Mb base books) (ks : List Ky) : ∀ x ∈ rowL base books ks, Rw x := by
  intro x hx
  obtain ⟨k, hk, rfl⟩ := List.mem_map.mp hx
  have hn := (List.mem_filter.mp hk).2
  rcases rowOf_vn m k with e | e
  · rw [e] at hn
    cases hn
  · exact e
theorem Mb.rl (m : Mb base books) : (rowL base books (KS base books)).length < 63 := Nat.lt_of_le_of_lt (rowL_len _) m.len
theorem Mb.cl (m : Mb base books) : (conL base books (KS base books)).length < 63 := Nat.lt_of_le_of_lt (conL_len _) m.len
theorem merge_ok (m : Mb base books) : f_merge_books [.tuple base, .tuple (books.map PyData.tuple)] = .ok (paper base books) := by
  have hz := PySem.sizeLine_eq
  have e1 := conf_ok m
  have e2 := first_ok m
  have e3 := full_ok (rowL_rw m (KS base books)) (by have := m.rl; omega)
  have cl := m.cl
  unfold paper
  rw [f_merge_books, fD_ap (by rfl)]
  by_cases hc : (conL base books (KS base books)).length > 0
  · rw [if_pos hc]
    have hc2 : ((0 : Int) < ((conL base books (KS base books)).length : Int)) := by omega
    simp [b_merge_books, sSeq_ap, sIf_ap, e1, hc2, show 0 < (conL base books (KS base books)).length from hc]
  · rw [if_neg hc]
    have hc1 : conL base books (KS base books) = [] := List.eq_nil_of_length_eq_zero (by omega)
    cases hf : fulls (rowL base books (KS base books)) with
    | nil =>
      rw [hf] at e3
      simp [b_merge_books, sSeq_ap, sIf_ap, e1, e2, e3, hc1, fullD, fIsNot, isN, sSetT, setTA, setAllA]
    | cons k r =>
      rw [hf] at e3
      simp [b_merge_books, sSeq_ap, sIf_ap, e1, e2, e3, hc1, fullD, fIsNot, isN, sSetT, setTA, setAllA]
end
end Cg

/-! PM8: the merge, told by the law. -/
namespace Cg
open PySem L2 DL Cm
open Classical
section
variable {base : List D} {books : List (List D)}
theorem dif_filter (m : Mb base books) (k : Ky) : decide (0 < ((chg base books k).filter fun c => decide (c.2 ≠ rowOf base books k)).length) = vdif (chg base books k) := by
  unfold rowOf vdif
  cases h : chg base books k with
  | nil => rfl
  | cons c r =>
    dsimp only
    rw [Bool.eq_iff_iff, decide_eq_true_eq, List.any_eq_true, List.length_pos_iff_exists_mem]
    constructor
    · rintro ⟨d, hd⟩
      obtain ⟨h1, h2⟩ := List.mem_filter.mp hd
      exact ⟨d, h1, h2⟩
    · rintro ⟨d, h1, h2⟩
      exact ⟨d, List.mem_filter.mpr ⟨h1, h2⟩⟩
def LI (base : List D) (books : List (List D)) (ds : List D) (α : At) : Prop := ∃ (pre post : List Ky) (u5 u6 u7 : AV), ds = post.map keyD ∧ pre ++ post = KS base books ∧
  α = [AV.dat (.list base), .dat (.list (books.map PyData.list)), .own (conL base books pre), .own (rowL base books pre), .own (orgL base books pre), u5, u6, u7, .un, .un, .un]
theorem sieve_enc {cs : List (Nat × D)} {row : D} {β : Bt} (h : β.length = 11) (hr : Vn row) (hc : ∀ c ∈ cs, Vn c.2) (h7 : β[7]? = some (some row)) :
    lcD (cmD (.nm 9) (tV (d2 fNe (d2 fIx (dV 9) (dC (.int (1)))) (dV 7))) (dV 9) β) (cs.map encC) = .ok ((cs.filter fun c => decide (c.2 ≠ row)).map encC) := by
  have z := lcD_enc (f := cmD (.nm 9) (tV (d2 fNe (d2 fIx (dV 9) (dC (.int (1)))) (dV 7))) (dV 9) β) encC (fun c => if c.2 = row then none else some (encC c)) (xs := cs) fun c hcc => by
    have e9 : dV 9 (β.set 9 (some (encC c))) = .ok (encC c) := by rw [dV_ap, List.getElem?_set_self (by omega)]
    have e7 : dV 7 (β.set 9 (some (encC c))) = .ok row := by rw [dV_ap, List.getElem?_set_ne (by decide), h7]
    have e3 := fNe_ver (hc c hcc) hr (Classical.propDecidable _)
    simp [cmD, e9, e7, enc_ix1, e3]
    by_cases e : c.2 = row <;> simp [e]
  rw [z]
  congr 1
  clear z hc
  induction cs with
  | nil => rfl
  | cons c cs ih =>
    by_cases e : c.2 = row <;> simp [e, ih]
theorem firsts_enc {cs : List (Nat × D)} {β : Bt} (h : β.length = 11) : lcD (cmD (.nm 9) yesT (d2 fIx (dV 9) (dC (.int (0)))) β) (cs.map encC) = .ok (cs.map fun c => PyData.int (c.1 : Int)) := by
  refine lcD_all encC (fun c => PyData.int (c.1 : Int)) fun c _ => ?_
  have e9 : dV 9 (β.set 9 (some (encC c))) = .ok (encC c) := by rw [dV_ap, List.getElem?_set_self (by omega)]
  simp [cmD, e9, enc_ix0]
theorem lfull_ok {rs : List D} {β : Bt} (h : β.length = 11) (hr : ∀ x ∈ rs, Rw x) (hl : rs.length < 1000) (h3 : β[3]? = some (some (.list rs))) :
    lcD (cmD (.nm 10) (tV (d2 fGt (dN fLen (aCons (dFz (dLc (iSeq (dV 3)) (.nm 7) (tV (d2 fEq (d2 fIx (dV 7) (dC (.int (0)))) (dV 10))) (dV 7) [7])) aNil)) (dC (.int (12))))) (dV 10) β) (kinds.map PyData.str) = .ok ((fulls rs).map PyData.str) := by
  have hz := PySem.sizeLine_eq
  have z := lcD_enc (f := cmD (.nm 10) (tV (d2 fGt (dN fLen (aCons (dFz (dLc (iSeq (dV 3)) (.nm 7) (tV (d2 fEq (d2 fIx (dV 7) (dC (.int (0)))) (dV 10))) (dV 7) [7])) aNil)) (dC (.int (12))))) (dV 10) β) PyData.str (fun k => if 12 < fewK rs k then some (.str k) else none) (xs := kinds) fun k _ => by
    have e10 : dV 10 (β.set 10 (some (.str k))) = .ok (.str k) := by rw [dV_ap, List.getElem?_set_self (by omega)]
    have e3 : dV 3 (β.set 10 (some (.str k))) = .ok (.list rs) := by rw [dV_ap, List.getElem?_set_ne (by decide), h3]
    have inner := lcD_sieve (f := cmD (.nm 7) (tV (d2 fEq (d2 fIx (dV 7) (dC (.int (0)))) (dV 10))) (dV 7) (wipeB (β.set 10 (some (.str k))) [7])) (fun x => decide (kd x = k)) (ds := rs) fun x hx => by
      have w7 : (wipeB (β.set 10 (some (.str k))) [7]) = (β.set 10 (some (.str k))).set 7 none := rfl
      rw [w7]
      have f7 : dV 7 (((β.set 10 (some (.str k))).set 7 none).set 7 (some x)) = .ok x := by rw [dV_ap, List.getElem?_set_self (by simp; omega)]
      have f10 : dV 10 (((β.set 10 (some (.str k))).set 7 none).set 7 (some x)) = .ok (.str k) := by
        rw [dV_ap, List.getElem?_set_ne (by decide), List.getElem?_set_ne (by decide), List.getElem?_set_self (by omega)]
      rw [List.set_set] at f7 f10
      simp [cmD, f7, f10, (hr x hx).ix0]
      by_cases e : kd x = k <;> simp [e]
    have w7 : (wipeB (β.set 10 (some (.str k))) [7]) = (β.set 10 (some (.str k))).set 7 none := rfl
    rw [w7] at inner
    have lz : rs.length ≤ sizeLine := by omega
    have lf : (rs.filter fun x => decide (kd x = k)).length ≤ rs.length := List.length_filter_le ..
    have q : decide ((12 : Int) < ((rs.filter fun x => decide (kd x = k)).length : Int)) = decide (12 < fewK rs k) := decide_eq_decide.mpr (by unfold fewK; omega)
    simp [cmD, e10, e3, inner, lz, q]
    by_cases e : 12 < fewK rs k <;> simp [e]
  rw [z]
  congr 1
  clear z h3
  unfold fulls
  generalize kinds = l
  induction l with
  | nil => rfl
  | cons c cs ih =>
    by_cases e : 12 < fewK rs c <;> simp [e, ih]
theorem noLs_strs : ∀ l : List Str, noLs (l.map PyData.str) = true
  | [] => rfl
  | s :: l => by
    have := noLs_strs l
    simpa [noLs] using this
theorem lmerged_ok (m : Mb base books) : f__law_merged [.list base, .list (books.map PyData.list)] = .ok (.tuple [paper base books, .list (rowL base books (KS base books)), .list ((fulls (rowL base books (KS base books))).map PyData.str)]) := by
  have hz := PySem.sizeLine_eq
  have hks : f__law_keys [.list ((base :: books).map PyData.list)] = .ok (.list ((KS base books).map keyD)) := lkeys_ok (fun rs hrs => by
    rcases List.mem_cons.mp hrs with rfl | hrs
    · exact m.hb
    · exact m.hk rs hrs) m.sm
  rw [List.map_cons] at hks
  have hl := m.len
  have hnb := m.nb
  refine Sat.eq (Sat.fD rfl (ON.seq ?_))
  simp
  refine ON.seq ?_
  simp
  refine ON.seq ?_
  simp
  have ea : fAdd (.list [.list base]) (.list (books.map PyData.list)) = some (.list (.list base :: books.map PyData.list)) := fAdd_l _ _ (by simp; omega)
  refine ON.seq (ON.for_ (ds := (KS base books).map keyD) (LI base books) (by simp [ea, hks]) ⟨[], KS base books, .un, .un, .un, rfl, rfl, rfl⟩ ?_ ?_)
  · rintro d ds α ⟨pre, post, u5, u6, u7, e, hp, rfl⟩
    cases post with
    | nil => cases e
    | cons k post =>
      cases e
      have e1 := lchg_ok (k := k) m.hb m.hk (by omega : books.length < 100000)
      have e2 := lver_ok (k := k) m.hb
      have lp := congrArg List.length hp
      rw [List.length_append, List.length_cons] at lp
      have lc := conL_len (base := base) (books := books) pre
      have lr := rowL_len (base := base) (books := books) pre
      have lo := orgL_len (base := base) (books := books) pre
      have lcg := chg_len (base := base) (books := books) k
      have hp2 : pre ++ [k] ++ post = KS base books := by rw [← hp]; simp
      have hv := rowOf_vn m k
      refine ⟨_, rfl, ON.seq ?_⟩
      simp [e1]
      refine ON.seq ?_
      simp [e2]
      refine ON.seq ?_
      refine ON.imp (P := fun α => α = [AV.dat (.list base), .dat (.list (books.map PyData.list)), .own (conL base books pre), .own (rowL base books pre), .own (orgL base books pre), .dat (keyD k), .dat (.list ((chg base books k).map encC)), .dat (rowOf base books k), .un, .un, .un]) (R := fun _ => False) ?_ (fun α hα => ?_) fun _ z => z.elim
      · cases hc : chg base books k with
        | nil =>
          refine ON.iff (c := false) (by simp) (fun z => nomatch z) fun _ => .nx _ ?_
          simp [rowOf, hc]
        | cons c r =>
          have ln : ((r.length : Int) + 1) > 0 := by omega
          refine ON.iff (c := true) (by simp) (fun _ => ?_) fun z => nomatch z
          have a0 : fIx (.list (encC c :: r.map encC)) (.int 0) = some (encC c) := by simp
          simp [a0, enc_ix1, rowOf, hc]
      · subst hα
        refine ON.seq ?_
        have e3 := sieve_enc (cs := chg base books k) (row := rowOf base books k) (β := [some (.list base), some (.list (books.map PyData.list)), none, none, none, some (keyD k), some (.list ((chg base books k).map encC)), some (rowOf base books k), none, none, none]) rfl hv (chgU_vn m.hk) rfl
        have e4 := firsts_enc (cs := chg base books k) (β := [some (.list base), some (.list (books.map PyData.list)), none, none, none, some (keyD k), some (.list ((chg base books k).map encC)), some (rowOf base books k), none, none, none]) rfl
        have ez : (chg base books k).length ≤ sizeLine := by omega
        have hdif := dif_filter m k
        have q : decide ((0 : Int) < (((chg base books k).filter fun c => decide (c.2 ≠ rowOf base books k)).length : Int)) = vdif (chg base books k) := by
          rw [← hdif]
          exact decide_eq_decide.mpr (by omega)
        refine ON.imp (P := fun α => α = [AV.dat (.list base), .dat (.list (books.map PyData.list)), .own (conL base books (pre ++ [k])), .own (rowL base books pre), .own (orgL base books pre), .dat (keyD k), .dat (.list ((chg base books k).map encC)), .dat (rowOf base books k), .un, .un, .un]) (R := fun _ => False) ?_ (fun α hα => ?_) fun _ z => z.elim
        · refine ON.iff (c := vdif (chg base books k)) (by simp only [sD_ap, dats_cons, dats_nil, dt_d, dt_o, dt_u, tV_ap, d2_ap]; simp [wipeB, ez, e3]; rw [← hdif]; refine decide_eq_decide.mpr ?_; rw [List.length_pos_iff_exists_mem]; simp) (fun hc => ?_) (fun hc => ?_)
          · have ea2 : fAdd (keyD k) (.tuple [.tuple ((chg base books k).map encC)]) = some (confE base books k) := fAdd_t _ _ (by simp)
            have et : fTuple [.list ((chg base books k).map encC)] = some (.tuple ((chg base books k).map encC)) := rfl
            rw [conL_snoc, if_pos hc]
            simp [et, ea2]
            rw [if_pos (by omega)]
            simp
          · refine .nx _ ?_
            rw [conL_snoc, if_neg (by rw [hc]; decide), List.append_nil]
        · subst hα
          refine ON.iff (c := !isN (rowOf base books k)) (by simp [fIsNot]) (fun hc => ?_) (fun hc => ?_)
          · have hn : isN (rowOf base books k) = false := by simpa using hc
            have e5 : fTuple [.list ((chg base books k).map fun c => PyData.int (c.1 : Int))] = some (orgE base books k) := rfl
            refine ON.seq ?_
            have ev : sApp 3 (sD (dV 7)) [AV.dat (.list base), .dat (.list (books.map PyData.list)), .own (conL base books (pre ++ [k])), .own (rowL base books pre), .own (orgL base books pre), .dat (keyD k), .dat (.list ((chg base books k).map encC)), .dat (rowOf base books k), .un, .un, .un] =
                .nx [AV.dat (.list base), .dat (.list (books.map PyData.list)), .own (conL base books (pre ++ [k])), .own (rowL base books (pre ++ [k])), .own (orgL base books pre), .dat (keyD k), .dat (.list ((chg base books k).map encC)), .dat (rowOf base books k), .un, .un, .un] := by
              rw [rowL_snoc, if_neg (by rw [hn]; decide)]
              simp
              omega
            rw [ev]
            refine .nx _ ?_
            have ev2 : sApp 4 (sD (dN fTuple (aCons (dFz (dLc (iSeq (dV 6)) (.nm 9) yesT (d2 fIx (dV 9) (dC (.int (0)))) [9])) aNil))) [AV.dat (.list base), .dat (.list (books.map PyData.list)), .own (conL base books (pre ++ [k])), .own (rowL base books (pre ++ [k])), .own (orgL base books pre), .dat (keyD k), .dat (.list ((chg base books k).map encC)), .dat (rowOf base books k), .un, .un, .un] =
                .nx [AV.dat (.list base), .dat (.list (books.map PyData.list)), .own (conL base books (pre ++ [k])), .own (rowL base books (pre ++ [k])), .own (orgL base books (pre ++ [k])), .dat (keyD k), .dat (.list ((chg base books k).map encC)), .dat (rowOf base books k), .un, .un, .un] := by
              rw [orgL_snoc, if_neg (by rw [hn]; decide)]
              simp [wipeB, ez, e4, e5]
              omega
            rw [ev2]
            exact .nx _ ⟨pre ++ [k], post, _, _, _, rfl, hp2, rfl⟩
          · have hn : isN (rowOf base books k) = true := by simpa using hc
            refine .nx _ ⟨pre ++ [k], post, .dat (keyD k), .dat (.list ((chg base books k).map encC)), .dat (rowOf base books k), rfl, hp2, ?_⟩
            rw [rowL_snoc, orgL_snoc, if_pos hn, if_pos hn, List.append_nil, List.append_nil]
  · rintro α ⟨pre, post, u5, u6, u7, e, hp, rfl⟩
    cases post with
    | cons _ _ => cases e
    | nil =>
      rw [List.append_nil] at hp
      subst hp
      have rl := m.rl
      have cl := m.cl
      have hr := rowL_rw m (KS base books)
      have hkd := kinds_ok
      have kz : kinds.length ≤ sizeLine := by rw [hz]; decide +kernel
      have e6 := lfull_ok (rs := rowL base books (KS base books)) (β := [some (.list base), some (.list (books.map PyData.list)), some (.list (conL base books (KS base books))), some (.list (rowL base books (KS base books))), some (.list (orgL base books (KS base books))), u5.vw, u6.vw, u7.vw, none, none, none]) rfl hr (by omega) rfl
      have nls : noLs ((fulls (rowL base books (KS base books))).map PyData.str) = true := noLs_strs _
      have t1 : fTuple [.list (conL base books (KS base books))] = some (.tuple (conL base books (KS base books))) := rfl
      have t2 : fTuple [.list (rowL base books (KS base books))] = some (.tuple (rowL base books (KS base books))) := rfl
      have t3 : fTuple [.list (orgL base books (KS base books))] = some (.tuple (orgL base books (KS base books))) := rfl
      refine ON.seq ?_
      simp [hkd, kz, wipeB, e6, nls]
      unfold paper
      by_cases hc : (conL base books (KS base books)).length > 0
      · rw [if_pos hc]
        refine ON.seq (ON.iff (c := true) (by simp; first | omega | exact List.ne_nil_of_length_pos hc | exact List.length_pos_iff.mp hc) (fun _ => ?_) fun z => nomatch z)
        simp [frzA, t1]
      · rw [if_neg hc]
        refine ON.seq (ON.iff (c := false) (by simp; first | omega | exact List.eq_nil_of_length_eq_zero (by omega)) (fun z => nomatch z) fun _ => .nx _ ?_)
        cases hf : fulls (rowL base books (KS base books)) with
        | nil =>
          refine ON.seq (ON.iff (c := false) (by simp) (fun z => nomatch z) fun _ => .nx _ ?_)
          simp [frzA, t2, t3]
        | cons k r =>
          refine ON.seq (ON.iff (c := true) (by simp) (fun _ => ?_) fun z => nomatch z)
          simp [frzA]
end
end Cg

/-! PM9: the base, the hands, the crowds. -/
namespace Cg
open PySem L2 DL Cm
section
variable {s0 s1 s2 s3 s4 s5 : Str} {xs : List Int} {p0 p1 p2 p3 : Int}
theorem book4_ok (hs : ∀ s ∈ [s0, s1, s2, s3, s4, s5], PyData.strOk s = true) (hx : ∀ x ∈ xs, num x) (h0 : 0 < xs.length) (hm : xs.length < 1000) (start count : Int) (t0 : 0 ≤ start) (t1 : start < 1000) (c0 : 0 ≤ count) (c1 : count < 1000) :
    ∃ rs, f__law_book [.list (xs.map PyData.int), .int start, .int count, .list [.str s0, .str s1, .str s2, .str s3, .str s4, .str s5], .list [.int p0, .int p1, .int p2, .int p3]] = .ok (.list rs) ∧ Bk [s0, s1, s2, s3, s4, s5] count.toNat rs := by
  suffices h : Sat (fun d => ∃ rs, d = .list rs ∧ Bk [s0, s1, s2, s3, s4, s5] count.toNat rs) (f__law_book [.list (xs.map PyData.int), .int start, .int count, .list [.str s0, .str s1, .str s2, .str s3, .str s4, .str s5], .list [.int p0, .int p1, .int p2, .int p3]]) by
    obtain ⟨_, e, rs, rfl, h⟩ := h
    exact ⟨rs, e, h⟩
  obtain ⟨z, hz⟩ : ∃ z : Int, z = xs.length := ⟨_, rfl⟩
  refine Sat.fD rfl (ON.seq ?_)
  simp
  refine ON.seq ?_
  simp [kinds_ok]
  refine ON.seq (ON.for_ (BI s0 s1 s2 s3 s4 s5 xs start count [.int p0, .int p1, .int p2, .int p3]) (iRangeL (n := count) (by simp) (by omega) (by omega)) ?_ ?_ ?_)
  · refine ⟨fun d hd => ?_, [], .un, .un, .un, .un, ⟨List.Pairwise.nil, by simp, by simp⟩, by simp, rfl⟩
    obtain ⟨k, hk, rfl⟩ := List.mem_map.mp hd
    exact ⟨k, rfl, by omega, by simp at hk; omega⟩
  · rintro d ds α ⟨hk, rs, u7, u8, u9, u10, hb, hl, rfl⟩
    obtain ⟨k, rfl, k0, k1⟩ := hk d (List.mem_cons_self ..)
    refine ⟨_, rfl, ON.seq ?_⟩
    obtain ⟨ys, ey, ly, py⟩ := lcD_ex (f := cmD (.nm 10) yesT (d2 fIx (dV 0) (d2 fMod (d2 fAdd (d2 fAdd (dV 1) (d2 fMul (dC (.int (5))) (dV 7))) (dV 10)) (dN fLen (aCons (dV 0) aNil))))
        [some (.list (xs.map PyData.int)), some (.int start), some (.int count), some (.list [.str s0, .str s1, .str s2, .str s3, .str s4, .str s5]), some (.list [.int p0, .int p1, .int p2, .int p3]), some (.list rs), some (.list (kinds.map PyData.str)), some (.int k), u8.dt, u9.dt, none])
      (P := fun d => ∃ j, d = .int j ∧ num j) (ds := (List.range 10).map fun i : Nat => PyData.int i) (fun d hd => by
        obtain ⟨i, hi, rfl⟩ := List.mem_map.mp hd
        obtain ⟨y, hy⟩ : ∃ y : Int, y = (i : Int) := ⟨_, rfl⟩
        have hi : i < 10 := by simpa using hi
        rw [← hy]
        obtain ⟨j, q, hj⟩ := atI_num hx (i := (start + 5 * k + y) % z) (Int.emod_nonneg _ (by omega)) (by have := Int.emod_lt_of_pos (start + 5 * k + y) (show 0 < z by omega); omega)
        refine ⟨.int j, ?_, j, rfl, hj⟩
        simp only [cmD, setT_nm, List.set, yesT_ap, Res.bind_ok, d2_ap, dN_ap, aCons_ap, aNil_ap, dC_ap, dV_s, dV_z, fMul_sm' (i := 5) (k := k) (by decide) (by decide), Res.of_some, fAdd_int, fLen_l, List.length_map, ← hz, fMod_pos (i := start + 5 * k + y) (k := z) (by omega), fIx_l, q, if_true, noEr_ok])
    obtain ⟨n0, n1, n2, n3, n4, n5, n6, n7, n8, n9, rfl, hn0, hn1, hn2, hn3, hn4, hn5, hn6, hn7, hn8, hn9⟩ := ten (by simpa using ly) py
    have er := iRangeL (a := dC (.int 10)) (β := [some (.list (xs.map PyData.int)), some (.int start), some (.int count), some (.list [.str s0, .str s1, .str s2, .str s3, .str s4, .str s5]), some (.list [.int p0, .int p1, .int p2, .int p3]), some (.list rs), some (.list (kinds.map PyData.str)), some (.int k), u8.dt, u9.dt, u10.dt]) (n := 10) rfl (by decide) (by decide)
    simp only [sLay_ap, sD_ap, dLc_ap, dats_cons, dats_nil, dt_d, List.set, er, Res.bind_ok, show (10 : Int).toNat = 10 from rfl, le_size (n := ((List.range 10).map fun i : Nat => PyData.int i).length) (by decide), if_true, wipeB_cons, wipeB_nil, ey, ofR_ok, ON_nx]
    refine ON.seq ?_
    obtain ⟨w, ew, mw⟩ := atI_in [PyData.int p0, .int p1, .int p2, .int p3] (i := n0 % 4) (by omega) (by simp; omega)
    obtain ⟨p, rfl⟩ : ∃ p, w = .int p := by
      simp at mw
      rcases mw with rfl | rfl | rfl | rfl <;> exact ⟨_, rfl⟩
    obtain ⟨v, ev, mv⟩ := atI_in (kinds.map PyData.str) (i := p % 20) (by omega) (by simp [kinds]; omega)
    obtain ⟨kd', hkd, rfl⟩ := List.mem_map.mp mv
    simp [fMod_pos, ew, ev]
    obtain ⟨v2, ev2, mv2⟩ := atI_in [PyData.str s0, .str s1, .str s2, .str s3, .str s4, .str s5] (i := n1 % 6) (by omega) (by simp; omega)
    obtain ⟨n', rfl, hn'⟩ : ∃ n' : Str, v2 = .str n' ∧ n' ∈ [s0, s1, s2, s3, s4, s5] := by
      simp at mv2
      rcases mv2 with rfl | rfl | rfl | rfl | rfl | rfl <;> exact ⟨_, rfl, by simp⟩
    obtain ⟨row, erow, hrow⟩ := row_sat (kind := kd') (name := n') hs hn2 hn3 hn4 hn5 hn6 hn7 hn8 hn9 hn0 hn1
    have hr := RowIs.rwN hrow (kinds_strs _ hkd) hn' hs
    have e1 : cutD [PyData.int n0, .int n1, .int n2, .int n3, .int n4, .int n5, .int n6, .int n7, .int n8, .int n9] (some 2) none = [.int n2, .int n3, .int n4, .int n5, .int n6, .int n7, .int n8, .int n9] := rfl
    have e2 : cutD [PyData.int n0, .int n1, .int n2, .int n3, .int n4, .int n5, .int n6, .int n7, .int n8, .int n9] none (some 2) = [.int n0, .int n1] := rfl
    have e3 : fAdd (.list [PyData.int n2, .int n3, .int n4, .int n5, .int n6, .int n7, .int n8, .int n9]) (.list [.int n0, .int n1]) = some (.list [.int n2, .int n3, .int n4, .int n5, .int n6, .int n7, .int n8, .int n9, .int n0, .int n1]) := fAdd_l _ _ (by rw [PySem.sizeLine_eq]; simp)
    have e4 := placed_ok (rs := rs) (d := row) (fun x hx => (hb.2.1 x hx).1) hr.1 (by have := hb.2.2; omega)
    simp [at1, fMod_pos, ev2, e1, e2, e3, erow, e4]
    refine ⟨fun d hd => hk d (List.mem_cons_of_mem _ hd), DL.put ky rs row, _, _, _, _, ?_, by simp at hl; omega, rfl⟩
    have := hb.put hr
    simp only [List.length_cons] at this hl
    rwa [show count.toNat - (ds.length + 1) + 1 = count.toNat - ds.length by omega] at this
  · rintro α ⟨_, rs, u7, u8, u9, u10, hb, _, rfl⟩
    simp
    exact hb
/-- ten numbers from the drawn ones -/
theorem tenM (hx : ∀ x ∈ xs, num x) (h0 : 0 < xs.length) {f : D → Res (Option D)} (g : Int → Int) (hf : ∀ w : Int, 0 ≤ w → w < 10 → ∀ j : Int, atI (xs.map PyData.int) ((g w) % (xs.length : Int)) = some (.int j) → f (.int w) = .ok (some (.int j))) :
    ∃ n0 n1 n2 n3 n4 n5 n6 n7 n8 n9 : Int, lcD f ((List.range 10).map fun i : Nat => PyData.int i) = .ok [.int n0, .int n1, .int n2, .int n3, .int n4, .int n5, .int n6, .int n7, .int n8, .int n9] ∧ num n0 ∧ num n1 ∧ num n2 ∧ num n3 ∧ num n4 ∧ num n5 ∧ num n6 ∧ num n7 ∧ num n8 ∧ num n9 := by
  obtain ⟨z, hz⟩ : ∃ z : Int, z = xs.length := ⟨_, rfl⟩
  obtain ⟨ys, ey, ly, py⟩ := lcD_ex (f := f) (P := fun d => ∃ j, d = .int j ∧ num j) (ds := (List.range 10).map fun i : Nat => PyData.int i) (fun d hd => by
    obtain ⟨i, hi, rfl⟩ := List.mem_map.mp hd
    have hi : i < 10 := by simpa using hi
    obtain ⟨j, q, hj⟩ := atI_num hx (i := (g i) % z) (Int.emod_nonneg _ (by omega)) (by have := Int.emod_lt_of_pos (g i) (show 0 < z by omega); omega)
    rw [hz] at q
    exact ⟨.int j, hf i (by omega) (by omega) j q, j, rfl, hj⟩)
  obtain ⟨n0, n1, n2, n3, n4, n5, n6, n7, n8, n9, rfl, h⟩ := ten (by simpa using ly) py
  exact ⟨n0, n1, n2, n3, n4, n5, n6, n7, n8, n9, ey, h⟩

/-- rows of the base and at most e others -/
def Hx (base : List D) (e : Nat) (rs : List D) : Prop := (∀ r ∈ rs, Rw r) ∧ ∃ ex : List D, ex.length ≤ e ∧ (∀ r ∈ rs, r ∈ base ∨ r ∈ ex) ∧ rs.length ≤ base.length + e
theorem Hx.put {base rs : List D} {e : Nat} {r : D} (h : Hx base e rs) (hr : Rw r) : Hx base (e + 1) (DL.put ky rs r) := by
  obtain ⟨h1, ex, h2, h3, h4⟩ := h
  refine ⟨fun x hx => ?_, r :: ex, by simp; omega, fun x hx => ?_, Nat.le_trans put_len (by omega)⟩
  · rcases put_mem.mp hx with rfl | hx
    · exact hr
    · exact h1 x hx.1
  · rcases put_mem.mp hx with rfl | hx
    · exact .inr (.head _)
    · exact (h3 x hx.1).imp id (.tail _)
theorem Hx.mono {base rs : List D} {e e' : Nat} (h : Hx base e rs) (le : e ≤ e') : Hx base e' rs := by
  obtain ⟨h1, ex, h2, h3, h4⟩ := h
  exact ⟨h1, ex, by omega, h3, by omega⟩
theorem Hx.sub {base rs : List D} {e : Nat} (h : Hx base e rs) (p : D → Bool) : Hx base e (rs.filter p) := by
  obtain ⟨h1, ex, h2, h3, h4⟩ := h
  exact ⟨fun x hx => h1 x (List.mem_filter.mp hx).1, ex, h2, fun x hx => h3 x (List.mem_filter.mp hx).1, Nat.le_trans (List.length_filter_le ..) h4⟩
def four : List Str := ["hand", "master", "table", "bolt"]
def HI (s0 s1 s2 s3 s4 s5 : Str) (xs : List Int) (base : List D) (start : Int) (n : Nat) (ds : List D) (α : At) : Prop := ∃ (i : Nat) (rs : List D) (u6 u7 u8 u9 : AV), ds = ((List.range n).drop i).map (fun i : Nat => PyData.int i) ∧ i ≤ n ∧ Hx base i rs ∧
  α = [AV.dat (.list base), .dat (.list [.str s0, .str s1, .str s2, .str s3, .str s4, .str s5]), .dat (.list (xs.map PyData.int)), .dat (.int start), .dat (.list rs), .dat (.list (four.map PyData.str)), u6, u7, u8, u9, .un, .un]
theorem hand_ok (hs : ∀ s ∈ [s0, s1, s2, s3, s4, s5], PyData.strOk s = true) (hx : ∀ x ∈ xs, num x) (h0 : 0 < xs.length) (hm : xs.length < 1000) {base : List D} (hb : ∀ r ∈ base, Rw r) (hbl : base.length < 100) (start : Int) (t0 : 0 ≤ start) (t1 : start < 1000) :
    ∃ rs, f__law_hand [.list base, .list [.str s0, .str s1, .str s2, .str s3, .str s4, .str s5], .list (xs.map PyData.int), .int start] = .ok (.list rs) ∧ Hx base 3 rs := by
  suffices h : Sat (fun d => ∃ rs, d = .list rs ∧ Hx base 3 rs) (f__law_hand [.list base, .list [.str s0, .str s1, .str s2, .str s3, .str s4, .str s5], .list (xs.map PyData.int), .int start]) by
    obtain ⟨_, e, rs, rfl, h⟩ := h
    exact ⟨rs, e, h⟩
  have sz := PySem.sizeLine_eq
  obtain ⟨z, hz⟩ : ∃ z : Int, z = xs.length := ⟨_, rfl⟩
  obtain ⟨c, hc, hcn⟩ := atI_num hx (i := start % z) (Int.emod_nonneg _ (by omega)) (by have := Int.emod_lt_of_pos start (show 0 < z by omega); omega)
  have hc4 : 0 ≤ c % 4 ∧ c % 4 < 4 := ⟨by omega, by omega⟩
  refine Sat.fD rfl (ON.seq ?_)
  have el : fList [.list base] = some (.list base) := rfl
  simp [el]
  refine ON.seq ?_
  simp
  refine ON.seq (ON.for_ (HI s0 s1 s2 s3 s4 s5 xs base start (c % 4).toNat) (iRangeL (n := c % 4) (by simp only [dats_cons, dats_nil, dt_d, dt_u, d2_ap, dV_s, dV_z, dN_ap, aCons_ap, aNil_ap, dC_ap, Res.bind_ok, Res.of_some, fLen_l, List.length_map, ← hz, fMod_pos (i := start) (k := z) (by omega), fIx_l, hc, fMod_pos (i := c) (k := 4) (by omega)]) (by omega) (by omega)) ⟨0, base, .un, .un, .un, .un, rfl, Nat.zero_le _, ⟨hb, [], by simp, fun r hr => .inl hr, by omega⟩, rfl⟩ ?_ ?_)
  · rintro d ds α ⟨i, rs, u6, u7, u8, u9, e, hi, hxr, rfl⟩
    have lt : i < (c % 4).toNat := by
      rcases Nat.lt_or_ge i (c % 4).toNat with lt | ge
      · exact lt
      · rw [List.drop_eq_nil_of_le (by simpa using ge)] at e
        cases e
    rw [List.drop_eq_getElem_cons (by simpa using lt)] at e
    simp only [List.getElem_range, List.map_cons] at e
    cases e
    obtain ⟨k, hk⟩ : ∃ k : Int, k = (i : Int) := ⟨_, rfl⟩
    rw [← hk]
    refine ⟨_, rfl, ON.seq ?_⟩
    obtain ⟨n0, n1, n2, n3, n4, n5, n6, n7, n8, n9, ey, hn0, hn1, hn2, hn3, hn4, hn5, hn6, hn7, hn8, hn9⟩ := tenM (xs := xs) hx h0 (f := cmD (.nm 10) yesT (d2 fIx (dV 2) (d2 fMod (d2 fAdd (d2 fAdd (d2 fAdd (dV 3) (dC (.int (1)))) (d2 fMul (dC (.int (4))) (dV 6))) (dV 10)) (dN fLen (aCons (dV 2) aNil))))
        [some (.list base), some (.list [.str s0, .str s1, .str s2, .str s3, .str s4, .str s5]), some (.list (xs.map PyData.int)), some (.int start), some (.list rs), some (.list (four.map PyData.str)), some (.int k), u7.dt, u8.dt, u9.dt, none, none]) (fun w => start + 1 + 4 * k + w) (fun y y0 y1 j q => by
        rw [← hz] at q
        simp only [cmD, setT_nm, List.set, yesT_ap, Res.bind_ok, d2_ap, dN_ap, aCons_ap, aNil_ap, dC_ap, dV_s, dV_z, fMul_sm' (i := 4) (k := k) (by decide) (by decide), Res.of_some, fAdd_int, fLen_l, List.length_map, ← hz, fMod_pos (i := start + 1 + 4 * k + y) (k := z) (by omega), fIx_l, q, if_true, noEr_ok])
    have er := iRangeL (a := dC (.int 10)) (β := [some (.list base), some (.list [.str s0, .str s1, .str s2, .str s3, .str s4, .str s5]), some (.list (xs.map PyData.int)), some (.int start), some (.list rs), some (.list (four.map PyData.str)), some (.int k), u7.dt, u8.dt, u9.dt, none, none]) (n := 10) rfl (by decide) (by decide)
    simp only [sLay_ap, sD_ap, dLc_ap, dats_cons, dats_nil, dt_d, dt_u, List.set, er, Res.bind_ok, show (10 : Int).toNat = 10 from rfl, le_size (n := ((List.range 10).map fun i : Nat => PyData.int i).length) (by decide), if_true, wipeB_cons, wipeB_nil, ey, ofR_ok, ON_nx]
    refine ON.seq ?_
    obtain ⟨v2, ev2, mv2⟩ := atI_in [PyData.str s0, .str s1, .str s2, .str s3, .str s4, .str s5] (i := n1 % 6) (by omega) (by simp; omega)
    obtain ⟨n', rfl, hn'⟩ : ∃ n' : Str, v2 = .str n' ∧ n' ∈ [s0, s1, s2, s3, s4, s5] := by
      simp at mv2
      rcases mv2 with rfl | rfl | rfl | rfl | rfl | rfl <;> exact ⟨_, rfl, by simp⟩
    simp only [sSet_ap, sD_ap, dats_cons, dats_nil, dt_d, dt_u, d2_ap, dV_s, dV_z, dC_ap, Res.bind_ok, Res.of_some, fIx_l, at1, fMod_pos (i := n1) (k := 6) (by decide), ev2, ofR_ok, List.set, ON_nx]
    refine ON.seq ?_
    obtain ⟨v, ev, mv⟩ := atI_in (four.map PyData.str) (i := n0 % 4) (by omega) (by simp [four]; omega)
    obtain ⟨kd', hkd, rfl⟩ := List.mem_map.mp mv
    have hok : PyData.strOk kd' = true := (by decide +kernel : ∀ k ∈ four, PyData.strOk k = true) kd' hkd
    simp only [sSet_ap, sD_ap, dats_cons, dats_nil, dt_d, dt_u, d2_ap, dV_s, dV_z, dC_ap, Res.bind_ok, Res.of_some, fIx_l, atI_z, fMod_pos (i := n0) (k := 4) (by decide), ev, ofR_ok, List.set, ON_nx]
    refine ON.iff (c := n2 % 3 == 0) (by simp only [tV_ap, sD_ap, dats_cons, dats_nil, dt_d, dt_u, d2_ap, dV_s, dV_z, dC_ap, Res.bind_ok, Res.of_some, fIx_l, at2, fMod_pos (i := n2) (k := 3) (by decide)]; rfl) (fun _ => ?_) (fun _ => ?_)
    · have e5 := lcD_sieve (f := cmD (.nm 11) (DL.tOr (tV (d2 fNe (d2 fIx (dV 11) (dC (.int (0)))) (dV 9))) (tV (d2 fNe (d2 fIx (dV 11) (dC (.int (1)))) (dV 8)))) (dV 11) [some (.list base), some (.list [.str s0, .str s1, .str s2, .str s3, .str s4, .str s5]), some (.list (xs.map PyData.int)), some (.int start), some (.list rs), some (.list (four.map PyData.str)), some (.int k), some (.list [PyData.int n0, .int n1, .int n2, .int n3, .int n4, .int n5, .int n6, .int n7, .int n8, .int n9]), some (.str n'), some (.str kd'), none, none]) (fun x => decide (ky x ≠ (kd', n'))) (ds := rs) fun x hxx => by
        have hr := hxr.1 x hxx
        by_cases q1 : kd x = kd' <;> by_cases q2 : nm x = n' <;> simp [cmD, hr.ix0, hr.ix1, fNe, eqD, ky, q1, q2]
      have lz : rs.length ≤ sizeLine := by
        obtain ⟨_, ex, l1, _, l2⟩ := hxr
        omega
      simp only [sLay_ap, sD_ap, dLc_ap, dats_cons, dats_nil, dt_d, dt_u, iSeq_ap, dV_s, dV_z, Res.bind_ok, items_l, Res.of_some, lz, if_true, wipeB_cons, wipeB_nil, List.set, e5, ofR_ok, ON_nx]
      exact ⟨i + 1, _, _, _, _, _, rfl, lt, (hxr.sub _).mono (Nat.le_succ _), rfl⟩
    · have hb3 : num (n3 % 2) := by unfold num at *; omega
      obtain ⟨row, erow, hrow⟩ := row_sat (kind := kd') (name := n') hs hb3 hb3 hb3 hb3 hb3 hb3 hb3 hb3 hb3 hb3
      have hr := RowIs.rwN hrow hok hn' hs
      have e6 : fMul (.list [PyData.int (n3 % 2)]) (.int 10) = some (.list [PyData.int (n3 % 2), .int (n3 % 2), .int (n3 % 2), .int (n3 % 2), .int (n3 % 2), .int (n3 % 2), .int (n3 % 2), .int (n3 % 2), .int (n3 % 2), .int (n3 % 2)]) := rfl
      have e4 := placed_ok (rs := rs) (d := row) hxr.1 hr.1 (by
        obtain ⟨_, ex, l1, _, l2⟩ := hxr
        omega)
      simp only [sSet_ap, sD_ap, dats_cons, dats_nil, dt_d, dt_u, d2_ap, dV_s, dV_z, dC_ap, dLst_ap, dCall_ap, aCons_ap, aNil_ap, Res.bind_ok, Res.of_some, fIx_l, at3, fMod_pos (i := n3) (k := 2) (by decide), List.length_cons, List.length_nil, le_size (n := 0 + 1) (by decide), if_true, e6, erow, e4, ofR_ok, List.set, ON_nx]
      exact ⟨i + 1, _, _, _, _, _, rfl, lt, hxr.put hr.1, rfl⟩
  · rintro α ⟨i, rs, u6, u7, u8, u9, e, hi, hxr, rfl⟩
    simp
    exact hxr.mono (by omega)
end
end Cg

/-! PM10: crowds; when books may be merged. -/
namespace Cg
open PySem L2 DL Cm
theorem abt_cps : ("abcdefghijklmnopqrst" : Str).cps.toList = (List.range 20).map (97 + ·) := by decide +kernel
theorem abt_size : ("abcdefghijklmnopqrst" : Str).cps.size = 20 := by decide +kernel
theorem abt_ix {i : Int} (h0 : 0 ≤ i) (h1 : i < 20) : fIx (.str "abcdefghijklmnopqrst") (.int i) = some (.str ⟨#[97 + i.toNat]⟩) := by
  rw [fIx_str (by rw [abt_size]; decide), abt_cps, atI_int _ h0 (by simp; omega)]
  simp
def WI (base : List D) (e : Nat) (first count : Int) (ds : List D) (α : At) : Prop := ∃ (i : Nat) (rs : List D) (u : AV), ds = ((List.range count.toNat).drop i).map (fun i : Nat => PyData.int i) ∧ i ≤ count.toNat ∧ Hx base (e + i) rs ∧ α = [AV.dat (.list rs), .dat (.int first), .dat (.int count), u]
theorem crowd_ok {base rs : List D} {e : Nat} (h : Hx base e rs) (hbl : base.length + e < 1000) (first count : Int) (f0 : 0 ≤ first) (c0 : 0 ≤ count) (fc : first + count ≤ 20) :
    ∃ rs', f__law_crowd [.list rs, .int first, .int count] = .ok (.list rs') ∧ Hx base (e + count.toNat) rs' := by
  suffices h : Sat (fun d => ∃ rs', d = .list rs' ∧ Hx base (e + count.toNat) rs') (f__law_crowd [.list rs, .int first, .int count]) by
    obtain ⟨_, e, rs, rfl, h⟩ := h
    exact ⟨rs, e, h⟩
  refine Sat.fD rfl (ON.seq (ON.for_ (WI base e first count) (iRangeL (n := count) (by simp) (by omega) (by omega)) ⟨0, rs, .un, rfl, Nat.zero_le _, h, rfl⟩ ?_ ?_))
  · rintro d ds α ⟨i, rs, u, e1, hi, hxr, rfl⟩
    have lt : i < count.toNat := by
      rcases Nat.lt_or_ge i count.toNat with lt | ge
      · exact lt
      · rw [List.drop_eq_nil_of_le (by simpa using ge)] at e1
        cases e1
    rw [List.drop_eq_getElem_cons (by simpa using lt)] at e1
    simp only [List.getElem_range, List.map_cons] at e1
    cases e1
    obtain ⟨k, hk⟩ : ∃ k : Int, k = (i : Int) := ⟨_, rfl⟩
    rw [← hk]
    have ex := abt_ix (i := first + k) (by omega) (by omega)
    have hr : Rw (.tuple [.str "wind", .str ⟨#[97 + (first + k).toNat]⟩, .tuple [.int 1, .int 0], .int 5]) :=
      ⟨"wind", ⟨#[97 + (first + k).toNat]⟩, [.tuple [.int 1, .int 0], .int 5], rfl, by decide, by
        intro x hx
        simp only [List.mem_cons, List.not_mem_nil, or_false] at hx
        rcases hx with rfl | rfl <;> decide, by decide +kernel, ok_one (by omega)⟩
    have e4 := placed_ok (rs := rs) (d := .tuple [.str "wind", .str ⟨#[97 + (first + k).toNat]⟩, .tuple [.int 1, .int 0], .int 5]) hxr.1 hr (by
      obtain ⟨_, ex, l1, _, l2⟩ := hxr
      omega)
    refine ⟨_, rfl, ?_⟩
    have ev : sSet 0 (sD (dCall f__law_placed (aCons (dV 0) (aCons (dTup (aCons (dC (.str "wind")) (aCons (d2 fIx (dC (.str "abcdefghijklmnopqrst")) (d2 fAdd (dV 1) (dV 3))) (aCons (dTup (aCons (dC (.int (1))) (aCons (dC (.int (0))) aNil))) (aCons (dC (.int (5))) aNil))))) aNil))))
        [AV.dat (.list rs), .dat (.int first), .dat (.int count), .dat (.int k)] = .nx [AV.dat (.list (DL.put ky rs (.tuple [.str "wind", .str ⟨#[97 + (first + k).toNat]⟩, .tuple [.int 1, .int 0], .int 5]))), .dat (.int first), .dat (.int count), .dat (.int k)] := by
      simp [ex, e4]
    refine ev ▸ .nx _ ⟨i + 1, _, _, rfl, lt, hxr.put hr, rfl⟩
  · rintro α ⟨i, rs, u, e1, hi, hxr, rfl⟩
    simp
    exact hxr.mono (by omega)
/-! ### when books may be merged -/
def InX (base ex : List D) (rs : List D) : Prop := (∀ r ∈ rs, Rw r ∧ (r ∈ base ∨ r ∈ ex)) ∧ rs.length < 200
theorem allK_len : ∀ {rss : List (List D)}, (∀ rs ∈ rss, rs.length < 200) → (allK rss).length ≤ 200 * rss.length
  | [], _ => Nat.zero_le _
  | rs :: rss, h => by
    have := allK_len (rss := rss) fun r hr => h r (.tail _ hr)
    have := h rs (.head _)
    rw [allK_cons, List.length_append, List.length_map, List.length_cons]
    omega
theorem allK_in {rss : List (List D)} {k : Ky} (h : k ∈ allK rss) : ∃ rs ∈ rss, ∃ r ∈ rs, ky r = k := by
  obtain ⟨l, hl, hk⟩ := List.mem_flatten.mp h
  obtain ⟨rs, hrs, rfl⟩ := List.mem_map.mp hl
  obtain ⟨x, hx, rfl⟩ := List.mem_map.mp hk
  exact ⟨rs, hrs, x, hx, rfl⟩
theorem mb_of {base ex : List D} {books : List (List D)} (hb : ∀ r ∈ base, Rw r) (h : ∀ rs ∈ books, InX base ex rs) (few : base.length + ex.length < 63) (nb : books.length < 400) : Mb base books := by
  refine ⟨hb, fun rs hrs x hx => ((h rs hrs).1 x hx).1, ?_, ?_, by omega⟩
  · have := sub_len (m := (base ++ ex).map ky) (ded_nodup (allK (base :: books))) fun k hk => by
      obtain ⟨rs, hrs, r, hr, rfl⟩ := allK_in (ded_mem.mp hk)
      refine List.mem_map.mpr ⟨r, ?_, rfl⟩
      rcases List.mem_cons.mp hrs with rfl | hrs
      · exact List.mem_append_left _ hr
      · exact List.mem_append.mpr ((h rs hrs).1 r hr).2
    rw [List.length_map, List.length_append] at this
    omega
  · have := allK_len (rss := base :: books) fun rs hrs => by
      rcases List.mem_cons.mp hrs with rfl | hrs
      · omega
      · exact (h rs hrs).2
    rw [List.length_cons] at this
    omega
/-- books by what they add -/
inductive Hxs (base : List D) : Nat → List (List D) → Prop
  | nil : Hxs base 0 []
  | cons {e t : Nat} {rs : List D} {rss : List (List D)} : Hx base e rs → Hxs base t rss → Hxs base (e + t) (rs :: rss)
theorem Hxs.inx {base : List D} {t : Nat} {rss : List (List D)} (h : Hxs base t rss) (s : base.length + t < 200) : ∃ ex : List D, ex.length ≤ t ∧ ∀ rs ∈ rss, InX base ex rs := by
  induction h with
  | nil => exact ⟨[], Nat.le_refl _, fun _ z => nomatch z⟩
  | @cons e t rs rss h1 h2 ih =>
    obtain ⟨ex, l, k⟩ := ih (by omega)
    obtain ⟨g1, ex1, g2, g3, g4⟩ := h1
    refine ⟨ex1 ++ ex, by simp; omega, fun r hr => ?_⟩
    rcases List.mem_cons.mp hr with rfl | hr
    · refine ⟨fun x hx => ⟨g1 x hx, (g3 x hx).imp id (List.mem_append_left _)⟩, by omega⟩
    · exact ⟨fun x hx => ⟨((k r hr).1 x hx).1, ((k r hr).1 x hx).2.imp id (List.mem_append_right _)⟩, (k r hr).2⟩
end Cg

/-! PQ1: books moved to other places: what hands change. -/
namespace Cg
open PySem L2 DL Cm
open Classical
theorem mem_chg {base : List D} {books : List (List D)} {k : Ky} {j : Nat} {v : D} : (j, v) ∈ chg base books k ↔ j < books.length ∧ v = ver (books.getD j []) k ∧ v ≠ ver base k := by
  unfold chg chgU
  rw [List.mem_filterMap]
  constructor
  · rintro ⟨i, hi, e⟩
    have hi : i < books.length := by simpa using hi
    split at e
    · cases e
    · rename_i h
      cases e
      exact ⟨hi, rfl, h⟩
  · rintro ⟨h1, rfl, h3⟩
    exact ⟨j, by simpa using h1, if_neg h3⟩
theorem chg_up (base : List D) (books : List (List D)) (k : Ky) : (chg base books k).Pairwise fun c d => c.1 < d.1 := by
  unfold chg chgU
  refine List.Pairwise.filterMap (R := fun a b : Nat => a < b) _ (fun a a' h b hb b' hb' => ?_) List.pairwise_lt_range
  split at hb
  · cases hb
  · split at hb'
    · cases hb'
    · cases hb
      cases hb'
      exact h
theorem vdif_iff {cs : List (Nat × D)} : vdif cs = true ↔ ∃ c ∈ cs, ∃ d ∈ cs, c.2 ≠ d.2 := by
  cases cs with
  | nil => simp [vdif]
  | cons c r =>
    unfold vdif
    rw [List.any_eq_true]
    constructor
    · rintro ⟨d, hd, h⟩
      exact ⟨d, hd, c, .head _, by simpa using h⟩
    · rintro ⟨d, hd, e, he, h⟩
      by_cases q : d.2 = c.2
      · exact ⟨e, he, by simpa using fun z => h (q.trans z.symm)⟩
      · exact ⟨d, hd, by simpa using q⟩
theorem rowOf_mem {base : List D} {books : List (List D)} {k : Ky} (h : vdif (chg base books k) = false) {c : Nat × D} (hc : c ∈ chg base books k) : rowOf base books k = c.2 := by
  unfold rowOf
  cases e : chg base books k with
  | nil => rw [e] at hc; cases hc
  | cons d r =>
    refine Classical.byContradiction fun ne => ?_
    have : vdif (chg base books k) = true := vdif_iff.mpr ⟨d, by rw [e]; exact .head _, c, hc, ne⟩
    rw [h] at this
    cases this
theorem rowOf_none {base : List D} {books : List (List D)} {k : Ky} (h : chg base books k = []) : rowOf base books k = ver base k := by
  unfold rowOf
  rw [h]
/-- the same books, at other places; the base may stand between -/
structure Mv (base : List D) (books books' : List (List D)) (pl : List Nat) : Prop where
  len : pl.length = books.length
  le : books'.length ≤ books.length + 1
  lt : ∀ i, i < books.length → pl.getD i 0 < books'.length
  at_ : ∀ i, i < books.length → books'.getD (pl.getD i 0) [] = books.getD i []
  inj : ∀ i j, i < books.length → j < books.length → pl.getD i 0 = pl.getD j 0 → i = j
  oth : ∀ j, j < books'.length → (∃ i, i < books.length ∧ pl.getD i 0 = j) ∨ books'.getD j [] = base
section
variable {base : List D} {books books' : List (List D)} {pl : List Nat} {k : Ky}
theorem Mv.mem (m : Mv base books books' pl) {j : Nat} {v : D} : (j, v) ∈ chg base books' k ↔ ∃ i, (i, v) ∈ chg base books k ∧ pl.getD i 0 = j := by
  rw [mem_chg]
  constructor
  · rintro ⟨h1, h2, h3⟩
    rcases m.oth j h1 with ⟨i, hi, rfl⟩ | e
    · exact ⟨i, mem_chg.mpr ⟨hi, by rw [h2, m.at_ i hi], h3⟩, rfl⟩
    · rw [e] at h2
      exact absurd h2 h3
  · rintro ⟨i, hi, rfl⟩
    obtain ⟨h1, h2, h3⟩ := mem_chg.mp hi
    exact ⟨m.lt i h1, by rw [m.at_ i h1, h2], h3⟩
theorem Mv.dif (m : Mv base books books' pl) : vdif (chg base books' k) = vdif (chg base books k) := by
  rw [Bool.eq_iff_iff, vdif_iff, vdif_iff]
  constructor
  · rintro ⟨⟨j, v⟩, hc, ⟨j', v'⟩, hd, ne⟩
    obtain ⟨i, hi, _⟩ := m.mem.mp hc
    obtain ⟨i', hi', _⟩ := m.mem.mp hd
    exact ⟨_, hi, _, hi', ne⟩
  · rintro ⟨⟨i, v⟩, hc, ⟨i', v'⟩, hd, ne⟩
    exact ⟨_, m.mem.mpr ⟨i, hc, rfl⟩, _, m.mem.mpr ⟨i', hd, rfl⟩, ne⟩
theorem Mv.row (m : Mv base books books' pl) (h : vdif (chg base books k) = false) : rowOf base books' k = rowOf base books k := by
  have h' : vdif (chg base books' k) = false := by rw [m.dif]; exact h
  cases e : chg base books k with
  | nil =>
    have e' : chg base books' k = [] := List.eq_nil_iff_forall_not_mem.mpr fun ⟨j, v⟩ hc => by
      obtain ⟨i, hi, _⟩ := m.mem.mp hc
      rw [e] at hi
      cases hi
    rw [rowOf_none e, rowOf_none e']
  | cons c r =>
    have hc : (c.1, c.2) ∈ chg base books k := by rw [e]; exact .head _
    rw [rowOf_mem h hc, rowOf_mem h' (m.mem.mpr ⟨c.1, hc, rfl⟩)]
theorem Mv.keys (m : Mv base books books' pl) : KS base books' = KS base books := by
  unfold KS sortPr
  refine sort_perm ((List.perm_ext_iff_of_nodup (ded_nodup _) (ded_nodup _)).mpr fun q => ?_)
  rw [ded_mem, ded_mem]
  have get : ∀ {l : List (List D)} {rs : List D}, rs ∈ l ↔ ∃ i, i < l.length ∧ l.getD i [] = rs := fun {l rs} => by
    constructor
    · intro h
      obtain ⟨i, hi, e⟩ := List.getElem_of_mem h
      exact ⟨i, hi, by rw [List.getD_eq_getElem?_getD, List.getElem?_eq_getElem hi]; exact e⟩
    · rintro ⟨i, hi, rfl⟩
      rw [List.getD_eq_getElem?_getD, List.getElem?_eq_getElem hi]
      exact List.getElem_mem hi
  have put : ∀ {rss : List (List D)} {rs : List D}, rs ∈ rss → ∀ r ∈ rs, ky r ∈ allK rss := fun hrs r hr => List.mem_flatten.mpr ⟨_, List.mem_map.mpr ⟨_, hrs, rfl⟩, List.mem_map.mpr ⟨r, hr, rfl⟩⟩
  constructor
  · intro h
    obtain ⟨rs, hrs, r, hr, rfl⟩ := allK_in h
    rcases List.mem_cons.mp hrs with rfl | hrs
    · exact put (.head _) r hr
    · obtain ⟨j, hj, rfl⟩ := get.mp hrs
      rcases m.oth j hj with ⟨i, hi, rfl⟩ | e
      · rw [m.at_ i hi] at hr
        exact put (.tail _ (get.mpr ⟨i, hi, rfl⟩)) r hr
      · rw [e] at hr
        exact put (.head _) r hr
  · intro h
    obtain ⟨rs, hrs, r, hr, rfl⟩ := allK_in h
    rcases List.mem_cons.mp hrs with rfl | hrs
    · exact put (.head _) r hr
    · obtain ⟨i, hi, rfl⟩ := get.mp hrs
      rw [← m.at_ i hi] at hr
      exact put (.tail _ (get.mpr ⟨_, m.lt i hi, rfl⟩)) r hr
/-- a changed key's entries, told anew -/
theorem Mv.perm (m : Mv base books books' pl) : List.Perm ((chg base books k).map fun c => pl.getD c.1 0) ((chg base books' k).map (·.1)) := by
  have up := chg_up base books k
  have up' := chg_up base books' k
  refine (List.perm_ext_iff_of_nodup ?_ ?_).mpr fun j => ?_
  · rw [List.Nodup, List.pairwise_map]
    refine List.Pairwise.imp_of_mem (fun {c d} hc hd lt e => ?_) up
    have := m.inj c.1 d.1 (mem_chg.mp (show (c.1, c.2) ∈ _ from hc)).1 (mem_chg.mp (show (d.1, d.2) ∈ _ from hd)).1 e
    omega
  · rw [List.Nodup, List.pairwise_map]
    exact up'.imp fun h e => by omega
  · rw [List.mem_map, List.mem_map]
    constructor
    · rintro ⟨c, hc, rfl⟩
      exact ⟨_, m.mem.mpr ⟨c.1, hc, rfl⟩, rfl⟩
    · rintro ⟨⟨j, v⟩, hc, rfl⟩
      obtain ⟨i, hi, e⟩ := m.mem.mp hc
      exact ⟨_, hi, e⟩
end
end Cg

/-! PQ2: what hands change, by the new places. -/
namespace Cg
open PySem L2 DL Cm
open Classical
theorem up_eq {l m : List (Nat × D)} (hl : l.Pairwise fun c d => c.1 < d.1) (hm : m.Pairwise fun c d => c.1 < d.1) (h : ∀ c, c ∈ l ↔ c ∈ m) : l = m := by
  have nl : l.Nodup := hl.imp fun h e => by rw [e] at h; omega
  have nm : m.Nodup := hm.imp fun h e => by rw [e] at h; omega
  exact perm_same (le := fun c d : Nat × D => c.1 < d.1) (fun a b h1 h2 => by omega) l m ((List.perm_ext_iff_of_nodup nl nm).mpr h) hl hm
def movT (pl : List Nat) (cs : List (Nat × D)) (n : Nat) : List (Nat × D) := (List.range n).flatMap fun a => (cs.filter fun c => decide (pl.getD c.1 0 = a)).map fun c => (a, c.2)
theorem movT_succ (pl : List Nat) (cs : List (Nat × D)) (n : Nat) : movT pl cs (n + 1) = movT pl cs n ++ (cs.filter fun c => decide (pl.getD c.1 0 = n)).map fun c => (n, c.2) := by
  unfold movT
  rw [List.range_succ, List.flatMap_append]
  simp
section
variable {base : List D} {books books' : List (List D)} {pl : List Nat} {k : Ky}
theorem Mv.torn (m : Mv base books books' pl) {n : Nat} (hn : books'.length ≤ n) : movT pl (chg base books k) n = chg base books' k := by
  refine up_eq ?_ (chg_up base books' k) fun c => ?_
  · unfold movT
    rw [List.pairwise_flatMap]
    refine ⟨fun a _ => ?_, List.pairwise_lt_range.imp fun {a b} lt x hx y hy => ?_⟩
    · rw [List.pairwise_map]
      refine List.Pairwise.imp_of_mem (fun {c d} hc hd lt => ?_) ((chg_up base books k).filter _)
      exfalso
      obtain ⟨h1, h2⟩ := List.mem_filter.mp hc
      obtain ⟨h3, h4⟩ := List.mem_filter.mp hd
      have e : pl.getD c.1 0 = pl.getD d.1 0 := (of_decide_eq_true h2).trans (of_decide_eq_true h4).symm
      have := m.inj c.1 d.1 (mem_chg.mp (show (c.1, c.2) ∈ _ from h1)).1 (mem_chg.mp (show (d.1, d.2) ∈ _ from h3)).1 e
      omega
    · obtain ⟨c, _, rfl⟩ := List.mem_map.mp hx
      obtain ⟨d, _, rfl⟩ := List.mem_map.mp hy
      exact lt
  · obtain ⟨j, v⟩ := c
    unfold movT
    rw [List.mem_flatMap, m.mem]
    constructor
    · rintro ⟨a, _, h⟩
      obtain ⟨c, hc, e⟩ := List.mem_map.mp h
      obtain ⟨h1, h2⟩ := List.mem_filter.mp hc
      cases e
      exact ⟨c.1, h1, of_decide_eq_true h2⟩
    · rintro ⟨i, hi, e⟩
      refine ⟨j, ?_, List.mem_map.mpr ⟨(i, v), List.mem_filter.mpr ⟨hi, decide_eq_true e⟩, rfl⟩⟩
      have := m.lt i (mem_chg.mp hi).1
      simp
      omega
def ltI (i j : Int) : Bool := decide (i < j)
theorem Mv.merged (m : Mv base books books' pl) : sortBy ltI ((chg base books k).map fun c => ((pl.getD c.1 0 : Nat) : Int)) = (chg base books' k).map fun c => (c.1 : Int) := by
  have pm := (m.perm (k := k)).map fun n : Nat => (n : Int)
  rw [List.map_map, List.map_map] at pm
  refine perm_same (le := fun a b : Int => a ≤ b) (fun a b => Int.le_antisymm) _ _ ((sortBy_perm _).trans pm) ?_ ?_
  · have := sortBy_ord (lt := ltI) (fun i j h => by simp [ltI] at h ⊢; omega) (fun a b c h h' => by simp [ltI] at h h' ⊢; omega) ((chg base books k).map fun c => ((pl.getD c.1 0 : Nat) : Int))
    exact this.imp fun {a b} h => by simp [ltI] at h; omega
  · rw [List.pairwise_map]
    exact (chg_up base books' k).imp fun h => by omega
end
theorem ints_map : ∀ ns : List Int, intsOf (ns.map PyData.int) = some ns
  | [] => rfl
  | n :: ns => by simp [intsOf, ints_map ns]
theorem sorted_ints (ns : List Int) (h : ns.length < 64) : fSorted [.list (ns.map PyData.int)] = some (.list ((sortBy ltI ns).map PyData.int)) := by
  cases ns with
  | nil => rfl
  | cons n ns =>
    have s : strsOf ((n :: ns).map PyData.int) = none := rfl
    unfold fSorted
    dsimp only
    rw [s]
    dsimp only
    rw [ints_map]
    dsimp only
    rw [if_pos h]
    rfl
end Cg

/-! PQ6: the moves of the law. -/
namespace Cg
open PySem L2 DL Cm
open Classical
theorem getD_map {α β : Type} (f : α → β) (l : List α) (i : Nat) (d : α) (e : β) (h : i < l.length) : (l.map f).getD i e = f (l.getD i d) := by
  rw [List.getD_eq_getElem?_getD, List.getD_eq_getElem?_getD, List.getElem?_map, List.getElem?_eq_getElem h]
  rfl
theorem getD_range (f : Nat → Nat) (n i : Nat) (h : i < n) : ((List.range n).map f).getD i 0 = f i := by
  rw [getD_map f (List.range n) i 0 0 (by simpa using h), List.getD_eq_getElem?_getD, List.getElem?_range h]
  rfl
/-- turned by a way there and a way back -/
theorem mv_turn (base : List D) (books : List (List D)) (f g : Nat → Nat) (hf : ∀ i, i < books.length → f i < books.length ∧ g (f i) = i) (hg : ∀ j, j < books.length → g j < books.length ∧ f (g j) = j) :
    Mv base books ((List.range books.length).map fun j => books.getD (g j) []) ((List.range books.length).map f) := by
  have at_ : ∀ j, j < books.length → ((List.range books.length).map fun j => books.getD (g j) []).getD j [] = books.getD (g j) [] := fun j hj => by
    rw [getD_map (fun j => books.getD (g j) []) (List.range books.length) j 0 [] (by simpa using hj), List.getD_eq_getElem?_getD (l := List.range books.length), List.getElem?_range hj]
    rfl
  refine ⟨by simp, by simp, fun i hi => ?_, fun i hi => ?_, fun i j hi hj e => ?_, fun j hj => ?_⟩
  · rw [getD_range f _ i hi]
    simpa using (hf i hi).1
  · rw [getD_range f _ i hi, at_ _ (hf i hi).1, (hf i hi).2]
  · rw [getD_range f _ i hi, getD_range f _ j hj] at e
    have := congrArg g e
    rwa [(hf i hi).2, (hf j hj).2] at this
  · have hj : j < books.length := by simpa using hj
    refine .inl ⟨g j, (hg j hj).1, ?_⟩
    rw [getD_range f _ _ (hg j hj).1, (hg j hj).2]
theorem mv_back (base : List D) (books : List (List D)) : Mv base books ((List.range books.length).map fun j => books.getD (books.length - 1 - j) []) ((List.range books.length).map fun i => books.length - 1 - i) :=
  mv_turn base books (fun i => books.length - 1 - i) (fun j => books.length - 1 - j) (fun i hi => ⟨by omega, by omega⟩) fun j hj => ⟨by omega, by omega⟩
theorem mv_one (base : List D) (books : List (List D)) : Mv base books ((List.range books.length).map fun j => books.getD ((j + (books.length - 1)) % books.length) []) ((List.range books.length).map fun i => (i + 1) % books.length) := by
  refine mv_turn base books (fun i => (i + 1) % books.length) (fun j => (j + (books.length - 1)) % books.length) (fun i hi => ⟨Nat.mod_lt _ (by omega), ?_⟩) fun j hj => ⟨Nat.mod_lt _ (by omega), ?_⟩
  · by_cases e : i + 1 = books.length
    · rw [e, Nat.mod_self, Nat.zero_add, Nat.mod_eq_of_lt (by omega)]
      omega
    · rw [Nat.mod_eq_of_lt (by omega : i + 1 < books.length), show i + 1 + (books.length - 1) = i + books.length by omega, Nat.add_mod_right, Nat.mod_eq_of_lt hi]
  · by_cases e : j = 0
    · subst e
      rw [Nat.zero_add, Nat.mod_eq_of_lt (by omega : books.length - 1 < books.length), show books.length - 1 + 1 = books.length by omega, Nat.mod_self]
    · rw [show j + (books.length - 1) = (j - 1) + books.length by omega, Nat.add_mod_right, Nat.mod_eq_of_lt (by omega : j - 1 < books.length), show j - 1 + 1 = j by omega, Nat.mod_eq_of_lt hj]
/-- the base put in at a place -/
theorem mv_in (base : List D) (books : List (List D)) (a : Nat) (ha : a ≤ books.length) : Mv base books (books.take a ++ base :: books.drop a) ((List.range books.length).map fun i => if a ≤ i then i + 1 else i) := by
  have len : (books.take a ++ base :: books.drop a).length = books.length + 1 := by
    rw [List.length_append, List.length_cons, List.length_take, List.length_drop]
    omega
  have lt : (books.take a).length = a := by
    rw [List.length_take]
    omega
  have lo : ∀ j, j < a → (books.take a ++ base :: books.drop a).getD j [] = books.getD j [] := fun j hj => by
    rw [List.getD_eq_getElem?_getD, List.getElem?_append_left (by omega), List.getElem?_take_of_lt hj, List.getD_eq_getElem?_getD]
  have mid : (books.take a ++ base :: books.drop a).getD a [] = base := by
    rw [List.getD_eq_getElem?_getD, List.getElem?_append_right (by omega), lt, Nat.sub_self]
    rfl
  have hi : ∀ j, a ≤ j → (books.take a ++ base :: books.drop a).getD (j + 1) [] = books.getD j [] := fun j hj => by
    rw [List.getD_eq_getElem?_getD, List.getElem?_append_right (by omega), lt, show j + 1 - a = (j - a) + 1 by omega, List.getElem?_cons_succ, List.getElem?_drop, List.getD_eq_getElem?_getD, show a + (j - a) = j by omega]
  refine ⟨by simp, by omega, fun i h => ?_, fun i h => ?_, fun i j h h' e => ?_, fun j h => ?_⟩
  · rw [getD_range _ _ i h]
    split <;> omega
  · rw [getD_range _ _ i h]
    split
    · rename_i q
      exact hi i q
    · rename_i q
      exact lo i (by omega)
  · rw [getD_range _ _ i h, getD_range _ _ j h'] at e
    split at e <;> split at e <;> omega
  · rw [len] at h
    rcases Nat.lt_trichotomy j a with q | q | q
    · refine .inl ⟨j, by omega, ?_⟩
      rw [getD_range _ _ j (by omega), if_neg (by omega)]
    · subst q
      exact .inr mid
    · refine .inl ⟨j - 1, by omega, ?_⟩
      rw [getD_range _ _ (j - 1) (by omega), if_pos (by omega)]
      omega
end Cg

/-! PQ7: the hands twice over; the merged book alone. -/
namespace Cg
open PySem L2 DL Cm
open Classical
section
variable {base : List D} {books books' : List (List D)} {k : Ky}
/-- of each key the same versions -/
def Sv2 (base : List D) (books books' : List (List D)) : Prop := ∀ k v, (∃ j, (j, v) ∈ chg base books' k) ↔ ∃ i, (i, v) ∈ chg base books k
theorem Sv2.dif (m : Sv2 base books books') : vdif (chg base books' k) = vdif (chg base books k) := by
  rw [Bool.eq_iff_iff, vdif_iff, vdif_iff]
  constructor
  · rintro ⟨⟨j, v⟩, hc, ⟨j', v'⟩, hd, ne⟩
    obtain ⟨i, hi⟩ := (m k v).mp ⟨j, hc⟩
    obtain ⟨i', hi'⟩ := (m k v').mp ⟨j', hd⟩
    exact ⟨_, hi, _, hi', ne⟩
  · rintro ⟨⟨i, v⟩, hc, ⟨i', v'⟩, hd, ne⟩
    obtain ⟨j, hj⟩ := (m k v).mpr ⟨i, hc⟩
    obtain ⟨j', hj'⟩ := (m k v').mpr ⟨i', hd⟩
    exact ⟨_, hj, _, hj', ne⟩
theorem Sv2.row (m : Sv2 base books books') (h : vdif (chg base books k) = false) : rowOf base books' k = rowOf base books k := by
  have h' : vdif (chg base books' k) = false := by rw [m.dif]; exact h
  cases e : chg base books k with
  | nil =>
    have e' : chg base books' k = [] := List.eq_nil_iff_forall_not_mem.mpr fun ⟨j, v⟩ hc => by
      obtain ⟨i, hi⟩ := (m k v).mp ⟨j, hc⟩
      rw [e] at hi
      cases hi
    rw [rowOf_none e, rowOf_none e']
  | cons c r =>
    have hc : (c.1, c.2) ∈ chg base books k := by rw [e]; exact .head _
    obtain ⟨j, hj⟩ := (m k c.2).mpr ⟨c.1, hc⟩
    rw [rowOf_mem h hc, rowOf_mem h' hj]
theorem sv_twice (base : List D) (books : List (List D)) : Sv2 base books (books ++ books) := by
  intro k v
  constructor
  · rintro ⟨j, hj⟩
    obtain ⟨h1, h2, h3⟩ := mem_chg.mp hj
    rw [List.length_append] at h1
    rcases Nat.lt_or_ge j books.length with q | q
    · refine ⟨j, mem_chg.mpr ⟨q, ?_, h3⟩⟩
      rw [h2, List.getD_eq_getElem?_getD, List.getElem?_append_left q, List.getD_eq_getElem?_getD]
    · refine ⟨j - books.length, mem_chg.mpr ⟨by omega, ?_, h3⟩⟩
      rw [h2, List.getD_eq_getElem?_getD, List.getElem?_append_right q, List.getD_eq_getElem?_getD]
  · rintro ⟨i, hi⟩
    obtain ⟨h1, h2, h3⟩ := mem_chg.mp hi
    refine ⟨i, mem_chg.mpr ⟨by rw [List.length_append]; omega, ?_, h3⟩⟩
    rw [h2, List.getD_eq_getElem?_getD, List.getD_eq_getElem?_getD, List.getElem?_append_left h1]
theorem ks_same {rss rss' : List (List D)} (h : ∀ q, q ∈ allK rss ↔ q ∈ allK rss') : sortPr (allK rss) = sortPr (allK rss') := by
  unfold sortPr
  refine sort_perm ((List.perm_ext_iff_of_nodup (ded_nodup _) (ded_nodup _)).mpr fun q => ?_)
  rw [ded_mem, ded_mem]
  exact h q
theorem allK_app (a b : List (List D)) : allK (a ++ b) = allK a ++ allK b := by
  unfold allK
  rw [List.map_append, List.flatten_append]
theorem keys_twice (base : List D) (books : List (List D)) : KS base (books ++ books) = KS base books := by
  unfold KS
  refine ks_same fun q => ?_
  rw [allK_cons, allK_cons, allK_app]
  simp
/-- the first two items of the paper, where nothing is torn -/
noncomputable def head2 (base : List D) (books : List (List D)) : D := match fulls (rowL base books (KS base books)) with
  | k :: _ => .tuple [.str "full", .str k]
  | [] => .tuple [.str "merged", .tuple (rowL base books (KS base books))]
theorem con_nil (h : conL base books (KS base books) = []) : ∀ k ∈ KS base books, vdif (chg base books k) = false := fun k hk => by
  unfold conL at h
  rw [List.map_eq_nil_iff, List.filter_eq_nil_iff] at h
  simpa using h k hk
theorem same_rowsL (m : Sv2 base books books') (hk : KS base books' = KS base books) (h : conL base books (KS base books) = []) : conL base books' (KS base books') = [] ∧ rowL base books' (KS base books') = rowL base books (KS base books) := by
  have no := con_nil h
  constructor
  · unfold conL
    rw [hk, List.map_eq_nil_iff, List.filter_eq_nil_iff]
    intro k hk
    rw [m.dif, no k hk]
    decide
  · unfold rowL
    have fe : ((KS base books).filter fun k => !isN (rowOf base books' k)) = (KS base books).filter fun k => !isN (rowOf base books k) := List.filter_congr fun k hk => by rw [m.row (no k hk)]
    rw [hk, fe]
    exact List.map_congr_left fun k hk => m.row (no k (List.mem_filter.mp hk).1)
end
end Cg

/-! PQ8: the merged book, alone over the base. -/
namespace Cg
open PySem L2 DL Cm
open Classical
theorem ver_is {rs : List D} {k : Ky} {r : D} (h : r ∈ rs) (hk : ky r = k) (uniq : ∀ x ∈ rs, ky x = k → x = r) : ver rs k = r := by
  unfold ver
  cases e : rs.find? fun x => decide (ky x = k) with
  | none =>
    have := List.find?_eq_none.mp e r h
    simp [hk] at this
  | some x =>
    have h1 := List.mem_of_find?_eq_some e
    have h2 : ky x = k := by simpa using List.find?_some e
    exact uniq x h1 h2
theorem ver_no {rs : List D} {k : Ky} (h : ∀ x ∈ rs, ky x ≠ k) : ver rs k = .none := by
  unfold ver
  rw [List.find?_eq_none.mpr fun x hx => by simpa using h x hx]
  rfl
section
variable {base : List D} {books : List (List D)} {k : Ky}
theorem rowOf_ky : rowOf base books k = .none ∨ ky (rowOf base books k) = k := by
  unfold rowOf
  cases e : chg base books k with
  | nil => exact ver_in.imp id fun h => h.2
  | cons c r =>
    have hc : (c.1, c.2) ∈ chg base books k := by rw [e]; exact .head _
    obtain ⟨_, h2, _⟩ := mem_chg.mp hc
    show c.2 = .none ∨ ky c.2 = k
    rw [h2]
    exact ver_in.imp id fun h => h.2
theorem isN_iff {d : D} : isN d = true ↔ d = .none := by
  cases d <;> simp [isN]
theorem mem_rowL {ks : List Ky} {x : D} : x ∈ rowL base books ks ↔ ∃ k ∈ ks, rowOf base books k = x ∧ x ≠ .none := by
  unfold rowL
  rw [List.mem_map]
  constructor
  · rintro ⟨k, hk, rfl⟩
    obtain ⟨h1, h2⟩ := List.mem_filter.mp hk
    refine ⟨k, h1, rfl, fun e => ?_⟩
    rw [isN_iff.mpr e] at h2
    cases h2
  · rintro ⟨k, hk, rfl, ne⟩
    refine ⟨k, List.mem_filter.mpr ⟨hk, ?_⟩, rfl⟩
    cases z : isN (rowOf base books k) with
    | false => rfl
    | true => exact absurd (isN_iff.mp z) ne
theorem ver_rowL {ks : List Ky} (hk : k ∈ ks) : ver (rowL base books ks) k = rowOf base books k := by
  have key : ∀ x ∈ rowL base books ks, ky x = k → x = rowOf base books k := fun x hx e => by
    obtain ⟨k', _, rfl, ne⟩ := mem_rowL.mp hx
    rcases rowOf_ky (base := base) (books := books) (k := k') with z | z
    · exact absurd z ne
    · rw [← e, z]
  by_cases h : rowOf base books k = .none
  · rw [h]
    refine ver_no fun x hx e => ?_
    obtain ⟨k', _, rfl, ne⟩ := mem_rowL.mp hx
    exact ne ((key _ hx e).trans h)
  · refine ver_is (mem_rowL.mpr ⟨k, hk, rfl, h⟩) ?_ key
    exact rowOf_ky.resolve_left h
theorem rowOf_one (base ml : List D) (k : Ky) : rowOf base [ml] k = ver ml k ∧ vdif (chg base [ml] k) = false := by
  have e : chg base [ml] k = if ver ml k = ver base k then [] else [(0, ver ml k)] := by
    show chgU base [ml] k (0 + 1) = _
    rw [chgU_succ]
    rfl
  unfold rowOf
  rw [e]
  by_cases h : ver ml k = ver base k
  · rw [if_pos h]
    exact ⟨h.symm, rfl⟩
  · rw [if_neg h]
    exact ⟨rfl, by simp [vdif]⟩
theorem ks_up (rss : List (List D)) : (sortPr (allK rss)).Pairwise (fun a b => DS.setLe a b = true) ∧ (sortPr (allK rss)).Nodup :=
  ⟨List.pairwise_mergeSort (le := DS.setLe) (fun _ _ _ => setLe_tr) setLe_tot _, ((List.mergeSort_perm ..).nodup_iff).mpr (ded_nodup _)⟩
theorem alone_ok : conL base [rowL base books (KS base books)] (KS base [rowL base books (KS base books)]) = [] ∧ rowL base [rowL base books (KS base books)] (KS base [rowL base books (KS base books)]) = rowL base books (KS base books) := by
  obtain ⟨ml, hml⟩ : ∃ ml, ml = rowL base books (KS base books) := ⟨_, rfl⟩
  rw [← hml]
  constructor
  · unfold conL
    rw [List.map_eq_nil_iff, List.filter_eq_nil_iff]
    intro k _
    rw [(rowOf_one base ml k).2]
    decide
  · have u1 := ks_up (base :: [ml])
    have u2 := ks_up (base :: books)
    have vk : ∀ k ∈ KS base books, ver ml k = rowOf base books k := fun k hk => by rw [hml]; exact ver_rowL hk
    have nn : ∀ {d : D}, (!isN d) = true ↔ d ≠ .none := fun {d} => by
      cases z : isN d with
      | true => simp [isN_iff.mp z]
      | false => simp; exact fun e => by rw [isN_iff.mpr e] at z; cases z
    have same : ((KS base [ml]).filter fun k => !isN (ver ml k)) = (KS base books).filter fun k => !isN (rowOf base books k) := by
      refine perm_same (le := fun a b => DS.setLe a b = true) (fun _ _ => setLe_as) _ _ ((List.perm_ext_iff_of_nodup (u1.2.filter _) (u2.2.filter _)).mpr fun k => ?_) (u1.1.filter _) (u2.1.filter _)
      rw [List.mem_filter, List.mem_filter, nn, nn]
      constructor
      · rintro ⟨_, h2⟩
        obtain ⟨h3, h4⟩ := (ver_in (rs := ml) (k := k)).resolve_left h2
        rw [hml] at h3
        obtain ⟨k', hk', e, ne⟩ := mem_rowL.mp h3
        rw [← hml] at e
        have : k' = k := by
          rcases rowOf_ky (base := base) (books := books) (k := k') with z | z
          · exact absurd (e.symm.trans z) h2
          · rw [← h4, ← e, z]
        subst this
        exact ⟨hk', by rw [e]; exact h2⟩
      · rintro ⟨h1, h2⟩
        refine ⟨?_, by rw [vk k h1]; exact h2⟩
        have hx : rowOf base books k ∈ ml := by rw [hml]; exact mem_rowL.mpr ⟨k, h1, rfl, h2⟩
        refine ks_mem.mpr ?_
        rw [allK_cons, allK_cons]
        refine List.mem_append_right _ (List.mem_append_left _ (List.mem_map.mpr ⟨_, hx, rowOf_ky.resolve_left h2⟩))
    have f1 : ((KS base [ml]).filter fun k => !isN (rowOf base [ml] k)) = (KS base [ml]).filter fun k => !isN (ver ml k) := List.filter_congr fun k _ => by rw [(rowOf_one base ml k).1]
    have goal : rowL base [ml] (KS base [ml]) = rowL base books (KS base books) := by
      unfold rowL
      rw [f1, same]
      refine List.map_congr_left fun k hk => ?_
      rw [(rowOf_one base ml k).1, vk k (List.mem_filter.mp hk).1]
    rw [goal, hml]
end
end Cg

/-! PQ9: one changed book. -/
namespace Cg
open PySem L2 DL Cm
open Classical
section
variable {base : List D} {books : List (List D)} {k : Ky}
/-- a rising book's row of a key -/
theorem ver_ris {rs : List D} (h : Ris ky rs) {r : D} (hr : r ∈ rs) : ver rs (ky r) = r := ver_is hr rfl fun x hx e => Ris.inj h hx hr e
theorem kl_ls (p q : Ky) : plt p q = kl p q := rfl
/-- the rows of a rising book, by the rising keys of any books that hold its keys -/
theorem rows_ris {rs : List D} {rss : List (List D)} (h : Ris ky rs) (nn : ∀ r ∈ rs, r ≠ .none) (sub : ∀ r ∈ rs, ky r ∈ allK rss) : ((sortPr (allK rss)).filter fun k => !isN (ver rs k)).map (ver rs) = rs := by
  have u := ks_up rss
  have nn' : ∀ {d : D}, (!isN d) = true ↔ d ≠ .none := fun {d} => by
    cases z : isN d with
    | true => simp [isN_iff.mp z]
    | false => simp; exact fun e => by rw [isN_iff.mpr e] at z; cases z
  have mem : ∀ k, k ∈ (sortPr (allK rss)).filter (fun k => !isN (ver rs k)) ↔ k ∈ rs.map ky := fun k => by
    rw [List.mem_filter, nn', List.mem_map]
    constructor
    · rintro ⟨_, h2⟩
      obtain ⟨h3, h4⟩ := (ver_in (rs := rs) (k := k)).resolve_left h2
      exact ⟨_, h3, h4⟩
    · rintro ⟨r, hr, rfl⟩
      refine ⟨ks_mem.mpr (sub r hr), ?_⟩
      rw [ver_ris h hr]
      exact nn r hr
  have up : (rs.map ky).Pairwise fun a b => DS.setLe a b = true := by
    rw [List.pairwise_map]
    refine List.Pairwise.imp (fun {a b} lt => ?_) h
    rw [setLe_eq, plt_asy (show plt (ky a) (ky b) = true from lt)]
    rfl
  have nd : (rs.map ky).Nodup := by
    rw [List.Nodup, List.pairwise_map]
    refine List.Pairwise.imp (fun {a b} lt e => ?_) h
    rw [e, kl_irr] at lt
    cases lt
  have e : (sortPr (allK rss)).filter (fun k => !isN (ver rs k)) = rs.map ky := perm_same (le := fun a b => DS.setLe a b = true) (fun _ _ => setLe_as) _ _ ((List.perm_ext_iff_of_nodup (u.2.filter _) nd).mpr mem) (u.1.filter _) up
  rw [e, List.map_map]
  have : rs.map (ver rs ∘ ky) = rs.map id := List.map_congr_left fun r hr => ver_ris h hr
  rw [this, List.map_id]
end
end Cg

/-! PQ10: the merge where one hand alone changed anything. -/
namespace Cg
open PySem L2 DL Cm
open Classical
section
variable {base : List D} {books : List (List D)} {j : Nat}
/-- at most the hand j has another book than the base -/
structure One (base : List D) (books : List (List D)) (j : Nat) (b : List D) : Prop where
  at_ : j < books.length → books.getD j [] = b
  no : ¬ j < books.length → b = base
  oth : ∀ i, i < books.length → i ≠ j → books.getD i [] = base
variable {b : List D} {k : Ky}
theorem One.chg (o : One base books j b) : chg base books k = if ver b k = ver base k then [] else [(j, ver b k)] := by
  refine up_eq (chg_up base books k) ?_ fun c => ?_
  · split <;> simp
  · obtain ⟨i, v⟩ := c
    rw [mem_chg]
    constructor
    · rintro ⟨h1, h2, h3⟩
      by_cases e : i = j
      · subst e
        rw [o.at_ h1] at h2
        rw [h2] at h3
        rw [if_neg h3, h2]
        exact .head _
      · rw [o.oth i h1 e] at h2
        exact absurd h2 h3
    · intro h
      split at h
      · cases h
      · rename_i ne
        cases List.mem_singleton.mp h
        have h1 : j < books.length := Classical.byContradiction fun z => ne (by rw [o.no z])
        exact ⟨h1, by rw [o.at_ h1], ne⟩
theorem One.dif (o : One base books j b) : vdif (Cg.chg base books k) = false := by
  rw [o.chg]
  split
  · rfl
  · simp [vdif]
theorem One.row (o : One base books j b) : rowOf base books k = ver b k := by
  unfold rowOf
  rw [o.chg]
  split
  · rename_i h
    cases hh : (if ver b k = ver base k then ([] : List (Nat × D)) else [(j, ver b k)]) with
    | nil =>
      split at hh
      · rename_i e
        exact e.symm
      · cases hh
    | cons c r => rw [hh] at h; cases h
  · rename_i c r h
    split at h
    · cases h
    · cases h
      rfl
theorem One.con (o : One base books j b) (ks : List Ky) : conL base books ks = [] := by
  unfold conL
  rw [List.map_eq_nil_iff, List.filter_eq_nil_iff]
  intro k _
  rw [o.dif]
  decide
theorem One.sub (o : One base books j b) : ∀ r ∈ b, ky r ∈ allK (base :: books) := fun r hr => by
  by_cases h : j < books.length
  · have e := o.at_ h
    rw [List.getD_eq_getElem?_getD, List.getElem?_eq_getElem h] at e
    have e : books[j] = b := e
    exact List.mem_flatten.mpr ⟨_, List.mem_map.mpr ⟨b, List.mem_cons_of_mem _ (e ▸ List.getElem_mem h), rfl⟩, List.mem_map.mpr ⟨r, hr, rfl⟩⟩
  · have e := o.no h
    rw [e] at hr
    exact List.mem_flatten.mpr ⟨_, List.mem_map.mpr ⟨base, .head _, rfl⟩, List.mem_map.mpr ⟨r, hr, rfl⟩⟩
theorem One.rows (o : One base books j b) (h : Ris ky b) (nn : ∀ r ∈ b, r ≠ .none) : rowL base books (KS base books) = b := by
  unfold rowL
  have f : ((KS base books).filter fun k => !isN (rowOf base books k)) = (KS base books).filter fun k => !isN (ver b k) := List.filter_congr fun k _ => by rw [o.row]
  rw [f]
  have g : ((KS base books).filter fun k => !isN (ver b k)).map (rowOf base books) = ((KS base books).filter fun k => !isN (ver b k)).map (ver b) := List.map_congr_left fun k _ => o.row
  rw [g]
  exact rows_ris h nn o.sub
theorem One.orgs (o : One base books j b) (h : Ris ky b) (hb : Ris ky base) (nn : ∀ r ∈ b, r ≠ .none) : orgL base books (KS base books) = b.map fun r => if r ∈ base then .tuple [] else .tuple [.int (j : Int)] := by
  have e := o.rows h nn
  unfold rowL at e
  unfold orgL
  rw [← e, List.map_map]
  refine List.map_congr_left fun k hk => ?_
  have hn := (List.mem_filter.mp hk).2
  have ne : ver b k ≠ .none := fun z => by
    rw [o.row, z] at hn
    cases hn
  obtain ⟨h3, h4⟩ := (ver_in (rs := b) (k := k)).resolve_left ne
  show orgE base books k = if rowOf base books k ∈ base then _ else _
  unfold orgE
  rw [o.chg, o.row]
  by_cases q : ver b k = ver base k
  · rw [if_pos q]
    have : ver b k ∈ base := by
      rw [q] at ne ⊢
      exact ((ver_in (rs := base) (k := k)).resolve_left ne).1
    rw [if_pos this]
    rfl
  · rw [if_neg q, if_neg]
    · rfl
    · intro z
      have := ver_ris hb z
      rw [h4] at this
      exact q this.symm
end
end Cg

/-! PQ11: the hands' books rise; their kinds and names. -/
namespace Cg
open PySem L2 DL Cm
/-- a row of the four kinds with a name of these, or a wind with one letter, from the place lo to the place hi -/
def Gd (wl wh : Nat) (ss : List Str) (r : D) : Prop := (kd r ∈ four ∧ nm r ∈ ss) ∨ (kd r = "wind" ∧ ∃ i : Nat, wl ≤ i ∧ i < wh ∧ nm r = ⟨#[97 + i]⟩)
def Hy (wl wh : Nat) (ss : List Str) (base : List D) (e : Nat) (rs : List D) : Prop := Hx base e rs ∧ Ris ky rs ∧ ∀ r ∈ rs, Gd wl wh ss r
theorem Hy.put {wl wh : Nat} {ss : List Str} {base rs : List D} {e : Nat} {r : D} (h : Hy wl wh ss base e rs) (hr : Rw r) (g : Gd wl wh ss r) : Hy wl wh ss base (e + 1) (DL.put ky rs r) := by
  refine ⟨h.1.put hr, put_ris h.2.1, fun x hx => ?_⟩
  rcases put_mem.mp hx with rfl | hx
  · exact g
  · exact h.2.2 x hx.1
theorem Hy.mono {wl wh : Nat} {ss : List Str} {base rs : List D} {e e' : Nat} (h : Hy wl wh ss base e rs) (le : e ≤ e') : Hy wl wh ss base e' rs := ⟨h.1.mono le, h.2⟩
theorem Hy.sub {wl wh : Nat} {ss : List Str} {base rs : List D} {e : Nat} (h : Hy wl wh ss base e rs) (p : D → Bool) : Hy wl wh ss base e (rs.filter p) := ⟨h.1.sub p, h.2.1.filter _, fun r hr => h.2.2 r (List.mem_filter.mp hr).1⟩
section
variable {wl wh : Nat} {s0 s1 s2 s3 s4 s5 : Str} {xs : List Int}
def HI2 (wl wh : Nat) (s0 s1 s2 s3 s4 s5 : Str) (xs : List Int) (base : List D) (start : Int) (n : Nat) (ds : List D) (α : At) : Prop := ∃ (i : Nat) (rs : List D) (u6 u7 u8 u9 : AV), ds = ((List.range n).drop i).map (fun i : Nat => PyData.int i) ∧ i ≤ n ∧ Hy wl wh [s0, s1, s2, s3, s4, s5] base i rs ∧
  α = [AV.dat (.list base), .dat (.list [.str s0, .str s1, .str s2, .str s3, .str s4, .str s5]), .dat (.list (xs.map PyData.int)), .dat (.int start), .dat (.list rs), .dat (.list (four.map PyData.str)), u6, u7, u8, u9, .un, .un]
theorem hand2_ok (hs : ∀ s ∈ [s0, s1, s2, s3, s4, s5], PyData.strOk s = true) (hx : ∀ x ∈ xs, num x) (h0 : 0 < xs.length) (hm : xs.length < 1000) {base : List D} (hb : ∀ r ∈ base, Rw r) (hri : Ris ky base) (hgd : ∀ r ∈ base, Gd wl wh [s0, s1, s2, s3, s4, s5] r) (hbl : base.length < 100) (start : Int) (t0 : 0 ≤ start) (t1 : start < 1000) :
    ∃ rs, f__law_hand [.list base, .list [.str s0, .str s1, .str s2, .str s3, .str s4, .str s5], .list (xs.map PyData.int), .int start] = .ok (.list rs) ∧ Hy wl wh [s0, s1, s2, s3, s4, s5] base 3 rs := by
  suffices h : Sat (fun d => ∃ rs, d = .list rs ∧ Hy wl wh [s0, s1, s2, s3, s4, s5] base 3 rs) (f__law_hand [.list base, .list [.str s0, .str s1, .str s2, .str s3, .str s4, .str s5], .list (xs.map PyData.int), .int start]) by
    obtain ⟨_, e, rs, rfl, h⟩ := h
    exact ⟨rs, e, h⟩
  have sz := PySem.sizeLine_eq
  obtain ⟨z, hz⟩ : ∃ z : Int, z = xs.length := ⟨_, rfl⟩
  obtain ⟨c, hc, hcn⟩ := atI_num hx (i := start % z) (Int.emod_nonneg _ (by omega)) (by have := Int.emod_lt_of_pos start (show 0 < z by omega); omega)
  have hc4 : 0 ≤ c % 4 ∧ c % 4 < 4 := ⟨by omega, by omega⟩
  refine Sat.fD rfl (ON.seq ?_)
  have el : fList [.list base] = some (.list base) := rfl
  simp [el]
  refine ON.seq ?_
  simp
  refine ON.seq (ON.for_ (HI2 wl wh s0 s1 s2 s3 s4 s5 xs base start (c % 4).toNat) (iRangeL (n := c % 4) (by simp only [dats_cons, dats_nil, dt_d, dt_u, d2_ap, dV_s, dV_z, dN_ap, aCons_ap, aNil_ap, dC_ap, Res.bind_ok, Res.of_some, fLen_l, List.length_map, ← hz, fMod_pos (i := start) (k := z) (by omega), fIx_l, hc, fMod_pos (i := c) (k := 4) (by omega)]) (by omega) (by omega)) ⟨0, base, .un, .un, .un, .un, rfl, Nat.zero_le _, ⟨⟨hb, [], by simp, fun r hr => .inl hr, by omega⟩, hri, hgd⟩, rfl⟩ ?_ ?_)
  · rintro d ds α ⟨i, rs, u6, u7, u8, u9, e, hi, hxr, rfl⟩
    have lt : i < (c % 4).toNat := by
      rcases Nat.lt_or_ge i (c % 4).toNat with lt | ge
      · exact lt
      · rw [List.drop_eq_nil_of_le (by simpa using ge)] at e
        cases e
    rw [List.drop_eq_getElem_cons (by simpa using lt)] at e
    simp only [List.getElem_range, List.map_cons] at e
    cases e
    obtain ⟨k, hk⟩ : ∃ k : Int, k = (i : Int) := ⟨_, rfl⟩
    rw [← hk]
    refine ⟨_, rfl, ON.seq ?_⟩
    obtain ⟨n0, n1, n2, n3, n4, n5, n6, n7, n8, n9, ey, hn0, hn1, hn2, hn3, hn4, hn5, hn6, hn7, hn8, hn9⟩ := tenM (xs := xs) hx h0 (f := cmD (.nm 10) yesT (d2 fIx (dV 2) (d2 fMod (d2 fAdd (d2 fAdd (d2 fAdd (dV 3) (dC (.int (1)))) (d2 fMul (dC (.int (4))) (dV 6))) (dV 10)) (dN fLen (aCons (dV 2) aNil))))
        [some (.list base), some (.list [.str s0, .str s1, .str s2, .str s3, .str s4, .str s5]), some (.list (xs.map PyData.int)), some (.int start), some (.list rs), some (.list (four.map PyData.str)), some (.int k), u7.dt, u8.dt, u9.dt, none, none]) (fun w => start + 1 + 4 * k + w) (fun y y0 y1 j q => by
        rw [← hz] at q
        simp only [cmD, setT_nm, List.set, yesT_ap, Res.bind_ok, d2_ap, dN_ap, aCons_ap, aNil_ap, dC_ap, dV_s, dV_z, fMul_sm' (i := 4) (k := k) (by decide) (by decide), Res.of_some, fAdd_int, fLen_l, List.length_map, ← hz, fMod_pos (i := start + 1 + 4 * k + y) (k := z) (by omega), fIx_l, q, if_true, noEr_ok])
    have er := iRangeL (a := dC (.int 10)) (β := [some (.list base), some (.list [.str s0, .str s1, .str s2, .str s3, .str s4, .str s5]), some (.list (xs.map PyData.int)), some (.int start), some (.list rs), some (.list (four.map PyData.str)), some (.int k), u7.dt, u8.dt, u9.dt, none, none]) (n := 10) rfl (by decide) (by decide)
    simp only [sLay_ap, sD_ap, dLc_ap, dats_cons, dats_nil, dt_d, dt_u, List.set, er, Res.bind_ok, show (10 : Int).toNat = 10 from rfl, le_size (n := ((List.range 10).map fun i : Nat => PyData.int i).length) (by decide), if_true, wipeB_cons, wipeB_nil, ey, ofR_ok, ON_nx]
    refine ON.seq ?_
    obtain ⟨v2, ev2, mv2⟩ := atI_in [PyData.str s0, .str s1, .str s2, .str s3, .str s4, .str s5] (i := n1 % 6) (by omega) (by simp; omega)
    obtain ⟨n', rfl, hn'⟩ : ∃ n' : Str, v2 = .str n' ∧ n' ∈ [s0, s1, s2, s3, s4, s5] := by
      simp at mv2
      rcases mv2 with rfl | rfl | rfl | rfl | rfl | rfl <;> exact ⟨_, rfl, by simp⟩
    simp only [sSet_ap, sD_ap, dats_cons, dats_nil, dt_d, dt_u, d2_ap, dV_s, dV_z, dC_ap, Res.bind_ok, Res.of_some, fIx_l, at1, fMod_pos (i := n1) (k := 6) (by decide), ev2, ofR_ok, List.set, ON_nx]
    refine ON.seq ?_
    obtain ⟨v, ev, mv⟩ := atI_in (four.map PyData.str) (i := n0 % 4) (by omega) (by simp [four]; omega)
    obtain ⟨kd', hkd, rfl⟩ := List.mem_map.mp mv
    have hok : PyData.strOk kd' = true := (by decide +kernel : ∀ k ∈ four, PyData.strOk k = true) kd' hkd
    simp only [sSet_ap, sD_ap, dats_cons, dats_nil, dt_d, dt_u, d2_ap, dV_s, dV_z, dC_ap, Res.bind_ok, Res.of_some, fIx_l, atI_z, fMod_pos (i := n0) (k := 4) (by decide), ev, ofR_ok, List.set, ON_nx]
    refine ON.iff (c := n2 % 3 == 0) (by simp only [tV_ap, sD_ap, dats_cons, dats_nil, dt_d, dt_u, d2_ap, dV_s, dV_z, dC_ap, Res.bind_ok, Res.of_some, fIx_l, at2, fMod_pos (i := n2) (k := 3) (by decide)]; rfl) (fun _ => ?_) (fun _ => ?_)
    · have e5 := lcD_sieve (f := cmD (.nm 11) (DL.tOr (tV (d2 fNe (d2 fIx (dV 11) (dC (.int (0)))) (dV 9))) (tV (d2 fNe (d2 fIx (dV 11) (dC (.int (1)))) (dV 8)))) (dV 11) [some (.list base), some (.list [.str s0, .str s1, .str s2, .str s3, .str s4, .str s5]), some (.list (xs.map PyData.int)), some (.int start), some (.list rs), some (.list (four.map PyData.str)), some (.int k), some (.list [PyData.int n0, .int n1, .int n2, .int n3, .int n4, .int n5, .int n6, .int n7, .int n8, .int n9]), some (.str n'), some (.str kd'), none, none]) (fun x => decide (ky x ≠ (kd', n'))) (ds := rs) fun x hxx => by
        have hr := hxr.1.1 x hxx
        by_cases q1 : kd x = kd' <;> by_cases q2 : nm x = n' <;> simp [cmD, hr.ix0, hr.ix1, fNe, eqD, ky, q1, q2]
      have lz : rs.length ≤ sizeLine := by
        obtain ⟨_, ex, l1, _, l2⟩ := hxr.1
        omega
      simp only [sLay_ap, sD_ap, dLc_ap, dats_cons, dats_nil, dt_d, dt_u, iSeq_ap, dV_s, dV_z, Res.bind_ok, items_l, Res.of_some, lz, if_true, wipeB_cons, wipeB_nil, List.set, e5, ofR_ok, ON_nx]
      exact ⟨i + 1, _, _, _, _, _, rfl, lt, (hxr.sub _).mono (Nat.le_succ _), rfl⟩
    · have hb3 : num (n3 % 2) := by unfold num at *; omega
      obtain ⟨row, erow, hrow⟩ := row_sat (kind := kd') (name := n') hs hb3 hb3 hb3 hb3 hb3 hb3 hb3 hb3 hb3 hb3
      have hr := RowIs.rwN hrow hok hn' hs
      have gd : Gd wl wh [s0, s1, s2, s3, s4, s5] row := by
        obtain ⟨rest, e, _⟩ := hrow
        rw [e]
        exact .inl ⟨hkd, hn'⟩
      have e6 : fMul (.list [PyData.int (n3 % 2)]) (.int 10) = some (.list [PyData.int (n3 % 2), .int (n3 % 2), .int (n3 % 2), .int (n3 % 2), .int (n3 % 2), .int (n3 % 2), .int (n3 % 2), .int (n3 % 2), .int (n3 % 2), .int (n3 % 2)]) := rfl
      have e4 := placed_ok (rs := rs) (d := row) hxr.1.1 hr.1 (by
        obtain ⟨_, ex, l1, _, l2⟩ := hxr.1
        omega)
      simp only [sSet_ap, sD_ap, dats_cons, dats_nil, dt_d, dt_u, d2_ap, dV_s, dV_z, dC_ap, dLst_ap, dCall_ap, aCons_ap, aNil_ap, Res.bind_ok, Res.of_some, fIx_l, at3, fMod_pos (i := n3) (k := 2) (by decide), List.length_cons, List.length_nil, le_size (n := 0 + 1) (by decide), if_true, e6, erow, e4, ofR_ok, List.set, ON_nx]
      exact ⟨i + 1, _, _, _, _, _, rfl, lt, hxr.put hr.1 gd, rfl⟩
  · rintro α ⟨i, rs, u6, u7, u8, u9, e, hi, hxr, rfl⟩
    simp
    exact hxr.mono (by omega)
end
theorem Hy.wide {a b c : Nat} {ss : List Str} {base rs : List D} {e : Nat} (h : Hy a b ss base e rs) (le : b ≤ c) : Hy a c ss base e rs :=
  ⟨h.1, h.2.1, fun r hr => (h.2.2 r hr).imp id fun ⟨z, i, x, y, w⟩ => ⟨z, i, x, Nat.lt_of_lt_of_le y le, w⟩⟩
def WI2 (ss : List Str) (base : List D) (e : Nat) (first count : Int) (ds : List D) (α : At) : Prop := ∃ (i : Nat) (rs : List D) (u : AV), ds = ((List.range count.toNat).drop i).map (fun i : Nat => PyData.int i) ∧ i ≤ count.toNat ∧ Hy first.toNat (first.toNat + i) ss base (e + i) rs ∧ α = [AV.dat (.list rs), .dat (.int first), .dat (.int count), u]
theorem crowd2_ok {ss : List Str} {base rs : List D} {e : Nat} (h : Hy 0 0 ss base e rs) (hbl : base.length + e < 1000) (first count : Int) (f0 : 0 ≤ first) (c0 : 0 ≤ count) (fc : first + count ≤ 20) :
    ∃ rs', f__law_crowd [.list rs, .int first, .int count] = .ok (.list rs') ∧ Hy first.toNat (first.toNat + count.toNat) ss base (e + count.toNat) rs' := by
  suffices h : Sat (fun d => ∃ rs', d = .list rs' ∧ Hy first.toNat (first.toNat + count.toNat) ss base (e + count.toNat) rs') (f__law_crowd [.list rs, .int first, .int count]) by
    obtain ⟨_, e, rs, rfl, h⟩ := h
    exact ⟨rs, e, h⟩
  refine Sat.fD rfl (ON.seq (ON.for_ (WI2 ss base e first count) (iRangeL (n := count) (by simp) (by omega) (by omega)) ⟨0, rs, .un, rfl, Nat.zero_le _, ⟨h.1, h.2.1, fun r hr => (h.2.2 r hr).imp id fun ⟨_, i, _, z, _⟩ => absurd z (Nat.not_lt_zero _)⟩, rfl⟩ ?_ ?_))
  · rintro d ds α ⟨i, rs, u, e1, hi, hxr, rfl⟩
    have lt : i < count.toNat := by
      rcases Nat.lt_or_ge i count.toNat with lt | ge
      · exact lt
      · rw [List.drop_eq_nil_of_le (by simpa using ge)] at e1
        cases e1
    rw [List.drop_eq_getElem_cons (by simpa using lt)] at e1
    simp only [List.getElem_range, List.map_cons] at e1
    cases e1
    obtain ⟨k, hk⟩ : ∃ k : Int, k = (i : Int) := ⟨_, rfl⟩
    rw [← hk]
    have ex := abt_ix (i := first + k) (by omega) (by omega)
    have hr : Rw (.tuple [.str "wind", .str ⟨#[97 + (first + k).toNat]⟩, .tuple [.int 1, .int 0], .int 5]) :=
      ⟨"wind", ⟨#[97 + (first + k).toNat]⟩, [.tuple [.int 1, .int 0], .int 5], rfl, by decide, by
        intro x hx
        simp only [List.mem_cons, List.not_mem_nil, or_false] at hx
        rcases hx with rfl | rfl <;> decide, by decide +kernel, ok_one (by omega)⟩
    have e4 := placed_ok (rs := rs) (d := .tuple [.str "wind", .str ⟨#[97 + (first + k).toNat]⟩, .tuple [.int 1, .int 0], .int 5]) hxr.1.1 hr (by
      obtain ⟨_, ex, l1, _, l2⟩ := hxr.1
      omega)
    refine ⟨_, rfl, ?_⟩
    have ev : sSet 0 (sD (dCall f__law_placed (aCons (dV 0) (aCons (dTup (aCons (dC (.str "wind")) (aCons (d2 fIx (dC (.str "abcdefghijklmnopqrst")) (d2 fAdd (dV 1) (dV 3))) (aCons (dTup (aCons (dC (.int (1))) (aCons (dC (.int (0))) aNil))) (aCons (dC (.int (5))) aNil))))) aNil))))
        [AV.dat (.list rs), .dat (.int first), .dat (.int count), .dat (.int k)] = .nx [AV.dat (.list (DL.put ky rs (.tuple [.str "wind", .str ⟨#[97 + (first + k).toNat]⟩, .tuple [.int 1, .int 0], .int 5]))), .dat (.int first), .dat (.int count), .dat (.int k)] := by
      simp [ex, e4]
    refine ev ▸ .nx _ ⟨i + 1, _, _, rfl, lt, (hxr.wide (Nat.le_succ _)).put hr (.inr ⟨rfl, first.toNat + i, Nat.le_add_right _ _, Nat.lt_succ_self _, by
      show (⟨#[97 + (first + k).toNat]⟩ : Str) = ⟨#[97 + (first.toNat + i)]⟩
      rw [show (first + k).toNat = first.toNat + i by omega]⟩), rfl⟩
  · rintro α ⟨i, rs, u, e1, hi, hxr, rfl⟩
    simp
    have : i = count.toNat := by
      rcases Nat.lt_or_ge i count.toNat with lt | ge
      · rw [List.drop_eq_getElem_cons (by simpa using lt)] at e1
        cases e1
      · omega
    subst this
    exact hxr
end Cg

/-! PQ12: no kind is full in a hand's book. -/
namespace Cg
open PySem L2 DL Cm
theorem fulls_nil {lo hi : Nat} {ss : List Str} {rs : List D} (h : Ris ky rs) (g : ∀ r ∈ rs, Gd lo hi ss r) (ls : ss.length ≤ 6) (lw : hi ≤ lo + 7) : fulls rs = [] := by
  unfold fulls
  rw [List.filter_eq_nil_iff]
  intro κ _
  have few : fewK rs κ ≤ 12 := by
    unfold fewK
    have nd : ((rs.filter fun x => decide (kd x = κ)).map nm).Nodup := by
      rw [List.Nodup, List.pairwise_map]
      refine List.Pairwise.imp_of_mem (fun {a b} ha hb lt e => ?_) (List.Pairwise.filter _ h)
      have ka : kd a = κ := by simpa using (List.mem_filter.mp ha).2
      have kb : kd b = κ := by simpa using (List.mem_filter.mp hb).2
      have : ky a = ky b := Prod.ext (ka.trans kb.symm) e
      rw [this, kl_irr] at lt
      cases lt
    have sub := sub_len (m := if κ = "wind" then (List.range 7).map (fun i => (⟨#[97 + (lo + i)]⟩ : Str)) else ss) nd fun x hx => by
      obtain ⟨r, hr, rfl⟩ := List.mem_map.mp hx
      obtain ⟨h1, h2⟩ := List.mem_filter.mp hr
      have kr : kd r = κ := by simpa using h2
      rcases g r h1 with ⟨z1, z2⟩ | ⟨z1, i, z2, z3, z4⟩
      · have ne : ¬ κ = "wind" := by
          intro e
          rw [kr, e] at z1
          exact absurd z1 (by decide +kernel)
        rw [if_neg ne]
        exact z2
      · rw [if_pos (kr.symm.trans z1)]
        exact List.mem_map.mpr ⟨i - lo, by simp; omega, by rw [z4, show lo + (i - lo) = i by omega]⟩
    rw [List.length_map] at sub
    split at sub
    · rw [List.length_map, List.length_range] at sub
      omega
    · omega
  simpa using few
theorem pool4 : ∀ q ∈ ([6, 7, 18, 0] : List Int), ∃ s ∈ four, atI (kinds.map PyData.str) (q % 20) = some (.str s) := by
  intro q hq
  simp only [List.mem_cons, List.not_mem_nil, or_false] at hq
  rcases hq with rfl | rfl | rfl | rfl
  · exact ⟨"hand", by decide +kernel, rfl⟩
  · exact ⟨"master", by decide +kernel, rfl⟩
  · exact ⟨"table", by decide +kernel, rfl⟩
  · exact ⟨"bolt", by decide +kernel, rfl⟩
end Cg

/-! PQ13: the base, with its kinds. -/
namespace Cg
open PySem L2 DL Cm
section
variable {s0 s1 s2 s3 s4 s5 : Str} {xs : List Int}
def BI2 (s0 s1 s2 s3 s4 s5 : Str) (xs : List Int) (start count : Int) (ps : List D) (ds : List D) (α : At) : Prop := (∀ d ∈ ds, ∃ k : Int, d = .int k ∧ 0 ≤ k ∧ k < 1000) ∧ ∃ (rs : List D) (u7 u8 u9 u10 : AV), Bk [s0, s1, s2, s3, s4, s5] (count.toNat - ds.length) rs ∧ (∀ r ∈ rs, Gd 0 0 [s0, s1, s2, s3, s4, s5] r) ∧ ds.length ≤ count.toNat ∧
  α = [AV.dat (.list (xs.map PyData.int)), .dat (.int start), .dat (.int count), .dat (.list [.str s0, .str s1, .str s2, .str s3, .str s4, .str s5]), .dat (.list ps), .dat (.list rs), .dat (.list (kinds.map PyData.str)), u7, u8, u9, u10]
theorem base_ok (hs : ∀ s ∈ [s0, s1, s2, s3, s4, s5], PyData.strOk s = true) (hx : ∀ x ∈ xs, num x) (h0 : 0 < xs.length) (hm : xs.length < 1000) (start count : Int) (t0 : 0 ≤ start) (t1 : start < 1000) (c0 : 0 ≤ count) (c1 : count < 1000) :
    ∃ rs, f__law_book [.list (xs.map PyData.int), .int start, .int count, .list [.str s0, .str s1, .str s2, .str s3, .str s4, .str s5], .list [.int 6, .int 7, .int 18, .int 0]] = .ok (.list rs) ∧ Bk [s0, s1, s2, s3, s4, s5] count.toNat rs ∧ (∀ r ∈ rs, Gd 0 0 [s0, s1, s2, s3, s4, s5] r) := by
  suffices h : Sat (fun d => ∃ rs, d = .list rs ∧ Bk [s0, s1, s2, s3, s4, s5] count.toNat rs ∧ (∀ r ∈ rs, Gd 0 0 [s0, s1, s2, s3, s4, s5] r)) (f__law_book [.list (xs.map PyData.int), .int start, .int count, .list [.str s0, .str s1, .str s2, .str s3, .str s4, .str s5], .list [.int 6, .int 7, .int 18, .int 0]]) by
    obtain ⟨_, e, rs, rfl, h⟩ := h
    exact ⟨rs, e, h⟩
  obtain ⟨z, hz⟩ : ∃ z : Int, z = xs.length := ⟨_, rfl⟩
  refine Sat.fD rfl (ON.seq ?_)
  simp
  refine ON.seq ?_
  simp [kinds_ok]
  refine ON.seq (ON.for_ (BI2 s0 s1 s2 s3 s4 s5 xs start count [.int 6, .int 7, .int 18, .int 0]) (iRangeL (n := count) (by simp) (by omega) (by omega)) ?_ ?_ ?_)
  · refine ⟨fun d hd => ?_, [], .un, .un, .un, .un, ⟨List.Pairwise.nil, by simp, by simp⟩, (fun _ z => nomatch z), by simp, rfl⟩
    obtain ⟨k, hk, rfl⟩ := List.mem_map.mp hd
    exact ⟨k, rfl, by omega, by simp at hk; omega⟩
  · rintro d ds α ⟨hk, rs, u7, u8, u9, u10, hb, hgd, hl, rfl⟩
    obtain ⟨k, rfl, k0, k1⟩ := hk d (List.mem_cons_self ..)
    refine ⟨_, rfl, ON.seq ?_⟩
    obtain ⟨ys, ey, ly, py⟩ := lcD_ex (f := cmD (.nm 10) yesT (d2 fIx (dV 0) (d2 fMod (d2 fAdd (d2 fAdd (dV 1) (d2 fMul (dC (.int (5))) (dV 7))) (dV 10)) (dN fLen (aCons (dV 0) aNil))))
        [some (.list (xs.map PyData.int)), some (.int start), some (.int count), some (.list [.str s0, .str s1, .str s2, .str s3, .str s4, .str s5]), some (.list [.int 6, .int 7, .int 18, .int 0]), some (.list rs), some (.list (kinds.map PyData.str)), some (.int k), u8.dt, u9.dt, none])
      (P := fun d => ∃ j, d = .int j ∧ num j) (ds := (List.range 10).map fun i : Nat => PyData.int i) (fun d hd => by
        obtain ⟨i, hi, rfl⟩ := List.mem_map.mp hd
        obtain ⟨y, hy⟩ : ∃ y : Int, y = (i : Int) := ⟨_, rfl⟩
        have hi : i < 10 := by simpa using hi
        rw [← hy]
        obtain ⟨j, q, hj⟩ := atI_num hx (i := (start + 5 * k + y) % z) (Int.emod_nonneg _ (by omega)) (by have := Int.emod_lt_of_pos (start + 5 * k + y) (show 0 < z by omega); omega)
        refine ⟨.int j, ?_, j, rfl, hj⟩
        simp only [cmD, setT_nm, List.set, yesT_ap, Res.bind_ok, d2_ap, dN_ap, aCons_ap, aNil_ap, dC_ap, dV_s, dV_z, fMul_sm' (i := 5) (k := k) (by decide) (by decide), Res.of_some, fAdd_int, fLen_l, List.length_map, ← hz, fMod_pos (i := start + 5 * k + y) (k := z) (by omega), fIx_l, q, if_true, noEr_ok])
    obtain ⟨n0, n1, n2, n3, n4, n5, n6, n7, n8, n9, rfl, hn0, hn1, hn2, hn3, hn4, hn5, hn6, hn7, hn8, hn9⟩ := ten (by simpa using ly) py
    have er := iRangeL (a := dC (.int 10)) (β := [some (.list (xs.map PyData.int)), some (.int start), some (.int count), some (.list [.str s0, .str s1, .str s2, .str s3, .str s4, .str s5]), some (.list [.int 6, .int 7, .int 18, .int 0]), some (.list rs), some (.list (kinds.map PyData.str)), some (.int k), u8.dt, u9.dt, u10.dt]) (n := 10) rfl (by decide) (by decide)
    simp only [sLay_ap, sD_ap, dLc_ap, dats_cons, dats_nil, dt_d, List.set, er, Res.bind_ok, show (10 : Int).toNat = 10 from rfl, le_size (n := ((List.range 10).map fun i : Nat => PyData.int i).length) (by decide), if_true, wipeB_cons, wipeB_nil, ey, ofR_ok, ON_nx]
    refine ON.seq ?_
    obtain ⟨w, ew, mw⟩ := atI_in [PyData.int 6, .int 7, .int 18, .int 0] (i := n0 % 4) (by omega) (by simp; omega)
    obtain ⟨p, hp4, rfl⟩ : ∃ p, p ∈ ([6, 7, 18, 0] : List Int) ∧ w = .int p := by
      simp at mw
      rcases mw with rfl | rfl | rfl | rfl <;> exact ⟨_, by simp, rfl⟩
    obtain ⟨kd', hk4, ev⟩ := pool4 p hp4
    have hkd : kd' ∈ kinds := (by decide +kernel : ∀ k ∈ four, k ∈ kinds) kd' hk4
    simp [fMod_pos, ew, ev]
    obtain ⟨v2, ev2, mv2⟩ := atI_in [PyData.str s0, .str s1, .str s2, .str s3, .str s4, .str s5] (i := n1 % 6) (by omega) (by simp; omega)
    obtain ⟨n', rfl, hn'⟩ : ∃ n' : Str, v2 = .str n' ∧ n' ∈ [s0, s1, s2, s3, s4, s5] := by
      simp at mv2
      rcases mv2 with rfl | rfl | rfl | rfl | rfl | rfl <;> exact ⟨_, rfl, by simp⟩
    obtain ⟨row, erow, hrow⟩ := row_sat (kind := kd') (name := n') hs hn2 hn3 hn4 hn5 hn6 hn7 hn8 hn9 hn0 hn1
    have hr := RowIs.rwN hrow (kinds_strs _ hkd) hn' hs
    have gd : Gd 0 0 [s0, s1, s2, s3, s4, s5] row := by
      obtain ⟨rest, e, _⟩ := hrow
      rw [e]
      exact .inl ⟨hk4, hn'⟩
    have e1 : cutD [PyData.int n0, .int n1, .int n2, .int n3, .int n4, .int n5, .int n6, .int n7, .int n8, .int n9] (some 2) none = [.int n2, .int n3, .int n4, .int n5, .int n6, .int n7, .int n8, .int n9] := rfl
    have e2 : cutD [PyData.int n0, .int n1, .int n2, .int n3, .int n4, .int n5, .int n6, .int n7, .int n8, .int n9] none (some 2) = [.int n0, .int n1] := rfl
    have e3 : fAdd (.list [PyData.int n2, .int n3, .int n4, .int n5, .int n6, .int n7, .int n8, .int n9]) (.list [.int n0, .int n1]) = some (.list [.int n2, .int n3, .int n4, .int n5, .int n6, .int n7, .int n8, .int n9, .int n0, .int n1]) := fAdd_l _ _ (by rw [PySem.sizeLine_eq]; simp)
    have e4 := placed_ok (rs := rs) (d := row) (fun x hx => (hb.2.1 x hx).1) hr.1 (by have := hb.2.2; omega)
    simp [at1, fMod_pos, ev2, e1, e2, e3, erow, e4]
    refine ⟨fun d hd => hk d (List.mem_cons_of_mem _ hd), DL.put ky rs row, _, _, _, _, ?_, (fun x hx => by
      rcases put_mem.mp hx with rfl | hx
      · exact gd
      · exact hgd x hx.1), by simp at hl; omega, rfl⟩
    have := hb.put hr
    simp only [List.length_cons] at this hl
    rwa [show count.toNat - (ds.length + 1) + 1 = count.toNat - ds.length by omega] at this
  · rintro α ⟨_, rs, u7, u8, u9, u10, hb, hgd, _, rfl⟩
    simp
    exact ⟨hb, hgd⟩
end
end Cg

/-! PQ14: the paper is plain. -/
namespace Cg
open PySem L2 DL Cm
section
variable {base : List D} {books : List (List D)}
theorem chg_pn (m : Mb base books) (k : Ky) : Pn 6 (.tuple ((chg base books k).map encC)) = true := by
  refine Pn.tup (by rw [List.length_map]; have := chg_len (base := base) (books := books) k; have := m.nb; omega) fun x hx => ?_
  obtain ⟨c, hc, rfl⟩ := List.mem_map.mp hx
  refine Pn.tup (by simp) fun y hy => ?_
  simp only [List.mem_cons, List.not_mem_nil, or_false] at hy
  rcases hy with rfl | rfl
  · rfl
  · exact (chgU_vn m.hk c hc).pn
theorem ks_ok (m : Mb base books) : ∀ k ∈ KS base books, okK k := fun k hk => allK_ok (rss := base :: books) (fun rs hrs => by
  rcases List.mem_cons.mp hrs with rfl | hrs
  · exact m.hb
  · exact m.hk rs hrs) k (ks_mem.mp hk)
theorem conL_pn (m : Mb base books) : Pn 8 (.tuple (conL base books (KS base books))) = true := by
  refine Pn.tup (by have := m.cl; omega) fun x hx => ?_
  obtain ⟨k, hk, rfl⟩ := List.mem_map.mp hx
  have ok := ks_ok m k (List.mem_filter.mp hk).1
  refine Pn.tup (by simp) fun y hy => ?_
  simp only [List.mem_cons, List.not_mem_nil, or_false] at hy
  rcases hy with rfl | rfl | rfl
  · exact ok.1
  · exact ok.2
  · exact chg_pn m k
theorem rowL_pn (m : Mb base books) : Pn 8 (.tuple (rowL base books (KS base books))) = true :=
  Pn.tup (by have := m.rl; omega) fun x hx => Pn.mono (Pn.of_pl (rowL_rw m _ x hx).pl) (by decide)
theorem orgL_pn (m : Mb base books) : Pn 8 (.tuple (orgL base books (KS base books))) = true := by
  refine Pn.tup (by have := m.len; have := orgL_len (base := base) (books := books) (KS base books); omega) fun x hx => ?_
  obtain ⟨k, hk, rfl⟩ := List.mem_map.mp hx
  refine Pn.mono (n := 1) (Pn.tup (by rw [List.length_map]; have := chg_len (base := base) (books := books) k; have := m.nb; omega) fun y hy => ?_) (by decide)
  obtain ⟨c, hc, rfl⟩ := List.mem_map.mp hy
  rfl
theorem paper_pn (m : Mb base books) : Pn 9 (paper base books) = true := by
  unfold paper
  by_cases hc : (conL base books (KS base books)).length > 0
  · rw [if_pos hc]
    refine Pn.tup (by simp) fun y hy => ?_
    simp only [List.mem_cons, List.not_mem_nil, or_false] at hy
    rcases hy with rfl | rfl
    · exact (by decide +kernel : Pn 8 (.str "torn") = true)
    · exact conL_pn m
  · rw [if_neg hc]
    cases hf : fulls (rowL base books (KS base books)) with
    | nil =>
      refine Pn.tup (by simp) fun y hy => ?_
      simp only [List.mem_cons, List.not_mem_nil, or_false] at hy
      rcases hy with rfl | rfl | rfl
      · exact (by decide +kernel : Pn 8 (.str "merged") = true)
      · exact rowL_pn m
      · exact orgL_pn m
    | cons k r =>
      have hk : k ∈ kinds := (List.mem_filter.mp (show k ∈ fulls (rowL base books (KS base books)) by rw [hf]; exact .head _)).1
      refine Pn.tup (by simp) fun y hy => ?_
      simp only [List.mem_cons, List.not_mem_nil, or_false] at hy
      rcases hy with rfl | rfl
      · exact (by decide +kernel : Pn 8 (.str "full") = true)
      · exact kinds_strs k hk
end
theorem noLs_of : ∀ {ds : List D}, (∀ d ∈ ds, noL d = true) → noLs ds = true
  | [], _ => rfl
  | d :: ds, h => by
    show (noL d && noLs ds) = true
    rw [h d (.head _), noLs_of fun x hx => h x (.tail _ hx)]
    rfl
theorem noL_pn : ∀ {n : Nat} {d : D}, Pn n d = true → noL d = true := by
  intro n
  induction n with
  | zero =>
    intro d h
    rcases Pn.inv h with rfl | ⟨i, rfl⟩ | ⟨s, rfl, _⟩ | ⟨_, _, e, _⟩
    · rfl
    · rfl
    · rfl
    · cases e
  | succ n ih =>
    intro d h
    rcases Pn.inv h with rfl | ⟨i, rfl⟩ | ⟨s, rfl, _⟩ | ⟨m, ds, e, rfl, _, q⟩
    · rfl
    · rfl
    · rfl
    · cases e
      exact noLs_of fun x hx => ih (q x hx)
open Classical in
theorem same_pn {n : Nat} (hn : n ≤ 10) {x y : D} (hx : Pn n x = true) (hy : Pn n y = true) : f__law_same [x, y] = .ok (.bool (decide (x = y))) :=
  same_any 10 12 (by decide) x y (Pn.q (Pn.mono hx hn)) (Pn.mono hy hn)
end Cg

/-! PQ3: the paper of the moved books. -/
namespace K71
open PySem L2 DL Cm Cg
open Classical
section
variable {base : List D} {books books' : List (List D)} {pl : List Nat}
def plD (pl : List Nat) : D := .list (pl.map fun n : Nat => PyData.int n)
theorem pl_at {i : Nat} (h : i < pl.length) : fIx (plD pl) (.int (i : Int)) = some (.int ((pl.getD i 0 : Nat) : Int)) := by
  have e : atI (pl.map fun n : Nat => PyData.int n) (i : Int) = some (.int ((pl.getD i 0 : Nat) : Int)) := by
    rw [atI_lt _ _ (by simpa using h)]
    simp [List.getD_eq_getElem?_getD, List.getElem?_eq_getElem h]
  exact e
def OI (P : D) (pl : List Nat) (base : List D) (books books' : List (List D)) (ks : List Ky) (ds : List D) (α : At) : Prop := ∃ (pre post : List Ky) (u3 : AV), ds = post.map (orgE base books) ∧ pre ++ post = ks ∧
  α = [.dat P, .dat (plD pl), .own (pre.map (orgE base books')), u3, .un, .un, .un, .un]
theorem moved_merged (m : Mv base books books' pl) (nb : books.length < 60) {rl : List D} {ks : List Ky} (lk : ks.length < 100) :
    f__law_moved [.tuple [.str "merged", .tuple rl, .tuple (ks.map (orgE base books))], plD pl] = .ok (.tuple [.str "merged", .tuple rl, .tuple (ks.map (orgE base books'))]) := by
  have hz := PySem.sizeLine_eq
  refine Sat.eq (Sat.fD rfl (ON.seq ?_))
  have a1 : atI [PyData.str "merged", .tuple rl, .tuple (ks.map (orgE base books))] 1 = some (.tuple rl) := at1
  have a2 : atI [PyData.str "merged", .tuple rl, .tuple (ks.map (orgE base books))] 2 = some (.tuple (ks.map (orgE base books))) := at2
  refine ON.iff (c := true) (by simp) (fun _ => ?_) fun z => nomatch z
  refine ON.seq ?_
  simp
  refine ON.seq (ON.for_ (ds := ks.map (orgE base books)) (OI (.tuple [.str "merged", .tuple rl, .tuple (ks.map (orgE base books))]) pl base books books' ks) (by simp [a2]) ⟨[], ks, .un, rfl, rfl, rfl⟩ ?_ ?_)
  · rintro d ds α ⟨pre, post, u3, e, hp, rfl⟩
    cases post with
    | nil => cases e
    | cons k post =>
      cases e
      have lp := congrArg List.length hp
      rw [List.length_append, List.length_cons] at lp
      have lc := chg_len (base := base) (books := books) k
      have inner := lcD_enc (f := cmD (.nm 4) yesT (d2 fIx (dV 1) (dV 4)) [some (.tuple [.str "merged", .tuple rl, .tuple (ks.map (orgE base books))]), some (plD pl), none, some (orgE base books k), none, none, none, none]) (fun c : Nat × D => PyData.int (c.1 : Int)) (fun c => some (.int ((pl.getD c.1 0 : Nat) : Int))) (xs := chg base books k) fun c hc => by
        have h := (mem_chg.mp (show (c.1, c.2) ∈ _ from hc)).1
        have e := pl_at (pl := pl) (i := c.1) (by rw [m.len]; exact h)
        simp [cmD, e]
      have sm : (chg base books k).filterMap (fun c => some (PyData.int ((pl.getD c.1 0 : Nat) : Int))) = ((chg base books k).map fun c => ((pl.getD c.1 0 : Nat) : Int)).map PyData.int := by
        rw [List.map_map]
        induction chg base books k with
        | nil => rfl
        | cons c cs ih => simp [ih]
      rw [sm] at inner
      have es := sorted_ints ((chg base books k).map fun c => ((pl.getD c.1 0 : Nat) : Int)) (by rw [List.length_map]; omega)
      rw [m.merged] at es
      have et : fTuple [.list (((chg base books' k).map fun c => (c.1 : Int)).map PyData.int)] = some (orgE base books' k) := by
        rw [List.map_map]
        rfl
      have it : itemsOf (orgE base books k) = some ((chg base books k).map fun c => PyData.int (c.1 : Int)) := rfl
      have ez : ((chg base books k).map fun c => PyData.int (c.1 : Int)).length ≤ sizeLine := by rw [List.length_map]; omega
      have ev : sApp 2 (sD (dN fTuple (aCons (dN fSorted (aCons (dFz (dLc (iSeq (dV 3)) (.nm 4) yesT (d2 fIx (dV 1) (dV 4)) [4])) aNil)) aNil))) [.dat (.tuple [.str "merged", .tuple rl, .tuple (ks.map (orgE base books))]), .dat (plD pl), .own (pre.map (orgE base books')), .dat (orgE base books k), .un, .un, .un, .un] =
          .nx [.dat (.tuple [.str "merged", .tuple rl, .tuple (ks.map (orgE base books))]), .dat (plD pl), .own ((pre ++ [k]).map (orgE base books')), .dat (orgE base books k), .un, .un, .un, .un] := by
        simp only [sApp_ap, ownAt_s, ownAt_z, sD_ap, dN_ap, aCons_ap, aNil_ap, dFz_ap, dLc_ap, iSeq_ap, dats_cons, dats_nil, dt_d, dt_u, dt_o, dV_s, dV_z, Res.bind_ok, it, Res.of_some, ez, if_true, wipeB_cons, wipeB_nil, List.set, inner, es, et, ofR_ok]
        rw [if_pos (by rw [List.length_map]; omega)]
        simp
      refine ⟨_, rfl, ev ▸ .nx _ ⟨pre ++ [k], post, _, rfl, by rw [← hp]; simp, rfl⟩⟩
  · rintro α ⟨pre, post, u3, e, hp, rfl⟩
    cases post with
    | cons _ _ => cases e
    | nil =>
      rw [List.append_nil] at hp
      subst hp
      have et : fTuple [.list (pre.map (orgE base books'))] = some (.tuple (pre.map (orgE base books'))) := rfl
      simp [frzA, a1, et]
end
end K71

/-! PQ4: the torn paper of the moved books. -/
namespace K71
open PySem L2 DL Cm Cg
open Classical
section
variable {base : List D} {books books' : List (List D)} {pl : List Nat}
def TI3 (P : D) (pl : List Nat) (base : List D) (books books' : List (List D)) (ks : List Ky) (ds : List D) (α : At) : Prop := ∃ (pre post : List Ky) (u3 u4 u6 : AV), ds = post.map (confE base books) ∧ pre ++ post = ks ∧
  α = [.dat P, .dat (plD pl), .un, u3, u4, .own (pre.map (confE base books')), u6, .un]
def AI (P : D) (pl : List Nat) (base : List D) (books : List (List D)) (k : Ky) (os : List D) (n : Nat) (ds : List D) (α : At) : Prop := ∃ (a : Nat) (u4 : AV), ds = ((List.range n).drop a).map (fun i : Nat => PyData.int i) ∧ a ≤ n ∧
  α = [.dat P, .dat (plD pl), .un, .dat (confE base books k), u4, .own os, .dat (.list ((movT pl (chg base books k) a).map encC)), .un]
theorem movT_len (pl : List Nat) (cs : List (Nat × D)) : ∀ n, (movT pl cs n).length ≤ n * cs.length
  | 0 => by simp [movT]
  | n + 1 => by
    have := movT_len pl cs n
    have l := List.length_filter_le (fun c : Nat × D => decide (pl.getD c.1 0 = n)) cs
    rw [movT_succ, List.length_append, List.length_map, Nat.succ_mul]
    omega
theorem moved_torn (m : Mv base books books' pl) (nb : books.length < 60) {ks : List Ky} (lk : ks.length < 100) :
    f__law_moved [.tuple [.str "torn", .tuple (ks.map (confE base books))], plD pl] = .ok (.tuple [.str "torn", .tuple (ks.map (confE base books'))]) := by
  have hz := PySem.sizeLine_eq
  have n1 : (("torn" : Str) == "merged") = false := by decide +kernel
  have a1 : atI [PyData.str "torn", .tuple (ks.map (confE base books))] 1 = some (.tuple (ks.map (confE base books))) := at1
  refine Sat.eq (Sat.fD rfl (ON.seq ?_))
  refine ON.iff (c := false) (by simp [n1]) (fun z => nomatch z) fun _ => .nx _ ?_
  refine ON.seq (ON.iff (c := true) (by simp) (fun _ => ?_) fun z => nomatch z)
  refine ON.seq ?_
  simp
  have ml := m.len
  refine ON.seq (ON.for_ (ds := ks.map (confE base books)) (TI3 (.tuple [.str "torn", .tuple (ks.map (confE base books))]) pl base books books' ks) (by simp [a1]) ⟨[], ks, .un, .un, .un, rfl, rfl, rfl⟩ ?_ ?_)
  · rintro d ds α ⟨pre, post, u3, u4, u6, e, hp, rfl⟩
    cases post with
    | nil => cases e
    | cons k post =>
      cases e
      have lp := congrArg List.length hp
      rw [List.length_append, List.length_cons] at lp
      have lc := chg_len (base := base) (books := books) k
      have k0 : fIx (confE base books k) (.int 0) = some (.str k.1) := by simp [confE]
      have k1 : fIx (confE base books k) (.int 1) = some (.str k.2) := by
        simp [confE]
        exact at1
      have k2 : fIx (confE base books k) (.int 2) = some (.tuple ((chg base books k).map encC)) := by
        simp [confE]
        exact at2
      refine ⟨_, rfl, ON.seq ?_⟩
      simp
      refine ON.seq (ON.for_ (ds := (List.range (pl.length + 1)).map fun i : Nat => PyData.int i) (AI (.tuple [.str "torn", .tuple (ks.map (confE base books))]) pl base books k (pre.map (confE base books')) (pl.length + 1)) ?_ ⟨0, u4, rfl, Nat.zero_le _, by simp [movT]⟩ ?_ ?_)
      · have fl : fLen [plD pl] = some (.int (pl.length : Int)) := by
          simp [plD, fLen]
        exact iRangeL (n := ((pl.length + 1 : Nat) : Int)) (by simp [fl]) (by omega) (by omega)
      · rintro d ds α ⟨a, u4, e, ha, rfl⟩
        have lt : a < pl.length + 1 := by
          rcases Nat.lt_or_ge a (pl.length + 1) with lt | ge
          · exact lt
          · rw [List.drop_eq_nil_of_le (by simpa using ge)] at e
            cases e
        rw [List.drop_eq_getElem_cons (by simpa using lt)] at e
        simp only [List.getElem_range, List.map_cons] at e
        cases e
        have inner := lcD_enc (f := cmD (.nm 7) (tV (d2 fEq (d2 fIx (dV 1) (d2 fIx (dV 7) (dC (.int (0))))) (dV 4))) (dTup (aCons (dV 4) (aCons (d2 fIx (dV 7) (dC (.int (1)))) aNil))) [some (.tuple [.str "torn", .tuple (ks.map (confE base books))]), some (plD pl), none, some (confE base books k), some (.int (a : Int)), none, some (.list ((movT pl (chg base books k) a).map encC)), none]) encC (fun c => if pl.getD c.1 0 = a then some (encC (a, c.2)) else none) (xs := chg base books k) fun c hc => by
          have h := (mem_chg.mp (show (c.1, c.2) ∈ _ from hc)).1
          have e := pl_at (pl := pl) (i := c.1) (by rw [m.len]; exact h)
          simp [cmD, enc_ix0, enc_ix1, e]
          by_cases q : pl.getD c.1 0 = a
          · rw [List.getD_eq_getElem?_getD] at q
            simp [q, encC]
          · rw [List.getD_eq_getElem?_getD] at q
            have q2 : ¬ (((pl[c.1]?.getD 0 : Nat) : Int) = (a : Int)) := by omega
            simp [q, q2]
        have sm : ∀ cs : List (Nat × D), cs.filterMap (fun c => if pl.getD c.1 0 = a then some (encC (a, c.2)) else none) = ((cs.filter fun c => decide (pl.getD c.1 0 = a)).map fun c => (a, c.2)).map encC := by
          intro cs
          induction cs with
          | nil => rfl
          | cons c cs ih =>
            by_cases q : pl.getD c.1 0 = a
            · rw [List.filterMap_cons_some (by rw [if_pos q]), ih, List.filter_cons, if_pos (decide_eq_true q)]
              rfl
            · rw [List.filterMap_cons_none (by rw [if_neg q]), ih, List.filter_cons, if_neg (by simpa using q)]
        rw [sm] at inner
        have ml1 := movT_len pl (chg base books k) a
        have big : a * (chg base books k).length ≤ 61 * 60 := Nat.mul_le_mul (by omega) (by omega)
        have lf := List.length_filter_le (fun c : Nat × D => decide (pl.getD c.1 0 = a)) (chg base books k)
        have fa : fAdd (.list ((movT pl (chg base books k) a).map encC)) (.list (((chg base books k).filter fun c => decide (pl.getD c.1 0 = a)).map (fun c => (a, c.2)) |>.map encC)) = some (.list ((movT pl (chg base books k) (a + 1)).map encC)) := by
          rw [fAdd_l _ _ (by simp only [List.length_map]; omega), movT_succ, List.map_append]
        have ez : ((chg base books k).map encC).length ≤ sizeLine := by rw [List.length_map]; omega
        have ev : sSet 6 (sD (d2 fAdd (dV 6) (dFz (dLc (iSeq (d2 fIx (dV 3) (dC (.int (2))))) (.nm 7) (tV (d2 fEq (d2 fIx (dV 1) (d2 fIx (dV 7) (dC (.int (0))))) (dV 4))) (dTup (aCons (dV 4) (aCons (d2 fIx (dV 7) (dC (.int (1)))) aNil))) [7]))))
            [.dat (.tuple [.str "torn", .tuple (ks.map (confE base books))]), .dat (plD pl), .un, .dat (confE base books k), .dat (.int (a : Int)), .own (pre.map (confE base books')), .dat (.list ((movT pl (chg base books k) a).map encC)), .un] =
            .nx [.dat (.tuple [.str "torn", .tuple (ks.map (confE base books))]), .dat (plD pl), .un, .dat (confE base books k), .dat (.int (a : Int)), .own (pre.map (confE base books')), .dat (.list ((movT pl (chg base books k) (a + 1)).map encC)), .un] := by
          simp only [sSet_ap, sD_ap, d2_ap, dFz_ap, dLc_ap, iSeq_ap, dC_ap, dats_cons, dats_nil, dt_d, dt_u, dt_o, dV_s, dV_z, Res.bind_ok, k2, items_t, Res.of_some, ez, if_true, wipeB_cons, wipeB_nil, List.set, inner, fa, ofR_ok]
        refine ⟨_, rfl, ev ▸ .nx _ ⟨a + 1, _, rfl, lt, rfl⟩⟩
      · rintro α ⟨a, u4, e, ha, rfl⟩
        have ge : pl.length + 1 ≤ a := by
          rcases Nat.lt_or_ge a (pl.length + 1) with lt | ge
          · rw [List.drop_eq_getElem_cons (by simpa using lt)] at e
            cases e
          · exact ge
        obtain rfl : a = pl.length + 1 := by omega
        have mt : movT pl (chg base books k) (pl.length + 1) = chg base books' k := m.torn (by have := m.le; omega)
        rw [mt]
        have et : fTuple [.list ((chg base books' k).map encC)] = some (.tuple ((chg base books' k).map encC)) := rfl
        have ev : sApp 5 (sD (dTup (aCons (d2 fIx (dV 3) (dC (.int (0)))) (aCons (d2 fIx (dV 3) (dC (.int (1)))) (aCons (dN fTuple (aCons (dV 6) aNil)) aNil))))) [.dat (.tuple [.str "torn", .tuple (ks.map (confE base books))]), .dat (plD pl), .un, .dat (confE base books k), u4, .own (pre.map (confE base books')), .dat (.list ((chg base books' k).map encC)), .un] =
            .nx [.dat (.tuple [.str "torn", .tuple (ks.map (confE base books))]), .dat (plD pl), .un, .dat (confE base books k), u4, .own ((pre ++ [k]).map (confE base books')), .dat (.list ((chg base books' k).map encC)), .un] := by
          simp [k0, k1, et]
          rw [if_pos (by omega)]
          simp [confE]
        refine ev ▸ .nx _ ⟨pre ++ [k], post, _, _, _, rfl, by rw [← hp]; simp, rfl⟩
  · rintro α ⟨pre, post, u3, u4, u6, e, hp, rfl⟩
    cases post with
    | cons _ _ => cases e
    | nil =>
      rw [List.append_nil] at hp
      subst hp
      have et : fTuple [.list (pre.map (confE base books'))] = some (.tuple (pre.map (confE base books'))) := rfl
      simp [frzA, et]
end
end K71

/-! PQ5: law_moved of the paper is the paper of the moved books. -/
namespace K71
open PySem L2 DL Cm Cg
open Classical
section
variable {base : List D} {books books' : List (List D)} {pl : List Nat}
theorem con_moved (m : Mv base books books' pl) : conL base books' (KS base books') = ((KS base books).filter fun k => vdif (chg base books k)).map (confE base books') := by
  unfold conL
  rw [m.keys]
  congr 1
  exact List.filter_congr fun k _ => m.dif
theorem row_moved (m : Mv base books books' pl) (h : conL base books (KS base books) = []) : rowL base books' (KS base books') = rowL base books (KS base books) ∧ orgL base books' (KS base books') = ((KS base books).filter fun k => !isN (rowOf base books k)).map (orgE base books') := by
  have no : ∀ k ∈ KS base books, vdif (chg base books k) = false := fun k hk => by
    unfold conL at h
    rw [List.map_eq_nil_iff, List.filter_eq_nil_iff] at h
    simpa using h k hk
  have fe : ((KS base books).filter fun k => !isN (rowOf base books' k)) = (KS base books).filter fun k => !isN (rowOf base books k) := List.filter_congr fun k hk => by rw [m.row (no k hk)]
  constructor
  · unfold rowL
    rw [m.keys, fe]
    exact List.map_congr_left fun k hk => m.row (no k (List.mem_filter.mp hk).1)
  · unfold orgL
    rw [m.keys, fe]
theorem moved_full (k : Str) : f__law_moved [.tuple [.str "full", .str k], plD pl] = .ok (.tuple [.str "full", .str k]) := by
  have n1 : (("full" : Str) == "merged") = false := by decide +kernel
  have n2 : (("full" : Str) == "torn") = false := by decide +kernel
  refine Sat.eq (Sat.fD rfl (ON.seq ?_))
  refine ON.iff (c := false) (by simp [n1]) (fun z => nomatch z) fun _ => .nx _ ?_
  refine ON.seq (ON.iff (c := false) (by simp [n2]) (fun z => nomatch z) fun _ => .nx _ ?_)
  simp
theorem paper_moved (mb : Mb base books) (m : Mv base books books' pl) (nb : books.length < 60) : f__law_moved [paper base books, plD pl] = .ok (paper base books') := by
  have kl := mb.len
  have lf : ∀ p : Ky → Bool, ((KS base books).filter p).length < 100 := fun p => by
    have := List.length_filter_le p (KS base books)
    omega
  by_cases hc : (conL base books (KS base books)).length > 0
  · have hc' : (conL base books' (KS base books')).length > 0 := by
      rw [con_moved m, List.length_map]
      unfold conL at hc
      rwa [List.length_map] at hc
    unfold paper
    rw [if_pos hc, if_pos hc', con_moved m]
    exact moved_torn m nb (lf _)
  · have h0 : conL base books (KS base books) = [] := List.eq_nil_of_length_eq_zero (by omega)
    have hc' : ¬ (conL base books' (KS base books')).length > 0 := by
      rw [con_moved m, List.length_map]
      unfold conL at hc
      rwa [List.length_map] at hc
    obtain ⟨r1, r2⟩ := row_moved m h0
    unfold paper
    rw [if_neg hc, if_neg hc', r1, r2]
    cases hf : fulls (rowL base books (KS base books)) with
    | cons k r => exact moved_full k
    | nil => exact moved_merged m nb (lf _)
end
end K71

/-! PQ15: the drawn books: what may be merged of them; papers by their form. -/
namespace Cg
open PySem L2 DL Cm
open Classical
theorem plr {l : List D} (h : ∀ x ∈ l, Rw x) (hl : l.length < 1000) : Pl 5 (.tuple l) = true := by
  simp only [Pl, Bool.and_eq_true, List.all_eq_true, decide_eq_true_eq]
  exact ⟨hl, fun x hx => (h x hx).pl⟩
theorem fNe_rows {a b : List D} (ha : ∀ x ∈ a, Rw x) (hb : ∀ x ∈ b, Rw x) (la : a.length < 1000) (lb : b.length < 1000) : fNe (.tuple a) (.tuple b) = some (.bool (decide (a ≠ b))) := by
  have p1 := plr ha la
  have p2 := plr hb lb
  have e : eqD (.tuple a) (.tuple b) = some (PyData.eqv (.tuple a) (.tuple b)) := if_pos ⟨Pl.shaped p1 (by decide), Pl.shaped p2 (by decide)⟩
  unfold fNe
  rw [e, eqv_dec p1 p2 (Classical.propDecidable _)]
  by_cases q : a = b <;> simp [q]
theorem rw_ne {x : D} (h : Rw x) : x ≠ .none := by
  obtain ⟨k, n, rest, rfl, _⟩ := h
  exact fun e => by cases e
/-- the books as they are drawn -/
structure Okb (base : List D) (books : List (List D)) : Prop where
  hb : ∀ r ∈ base, Rw r
  ris : Ris ky base
  full : fulls base = []
  inx : ∃ ex, base.length + ex.length < 63 ∧ ∀ rs ∈ books, InX base ex rs
  each : ∀ rs ∈ books, Ris ky rs ∧ fulls rs = []
  len : books.length ≤ 5
section
variable {base : List D} {books books' : List (List D)}
theorem Okb.mb2 (o : Okb base books) (h : ∀ rs ∈ books', rs ∈ books ∨ rs = base) (l : books'.length < 400) : Mb base books' := by
  obtain ⟨ex, l1, k⟩ := o.inx
  refine mb_of (ex := ex) o.hb (fun rs hrs => ?_) l1 l
  rcases h rs hrs with h | rfl
  · exact k rs h
  · exact ⟨fun r hr => ⟨o.hb r hr, .inl hr⟩, by omega⟩
theorem Okb.mb (o : Okb base books) : Mb base books := o.mb2 (fun _ h => .inl h) (by have := o.len; omega)
theorem getD_in {j : Nat} (h : j < books.length) : books.getD j [] ∈ books := by
  rw [List.getD_eq_getElem?_getD, List.getElem?_eq_getElem h]
  exact List.getElem_mem h
theorem Okb.mb1 (o : Okb base books) : Mb base [rowL base books (KS base books)] := by
  have m := o.mb
  have rl := m.rl
  obtain ⟨ex, l1, k⟩ := o.inx
  refine mb_of (ex := ex) o.hb (fun rs hrs => ?_) l1 (by simp)
  rw [List.mem_singleton] at hrs
  subst hrs
  refine ⟨fun r hr => ⟨rowL_rw m _ r hr, ?_⟩, by omega⟩
  obtain ⟨q, _, rfl, ne⟩ := mem_rowL.mp hr
  have inb : ∀ {rs : List D}, (∀ r ∈ rs, r ∈ base ∨ r ∈ ex) → ver rs q ≠ .none → ver rs q ∈ base ∨ ver rs q ∈ ex := fun h ne => h _ ((ver_in (k := q)).resolve_left ne).1
  unfold rowOf at ne ⊢
  cases e : chg base books q with
  | nil =>
    rw [e] at ne
    exact inb (fun r hr => .inl hr) ne
  | cons c r =>
    rw [e] at ne
    have hc : (c.1, c.2) ∈ chg base books q := by rw [e]; exact .head _
    obtain ⟨h1, h2, h3⟩ := mem_chg.mp hc
    have ne : c.2 ≠ .none := ne
    show c.2 ∈ base ∨ c.2 ∈ ex
    rw [h2] at ne ⊢
    exact inb (fun r hr => ((k _ (getD_in h1)).1 r hr).2) ne
theorem Mv.mems {pl : List Nat} (m : Mv base books books' pl) : ∀ rs ∈ books', rs ∈ books ∨ rs = base := fun rs hrs => by
  obtain ⟨j, hj, e⟩ := List.getElem_of_mem hrs
  have e : books'.getD j [] = rs := by
    rw [List.getD_eq_getElem?_getD, List.getElem?_eq_getElem hj]
    exact e
  rcases m.oth j hj with ⟨i, hi, rfl⟩ | q
  · rw [m.at_ i hi] at e
    exact .inl (e ▸ getD_in hi)
  · exact .inr (e.symm.trans q)
theorem Okb.sub (o : Okb base books) (h : ∀ rs ∈ books', rs ∈ books ∨ rs = base) (l : books'.length ≤ 5) : Okb base books' := by
  obtain ⟨ex, l1, k⟩ := o.inx
  refine ⟨o.hb, o.ris, o.full, ⟨ex, l1, fun rs hrs => ?_⟩, fun rs hrs => ?_, l⟩
  · rcases h rs hrs with h | rfl
    · exact k rs h
    · exact ⟨fun r hr => ⟨o.hb r hr, .inl hr⟩, by omega⟩
  · rcases h rs hrs with h | rfl
    · exact o.each rs h
    · exact ⟨o.ris, o.full⟩
theorem okb_of {ss : List Str} {t : Nat} {m : Nat} (hs : ss.length ≤ 6) (hb : Bk ss m base) (g : ∀ r ∈ base, Gd 0 0 ss r) (hx : Hxs base t books) (few : base.length + t < 63) (each : ∀ rs ∈ books, ∃ a b e, b ≤ a + 7 ∧ Hy a b ss base e rs) (l : books.length ≤ 5) : Okb base books := by
  obtain ⟨ex, le, k⟩ := hx.inx (by omega)
  refine ⟨fun r hr => (hb.2.1 r hr).1, hb.1, fulls_nil hb.1 g hs (by omega), ⟨ex, by omega, k⟩, fun rs hrs => ?_, l⟩
  obtain ⟨a, b, e, le, h⟩ := each rs hrs
  exact ⟨h.2.1, fulls_nil h.2.1 h.2.2 hs le⟩
/-! ### papers by their form -/
theorem con0 : (¬ (conL base books (KS base books)).length > 0) ↔ conL base books (KS base books) = [] := by
  rw [gt_iff_lt, Nat.not_lt, Nat.le_zero, List.length_eq_zero_iff]
theorem paper_torn (h : conL base books (KS base books) ≠ []) : paper base books = .tuple [.str "torn", .tuple (conL base books (KS base books))] := by
  unfold paper
  rw [if_pos (List.length_pos_iff.mpr h)]
theorem paper_full (h : conL base books (KS base books) = []) {k : Str} {r : List Str} (hf : fulls (rowL base books (KS base books)) = k :: r) : paper base books = .tuple [.str "full", .str k] := by
  unfold paper
  rw [if_neg (con0.mpr h), hf]
theorem paper_merged (h : conL base books (KS base books) = []) (hf : fulls (rowL base books (KS base books)) = []) : paper base books = .tuple [.str "merged", .tuple (rowL base books (KS base books)), .tuple (orgL base books (KS base books))] := by
  unfold paper
  rw [if_neg (con0.mpr h), hf]
theorem cutkC {α : Type} (xs : List α) (n : Nat) : cutD xs none (some (n : Int)) = xs.take n := by
  unfold cutD
  rw [HT.sIx_none, HT.sIx_nat]
  simp only [List.drop_zero, Nat.sub_zero]
  rcases Nat.le_total n xs.length with h | h
  · rw [Nat.min_eq_left h]
  · rw [Nat.min_eq_right h, List.take_length, List.take_of_length_le h]
theorem cut2k (xs : List D) : cutD xs none (some 2) = xs.take 2 := cutkC xs 2
theorem cutdC {α : Type} (xs : List α) (n : Nat) (h : n ≤ xs.length) : cutD xs (some (n : Int)) none = xs.drop n := by
  unfold cutD
  rw [HT.sIx_nat]
  have e : HT.sIx xs.length xs.length none = xs.length := HT.sIx_none ..
  rw [e, Nat.min_eq_left h, List.take_of_length_le (by simp)]
/-- the paper's head, where nothing is torn -/
theorem paper_head (h : conL base books (KS base books) = []) : fSl (paper base books) none (some 2) = some (head2 base books) := by
  unfold head2
  cases hf : fulls (rowL base books (KS base books)) with
  | nil =>
    rw [paper_merged h hf, fSl_t, cut2k]
    rfl
  | cons k r =>
    rw [paper_full h hf, fSl_t, cut2k]
    rfl
theorem paper_twice (h : conL base books (KS base books) = []) : fSl (paper base (books ++ books)) none (some 2) = some (head2 base books) := by
  obtain ⟨h1, h2⟩ := same_rowsL (sv_twice base books) (keys_twice base books) h
  rw [paper_head h1]
  unfold head2
  rw [h2]
theorem head2_pn (m : Mb base books) : Pn 9 (head2 base books) = true := by
  unfold head2
  cases hf : fulls (rowL base books (KS base books)) with
  | nil =>
    refine Pn.tup (by simp) fun y hy => ?_
    simp only [List.mem_cons, List.not_mem_nil, or_false] at hy
    rcases hy with rfl | rfl
    · exact (by decide +kernel : Pn 8 (.str "merged") = true)
    · exact rowL_pn m
  | cons k r =>
    have hk : k ∈ kinds := (List.mem_filter.mp (show k ∈ fulls (rowL base books (KS base books)) by rw [hf]; exact .head _)).1
    refine Pn.tup (by simp) fun y hy => ?_
    simp only [List.mem_cons, List.not_mem_nil, or_false] at hy
    rcases hy with rfl | rfl
    · exact (by decide +kernel : Pn 8 (.str "full") = true)
    · exact kinds_strs k hk
theorem paper_alone (hf : fulls (rowL base books (KS base books)) = []) : ∃ os, paper base [rowL base books (KS base books)] = .tuple [.str "merged", .tuple (rowL base books (KS base books)), .tuple os] := by
  obtain ⟨h1, h2⟩ := alone_ok (base := base) (books := books)
  have := paper_merged h1 (by rw [h2]; exact hf)
  rw [h2] at this
  exact ⟨_, this⟩
end
end Cg

/-! PQ16: the law's last question: one hand alone. -/
namespace K71
open PySem L2 DL Cm Cg
open Classical
section
variable {base : List D} {books : List (List D)}
def loopD : At → Out :=
 (sSeq (sSet 6 (sD (dTup aNil)))
 (sSeq (sIf (sD (tV (d2 fNotIn (d2 fIx (dV 5) (dV 2)) (dV 0))))
 (sSet 6 (sD (dN fTuple (aCons (dV 3) aNil))))
 sNil)
 (sIf (sD (tNot (tV (dCall f__law_same (aCons (d2 fIx (d2 fIx (dV 4) (dC (.int (2)))) (dV 2)) (aCons (dV 6) aNil))))))
 (sRet (sD (dC (.bool false))))
 sNil)))
def AL (A : At) (n : Nat) (ds : List D) (α : At) : Prop := ∃ (i : Nat) (u2 u6 : AV), i ≤ n ∧ ds = ((List.range n).drop i).map (fun i : Nat => PyData.int i) ∧ α = (A.set 2 u2).set 6 u6
theorem drop_range {n i : Nat} {d : D} {ds : List D} (e : d :: ds = ((List.range n).drop i).map (fun i : Nat => PyData.int i)) (hi : i ≤ n) : i < n ∧ d = .int (i : Int) ∧ ds = ((List.range n).drop (i + 1)).map (fun i : Nat => PyData.int i) := by
  have lt : i < n := by
    rcases Nat.lt_or_ge i n with lt | ge
    · exact lt
    · rw [List.drop_eq_nil_of_le (by simpa using ge)] at e
      cases e
  rw [List.drop_eq_getElem_cons (by simpa using lt)] at e
  simp only [List.getElem_range, List.map_cons] at e
  cases e
  exact ⟨lt, rfl, rfl⟩
theorem alone_loop (hb : ∀ r ∈ base, Rw r) {b : List D} {j : Nat} {cl P B : D} (rb : ∀ r ∈ b, Rw r) (lb : b.length < 1000) (hc : ∀ r ∈ b, r ∉ base → fTuple [cl] = some (.tuple [.int (j : Int)]))
    (hP : fIx P (.int 2) = some (.tuple (b.map fun r => if r ∈ base then PyData.tuple [] else .tuple [.int (j : Int)]))) (u2 u6 : AV) :
    ON (fun _ => False) (fun d => d = .bool true) (sSeq (sFor (iRange1 (dN fLen (aCons (dV 5) aNil))) (.nm 2) loopD) (sRet (sD (dC (.bool true)))) [.dat (.tuple base), .dat B, u2, .dat cl, .dat P, .dat (.tuple b), u6]) := by
  have hz := PySem.sizeLine_eq
  obtain ⟨z, hzz⟩ : ∃ z : Int, z = (b.length : Int) := ⟨_, rfl⟩
  refine ON.seq (ON.for_ (AL [.dat (.tuple base), .dat B, u2, .dat cl, .dat P, .dat (.tuple b), u6] b.length) (ds := (List.range b.length).map fun i : Nat => PyData.int i) (by
    have := iRangeL (a := dN fLen (aCons (dV 5) aNil)) (β := dats [.dat (.tuple base), .dat B, u2, .dat cl, .dat P, .dat (.tuple b), u6]) (n := z) (by simp [hzz]) (by omega) (by omega)
    rw [this, hzz]
    simp) ⟨0, u2, u6, Nat.zero_le _, rfl, rfl⟩ ?_ ?_)
  · rintro d ds α ⟨i, v2, v6, hi, e, rfl⟩
    obtain ⟨lt, rfl, eds⟩ := drop_range e hi
    have a5 : atI b (i : Int) = some b[i] := atI_lt _ _ lt
    have aP : atI (b.map fun r => if r ∈ base then PyData.tuple [] else .tuple [.int (j : Int)]) (i : Int) = some (if b[i] ∈ base then PyData.tuple [] else .tuple [.int (j : Int)]) := by
      rw [atI_lt _ _ (by simpa using lt), List.getElem_map]
    have ni : fNotIn b[i] (.tuple base) = some (.bool !(decide (b[i] ∈ base))) := notin_rows (rb _ (List.getElem_mem lt)) hb true _
    obtain ⟨y, hy⟩ : ∃ y : Int, y = (i : Int) := ⟨_, rfl⟩
    rw [← hy] at a5 aP
    generalize hr : b[i] = r at a5 aP ni
    have rin : r ∈ b := hr ▸ List.getElem_mem lt
    obtain ⟨jj, hjj⟩ : ∃ jj : Int, jj = (j : Int) := ⟨_, rfl⟩
    rw [← hjj] at aP hP hc
    have s0 : f__law_same [.tuple [], .tuple []] = .ok (.bool true) := by
      rw [same_pn (n := 3) (by decide) (by rfl) (by rfl)]
      simp
    have s1 : f__law_same [.tuple [.int jj], .tuple [.int jj]] = .ok (.bool true) := by
      rw [same_pn (n := 3) (by decide) (by rfl) (by rfl)]
      simp
    refine ⟨_, rfl, ?_⟩
    rw [← hy]
    refine ON.seq ?_
    simp
    by_cases q : r ∈ base
    · rw [if_pos q] at aP
      refine ON.seq (ON.iff (c := false) (by simp [a5, ni, q]) (fun z => nomatch z) fun _ => .nx _ ?_)
      refine ON.iff (c := false) (by simp [hP, aP, s0]) (fun z => nomatch z) fun _ => .nx _ ?_
      exact ⟨i + 1, _, _, lt, eds, rfl⟩
    · rw [if_neg q] at aP
      refine ON.seq (ON.iff (c := true) (by simp [a5, ni, q]) (fun _ => ?_) (fun z => nomatch z))
      simp [hc r rin q]
      refine ON.iff (c := false) (by simp [hP, aP, s1]) (fun z => nomatch z) fun _ => .nx _ ?_
      exact ⟨i + 1, _, _, lt, eds, rfl⟩
  · rintro α ⟨i, v2, v6, hi, e, rfl⟩
    simp
theorem alone_paper (o : Okb base books) {j : Nat} {b : List D} (on : One base books j b) (hb : b ∈ books ∨ b = base) :
    paper base books = .tuple [.str "merged", .tuple b, .tuple (b.map fun r => if r ∈ base then PyData.tuple [] else .tuple [.int (j : Int)])] := by
  have m := o.mb
  have h : Ris ky b ∧ fulls b = [] ∧ ∀ r ∈ b, Rw r := by
    rcases hb with h | rfl
    · exact ⟨(o.each b h).1, (o.each b h).2, m.hk b h⟩
    · exact ⟨o.ris, o.full, o.hb⟩
  have rows := on.rows h.1 fun r hr => rw_ne (h.2.2 r hr)
  have orgs := on.orgs h.1 o.ris fun r hr => rw_ne (h.2.2 r hr)
  rw [paper_merged (on.con _) (by rw [rows]; exact h.2.1), rows, orgs]
theorem law_alone_ok (o : Okb base books) : f__law_alone [.tuple base, .tuple (books.map PyData.tuple)] = .ok (.bool true) := by
  have hz := PySem.sizeLine_eq
  have m := o.mb
  have l5 := o.len
  obtain ⟨ex, lx, kx⟩ := o.inx
  have lbk : ∀ rs ∈ books, rs.length < 1000 := fun rs hrs => by have := (kx rs hrs).2; omega
  obtain ⟨z, hzz⟩ : ∃ z : Int, z = (books.length : Int) := ⟨_, rfl⟩
  have er : iRange1 (dN fLen (aCons (dV 1) aNil)) [some (.tuple base), some (.tuple (books.map PyData.tuple)), none, none, none, none, none] = .ok ((List.range books.length).map fun i : Nat => PyData.int i) := by
    have := iRangeL (a := dN fLen (aCons (dV 1) aNil)) (β := [some (.tuple base), some (.tuple (books.map PyData.tuple)), none, none, none, none, none]) (n := z) (by simp [hzz]) (by omega) (by omega)
    rw [this, hzz]
    simp
  have el := lcD_enc (f := cmD (.nm 2) (tV (d2 fNe (d2 fIx (dV 1) (dV 2)) (dV 0))) (dV 2) [some (.tuple base), some (.tuple (books.map PyData.tuple)), none, none, none, none, none]) (fun i : Nat => PyData.int i)
    (fun i => if books.getD i [] = base then none else some (.int (i : Int))) (xs := List.range books.length) (fun i hi => by
      have lt : i < books.length := by simpa using hi
      have a1 : atI (books.map PyData.tuple) (i : Int) = some (.tuple (books.getD i [])) := by
        rw [atI_lt _ _ (by simpa using lt), List.getElem_map, List.getD_eq_getElem?_getD, List.getElem?_eq_getElem lt]
        rfl
      have bin := getD_in lt
      have ne := fNe_rows (a := books.getD i []) (b := base) (m.hk _ bin) m.hb (lbk _ bin) (by omega)
      obtain ⟨y, hy⟩ : ∃ y : Int, y = (i : Int) := ⟨_, rfl⟩
      rw [← hy] at a1 ⊢
      generalize books.getD i [] = bi at a1 ne bin ⊢
      by_cases q : bi = base
      · rw [if_pos q]
        rw [decide_eq_false (by simpa using q)] at ne
        simp [cmD, a1, ne]
      · rw [if_neg q]
        rw [decide_eq_true q] at ne
        simp [cmD, a1, ne])
  obtain ⟨ch, hch⟩ : ∃ ch, ch = (List.range books.length).filter fun i => decide (books.getD i [] ≠ base) := ⟨_, rfl⟩
  have ec : (List.range books.length).filterMap (fun i => if books.getD i [] = base then none else some (PyData.int (i : Int))) = ch.map fun i : Nat => PyData.int i := by
    rw [hch]
    generalize List.range books.length = l
    induction l with
    | nil => rfl
    | cons i l ih => by_cases q : books.getD i [] = base <;> simp_all
  rw [ec] at el
  have mem : ∀ i, i ∈ ch ↔ i < books.length ∧ books.getD i [] ≠ base := fun i => by rw [hch]; simp
  have lz : ((List.range books.length).map fun i : Nat => PyData.int i).length ≤ sizeLine := by simp; omega
  have em := merge_ok m
  refine Sat.eq (Sat.fD rfl (ON.seq ?_))
  simp only [sLay_ap, sD_ap, dLc_ap, List.map_cons, List.map_nil, List.replicate, List.cons_append, List.nil_append, dats_cons, dats_nil, dt_d, dt_u, er, Res.bind_ok, lz, if_true, wipeB_cons, wipeB_nil, List.set, el, ofR_ok, ON_nx]
  rcases ch with _ | ⟨j, _ | ⟨j2, r⟩⟩
  · have on : One base books 0 base := ⟨fun h => Classical.byContradiction fun ne => (by have := (mem 0).mpr ⟨h, ne⟩; cases this), fun _ => rfl, fun i h _ => Classical.byContradiction fun ne => (by have := (mem i).mpr ⟨h, ne⟩; cases this)⟩
    have pe := alone_paper o on (.inr rfl)
    rw [pe] at em
    have s := same_pn (n := 9) (by decide) (x := .tuple base) (y := .tuple base) (Pn.mono (Pn.of_pl (plr o.hb (by omega))) (by decide)) (Pn.mono (Pn.of_pl (plr o.hb (by omega))) (by decide))
    rw [decide_eq_true rfl] at s
    refine ON.seq (ON.iff (c := false) (by simp) (fun z => nomatch z) fun _ => .nx _ ?_)
    refine ON.seq ?_
    have p1 : ∀ a b c : D, atI [a, b, c] 1 = some b := fun _ _ _ => at1
    have p2 : ∀ a b c : D, atI [a, b, c] 2 = some c := fun _ _ _ => at2
    simp [em]
    refine ON.seq ?_
    simp
    refine ON.seq (ON.iff (c := false) (by simp) (fun z => nomatch z) fun _ => .nx _ ?_)
    refine ON.seq (ON.iff (c := false) (by simp [p1, s]) (fun z => nomatch z) fun _ => .nx _ ?_)
    exact (alone_loop (j := 0) o.hb o.hb (by omega) (fun r h ne => absurd h ne) (by simp [p2]) _ _).imp (fun _ z => z.elim) fun _ z => z
  · have hj := (mem j).mp (.head _)
    have on : One base books j (books.getD j []) := ⟨fun _ => rfl, fun h => absurd hj.1 h, fun i h ne => Classical.byContradiction fun q => by
      have := (mem i).mpr ⟨h, q⟩
      rw [List.mem_singleton] at this
      exact ne this⟩
    have bin := getD_in hj.1
    have pe := alone_paper o on (.inl bin)
    rw [pe] at em
    have rb := m.hk _ bin
    have s := same_pn (n := 9) (by decide) (x := .tuple (books.getD j [])) (y := .tuple (books.getD j [])) (Pn.mono (Pn.of_pl (plr rb (lbk _ bin))) (by decide)) (Pn.mono (Pn.of_pl (plr rb (lbk _ bin))) (by decide))
    rw [decide_eq_true rfl] at s
    have a1 : atI (books.map PyData.tuple) (j : Int) = some (.tuple (books.getD j [])) := by
      have lt := hj.1
      rw [atI_lt _ _ (by simpa using lt), List.getElem_map, List.getD_eq_getElem?_getD, List.getElem?_eq_getElem lt]
      rfl
    have p1 : ∀ a b c : D, atI [a, b, c] 1 = some b := fun _ _ _ => at1
    have p2 : ∀ a b c : D, atI [a, b, c] 2 = some c := fun _ _ _ => at2
    have lbj := lbk _ bin
    generalize books.getD j [] = b at *
    obtain ⟨jj, hjj⟩ : ∃ jj : Int, jj = (j : Int) := ⟨_, rfl⟩
    refine ON.seq (ON.iff (c := false) (by simp) (fun z => nomatch z) fun _ => .nx _ ?_)
    refine ON.seq ?_
    simp [em]
    refine ON.seq ?_
    simp
    refine ON.seq (ON.iff (c := true) (by simp) (fun _ => ?_) (fun z => nomatch z))
    simp [a1]
    refine ON.seq (ON.iff (c := false) (by simp [p1, s]) (fun z => nomatch z) fun _ => .nx _ ?_)
    exact (alone_loop (j := j) o.hb rb lbj (fun r h ne => rfl) (by simp [p2]) _ _).imp (fun _ z => z.elim) fun _ z => z
  · refine ON.seq (ON.iff (c := true) (by simp; omega) (fun _ => ?_) fun z => nomatch z)
    simp
end
end K71

/-! PQ17: the turned hands. -/
namespace K71
open PySem L2 DL Cm Cg
open Classical
theorem flat_one (d : D) : ∀ n : Nat, (List.replicate n [d]).flatten = List.replicate n d
  | 0 => rfl
  | n + 1 => by rw [List.replicate_succ, List.flatten_cons, flat_one d n, List.replicate_succ]; rfl
section
variable {base : List D} {books : List (List D)}
def turnD : At → Out :=
 (sSeq (sOwn 11 (sD (lMul (dLst (aCons (dTup aNil) aNil)) (dV 7))))
 (sSeq (sFor (iRange1 (dV 7)) (.nm 4)
 (sSetI 11 (sD (d2 fIx (dV 10) (dV 4))) (sD (d2 fIx (dV 6) (dV 4)))))
 (sIf (sBt (tNot (tV (dCall f__law_same (aCons (dCall f_merge_books (aCons (dV 3) (aCons (dN fTuple (aCons (dV 11) aNil)) aNil))) (aCons (dCall f__law_moved (aCons (dV 8) (aCons (dV 10) aNil))) aNil))))))
 (sRet (sD (dC (.bool false))))
 sNil)))
def SI (A : At) (books : List (List D)) (f : Nat → Nat) (ds : List D) (α : At) : Prop := ∃ (i : Nat) (u4 : AV) (os : List D), i ≤ books.length ∧ ds = ((List.range books.length).drop i).map (fun i : Nat => PyData.int i) ∧ os.length = books.length ∧ (∀ j, j < i → os[f j]? = some (.tuple (books.getD j []))) ∧ α = (A.set 4 u4).set 11 (.own os)
theorem turn_ok (o : Okb base books) (f g : Nat → Nat) (hf : ∀ i, i < books.length → f i < books.length ∧ g (f i) = i) (hg : ∀ j, j < books.length → g j < books.length ∧ f (g j) = j) {z : Int} (hz : z = (books.length : Int)) (a0 a1 a2 u4 a5 a9 u11 u12 u13 u14 : AV) :
    ON (fun α => ∃ v4 v11, α = [a0, a1, a2, .dat (.tuple base), v4, a5, .dat (.tuple (books.map PyData.tuple)), .dat (.int z), .dat (paper base books), a9, .dat (plD ((List.range books.length).map f)), v11, u12, u13, u14]) (fun _ => False)
      (turnD [a0, a1, a2, .dat (.tuple base), u4, a5, .dat (.tuple (books.map PyData.tuple)), .dat (.int z), .dat (paper base books), a9, .dat (plD ((List.range books.length).map f)), u11, u12, u13, u14]) := by
  have sz := PySem.sizeLine_eq
  have l5 := o.len
  have mv := mv_turn base books f g hf hg
  have m' := o.mb2 mv.mems (by simp; omega)
  have em := merge_ok m'
  have emv := paper_moved o.mb mv (by omega)
  have es := same_pn (n := 9) (by decide) (paper_pn m') (paper_pn m')
  rw [decide_eq_true rfl] at es
  generalize hpl : (List.range books.length).map f = pl at emv ⊢
  generalize hbs : (List.range books.length).map (fun j => books.getD (g j) []) = books' at em emv es
  have lr : (List.replicate z.toNat [PyData.tuple []]).flatten = List.replicate books.length (PyData.tuple []) := by
    rw [flat_one, hz, Int.toNat_natCast]
  have zn : z.toNat ≤ sizeLine := by omega
  have z5 : 0 ≤ z ∧ z < 6 := ⟨by omega, by omega⟩
  refine ON.seq ?_
  have lm : ∀ β : Bt, dV 7 β = .ok (.int z) → lMul (dLst (aCons (dTup aNil) aNil)) (dV 7) β = .ok (List.replicate books.length (PyData.tuple [])) := fun β h => by
    have d1 : dLst (aCons (dTup aNil) aNil) β = .ok (.list [.tuple []]) := by simp
    unfold lMul
    rw [d1, h, Res.bind_ok, Res.bind_ok]
    have c1 : -(2 ^ 63) ≤ z ∧ z < 2 ^ 63 ∧ [PyData.tuple []].length * z.toNat ≤ sizeLine := ⟨by omega, by omega, by simp; omega⟩
    show (if -(2 ^ 63) ≤ z ∧ z < 2 ^ 63 ∧ [PyData.tuple []].length * z.toNat ≤ sizeLine then Res.ok (List.replicate z.toNat [PyData.tuple []]).flatten else Res.no) = _
    rw [if_pos c1, lr]
  have lmv := lm (dats [a0, a1, a2, .dat (.tuple base), u4, a5, .dat (.tuple (books.map PyData.tuple)), .dat (.int z), .dat (paper base books), a9, .dat (plD pl), u11, u12, u13, u14]) (by simp)
  simp only [dats_cons, dats_nil, dt_d] at lmv
  simp only [sOwn_ap, sD_ap, dats_cons, dats_nil, dt_d, lmv, ofR_ok, List.set, ON_nx]
  refine ON.seq (ON.for_ (ds := (List.range books.length).map fun i : Nat => PyData.int i) (SI [a0, a1, a2, .dat (.tuple base), u4, a5, .dat (.tuple (books.map PyData.tuple)), .dat (.int z), .dat (paper base books), a9, .dat (plD pl), u11, u12, u13, u14] books f) (by
    have := iRangeL (a := dV 7) (β := dats [a0, a1, a2, .dat (.tuple base), u4, a5, .dat (.tuple (books.map PyData.tuple)), .dat (.int z), .dat (paper base books), a9, .dat (plD pl), .own (List.replicate books.length (PyData.tuple [])), u12, u13, u14]) (n := z) (by simp) (by omega) (by omega)
    rw [this, hz]
    simp) ⟨0, u4, List.replicate books.length (.tuple []), Nat.zero_le _, rfl, by simp, fun j h => absurd h (Nat.not_lt_zero _), rfl⟩ ?_ ?_)
  · rintro d ds α ⟨i, v4, os, hi, e, lo, ho, rfl⟩
    obtain ⟨lt, rfl, eds⟩ := drop_range e hi
    have a6 : atI (books.map PyData.tuple) (i : Int) = some (.tuple (books.getD i [])) := by
      rw [atI_lt _ _ (by simpa using lt), List.getElem_map, List.getD_eq_getElem?_getD, List.getElem?_eq_getElem lt]
      rfl
    have ap : fIx (plD pl) (.int (i : Int)) = some (.int ((f i : Nat) : Int)) := by
      rw [pl_at (by rw [← hpl]; simpa using lt), ← hpl, getD_range f _ i lt]
    have ix : ixN os.length ((f i : Nat) : Int) = some (f i) := by
      rw [ixN_int (by omega) (by rw [lo]; have := (hf i lt).1; omega)]
      simp
    refine ⟨_, rfl, ?_⟩
    obtain ⟨y, hy⟩ : ∃ y : Int, y = (i : Int) := ⟨_, rfl⟩
    obtain ⟨w, hw⟩ : ∃ w : Int, w = ((f i : Nat) : Int) := ⟨_, rfl⟩
    rw [← hy] at a6 ap ⊢
    rw [← hw] at ap ix
    have st : sSetI 11 (sD (d2 fIx (dV 10) (dV 4))) (sD (d2 fIx (dV 6) (dV 4))) [a0, a1, a2, .dat (.tuple base), .dat (.int y), a5, .dat (.tuple (books.map PyData.tuple)), .dat (.int z), .dat (paper base books), a9, .dat (plD pl), .own os, u12, u13, u14] =
        .nx [a0, a1, a2, .dat (.tuple base), .dat (.int y), a5, .dat (.tuple (books.map PyData.tuple)), .dat (.int z), .dat (paper base books), a9, .dat (plD pl), .own (os.set (f i) (.tuple (books.getD i []))), u12, u13, u14] := by
      simp [a6, ap, ix]
    refine (congrArg (ON _ _) st).mpr (.nx _ ⟨i + 1, .dat (.int y), os.set (f i) (.tuple (books.getD i [])), lt, eds, by rw [List.length_set]; exact lo, fun j hj => ?_, rfl⟩)
    rcases Nat.lt_or_ge j i with q | q
    · rw [List.getElem?_set_ne, ho j q]
      intro e
      have := congrArg g e
      rw [(hf i lt).2, (hf j (by omega)).2] at this
      omega
    · have : j = i := by omega
      subst this
      rw [List.getElem?_set_self (by rw [lo]; exact (hf j lt).1)]
  · rintro α ⟨i, v4, os, hi, e, lo, ho, rfl⟩
    have hi : i = books.length := by
      rcases Nat.lt_or_ge i books.length with lt | ge
      · rw [List.drop_eq_getElem_cons (by simpa using lt)] at e
        cases e
      · omega
    subst hi
    have eo : os = books'.map PyData.tuple := by
      refine List.ext_getElem? fun j => ?_
      rw [← hbs]
      by_cases hj : j < books.length
      · obtain ⟨h1, h2⟩ := hg j hj
        have := ho (g j) h1
        rw [h2] at this
        rw [this]
        simp [hj]
      · rw [List.getElem?_eq_none (by omega), List.getElem?_eq_none (by simp; omega)]
    subst eo
    have ft : fTuple [.list (books'.map PyData.tuple)] = some (.tuple (books'.map PyData.tuple)) := rfl
    refine ON.iff (c := false) (by simp [ft, em, emv, es]) (fun z => nomatch z) fun _ => .nx _ ⟨_, _, rfl⟩
end
end K71

/-! PQ18: the law's other questions. -/
namespace K71
open PySem L2 DL Cm Cg
open Classical
section
variable {base : List D} {books : List (List D)}
def inD2 : At → Out :=
 (sSeq (sSet 12 (sD (d2 fMod (d2 fIx (dV 1) (dC (.int (11)))) (d2 fAdd (dV 7) (dC (.int (1)))))))
 (sSeq (sLay 13 (sD (dLc (iRange1 (dV 7)) (.nm 4) yesT (d2 fAdd (dV 4) (dN fInt (aCons (d2 fGe (dV 4) (dV 12)) aNil))) [4])))
 (sIf (sD (tNot (tV (dCall f__law_same (aCons (dCall f_merge_books (aCons (dV 3) (aCons (d2 fAdd (d2 fAdd (dSl (dV 6) pNone (pSome (dV 12))) (dTup (aCons (dV 3) aNil))) (dSl (dV 6) (pSome (dV 12)) pNone)) aNil))) (aCons (dCall f__law_moved (aCons (dV 8) (aCons (dV 13) aNil))) aNil))))))
 (sRet (sD (dC (.bool false))))
 sNil)))
theorem add_tt (xs ys : List D) (h : xs.length + ys.length ≤ sizeLine) : fAdd (.tuple xs) (.tuple ys) = some (.tuple (xs ++ ys)) := if_pos h
theorem in_ok (o : Okb base books) {nu : D} {x11 : Int} (hx : fIx nu (.int 11) = some (.int x11)) {z : Int} (hz : z = (books.length : Int)) (a0 a2 u4 a5 a9 u10 u11 u12 u13 u14 : AV) :
    ON (fun α => ∃ v12 v13, α = [a0, .dat nu, a2, .dat (.tuple base), u4, a5, .dat (.tuple (books.map PyData.tuple)), .dat (.int z), .dat (paper base books), a9, u10, u11, v12, v13, u14]) (fun _ => False)
      (inD2 [a0, .dat nu, a2, .dat (.tuple base), u4, a5, .dat (.tuple (books.map PyData.tuple)), .dat (.int z), .dat (paper base books), a9, u10, u11, u12, u13, u14]) := by
  have sz := PySem.sizeLine_eq
  have l5 := o.len
  have z5 : 0 ≤ z ∧ z < 6 := ⟨by omega, by omega⟩
  obtain ⟨t, ht⟩ : ∃ t : Int, t = x11 % (z + 1) := ⟨_, rfl⟩
  have t0 : 0 ≤ t := by rw [ht]; exact Int.emod_nonneg _ (by omega)
  have t1 : t < z + 1 := by rw [ht]; exact Int.emod_lt_of_pos _ (by omega)
  obtain ⟨a, rfl⟩ : ∃ a : Nat, t = (a : Int) := ⟨t.toNat, by omega⟩
  have ha : a ≤ books.length := by omega
  have mv := mv_in base books a ha
  have m' := o.mb2 mv.mems (by simp; omega)
  have em := merge_ok m'
  have emv := paper_moved o.mb mv (by omega)
  have es := same_pn (n := 9) (by decide) (paper_pn m') (paper_pn m')
  rw [decide_eq_true rfl] at es
  have eb : (books.take a ++ base :: books.drop a).map PyData.tuple = (books.map PyData.tuple).take a ++ [.tuple base] ++ (books.map PyData.tuple).drop a := by
    rw [List.map_append, List.map_cons, List.map_take, List.map_drop, List.append_assoc]
    rfl
  rw [eb] at em
  generalize hbs : books.take a ++ base :: books.drop a = books' at em emv es
  have mod1 : fMod (.int x11) (.int (z + 1)) = some (.int (x11 % (z + 1))) := fMod_pos (by omega)
  have e13 := lcD_all (f := cmD (.nm 4) yesT (d2 fAdd (dV 4) (dN fInt (aCons (d2 fGe (dV 4) (dV 12)) aNil))) (dats [a0, .dat nu, a2, .dat (.tuple base), .un, a5, .dat (.tuple (books.map PyData.tuple)), .dat (.int z), .dat (paper base books), a9, u10, u11, .dat (.int (a : Int)), u13, u14])) (fun i : Nat => PyData.int i)
    (fun i => PyData.int (((if a ≤ i then i + 1 else i : Nat) : Int))) (xs := List.range books.length) (fun i hi => by
      obtain ⟨y, hy⟩ : ∃ y : Int, y = (i : Int) := ⟨_, rfl⟩
      obtain ⟨t, ht⟩ : ∃ t : Int, t = (a : Int) := ⟨_, rfl⟩
      rw [← hy, ← ht]
      have ge : fGe (.int y) (.int t) = some (.bool (decide (t ≤ y))) := rfl
      by_cases q : a ≤ i
      · rw [if_pos q, decide_eq_true (by omega : t ≤ y)] at *
        have fi : fInt [.bool true] = some (.int 1) := rfl
        rw [show ((i + 1 : Nat) : Int) = y + 1 by omega]
        simp [cmD, ge, fi]
      · rw [if_neg q, decide_eq_false (by omega : ¬ t ≤ y)] at *
        have fi : fInt [.bool false] = some (.int 0) := rfl
        rw [← hy]
        simp [cmD, ge, fi])
  have epl : (List.range books.length).map (fun i => PyData.int (((if a ≤ i then i + 1 else i : Nat) : Int))) = ((List.range books.length).map fun i => if a ≤ i then i + 1 else i).map fun n : Nat => PyData.int n := by rw [List.map_map]; rfl
  rw [epl] at e13
  have emv : f__law_moved [paper base books, .list (((List.range books.length).map fun i => if a ≤ i then i + 1 else i).map fun n : Nat => PyData.int n)] = .ok (paper base books') := emv
  generalize ((List.range books.length).map fun i => if a ≤ i then i + 1 else i).map (fun n : Nat => PyData.int n) = pl at e13 emv
  have er : iRange1 (dV 7) (dats [a0, .dat nu, a2, .dat (.tuple base), u4, a5, .dat (.tuple (books.map PyData.tuple)), .dat (.int z), .dat (paper base books), a9, u10, u11, .dat (.int (a : Int)), u13, u14]) = .ok ((List.range books.length).map fun i : Nat => PyData.int i) := by
    have := iRangeL (a := dV 7) (β := dats [a0, .dat nu, a2, .dat (.tuple base), u4, a5, .dat (.tuple (books.map PyData.tuple)), .dat (.int z), .dat (paper base books), a9, u10, u11, .dat (.int (a : Int)), u13, u14]) (n := z) (by simp) (by omega) (by omega)
    rw [this, hz]
    simp
  have s1 : fSl (.tuple (books.map PyData.tuple)) none (some (a : Int)) = some (.tuple ((books.map PyData.tuple).take a)) := by rw [fSl_t, cutkC]
  have s2 : fSl (.tuple (books.map PyData.tuple)) (some (a : Int)) none = some (.tuple ((books.map PyData.tuple).drop a)) := by rw [fSl_t, cutdC _ _ (by simpa using ha)]
  have p1 := add_tt ((books.map PyData.tuple).take a) [.tuple base] (by simp; omega)
  have p2 := add_tt ((books.map PyData.tuple).take a ++ [.tuple base]) ((books.map PyData.tuple).drop a) (by simp; omega)
  have lz : ((List.range books.length).map fun i : Nat => PyData.int i).length ≤ sizeLine := by simp; omega
  generalize (books.map PyData.tuple).take a = A1 at *
  generalize (books.map PyData.tuple).drop a = A2 at *
  generalize A1 ++ [PyData.tuple base] = A3 at *
  generalize A3 ++ A2 = A4 at *
  generalize (a : Int) = t at *
  refine ON.seq ?_
  simp [hx, mod1, ← ht]
  refine ON.seq ?_
  simp only [dats_cons, dats_nil, dt_d, dt_u] at er e13
  simp only [sLay_ap, sD_ap, dLc_ap, dats_cons, dats_nil, dt_d, dt_u, er, Res.bind_ok, lz, if_true, wipeB_cons, wipeB_nil, List.set, e13, ofR_ok, ON_nx]
  exact ON.iff (c := false) (by simp [s1, s2, p1, p2, em, emv, es]) (fun z => nomatch z) fun _ => .nx _ ⟨_, _, rfl⟩
def restD : At → Out :=
 (sSeq (sIf (sD (tV (d2 fLt (dV 7) (dC (.int (5))))))
 inD2
 sNil)
 (sSeq (sIf (sD (tAnd (tV (d2 fLt (dV 7) (dC (.int (3))))) (tV (d2 fNe (d2 fIx (dV 9) (dC (.int (0)))) (dC (.str "torn"))))))
 (sIf (sD (tNot (tV (dCall f__law_same (aCons (dSl (dCall f_merge_books (aCons (dV 3) (aCons (d2 fAdd (dV 6) (dV 6)) aNil))) pNone (pSome (dC (.int (2))))) (aCons (dSl (dV 8) pNone (pSome (dC (.int (2))))) aNil))))))
 (sRet (sD (dC (.bool false))))
 sNil)
 sNil)
 (sSeq (sIf (sD (tAnd (tV (d2 fEq (d2 fIx (dV 9) (dC (.int (0)))) (dC (.str "merged")))) (tNot (tV (dCall f__law_same (aCons (d2 fIx (dCall f_merge_books (aCons (dV 3) (aCons (dTup (aCons (d2 fIx (dV 9) (dC (.int (1)))) aNil)) aNil))) (dC (.int (1)))) (aCons (d2 fIx (dV 9) (dC (.int (1)))) aNil)))))))
 (sRet (sD (dC (.bool false))))
 sNil)
 (sRet (sD (dCall f__law_alone (aCons (dV 3) (aCons (dV 6) aNil))))))))
/-- what the paper's word tells -/
inductive Pform (base : List D) (books : List (List D)) : Str → Prop
  | torn : Pform base books "torn"
  | full : conL base books (KS base books) = [] → Pform base books "full"
  | merged : conL base books (KS base books) = [] → fulls (rowL base books (KS base books)) = [] → fIx (paper base books) (.int 1) = some (.tuple (rowL base books (KS base books))) → Pform base books "merged"
theorem pform (base : List D) (books : List (List D)) : ∃ w, fIx (paper base books) (.int 0) = some (.str w) ∧ Pform base books w := by
  by_cases h : conL base books (KS base books) = []
  · cases hf : fulls (rowL base books (KS base books)) with
    | nil =>
      rw [paper_merged h hf]
      exact ⟨_, atI_z .., .merged h hf (by rw [paper_merged h hf]; exact at1)⟩
    | cons k r =>
      rw [paper_full h hf]
      exact ⟨_, atI_z .., .full h⟩
  · rw [paper_torn h]
    exact ⟨_, atI_z .., .torn⟩
theorem rest_ok (o : Okb base books) {nu : D} {x11 : Int} (hx : fIx nu (.int 11) = some (.int x11)) {z : Int} (hz : z = (books.length : Int)) (a0 a2 u4 a5 u10 u11 u12 u13 u14 : AV) :
    ON (fun _ => False) (fun d => d = .bool true)
      (restD [a0, .dat nu, a2, .dat (.tuple base), u4, a5, .dat (.tuple (books.map PyData.tuple)), .dat (.int z), .dat (paper base books), .dat (paper base books), u10, u11, u12, u13, u14]) := by
  have sz := PySem.sizeLine_eq
  have l5 := o.len
  obtain ⟨w, e0, pw⟩ := pform base books
  refine ON.seq ?_
  refine ON.imp (P := fun α => ∃ v12 v13, α = [a0, .dat nu, a2, .dat (.tuple base), u4, a5, .dat (.tuple (books.map PyData.tuple)), .dat (.int z), .dat (paper base books), .dat (paper base books), u10, u11, v12, v13, u14]) (R := fun _ => False) ?_ ?_ (fun _ z => z.elim)
  · refine ON.iff (c := decide (z < 5)) (by simp) (fun _ => in_ok o hx hz a0 a2 u4 a5 _ u10 u11 u12 u13 u14) fun _ => .nx _ ⟨_, _, rfl⟩
  · rintro α ⟨v12, v13, rfl⟩
    refine ON.seq ?_
    refine ON.imp (P := fun α => α = [a0, .dat nu, a2, .dat (.tuple base), u4, a5, .dat (.tuple (books.map PyData.tuple)), .dat (.int z), .dat (paper base books), .dat (paper base books), u10, u11, v12, v13, u14]) (R := fun _ => False) ?_ ?_ (fun _ z => z.elim)
    · refine ON.iff (c := decide (z < 3) && !(w == "torn")) (by
        by_cases q : z < 3 <;> simp [q, e0]) (fun hc => ?_) fun _ => .nx _ rfl
      have nt : conL base books (KS base books) = [] := by
        cases pw with
        | torn => simp at hc
        | full h => exact h
        | merged h _ _ => exact h
      have m2 : Mb base (books ++ books) := o.mb2 (fun rs hrs => by
        rcases List.mem_append.mp hrs with h | h
        · exact .inl h
        · exact .inl h) (by simp; omega)
      have em := merge_ok m2
      have e1 := paper_twice nt
      have e2 := paper_head nt
      have pn := head2_pn o.mb
      have es := same_pn (n := 9) (by decide) pn pn
      rw [decide_eq_true rfl] at es
      have ap := add_tt (books.map PyData.tuple) (books.map PyData.tuple) (by simp; omega)
      rw [← List.map_append] at ap
      generalize (books ++ books).map PyData.tuple = B2 at ap em
      refine ON.iff (c := false) (by simp [ap, em, e1, e2, es]) (fun z => nomatch z) fun _ => .nx _ rfl
    · rintro α rfl
      have al := law_alone_ok o
      refine ON.seq (ON.iff (c := false) ?_ (fun z => nomatch z) fun _ => .nx _ (by simp [al]))
      cases pw with
      | torn =>
        have : (("torn" : Str) == "merged") = false := by decide +kernel
        simp [e0, this]
      | full h =>
        have : (("full" : Str) == "merged") = false := by decide +kernel
        simp [e0, this]
      | merged h hf e1 =>
        obtain ⟨os, ep⟩ := paper_alone hf
        have em := merge_ok o.mb1
        rw [ep] at em
        have pn := rowL_pn o.mb
        have es := same_pn (n := 8) (by decide) pn pn
        rw [decide_eq_true rfl] at es
        have a1 : ∀ x0 x1 x2 : D, atI [x0, x1, x2] 1 = some x1 := fun _ _ _ => at1
        simp only [List.map_cons, List.map_nil] at em
        simp [e0, e1, em, a1, es]
end
end K71

/-! PQ19: the law from the drawn books on. -/
namespace K71
open PySem L2 DL Cm Cg
open Classical
section
variable {base : List D} {books : List (List D)}
theorem back_one {n : Nat} (i : Nat) (hi : i < n) : ((i + 1) % n + (n - 1)) % n = i := by
  by_cases e : i + 1 = n
  · rw [e, Nat.mod_self, Nat.zero_add, Nat.mod_eq_of_lt (by omega)]
    omega
  · rw [Nat.mod_eq_of_lt (by omega : i + 1 < n), show i + 1 + (n - 1) = i + n by omega, Nat.add_mod_right, Nat.mod_eq_of_lt hi]
theorem one_back {n : Nat} (j : Nat) (hj : j < n) : ((j + (n - 1)) % n + 1) % n = j := by
  by_cases e : j = 0
  · subst e
    rw [Nat.zero_add, Nat.mod_eq_of_lt (by omega : n - 1 < n), show n - 1 + 1 = n by omega, Nat.mod_self]
  · rw [show j + (n - 1) = (j - 1) + n by omega, Nat.add_mod_right, Nat.mod_eq_of_lt (by omega : j - 1 < n), show j - 1 + 1 = j by omega, Nat.mod_eq_of_lt hj]
def tail1D : At → Out :=
 (sSeq (sSet 3 (sD (dN fTuple (aCons (dV 3) aNil))))
 (sSeq (sSet 6 (sB (dN fTuple (aCons (dFz (dLc (iSeq (dV 5)) (.nm 14) yesT (dN fTuple (aCons (dV 14) aNil)) [14])) aNil))))
 (sSeq (sSet 7 (sD (dN fLen (aCons (dV 6) aNil))))
 (sSeq (sSet 8 (sB (d2 fIx (dCall f__law_merged (aCons (dN fListX (aCons (dV 3) aNil)) (aCons (dV 5) aNil))) (dC (.int (0))))))
 (sSeq (sSet 9 (sD (dCall f_merge_books (aCons (dV 3) (aCons (dV 6) aNil)))))
 (sSeq (sIf (sD (tNot (tV (dCall f__law_same (aCons (dV 9) (aCons (dV 8) aNil))))))
 (sRet (sD (dC (.bool false))))
 sNil)
 (sSeq (sFor (iSeq (dLst (aCons (dFz (dLc (iRange1 (dV 7)) (.nm 4) yesT (d2 fSub (d2 fSub (dV 7) (dC (.int (1)))) (dV 4)) [4])) (aCons (dFz (dLc (iRange1 (dV 7)) (.nm 4) yesT (d2 fMod (d2 fAdd (dV 4) (dC (.int (1)))) (dV 7)) [4])) aNil)))) (.nm 10)
 turnD)
 restD)))))))
def TI (A : At) (n : Nat) (ds : List D) (α : At) : Prop := (∀ d ∈ ds, d = plD ((List.range n).map fun i => n - 1 - i) ∨ d = plD ((List.range n).map fun i => (i + 1) % n)) ∧ ∃ u4 u10 u11, α = ((A.set 4 u4).set 10 u10).set 11 u11
theorem tail_ok (o : Okb base books) {nu : D} {x11 : Int} (hx : fIx nu (.int 11) = some (.int x11)) (n0 : 0 < books.length) (a0 a2 u4 : AV) :
    ON (fun _ => False) (fun d => d = .bool true)
      (tail1D [a0, .dat nu, a2, .dat (.list base), u4, .own (books.map PyData.list), .un, .un, .un, .un, .un, .un, .un, .un, .un]) := by
  have sz := PySem.sizeLine_eq
  have l5 := o.len
  have m := o.mb
  have e1 := lmerged_ok m
  have e2 := merge_ok m
  have es := same_pn (n := 9) (by decide) (paper_pn m) (paper_pn m)
  rw [decide_eq_true rfl] at es
  have nlp : noL (paper base books) = true := noL_pn (paper_pn m)
  have nls : noL (.tuple (books.map PyData.tuple)) = true := by
    refine noLs_of fun d hd => ?_
    obtain ⟨rs, hrs, rfl⟩ := List.mem_map.mp hd
    exact noLs_of fun x hx => noL_pn (Pn.of_pl (m.hk rs hrs x hx).pl)
  have t3 : fTuple [.list base] = some (.tuple base) := rfl
  have ez : (books.map PyData.list).length ≤ sizeLine := by rw [List.length_map]; omega
  have ez' : books.length ≤ sizeLine := by omega
  have lx : fListX [.tuple base] = some (.list base) := rfl
  have t7 : fTuple [.list (books.map PyData.tuple)] = some (.tuple (books.map PyData.tuple)) := rfl
  have ix0 : ∀ x y : D, fIx (.tuple [paper base books, x, y]) (.int 0) = some (paper base books) := fun x y => by simp
  have e7 := lcD_all (f := cmD (.nm 14) yesT (dN fTuple (aCons (dV 14) aNil)) [a0.vw, some nu, a2.vw, some (.tuple base), u4.vw, some (.list (books.map PyData.list)), none, none, none, none, none, none, none, none, none]) PyData.list PyData.tuple (xs := books) fun rs hrs => by
    have : fTuple [.list rs] = some (.tuple rs) := rfl
    simp [cmD, this]
  obtain ⟨z, hz⟩ : ∃ z : Int, z = (books.length : Int) := ⟨_, rfl⟩
  have z5 : 0 < z ∧ z < 6 := ⟨by omega, by omega⟩
  refine ON.seq ?_
  simp [t3]
  refine ON.seq ?_
  simp [wipeB, ez', e7, t7, nls]
  refine ON.seq ?_
  simp [← hz]
  refine ON.seq ?_
  simp [lx, e1, ix0, nlp]
  refine ON.seq ?_
  simp [e2]
  refine ON.seq (ON.iff (c := false) (by simp [es]) (fun z => nomatch z) fun _ => .nx _ ?_)
  generalize hP : paper base books = P at *
  have er : ∀ u4 u10 u11 : Option D, iRange1 (dV 7) [a0.dt, some nu, a2.dt, some (.tuple base), u4, none, some (.tuple (books.map PyData.tuple)), some (.int z), some P, some P, u10, u11, none, none, none] = .ok ((List.range books.length).map fun i : Nat => PyData.int i) := fun u4 u10 u11 => by
    have := iRangeL (a := dV 7) (β := [a0.dt, some nu, a2.dt, some (.tuple base), u4, none, some (.tuple (books.map PyData.tuple)), some (.int z), some P, some P, u10, u11, none, none, none]) (n := z) (by simp) (by omega) (by omega)
    rw [this, hz]
    simp
  have c1 := lcD_all (f := cmD (.nm 4) yesT (d2 fSub (d2 fSub (dV 7) (dC (.int (1)))) (dV 4)) [a0.dt, some nu, a2.dt, some (.tuple base), none, none, some (.tuple (books.map PyData.tuple)), some (.int z), some P, some P, none, none, none, none, none]) (fun i : Nat => PyData.int i)
    (fun i => PyData.int ((books.length - 1 - i : Nat) : Int)) (xs := List.range books.length) (fun i hi => by
      have lt : i < books.length := by simpa using hi
      have ee : ((books.length - 1 - i : Nat) : Int) = z - 1 - (i : Int) := by omega
      rw [ee]
      obtain ⟨y, hy⟩ : ∃ y : Int, y = (i : Int) := ⟨_, rfl⟩
      rw [← hy]
      simp [cmD])
  have c2 := lcD_all (f := cmD (.nm 4) yesT (d2 fMod (d2 fAdd (dV 4) (dC (.int (1)))) (dV 7)) [a0.dt, some nu, a2.dt, some (.tuple base), none, none, some (.tuple (books.map PyData.tuple)), some (.int z), some P, some P, none, none, none, none, none]) (fun i : Nat => PyData.int i)
    (fun i => PyData.int (((i + 1) % books.length : Nat) : Int)) (xs := List.range books.length) (fun i hi => by
      have ee : (((i + 1) % books.length : Nat) : Int) = ((i : Int) + 1) % z := by
        rw [hz, Int.natCast_emod]
        rfl
      rw [ee]
      obtain ⟨y, hy⟩ : ∃ y : Int, y = (i : Int) := ⟨_, rfl⟩
      rw [← hy]
      have := fMod_pos (i := y + 1) (k := z) (by omega)
      simp [cmD, this])
  have g1 : PyData.list ((List.range books.length).map fun i => PyData.int ((books.length - 1 - i : Nat) : Int)) = plD ((List.range books.length).map fun i => books.length - 1 - i) := by
    unfold plD
    rw [List.map_map]
    rfl
  have g2 : PyData.list ((List.range books.length).map fun i => PyData.int (((i + 1) % books.length : Nat) : Int)) = plD ((List.range books.length).map fun i => (i + 1) % books.length) := by
    unfold plD
    rw [List.map_map]
    rfl
  have lr : ((List.range books.length).map fun i : Nat => PyData.int i).length ≤ sizeLine := by simp; omega
  refine ON.seq (ON.for_ (ds := [plD ((List.range books.length).map fun i => books.length - 1 - i), plD ((List.range books.length).map fun i => (i + 1) % books.length)])
    (TI [a0, .dat nu, a2, .dat (.tuple base), u4, .own (books.map PyData.list), .dat (.tuple (books.map PyData.tuple)), .dat (.int z), .dat P, .dat P, .un, .un, .un, .un, .un] books.length) (by
      simp only [iSeq_ap, dLst_ap, aCons_ap, aNil_ap, dFz_ap, dLc_ap, dats_cons, dats_nil, dt_d, dt_u, dt_o, er, Res.bind_ok, lr, if_true, wipeB_cons, wipeB_nil, List.set, c1, c2, g1, g2]
      simp) ⟨fun d hd => by simpa using hd, u4, .un, .un, rfl⟩ ?_ ?_)
  · rintro d ds α ⟨hd, v4, v10, v11, rfl⟩
    refine ⟨_, rfl, ?_⟩
    rcases hd d (.head _) with rfl | rfl
    · have := turn_ok o (fun i => books.length - 1 - i) (fun j => books.length - 1 - j) (fun i hi => ⟨by omega, by omega⟩) (fun j hj => ⟨by omega, by omega⟩) hz a0 (.dat nu) a2 v4 (.own (books.map PyData.list)) (.dat P) v11 .un .un .un
      rw [hP] at this
      refine this.imp (fun α hα => ?_) fun _ z => z.elim
      obtain ⟨w4, w11, rfl⟩ := hα
      exact ⟨fun d hd' => hd d (.tail _ hd'), _, _, _, rfl⟩
    · have := turn_ok o (fun i => (i + 1) % books.length) (fun j => (j + (books.length - 1)) % books.length) (fun i hi => ⟨Nat.mod_lt _ (by omega), back_one i hi⟩) (fun j hj => ⟨Nat.mod_lt _ (by omega), one_back j hj⟩) hz a0 (.dat nu) a2 v4 (.own (books.map PyData.list)) (.dat P) v11 .un .un .un
      rw [hP] at this
      refine this.imp (fun α hα => ?_) fun _ z => z.elim
      obtain ⟨w4, w11, rfl⟩ := hα
      exact ⟨fun d hd' => hd d (.tail _ hd'), _, _, _, rfl⟩
  · rintro α ⟨_, v4, v10, v11, rfl⟩
    have := rest_ok o hx hz a0 a2 v4 (.own (books.map PyData.list)) v10 v11 .un .un .un
    rw [hP] at this
    exact this
end
end K71

/-! PlK71: the plain law. -/
namespace K71
open PySem L2 DL Cm Cg
theorem b_law_eq : b_law =
 (sSeq (sSet 1 (sD (dCall f__law_numbers (aCons (dV 0) (aCons (dC (.int (90))) aNil)))))
 (sSeq (sSet 2 (sD (dCall f__law_names (aCons (dV 1) aNil))))
 (sSeq (sSet 3 (sD (dCall f__law_book (aCons (dV 1) (aCons (dC (.int (8))) (aCons (d2 fMod (d2 fIx (dV 1) (dC (.int (6)))) (dC (.int (15)))) (aCons (dV 2) (aCons (dLst (aCons (dC (.int (6))) (aCons (dC (.int (7))) (aCons (dC (.int (18))) (aCons (dC (.int (0))) aNil))))) aNil))))))))
 (sSeq (sOwn 5 (sD (dLc (iRange1 (d2 fAdd (dC (.int (1))) (d2 fMod (d2 fIx (dV 1) (dC (.int (7)))) (dC (.int (5)))))) (.nm 4) yesT (dCall f__law_hand (aCons (dV 3) (aCons (dV 2) (aCons (dV 1) (aCons (d2 fAdd (dC (.int (30))) (d2 fMul (dC (.int (13))) (dV 4))) aNil))))) [4])))
 (sSeq (sIf (sBt (tAnd (tV (d2 fEq (d2 fMod (d2 fIx (dV 1) (dC (.int (8)))) (dC (.int (6)))) (dC (.int (0))))) (tV (d2 fGt (dN fLen (aCons (dV 5) aNil)) (dC (.int (1)))))))
 (sSeq (sSetI 5 (sD (dC (.int (0)))) (sCal f__law_crowd (sAc (oIx 5 (0)) (sAc (sD (dC (.int (0)))) (sAc (sD (dC (.int (6)))) (sD aNil))))))
 (sSetI 5 (sD (dC (.int (1)))) (sCal f__law_crowd (sAc (oIx 5 (1)) (sAc (sD (dC (.int (6)))) (sAc (sD (d2 fAdd (dC (.int (6))) (d2 fMod (d2 fIx (dV 1) (dC (.int (10)))) (dC (.int (2)))))) (sD aNil)))))))
 sNil)
 (sSeq (sIf (sD (tV (d2 fEq (d2 fMod (d2 fIx (dV 1) (dC (.int (9)))) (dC (.int (2)))) (dC (.int (0))))))
 (fun α => (sOwn 5 (sD (lAdd (d2 fMul (dLst (aCons (dV 3) aNil)) (d2 fSub (dN fLen (aCons (dV 5) aNil)) (dC (.int (1))))) (dLst (aCons (d2 fIx (dV 5) (dC (.int (0)))) aNil))))) (frzA 5 α))
 sNil)
 tail1D)))))) := rfl
theorem hxs_all {ss : List Str} {base : List D} : ∀ {books : List (List D)}, (∀ rs ∈ books, Hy 0 0 ss base 3 rs) → Hxs base (3 * books.length) books
  | [], _ => .nil
  | rs :: books, h => by
    have := Hxs.cons (h rs (.head _)).1 (hxs_all fun r hr => h r (.tail _ hr))
    rw [List.length_cons, show 3 * (books.length + 1) = 3 + 3 * books.length by omega]
    exact this
theorem lists_of : ∀ {ys : List D} {P : List D → Prop}, (∀ y ∈ ys, ∃ rs, y = .list rs ∧ P rs) → ∃ books : List (List D), ys = books.map PyData.list ∧ ∀ rs ∈ books, P rs
  | [], _, _ => ⟨[], rfl, fun _ z => nomatch z⟩
  | y :: ys, P, h => by
    obtain ⟨rs, rfl, hr⟩ := h y (.head _)
    obtain ⟨bs, rfl, hb⟩ := lists_of (P := P) fun z hz => h z (.tail _ hz)
    refine ⟨rs :: bs, rfl, fun r hr' => ?_⟩
    rcases List.mem_cons.mp hr' with rfl | hr'
    · exact hr
    · exact hb r hr'
def PI (sc nu na : D) (bs : List D) (α : At) : Prop := ∃ (books : List (List D)) (u : AV), Okb bs books ∧ 0 < books.length ∧ α = [.dat sc, .dat nu, .dat na, .dat (.list bs), u, .own (books.map PyData.list), .un, .un, .un, .un, .un, .un, .un, .un, .un]
theorem plain (ns : List Int) (h : ns.length ≤ 63) : f_law [.dict [(.none, .list (ns.map PyData.int))]] = .ok (.bool true) := by
  obtain ⟨_, en, xs, rfl, lx, hx⟩ := numbers_ok ns (by omega) 90 (by decide)
  have en : f__law_numbers [.dict [(.none, .list (ns.map PyData.int))], .int 90] = .ok (.list (xs.map PyData.int)) := en
  obtain ⟨s0, s1, s2, s3, s4, s5, ena, hs, nd⟩ := names_ok xs (by omega)
  obtain ⟨x6, q6, h6⟩ := atI_num hx (i := 6) (by decide) (by omega)
  obtain ⟨x7, q7, h7⟩ := atI_num hx (i := 7) (by decide) (by omega)
  obtain ⟨x8, q8, h8⟩ := atI_num hx (i := 8) (by decide) (by omega)
  obtain ⟨x9, q9, h9⟩ := atI_num hx (i := 9) (by decide) (by omega)
  obtain ⟨x10, q10, h10⟩ := atI_num hx (i := 10) (by decide) (by omega)
  obtain ⟨x11, q11, h11⟩ := atI_num hx (i := 11) (by decide) (by omega)
  obtain ⟨bs, eb, hb, hg⟩ := base_ok (s0 := s0) (s1 := s1) (s2 := s2) (s3 := s3) (s4 := s4) (s5 := s5) hs hx (by omega) (by omega) 8 (x6 % 15) (by decide) (by decide) (by omega) (by omega)
  have hbr : ∀ r ∈ bs, Rw r := fun r hr => (hb.2.1 r hr).1
  have lb : bs.length ≤ 14 := by have := hb.2.2; omega
  have hz := PySem.sizeLine_eq
  have ix11 : fIx (.list (xs.map PyData.int)) (.int 11) = some (.int x11) := q11
  refine Sat.eq (Sat.fD rfl ?_)
  rw [b_law_eq]
  refine ON.seq ?_
  simp [en]
  refine ON.seq ?_
  simp [ena]
  refine ON.seq ?_
  simp [q6, fMod_pos, eb]
  have er : iRange1 (d2 fAdd (dC (.int (1))) (d2 fMod (d2 fIx (dV 1) (dC (.int (7)))) (dC (.int (5))))) [some (.dict [(.none, .list (ns.map PyData.int))]), some (.list (xs.map PyData.int)), some (.list [.str s0, .str s1, .str s2, .str s3, .str s4, .str s5]), some (.list bs), none, none, none, none, none, none, none, none, none, none, none] = .ok ((List.range (1 + x7 % 5).toNat).map fun i : Nat => PyData.int i) :=
    iRangeL (n := 1 + x7 % 5) (by simp [q7, fMod_pos]) (by omega) (by omega)
  obtain ⟨ys, ey, ly, py⟩ := lcD_ex (f := cmD (.nm 4) yesT (dCall f__law_hand (aCons (dV 3) (aCons (dV 2) (aCons (dV 1) (aCons (d2 fAdd (dC (.int (30))) (d2 fMul (dC (.int (13))) (dV 4))) aNil))))) [some (.dict [(.none, .list (ns.map PyData.int))]), some (.list (xs.map PyData.int)), some (.list [.str s0, .str s1, .str s2, .str s3, .str s4, .str s5]), some (.list bs), none, none, none, none, none, none, none, none, none, none, none])
    (P := fun d => ∃ rs, d = .list rs ∧ Hy 0 0 [s0, s1, s2, s3, s4, s5] bs 3 rs) (ds := (List.range (1 + x7 % 5).toNat).map fun i : Nat => PyData.int i) (fun d hd => by
      obtain ⟨i, hi, rfl⟩ := List.mem_map.mp hd
      have hi : i < (1 + x7 % 5).toNat := by simpa using hi
      obtain ⟨y, hy⟩ : ∃ y : Int, y = (i : Int) := ⟨_, rfl⟩
      rw [← hy]
      obtain ⟨rs, e, hr⟩ := hand2_ok (wl := 0) (wh := 0) hs hx (by omega) (by omega) hbr hb.1 hg (by omega) (30 + 13 * y) (by omega) (by omega)
      refine ⟨.list rs, ?_, rs, rfl, hr⟩
      simp [cmD, fMul_sm' (i := 13) (k := y) (by decide) (by decide), e])
  obtain ⟨books, rfl, hbk⟩ := lists_of py
  have lbk : books.length = (1 + x7 % 5).toNat := by simpa using ly
  have lbk : 0 < books.length ∧ books.length ≤ 5 := by omega
  have ez : ((List.range (1 + x7 % 5).toNat).map fun i : Nat => PyData.int i).length ≤ sizeLine := by rw [List.length_map, List.length_range]; omega
  refine ON.seq ?_
  simp only [sOwn_ap, sD_ap, dLc_ap, dats_cons, dats_nil, dt_d, dt_u, er, Res.bind_ok, ez, if_true, wipeB_cons, wipeB_nil, List.set, ey, ofR_ok, ON_nx]
  refine ON.seq ?_
  refine ON.imp (P := PI (.dict [(.none, .list (ns.map PyData.int))]) (.list (xs.map PyData.int)) (.list [.str s0, .str s1, .str s2, .str s3, .str s4, .str s5]) bs) (R := fun _ => False) ?_ (fun α hα => ?_) fun _ z => z.elim
  · refine ON.iff (c := (x8 % 6 == 0) && decide (1 < books.length)) (by
      have l1 : decide ((1 : Int) < (books.length : Int)) = decide (1 < books.length) := decide_eq_decide.mpr (by omega)
      cases hx8 : x8 % 6 == 0 <;> simp [q8, fMod_pos, hx8, l1]) (fun hc => ?_) (fun hc => ?_)
    · have l1 : 1 < books.length := by
        rw [Bool.and_eq_true, decide_eq_true_eq] at hc
        exact hc.2
      match books, hbk, lbk, l1 with
      | b0 :: b1 :: rest, hbk, lbk, _ =>
        obtain ⟨r0, e0, g0⟩ := crowd2_ok (hbk b0 (.head _)) (by omega) 0 6 (by decide) (by omega) (by omega)
        obtain ⟨r1, e1, g1⟩ := crowd2_ok (hbk b1 (.tail _ (.head _))) (by omega) 6 (6 + x10 % 2) (by omega) (by omega) (by omega)
        refine ON.seq ?_
        have a0 : oIx 5 0 [.dat (.dict [(.none, .list (ns.map PyData.int))]), .dat (.list (xs.map PyData.int)), .dat (.list [.str s0, .str s1, .str s2, .str s3, .str s4, .str s5]), .dat (.list bs), .un, .own (.list b0 :: .list b1 :: rest.map PyData.list), .un, .un, .un, .un, .un, .un, .un, .un, .un] = .ok (.list b0) := by simp [oIx]
        have a1 : oIx 5 1 [.dat (.dict [(.none, .list (ns.map PyData.int))]), .dat (.list (xs.map PyData.int)), .dat (.list [.str s0, .str s1, .str s2, .str s3, .str s4, .str s5]), .dat (.list bs), .un, .own (.list r0 :: .list b1 :: rest.map PyData.list), .un, .un, .un, .un, .un, .un, .un, .un, .un] = .ok (.list b1) := by
          have : atI (PyData.list r0 :: .list b1 :: rest.map PyData.list) 1 = some (.list b1) := at1
          simp [oIx, this]
        have i0 : ixN (rest.length + 1 + 1) 0 = some 0 := ixN_int (by decide) (by omega)
        have i1 : ixN (rest.length + 1 + 1) 1 = some 1 := ixN_int (by decide) (by omega)
        simp [sCal, sAc, a0, e0, i0]
        simp [sCal, sAc, a1, q10, fMod_pos, e1, i1]
        refine ⟨r0 :: r1 :: rest, _, ?_, by simp, rfl⟩
        have hr := hxs_all (ss := [s0, s1, s2, s3, s4, s5]) (base := bs) (books := rest) fun r hr => hbk r (.tail _ (.tail _ hr))
        have hh := Hxs.cons g0.1 (Hxs.cons g1.1 hr)
        simp only [List.length_cons] at lbk
        refine okb_of (ss := [s0, s1, s2, s3, s4, s5]) (by simp) hb hg hh (by omega) (fun rs hrs => ?_) (by simp; omega)
        rcases List.mem_cons.mp hrs with rfl | hrs
        · exact ⟨_, _, _, by omega, g0⟩
        rcases List.mem_cons.mp hrs with rfl | hrs
        · exact ⟨_, _, _, by omega, g1⟩
        · exact ⟨0, 0, 3, by omega, hbk rs (.tail _ (.tail _ hrs))⟩
    · refine .nx _ ⟨books, _, ?_, lbk.1, rfl⟩
      exact okb_of (ss := [s0, s1, s2, s3, s4, s5]) (by simp) hb hg (hxs_all hbk) (by omega) (fun rs hrs => ⟨0, 0, 3, by omega, hbk rs hrs⟩) lbk.2
  · obtain ⟨books, u, o, n0, rfl⟩ := hα
    have o5 := o.len
    refine ON.seq ?_
    refine ON.imp (P := PI (.dict [(.none, .list (ns.map PyData.int))]) (.list (xs.map PyData.int)) (.list [.str s0, .str s1, .str s2, .str s3, .str s4, .str s5]) bs) (R := fun _ => False) ?_ (fun α hα => ?_) fun _ z => z.elim
    · refine ON.iff (c := x9 % 2 == 0) (by simp [q9, fMod_pos]) (fun _ => ?_) fun _ => .nx _ ⟨books, _, o, n0, rfl⟩
      match books, n0, o5, o with
      | b0 :: rest, n0, o5, o =>
        obtain ⟨z, hzz⟩ : ∃ z : Int, z = (rest.length : Int) := ⟨_, rfl⟩
        simp only [List.length_cons] at o5
        have fm : fMul (.list [.list bs]) (.int z) = some (.list (List.replicate rest.length (.list bs))) := by
          have c1 : -(2 ^ 63) ≤ z ∧ z < 2 ^ 63 ∧ [PyData.list bs].length * z.toNat ≤ sizeLine := ⟨by omega, by omega, by simp; omega⟩
          have : fMul (.list [.list bs]) (.int z) = if -(2 ^ 63) ≤ z ∧ z < 2 ^ 63 ∧ [PyData.list bs].length * z.toNat ≤ sizeLine then some (.list (List.replicate z.toNat [PyData.list bs]).flatten) else none := rfl
          rw [this, if_pos c1, flat_one, hzz, Int.toNat_natCast]
        have fr : frzA 5 [AV.dat (.dict [(.none, .list (ns.map PyData.int))]), .dat (.list (xs.map PyData.int)), .dat (.list [.str s0, .str s1, .str s2, .str s3, .str s4, .str s5]), .dat (.list bs), u, .own ((b0 :: rest).map PyData.list), .un, .un, .un, .un, .un, .un, .un, .un, .un] =
            [AV.dat (.dict [(.none, .list (ns.map PyData.int))]), .dat (.list (xs.map PyData.int)), .dat (.list [.str s0, .str s1, .str s2, .str s3, .str s4, .str s5]), .dat (.list bs), u, .dat (.list (.list b0 :: rest.map PyData.list)), .un, .un, .un, .un, .un, .un, .un, .un, .un] := rfl
        have la : ∀ β : Bt, lAdd (d2 fMul (dLst (aCons (dV 3) aNil)) (d2 fSub (dN fLen (aCons (dV 5) aNil)) (dC (.int (1))))) (dLst (aCons (d2 fIx (dV 5) (dC (.int (0)))) aNil)) β = (d2 fMul (dLst (aCons (dV 3) aNil)) (d2 fSub (dN fLen (aCons (dV 5) aNil)) (dC (.int (1)))) β).bind fun x => (dLst (aCons (d2 fIx (dV 5) (dC (.int (0)))) aNil) β).bind fun y => match x, y with
          | .list xs, .list ys => if xs.length + ys.length ≤ sizeLine then .ok (xs ++ ys) else .no
          | _, _ => .no := fun _ => rfl
        have l1 : ((rest.length + 1 : Nat) : Int) - 1 = z := by omega
        have l2 : (List.replicate rest.length (PyData.list bs)).length + (0 + 1) ≤ sizeLine := by simp; omega
        have ev : (fun α => (sOwn 5 (sD (lAdd (d2 fMul (dLst (aCons (dV 3) aNil)) (d2 fSub (dN fLen (aCons (dV 5) aNil)) (dC (.int (1))))) (dLst (aCons (d2 fIx (dV 5) (dC (.int (0)))) aNil))))) (frzA 5 α)) [AV.dat (.dict [(.none, .list (ns.map PyData.int))]), .dat (.list (xs.map PyData.int)), .dat (.list [.str s0, .str s1, .str s2, .str s3, .str s4, .str s5]), .dat (.list bs), u, .own ((b0 :: rest).map PyData.list), .un, .un, .un, .un, .un, .un, .un, .un, .un] =
            .nx [AV.dat (.dict [(.none, .list (ns.map PyData.int))]), .dat (.list (xs.map PyData.int)), .dat (.list [.str s0, .str s1, .str s2, .str s3, .str s4, .str s5]), .dat (.list bs), u, .own ((List.replicate rest.length bs ++ [b0]).map PyData.list), .un, .un, .un, .un, .un, .un, .un, .un, .un] := by
          show sOwn 5 _ (frzA 5 _) = _
          rw [fr]
          have lp : (List.replicate rest.length bs ++ [b0]).map PyData.list = List.replicate rest.length (PyData.list bs) ++ [PyData.list b0] := by simp
          rw [lp]
          have le : fLen [.list (.list b0 :: rest.map PyData.list)] = some (.int ((rest.length + 1 : Nat) : Int)) := by simp
          simp only [sOwn_ap, sD_ap, la, dats_cons, dats_nil, dt_d, dt_u, d2_ap, dLst_ap, dN_ap, aCons_ap, aNil_ap, dV_s, dV_z, dC_ap, Res.bind_ok, Res.of_some, le, fSub_int, l1, List.length_cons, List.length_nil, le_size (n := 0 + 1) (by decide), if_true, fm, fIx_l, atI_z]
          rw [if_pos l2]
          rfl
        refine (congrArg (ON _ _) ev).mpr (.nx _ ⟨List.replicate rest.length bs ++ [b0], u, o.sub (fun rs hrs => ?_) (by simp; omega), by simp, rfl⟩)
        rcases List.mem_append.mp hrs with hrs | hrs
        · exact .inr (List.eq_of_mem_replicate hrs)
        · rw [List.mem_singleton] at hrs
          subst hrs
          exact .inl (.head _)
    · obtain ⟨books, u, o, n0, rfl⟩ := hα
      exact (tail_ok o ix11 n0 _ _ _).imp (fun _ z => z.elim) fun _ z => z
end K71

namespace K71
open PySem PySem.Spec PyProof.Rows L2 DL Cm Cg
section
variable {P : Program} {w : World} {K : PySem.W.Frag} {mg : Str → Option Value} {base : Heap}
theorem on__law_same {j : Nat} (hj : 0 ≤ j) {f__law_same : List D → Res D} (h__law_same : Cal P w K mg base j "_law_same" f__law_same) (m_bool : mg "bool" = none) (m_int : mg "int" = none) (m_isinstance : mg "isinstance" = none) (m_len : mg "len" = none) (m_range : mg "range" = none) (m_str : mg "str" = none) (m_tuple : mg "tuple" = none) {f : Addr} {fd : FuncData} (F : FunD K "_law_same" "_law_same" (defArgs s__law_same) (defBody s__law_same) (defScope s__law_same) [] [] f fd) :
    FnOk P w K mg base (L2.CX P w) (j + 1) f fd P__law_same (SpF K w mg (fD P__law_same.length N__law_same.length (b__law_same f__law_same))) :=
  okD (k := j) F sc__law_same fun cdv A outer s H E hr => by
    have tk := takes_of (X := cxOf (L2.CX P w) P w K mg base N__law_same "_law_same" (defScope s__law_same) f cdv A outer s H E) rfl rfl rfl rfl
    exact
 (rscons (rsif (st (rt (risi (T := "tuple") (by decide) m_isinstance m_tuple (rv 1))))
 (rscons (rsif (st (rtw (rwor (rtnot (rt (risi (T := "tuple") (by decide) m_isinstance m_tuple (rv 0)))) (rwo1 (rtcmp (okO_ne hr) ok_ne (rcb okO_len ok_len m_len (racons (rv 0) ranil)) (rcb okO_len ok_len m_len (racons (rv 1) ranil)))))))
 (rsone (rsret (se rbl)))
 rsnil)
 (rsone (rsret (se (rcmp (okO_eq hr) ok_eq (rcb okO_len ok_len m_len (racons (rfz (rlc (Lc.mk (own := [("k", 2)]) (rirange1 m_range (rcb okO_len ok_len m_len (racons (rv 1) ranil))) (blkOk_by (N := N__law_same) (sc := defScope s__law_same) (by decide +kernel)) (fun _ _ _ _ _ => (rgn 2 sc__law_same.nd)) (fun _ _ _ _ _ => (pts_if (rtnot (rt (rc h__law_same hr tk0 (racons (rixs (rv 0) (rv 2)) (racons (rixs (rv 1) (rv 2)) ranil)) (hk := Nat.le_refl _)))))) (fun _ _ _ _ _ => (rv 2)) (by decide)) sc__law_same.nd)) ranil)) rint)))))
 rsnil)
 (rscons (rsif (st (rtw (rwor (rt (risi (T := "bool") (by decide) m_isinstance m_bool (rv 1))) (rwo1 (rt (risi (T := "bool") (by decide) m_isinstance m_bool (rv 0)))))))
 (rsone (rsret (se (rand (risi (T := "bool") (by decide) m_isinstance m_bool (rv 0)) (rand (risi (T := "bool") (by decide) m_isinstance m_bool (rv 1)) (rbone (rcmp (okO_eq hr) ok_eq (rv 0) (rv 1))))))))
 rsnil)
 (rscons (rsif (st (rt (risi (T := "str") (by decide) m_isinstance m_str (rv 1))))
 (rsone (rsret (se (rand (risi (T := "str") (by decide) m_isinstance m_str (rv 0)) (rbone (rcmp (okO_eq hr) ok_eq (rv 0) (rv 1)))))))
 rsnil)
 (rscons (rsif (st (rtcmp (okO_is) ok_is (rv 1) rnone))
 (rsone (rsret (se (rcmp (okO_is) ok_is (rv 0) rnone))))
 rsnil)
 (rsone (rsret (se (rand (risi (T := "int") (by decide) m_isinstance m_int (rv 0)) (rbone (rcmp (okO_eq hr) ok_eq (rv 0) (rv 1)))))))))))
theorem ok__law_same (m_bool : mg "bool" = none) (m_int : mg "int" = none) (m_isinstance : mg "isinstance" = none) (m_len : mg "len" = none) (m_range : mg "range" = none) (m_str : mg "str" = none) (m_tuple : mg "tuple" = none) {f : Addr} {fd : FuncData} (F : FunD K "_law_same" "_law_same" (defArgs s__law_same) (defBody s__law_same) (defScope s__law_same) [] [] f fd) (g : mg "_law_same" = some (.ref f)) (b : Binds K fd P__law_same []) : ∀ n : Nat, FnOk P w K mg base (L2.CX P w) (0 + n) f fd P__law_same (SpF K w mg (F__law_same n))
  | 0 => okNo
  | n + 1 => on__law_same (Nat.le_add_right _ _) ⟨f, fd, P__law_same, ok__law_same m_bool m_int m_isinstance m_len m_range m_str m_tuple F g b n, g, F.kp, b⟩ m_bool m_int m_isinstance m_len m_range m_str m_tuple F
theorem ok_find_row  {f : Addr} {fd : FuncData} (F : FunD K "find_row" "find_row" (defArgs s_find_row) (defBody s_find_row) (defScope s_find_row) [] [] f fd) :
    FnOk P w K mg base (L2.CX P w) 1 f fd P_find_row (SpF K w mg f_find_row) :=
  okD (k := 0) F sc_find_row fun cdv A outer s H E hr => by
    have tk := takes_of (X := cxOf (L2.CX P w) P w K mg base N_find_row "find_row" (defScope s_find_row) f cdv A outer s H E) rfl rfl rfl rfl
    exact
 (rscons (rsfor (riseq (rv 0)) (rgn 3 sc_find_row.nd)
 (rsone (rsif (st (rtw (rwand (rtcmp (okO_eq hr) ok_eq (rixs (rv 3) rint) (rv 1)) (rw1 (rtcmp (okO_eq hr) ok_eq (rixs (rv 3) rint) (rv 2))))))
 (rsone (rsret (se (rv 3))))
 rsnil)) (passes_of rfl))
 (rsone rsno))
theorem ok_has_row  {f : Addr} {fd : FuncData} (F : FunD K "has_row" "has_row" (defArgs s_has_row) (defBody s_has_row) (defScope s_has_row) [] [] f fd) :
    FnOk P w K mg base (L2.CX P w) 1 f fd P_has_row (SpF K w mg f_has_row) :=
  okD (k := 0) F sc_has_row fun cdv A outer s H E hr => by
    have tk := takes_of (X := cxOf (L2.CX P w) P w K mg base N_has_row "has_row" (defScope s_has_row) f cdv A outer s H E) rfl rfl rfl rfl
    exact
 (rscons (rsfor (riseq (rv 0)) (rgn 3 sc_has_row.nd)
 (rsone (rsif (st (rtw (rwand (rtcmp (okO_eq hr) ok_eq (rixs (rv 3) rint) (rv 1)) (rw1 (rtcmp (okO_eq hr) ok_eq (rixs (rv 3) rint) (rv 2))))))
 (rsone (rsret (se rbl)))
 rsnil)) (passes_of rfl))
 (rsone (rsret (se rbl))))
theorem ok_row_version (h_find_row : Cal P w K mg base 1 "find_row" f_find_row) (h_has_row : Cal P w K mg base 1 "has_row" f_has_row) {f : Addr} {fd : FuncData} (F : FunD K "row_version" "row_version" (defArgs s_row_version) (defBody s_row_version) (defScope s_row_version) [] [] f fd) :
    FnOk P w K mg base (L2.CX P w) 2 f fd P_row_version (SpF K w mg f_row_version) :=
  okD (k := 1) F sc_row_version fun cdv A outer s H E hr => by
    have tk := takes_of (X := cxOf (L2.CX P w) P w K mg base N_row_version "row_version" (defScope s_row_version) f cdv A outer s H E) rfl rfl rfl rfl
    exact
 (rscons (rsif (st (rt (rc h_has_row hr tk (racons (rv 0) (racons (rv 1) (racons (rv 2) ranil))))))
 (rsone (rsret (se (rc h_find_row hr tk (racons (rv 0) (racons (rv 1) (racons (rv 2) ranil)))))))
 rsnil)
 (rsone (rsret (se rnone))))
theorem ok_key_changes (h_row_version : Cal P w K mg base 2 "row_version" f_row_version) (m_enumerate : mg "enumerate" = none) (m_tuple : mg "tuple" = none) {f : Addr} {fd : FuncData} (F : FunD K "key_changes" "key_changes" (defArgs s_key_changes) (defBody s_key_changes) (defScope s_key_changes) [] [] f fd) :
    FnOk P w K mg base (L2.CX P w) 3 f fd P_key_changes (SpF K w mg f_key_changes) :=
  okD (k := 2) F sc_key_changes fun cdv A outer s H E hr => by
    have tk := takes_of (X := cxOf (L2.CX P w) P w K mg base N_key_changes "key_changes" (defScope s_key_changes) f cdv A outer s H E) rfl rfl rfl rfl
    exact
 (rscons (rsset (i := 4) sc_key_changes.nd (se (rc h_row_version hr tk (racons (rv 0) (racons (rv 2) (racons (rv 3) ranil))))))
 (rscons (rsown (i := 5) sc_key_changes.nd (sf (rflst ranil)))
 (rscons (rsfor (rienum m_enumerate (rv 1)) (rgtup rfl (rgcons (rgn 6 sc_key_changes.nd) (rgcons (rgn 7 sc_key_changes.nd) rgnil)))
 (rscons (rsset (i := 8) sc_key_changes.nd (se (rc h_row_version hr tk (racons (rv 7) (racons (rv 2) (racons (rv 3) ranil))))))
 (rsone (rsif (st (rtcmp (okO_ne hr) ok_ne (rv 8) (rv 4)))
 (rsone (rsapp (i := 5) (se (rtup (racons (rv 6) (racons (rv 8) ranil))))))
 rsnil))) (passes_of rfl))
 (rsone (rsfrz 5 (rsret (se (rct call_tuple_of ok_tuple m_tuple (racons (rv 5) ranil)))))))))
theorem ok_row_key  {f : Addr} {fd : FuncData} (F : FunD K "row_key" "row_key" (defArgs s_row_key) (defBody s_row_key) (defScope s_row_key) [] [] f fd) :
    FnOk P w K mg base (L2.CX P w) 1 f fd P_row_key (SpF K w mg f_row_key) :=
  okD (k := 0) F sc_row_key fun cdv A outer s H E hr => by
    have tk := takes_of (X := cxOf (L2.CX P w) P w K mg base N_row_key "row_key" (defScope s_row_key) f cdv A outer s H E) rfl rfl rfl rfl
    exact
 (rsone (rsret (se (rtup (racons (rixs (rv 0) rint) (racons (rixs (rv 0) rint) ranil))))))
theorem ok_merge_keys (h_row_key : Cal P w K mg base 1 "row_key" f_row_key) (m_list : mg "list" = none) (m_sorted : mg "sorted" = none) {f : Addr} {fd : FuncData} (F : FunD K "merge_keys" "merge_keys" (defArgs s_merge_keys) (defBody s_merge_keys) (defScope s_merge_keys) [] [] f fd) :
    FnOk P w K mg base (L2.CX P w) 2 f fd P_merge_keys (SpF K w mg f_merge_keys) :=
  okD (k := 1) F sc_merge_keys fun cdv A outer s H E hr => by
    have tk := takes_of (X := cxOf (L2.CX P w) P w K mg base N_merge_keys "merge_keys" (defScope s_merge_keys) f cdv A outer s H E) rfl rfl rfl rfl
    exact
 (rscons (rsown (i := 2) sc_merge_keys.nd (sf (rflist m_list (rv 0))))
 (rscons (rsfor (riseq (rv 1)) (rgn 3 sc_merge_keys.nd)
 (rsone (rsext (i := 2) (se (rct call_list_of ok_list m_list (racons (rv 3) ranil))))) (passes_of rfl))
 (rsone (rsfrz 2 (rsret (se (rfz (rfsortset hr m_sorted (own := [("row", 4)]) (riseq (rv 2)) (blkOk_by (N := N_merge_keys) (sc := defScope s_merge_keys) (by decide +kernel)) sc_merge_keys.nd (fun _ _ _ _ _ => (rgn 4 sc_merge_keys.nd)) (fun _ _ _ _ _ => (rc h_row_key hr tk0 (racons (rv 4) ranil))) (by decide)))))))))
theorem ok_first_rows (h_key_changes : Cal P w K mg base 3 "key_changes" f_key_changes) (h_merge_keys : Cal P w K mg base 2 "merge_keys" f_merge_keys) (h_row_version : Cal P w K mg base 2 "row_version" f_row_version) (m_len : mg "len" = none) (m_tuple : mg "tuple" = none) {f : Addr} {fd : FuncData} (F : FunD K "first_rows" "first_rows" (defArgs s_first_rows) (defBody s_first_rows) (defScope s_first_rows) [] [] f fd) :
    FnOk P w K mg base (L2.CX P w) 4 f fd P_first_rows (SpF K w mg f_first_rows) :=
  okD (k := 3) F sc_first_rows fun cdv A outer s H E hr => by
    have tk := takes_of (X := cxOf (L2.CX P w) P w K mg base N_first_rows "first_rows" (defScope s_first_rows) f cdv A outer s H E) rfl rfl rfl rfl
    exact
 (rscons (rsown (i := 2) sc_first_rows.nd (sf (rflst ranil)))
 (rscons (rsown (i := 3) sc_first_rows.nd (sf (rflst ranil)))
 (rscons (rsfor (riseq (rc h_merge_keys hr tk (racons (rv 0) (racons (rv 1) ranil)))) (rgtup rfl (rgcons (rgn 4 sc_first_rows.nd) (rgcons (rgn 5 sc_first_rows.nd) rgnil)))
 (rscons (rsset (i := 6) sc_first_rows.nd (se (rc h_key_changes hr tk (racons (rv 0) (racons (rv 1) (racons (rv 4) (racons (rv 5) ranil)))))))
 (rscons (rsset (i := 7) sc_first_rows.nd (se (rc h_row_version hr tk (racons (rv 0) (racons (rv 4) (racons (rv 5) ranil))))))
 (rscons (rsif (st (rtcmp (op_gt) (ok_cmp _) (rcb okO_len ok_len m_len (racons (rv 6) ranil)) rint))
 (rsone (rsset (i := 7) sc_first_rows.nd (se (rixs (rixs (rv 6) rint) rint))))
 rsnil)
 (rsone (rsif (st (rtcmp (okO_isnot) ok_isnot (rv 7) rnone))
 (rscons (rsapp (i := 2) (se (rv 7)))
 (rsone (rsapp (i := 3) (se (rct call_tuple_of ok_tuple m_tuple (racons (rfz (rlc (Lc.mk (own := [("index", 8), ("version", 9)]) (riseq (rv 6)) (blkOk_by (N := N_first_rows) (sc := defScope s_first_rows) (by decide +kernel)) (fun _ _ _ _ _ => (rgtup rfl (rgcons (rgn 8 sc_first_rows.nd) (rgcons (rgn 9 sc_first_rows.nd) rgnil)))) (fun _ _ _ _ _ => pts_yes) (fun _ _ _ _ _ => (rv 8)) (by decide)) sc_first_rows.nd)) ranil))))))
 rsnil))))) (passes_of rfl))
 (rsone (rsfrz 2 (rsfrz 3 (rsret (se (rtup (racons (rct call_tuple_of ok_tuple m_tuple (racons (rv 2) ranil)) (racons (rct call_tuple_of ok_tuple m_tuple (racons (rv 3) ranil)) ranil)))))))))))
theorem ok_kind_rows (m_tuple : mg "tuple" = none) {f : Addr} {fd : FuncData} (F : FunD K "kind_rows" "kind_rows" (defArgs s_kind_rows) (defBody s_kind_rows) (defScope s_kind_rows) [] [] f fd) :
    FnOk P w K mg base (L2.CX P w) 1 f fd P_kind_rows (SpF K w mg f_kind_rows) :=
  okD (k := 0) F sc_kind_rows fun cdv A outer s H E hr => by
    have tk := takes_of (X := cxOf (L2.CX P w) P w K mg base N_kind_rows "kind_rows" (defScope s_kind_rows) f cdv A outer s H E) rfl rfl rfl rfl
    exact
 (rsone (rsret (se (rct call_tuple_of ok_tuple m_tuple (racons (rfz (rlc (Lc.mk (own := [("row", 2)]) (riseq (rv 0)) (blkOk_by (N := N_kind_rows) (sc := defScope s_kind_rows) (by decide +kernel)) (fun _ _ _ _ _ => (rgn 2 sc_kind_rows.nd)) (fun _ _ _ _ _ => (pts_if (rtcmp (okO_eq hr) ok_eq (rixs (rv 2) rint) (rv 1)))) (fun _ _ _ _ _ => (rv 2)) (by decide)) sc_kind_rows.nd)) ranil)))))
theorem ok_full_kind (h_kind_rows : Cal P w K mg base 1 "kind_rows" f_kind_rows) (m_len : mg "len" = none) (c_KIND_NAMES : Cst K w mg "KIND_NAMES" k_KIND_NAMES) (c_MOST_ROWS : Cst K w mg "MOST_ROWS" k_MOST_ROWS) {f : Addr} {fd : FuncData} (F : FunD K "full_kind" "full_kind" (defArgs s_full_kind) (defBody s_full_kind) (defScope s_full_kind) [] [] f fd) :
    FnOk P w K mg base (L2.CX P w) 2 f fd P_full_kind (SpF K w mg f_full_kind) :=
  okD (k := 1) F sc_full_kind fun cdv A outer s H E hr => by
    have tk := takes_of (X := cxOf (L2.CX P w) P w K mg base N_full_kind "full_kind" (defScope s_full_kind) f cdv A outer s H E) rfl rfl rfl rfl
    exact
 (rscons (rsfor (riseq (rcst c_KIND_NAMES)) (rgn 1 sc_full_kind.nd)
 (rsone (rsif (st (rtcmp (op_gt) (ok_cmp _) (rcb okO_len ok_len m_len (racons (rc h_kind_rows hr tk (racons (rv 0) (racons (rv 1) ranil))) ranil)) (rcst c_MOST_ROWS)))
 (rsone (rsret (se (rv 1))))
 rsnil)) (passes_of rfl))
 (rsone (rsret (se rnone))))
theorem ok_versions_differ  {f : Addr} {fd : FuncData} (F : FunD K "versions_differ" "versions_differ" (defArgs s_versions_differ) (defBody s_versions_differ) (defScope s_versions_differ) [] [] f fd) :
    FnOk P w K mg base (L2.CX P w) 1 f fd P_versions_differ (SpF K w mg f_versions_differ) :=
  okD (k := 0) F sc_versions_differ fun cdv A outer s H E hr => by
    have tk := takes_of (X := cxOf (L2.CX P w) P w K mg base N_versions_differ "versions_differ" (defScope s_versions_differ) f cdv A outer s H E) rfl rfl rfl rfl
    exact
 (rscons (rsfor (riseq (rv 0)) (rgtup rfl (rgcons (rgn 1 sc_versions_differ.nd) (rgcons (rgn 2 sc_versions_differ.nd) rgnil)))
 (rsone (rsif (st (rtcmp (okO_ne hr) ok_ne (rv 2) (rixs (rixs (rv 0) rint) rint)))
 (rsone (rsret (se rbl)))
 rsnil)) (passes_of rfl))
 (rsone (rsret (se rbl))))
theorem ok_key_conflicts (h_key_changes : Cal P w K mg base 3 "key_changes" f_key_changes) (h_merge_keys : Cal P w K mg base 2 "merge_keys" f_merge_keys) (h_versions_differ : Cal P w K mg base 1 "versions_differ" f_versions_differ) (m_tuple : mg "tuple" = none) {f : Addr} {fd : FuncData} (F : FunD K "key_conflicts" "key_conflicts" (defArgs s_key_conflicts) (defBody s_key_conflicts) (defScope s_key_conflicts) [] [] f fd) :
    FnOk P w K mg base (L2.CX P w) 4 f fd P_key_conflicts (SpF K w mg f_key_conflicts) :=
  okD (k := 3) F sc_key_conflicts fun cdv A outer s H E hr => by
    have tk := takes_of (X := cxOf (L2.CX P w) P w K mg base N_key_conflicts "key_conflicts" (defScope s_key_conflicts) f cdv A outer s H E) rfl rfl rfl rfl
    exact
 (rscons (rsown (i := 2) sc_key_conflicts.nd (sf (rflst ranil)))
 (rscons (rsfor (riseq (rc h_merge_keys hr tk (racons (rv 0) (racons (rv 1) ranil)))) (rgtup rfl (rgcons (rgn 3 sc_key_conflicts.nd) (rgcons (rgn 4 sc_key_conflicts.nd) rgnil)))
 (rscons (rsset (i := 5) sc_key_conflicts.nd (se (rc h_key_changes hr tk (racons (rv 0) (racons (rv 1) (racons (rv 3) (racons (rv 4) ranil)))))))
 (rsone (rsif (st (rt (rc h_versions_differ hr tk (racons (rv 5) ranil))))
 (rsone (rsapp (i := 2) (se (rtup (racons (rv 3) (racons (rv 4) (racons (rv 5) ranil)))))))
 rsnil))) (passes_of rfl))
 (rsone (rsfrz 2 (rsret (se (rct call_tuple_of ok_tuple m_tuple (racons (rv 2) ranil))))))))
theorem ok_merge_books (h_first_rows : Cal P w K mg base 4 "first_rows" f_first_rows) (h_full_kind : Cal P w K mg base 2 "full_kind" f_full_kind) (h_key_conflicts : Cal P w K mg base 4 "key_conflicts" f_key_conflicts) (m_len : mg "len" = none) {f : Addr} {fd : FuncData} (F : FunD K "merge_books" "merge_books" (defArgs s_merge_books) (defBody s_merge_books) (defScope s_merge_books) [] [] f fd) :
    FnOk P w K mg base (L2.CX P w) 5 f fd P_merge_books (SpF K w mg f_merge_books) :=
  okD (k := 4) F sc_merge_books fun cdv A outer s H E hr => by
    have tk := takes_of (X := cxOf (L2.CX P w) P w K mg base N_merge_books "merge_books" (defScope s_merge_books) f cdv A outer s H E) rfl rfl rfl rfl
    exact
 (rscons (rsset (i := 2) sc_merge_books.nd (se (rc h_key_conflicts hr tk (racons (rv 0) (racons (rv 1) ranil)))))
 (rscons (rsif (st (rtcmp (op_gt) (ok_cmp _) (rcb okO_len ok_len m_len (racons (rv 2) ranil)) rint))
 (rsone (rsret (se (rtup (racons rstr (racons (rv 2) ranil))))))
 rsnil)
 (rscons (rssett (se (rc h_first_rows hr tk (racons (rv 0) (racons (rv 1) ranil)))) (rgtup rfl (rgcons (rgn 3 sc_merge_books.nd) (rgcons (rgn 4 sc_merge_books.nd) rgnil))))
 (rscons (rsset (i := 5) sc_merge_books.nd (se (rc h_full_kind hr tk (racons (rv 3) ranil))))
 (rscons (rsif (st (rtcmp (okO_isnot) ok_isnot (rv 5) rnone))
 (rsone (rsret (se (rtup (racons rstr (racons (rv 5) ranil))))))
 rsnil)
 (rsone (rsret (se (rtup (racons rstr (racons (rv 3) (racons (rv 4) ranil))))))))))))
theorem ok__law_alone (h__law_same : Cal P w K mg base 12 "_law_same" f__law_same) (h_merge_books : Cal P w K mg base 5 "merge_books" f_merge_books) (m_len : mg "len" = none) (m_range : mg "range" = none) (m_tuple : mg "tuple" = none) {f : Addr} {fd : FuncData} (F : FunD K "_law_alone" "_law_alone" (defArgs s__law_alone) (defBody s__law_alone) (defScope s__law_alone) [] [] f fd) :
    FnOk P w K mg base (L2.CX P w) 13 f fd P__law_alone (SpF K w mg f__law_alone) :=
  okD (k := 12) F sc__law_alone fun cdv A outer s H E hr => by
    have tk := takes_of (X := cxOf (L2.CX P w) P w K mg base N__law_alone "_law_alone" (defScope s__law_alone) f cdv A outer s H E) rfl rfl rfl rfl
    exact
 (rscons (rslaylc (i := 3) (Lc.mk (own := [("k", 2)]) (rirange1 m_range (rcb okO_len ok_len m_len (racons (rv 1) ranil))) (blkOk_by (N := N__law_alone) (sc := defScope s__law_alone) (by decide +kernel)) (fun _ _ _ _ _ => (rgn 2 sc__law_alone.nd)) (fun _ _ _ _ _ => (pts_if (rtcmp (okO_ne hr) ok_ne (rixs (rv 1) (rv 2)) (rv 0)))) (fun _ _ _ _ _ => (rv 2)) (by decide)) sc__law_alone.nd)
 (rscons (rsif (st (rtcmp (op_gt) (ok_cmp _) (rcb okO_len ok_len m_len (racons (rv 3) ranil)) rint))
 (rsone (rsret (se rbl)))
 rsnil)
 (rscons (rsset (i := 4) sc__law_alone.nd (se (rc h_merge_books hr tk (racons (rv 0) (racons (rv 1) ranil)))))
 (rscons (rsset (i := 5) sc__law_alone.nd (se (rv 0)))
 (rscons (rsif (st (rtcmp (okO_eq hr) ok_eq (rcb okO_len ok_len m_len (racons (rv 3) ranil)) rint))
 (rsone (rsset (i := 5) sc__law_alone.nd (se (rixs (rv 1) (rixs (rv 3) rint)))))
 rsnil)
 (rscons (rsif (st (rtw (rwor (rtcmp (okO_ne hr) ok_ne (rixs (rv 4) rint) rstr) (rwo1 (rtnot (rt (rc h__law_same hr tk (racons (rixs (rv 4) rint) (racons (rv 5) ranil)))))))))
 (rsone (rsret (se rbl)))
 rsnil)
 (rscons (rsfor (rirange1 m_range (rcb okO_len ok_len m_len (racons (rv 5) ranil))) (rgn 2 sc__law_alone.nd)
 (rscons (rsset (i := 6) sc__law_alone.nd (se (rtup ranil)))
 (rscons (rsif (st (rtcmp (opo_notin hr) ok_notin (rixs (rv 5) (rv 2)) (rv 0)))
 (rsone (rsset (i := 6) sc__law_alone.nd (se (rct call_tuple_of ok_tuple m_tuple (racons (rv 3) ranil)))))
 rsnil)
 (rsone (rsif (st (rtnot (rt (rc h__law_same hr tk (racons (rixs (rixs (rv 4) rint) (rv 2)) (racons (rv 6) ranil))))))
 (rsone (rsret (se rbl)))
 rsnil)))) (passes_of rfl))
 (rsone (rsret (se rbl))))))))))
theorem ok__law_kinds  {f : Addr} {fd : FuncData} (F : FunD K "_law_kinds" "_law_kinds" (defArgs s__law_kinds) (defBody s__law_kinds) (defScope s__law_kinds) [] [] f fd) :
    FnOk P w K mg base (L2.CX P w) 1 f fd P__law_kinds (SpF K w mg f__law_kinds) :=
  okD (k := 0) F sc__law_kinds fun cdv A outer s H E hr => by
    have tk := takes_of (X := cxOf (L2.CX P w) P w K mg base N__law_kinds "_law_kinds" (defScope s__law_kinds) f cdv A outer s H E) rfl rfl rfl rfl
    exact
 (rscons (rsset (i := 0) sc__law_kinds.nd (se (rlst (racons rstr (racons rstr (racons rstr (racons rstr (racons rstr (racons rstr (racons rstr (racons rstr (racons rstr (racons rstr ranil)))))))))))))
 (rsone (rsret (se (radd (rv 0) (rlst (racons rstr (racons rstr (racons rstr (racons rstr (racons rstr (racons rstr (racons rstr (racons rstr (racons rstr (racons rstr ranil))))))))))))))))
theorem ok__law_before  {f : Addr} {fd : FuncData} (F : FunD K "_law_before" "_law_before" (defArgs s__law_before) (defBody s__law_before) (defScope s__law_before) [] [] f fd) :
    FnOk P w K mg base (L2.CX P w) 1 f fd P__law_before (SpF K w mg f__law_before) :=
  okD (k := 0) F sc__law_before fun cdv A outer s H E hr => by
    have tk := takes_of (X := cxOf (L2.CX P w) P w K mg base N__law_before "_law_before" (defScope s__law_before) f cdv A outer s H E) rfl rfl rfl rfl
    exact
 (rsone (rsret (se (ror (rcmp (okO_lt hr) ok_lt (rixs (rv 0) rint) (rixs (rv 1) rint)) (rbone (rand (rcmp (okO_eq hr) ok_eq (rixs (rv 0) rint) (rixs (rv 1) rint)) (rbone (rcmp (okO_lt hr) ok_lt (rixs (rv 0) rint) (rixs (rv 1) rint)))))))))
theorem ok__law_placed (h__law_before : Cal P w K mg base 1 "_law_before" f__law_before) {f : Addr} {fd : FuncData} (F : FunD K "_law_placed" "_law_placed" (defArgs s__law_placed) (defBody s__law_placed) (defScope s__law_placed) [] [] f fd) :
    FnOk P w K mg base (L2.CX P w) 2 f fd P__law_placed (SpF K w mg f__law_placed) :=
  okD (k := 1) F sc__law_placed fun cdv A outer s H E hr => by
    have tk := takes_of (X := cxOf (L2.CX P w) P w K mg base N__law_placed "_law_placed" (defScope s__law_placed) f cdv A outer s H E) rfl rfl rfl rfl
    exact
 (rscons (rslaylc (i := 2) (Lc.mk (own := [("old", 4)]) (riseq (rv 0)) (blkOk_by (N := N__law_placed) (sc := defScope s__law_placed) (by decide +kernel)) (fun _ _ _ _ _ => (rgn 4 sc__law_placed.nd)) (fun _ _ _ _ _ => (pts_if (rt (rc h__law_before hr tk0 (racons (rv 4) (racons (rv 1) ranil)))))) (fun _ _ _ _ _ => (rv 4)) (by decide)) sc__law_placed.nd)
 (rscons (rslaylc (i := 3) (Lc.mk (own := [("old", 4)]) (riseq (rv 0)) (blkOk_by (N := N__law_placed) (sc := defScope s__law_placed) (by decide +kernel)) (fun _ _ _ _ _ => (rgn 4 sc__law_placed.nd)) (fun _ _ _ _ _ => (pts_if (rt (rc h__law_before hr tk0 (racons (rv 1) (racons (rv 4) ranil)))))) (fun _ _ _ _ _ => (rv 4)) (by decide)) sc__law_placed.nd)
 (rsone (rsret (se (radd (radd (rv 2) (rlst (racons (rv 1) ranil))) (rv 3)))))))
theorem ok__law_lowest (m_abs : mg "abs" = none) (m_int : mg "int" = none) (m_range : mg "range" = none) {f : Addr} {fd : FuncData} (F : FunD K "_law_lowest" "_law_lowest" (defArgs s__law_lowest) (defBody s__law_lowest) (defScope s__law_lowest) [] [] f fd) :
    FnOk P w K mg base (L2.CX P w) 1 f fd P__law_lowest (SpF K w mg f__law_lowest) :=
  okD (k := 0) F sc__law_lowest fun cdv A outer s H E hr => by
    have tk := takes_of (X := cxOf (L2.CX P w) P w K mg base N__law_lowest "_law_lowest" (defScope s__law_lowest) f cdv A outer s H E) rfl rfl rfl rfl
    exact
 (rscons (rsset (i := 2) sc__law_lowest.nd (se (rcb call_abs ok_abs m_abs (racons (rv 0) ranil))))
 (rscons (rsset (i := 3) sc__law_lowest.nd (se (rv 1)))
 (rscons (rsfor (rirange1 m_range rint) (rgn 4 sc__law_lowest.nd)
 (rsone (rsif (st (rtcmp (okO_ne hr) ok_ne (rv 3) rint))
 (rscons (rsset (i := 5) sc__law_lowest.nd (se (rmod (rct call_int1 ok_int m_int (racons (rv 2) ranil)) (rv 3))))
 (rscons (rsset (i := 2) sc__law_lowest.nd (se (rv 3)))
 (rsone (rsset (i := 3) sc__law_lowest.nd (se (rv 5))))))
 rsnil)) (passes_of rfl))
 (rsone (rsret (se (rtup (racons (rdiv (rv 0) (rv 2)) (racons (rdiv (rv 1) (rv 2)) ranil)))))))))
theorem ok__law_grain (h__law_lowest : Cal P w K mg base 1 "_law_lowest" f__law_lowest) {f : Addr} {fd : FuncData} (F : FunD K "_law_grain" "_law_grain" (defArgs s__law_grain) (defBody s__law_grain) (defScope s__law_grain) [] [] f fd) :
    FnOk P w K mg base (L2.CX P w) 2 f fd P__law_grain (SpF K w mg f__law_grain) :=
  okD (k := 1) F sc__law_grain fun cdv A outer s H E hr => by
    have tk := takes_of (X := cxOf (L2.CX P w) P w K mg base N__law_grain "_law_grain" (defScope s__law_grain) f cdv A outer s H E) rfl rfl rfl rfl
    exact
 (rscons (rsif (st (rtcmp (okO_eq hr) ok_eq (rv 0) rint))
 (rsone (rsret (se (rtup (racons rint (racons rint ranil))))))
 rsnil)
 (rsone (rsret (se (rrev (rc h__law_lowest hr tk (racons (rv 1) (racons (rv 0) ranil))))))))
theorem ok__law_line  {f : Addr} {fd : FuncData} (F : FunD K "_law_line" "_law_line" (defArgs s__law_line) (defBody s__law_line) (defScope s__law_line) [] [] f fd) :
    FnOk P w K mg base (L2.CX P w) 1 f fd P__law_line (SpF K w mg f__law_line) :=
  okD (k := 0) F sc__law_line fun cdv A outer s H E hr => by
    have tk := takes_of (X := cxOf (L2.CX P w) P w K mg base N__law_line "_law_line" (defScope s__law_line) f cdv A outer s H E) rfl rfl rfl rfl
    exact
 (rscons (rsif (st (rtcmp (okO_eq hr) ok_eq (rmod (rv 1) rint) rint))
 (rsone (rsret (se (rtup (racons (rixs (rv 0) rint) (racons (rixs (rv 0) (radd rint (rmod (rdiv (rv 1) rint) rint))) ranil))))))
 rsnil)
 (rsone (rsret (se (rtup (racons (rixs (rv 0) rint) (racons (rixs (rv 0) (rmod (rdiv (rv 1) rint) rint)) ranil)))))))
theorem ok__law_piece (h__law_lowest : Cal P w K mg base 1 "_law_lowest" f__law_lowest) {f : Addr} {fd : FuncData} (F : FunD K "_law_piece" "_law_piece" (defArgs s__law_piece) (defBody s__law_piece) (defScope s__law_piece) [] [] f fd) :
    FnOk P w K mg base (L2.CX P w) 2 f fd P__law_piece (SpF K w mg f__law_piece) :=
  okD (k := 1) F sc__law_piece fun cdv A outer s H E hr => by
    have tk := takes_of (X := cxOf (L2.CX P w) P w K mg base N__law_piece "_law_piece" (defScope s__law_piece) f cdv A outer s H E) rfl rfl rfl rfl
    exact
 (rscons (rsset (i := 2) sc__law_piece.nd (se (rc h__law_lowest hr tk (racons (rsub (rmod (rixs (rv 0) rint) rint) rint) (racons (radd rint (rmod (rixs (rv 0) rint) rint)) ranil)))))
 (rscons (rsset (i := 3) sc__law_piece.nd (se (rc h__law_lowest hr tk (racons (rsub (rmod (rixs (rv 0) rint) rint) rint) (racons (radd rint (rmod (rixs (rv 0) rint) rint)) ranil)))))
 (rscons (rsset (i := 4) sc__law_piece.nd (se (rc h__law_lowest hr tk (racons (radd (rixs (rv 2) rint) (rmul (radd rint (rmod (rixs (rv 0) rint) rint)) (rixs (rv 2) rint))) (racons (rixs (rv 2) rint) ranil)))))
 (rscons (rsset (i := 5) sc__law_piece.nd (se (rc h__law_lowest hr tk (racons (radd (rixs (rv 3) rint) (rmul (radd rint (rmod (rixs (rv 0) rint) rint)) (rixs (rv 3) rint))) (racons (rixs (rv 3) rint) ranil)))))
 (rscons (rsif (st (rtw (rwor (rtcmp (okO_eq hr) ok_eq (rmod (rixs (rv 0) rint) rint) rint) (rwo1 (rtcmp (okO_lt hr) ok_lt (rv 1) rint)))))
 (rsone (rsret (se (rtup (racons (rtup (racons (rv 2) (racons (rv 3) ranil))) (racons (rtup (racons (rv 4) (racons (rv 3) ranil))) (racons (rtup (racons (rv 2) (racons (rv 5) ranil))) ranil)))))))
 rsnil)
 (rsone (rsret (se (rtup (racons (rtup (racons (rv 2) (racons (rv 3) ranil))) (racons (rtup (racons (rv 4) (racons (rv 3) ranil))) (racons (rtup (racons (rv 4) (racons (rv 5) ranil))) (racons (rtup (racons (rv 2) (racons (rv 5) ranil))) ranil)))))))))))))
theorem ok__law_shape_row (h__law_grain : Cal P w K mg base 2 "_law_grain" f__law_grain) (h__law_line : Cal P w K mg base 1 "_law_line" f__law_line) (h__law_lowest : Cal P w K mg base 1 "_law_lowest" f__law_lowest) (h__law_piece : Cal P w K mg base 2 "_law_piece" f__law_piece) (m_range : mg "range" = none) (m_sorted : mg "sorted" = none) (m_tuple : mg "tuple" = none) {f : Addr} {fd : FuncData} (F : FunD K "_law_shape_row" "_law_shape_row" (defArgs s__law_shape_row) (defBody s__law_shape_row) (defScope s__law_shape_row) [] [] f fd) :
    FnOk P w K mg base (L2.CX P w) 3 f fd P__law_shape_row (SpF K w mg f__law_shape_row) :=
  okD (k := 2) F sc__law_shape_row fun cdv A outer s H E hr => by
    have tk := takes_of (X := cxOf (L2.CX P w) P w K mg base N__law_shape_row "_law_shape_row" (defScope s__law_shape_row) f cdv A outer s H E) rfl rfl rfl rfl
    exact
 (rscons (rsset (i := 4) sc__law_shape_row.nd (se (rmod (rixs (rv 3) rint) rint)))
 (rscons (rsset (i := 5) sc__law_shape_row.nd (se (rc h__law_lowest hr tk (racons (rmod (rixs (rv 3) rint) rint) (racons rint ranil)))))
 (rscons (rsset (i := 6) sc__law_shape_row.nd (se (rc h__law_lowest hr tk (racons (radd rint (rmod (rixs (rv 3) rint) rint)) (racons (radd rint (rmod (rixs (rv 3) rint) rint)) ranil)))))
 (rscons (rsif (st (rtcmp (okO_eq hr) ok_eq (rv 0) rstr))
 (rscons (rsset (i := 7) sc__law_shape_row.nd (se (rc h__law_grain hr tk (racons (rmod (rixs (rv 3) rint) rint) (racons (rsub (rmod (rixs (rv 3) rint) rint) rint) ranil)))))
 (rsone (rsret (se (rtup (racons (rv 0) (racons (rv 1) (racons (rixs (rv 2) rint) (racons (rc h__law_piece hr tk (racons (rv 3) (racons rint ranil))) (racons (rv 7) (racons (rixs (rlst (racons rstr (racons rstr ranil))) (rmod (rixs (rv 3) rint) rint)) ranil)))))))))))
 rsnil)
 (rscons (rsif (st (rtcmp (okO_eq hr) ok_eq (rv 0) rstr))
 (rsone (rsret (se (rtup (racons (rv 0) (racons (rv 1) (racons (rc h__law_line hr tk (racons (rc h__law_piece hr tk (racons (rv 3) (racons rint ranil))) (racons (rixs (rv 3) rint) ranil))) ranil)))))))
 rsnil)
 (rscons (rsif (st (rtcmp (okO_eq hr) ok_eq (rv 0) rstr))
 (rsone (rsret (se (rtup (racons (rv 0) (racons (rv 1) (racons (rixs (rv 2) rint) (racons (rmod (rixs (rv 3) rint) rint) (racons (radd rint (rmod (rixs (rv 3) rint) rint)) (racons (rmod (rixs (rv 3) rint) rint) ranil))))))))))
 rsnil)
 (rscons (rsif (st (rtcmp (okO_eq hr) ok_eq (rv 0) rstr))
 (rsone (rsret (se (rtup (racons (rv 0) (racons (rv 1) (racons (rixs (rv 2) rint) (racons (rixs (rv 2) rint) (racons (rixs (rv 2) rint) (racons (rv 4) ranil))))))))))
 rsnil)
 (rscons (rsif (st (rtcmp (okO_eq hr) ok_eq (rv 0) rstr))
 (rsone (rsret (se (rtup (racons (rv 0) (racons (rv 1) (racons (rct call_tuple_of ok_tuple m_tuple (racons (rcb okO_sorted ok_sorted m_sorted (racons (rsl (rv 2) rpnone (rpsome (radd rint (rmod (rixs (rv 3) rint) rint)))) ranil)) ranil)) ranil)))))))
 rsnil)
 (rscons (rsif (st (rtcmp (okO_eq hr) ok_eq (rv 0) rstr))
 (rscons (rsset (i := 8) sc__law_shape_row.nd (se (rc h__law_piece hr tk (racons (rv 3) (racons rint ranil)))))
 (rscons (rsset (i := 9) sc__law_shape_row.nd (se (rmod (rixs (rv 3) rint) rint)))
 (rscons (rsset (i := 10) sc__law_shape_row.nd (se (rlst (racons (rv 6) (racons (rc h__law_lowest hr tk (racons (rmul rint (rixs (rv 6) rint)) (racons (rixs (rv 6) rint) ranil))) (racons (rc h__law_lowest hr tk (racons (rmul rint (rixs (rv 6) rint)) (racons (rixs (rv 6) rint) ranil))) ranil))))))
 (rscons (rsset (i := 11) sc__law_shape_row.nd (se (rtup (racons (rv 0) (racons (rv 1) (racons (rv 8) (racons (rv 9) (racons (rmod (radd (radd (rv 9) rint) (rmod (rixs (rv 3) rint) rint)) rint) (racons (rixs (rv 2) rint) (racons (rixs (rv 2) rint) (racons (rct call_tuple_of ok_tuple m_tuple (racons (rsl (rv 10) rpnone (rpsome (radd rint (rmod (rixs (rv 3) rint) rint)))) ranil)) ranil)))))))))))
 (rsone (rsret (se (radd (rv 11) (rtup (racons (rct call_tuple_of ok_tuple m_tuple (racons (rsl (rv 2) (rpsome rint) (rpsome (radd rint (rmod (rixs (rv 3) rint) rint)))) ranil)) (racons (rct call_tuple_of ok_tuple m_tuple (racons (rsl (rv 2) rpnone (rpsome (rmod (rixs (rv 3) rint) rint))) ranil)) ranil)))))))))))
 rsnil)
 (rscons (rsif (st (rtcmp (okO_eq hr) ok_eq (rv 0) rstr))
 (rsone (rsret (se (rtup (racons (rv 0) (racons (rv 1) (racons (rct call_tuple_of ok_tuple m_tuple (racons (rfz (rlc (Lc.mk (own := [("k", 12)]) (rirange1 m_range (radd rint (rmod (rixs (rv 3) rint) rint))) (blkOk_by (N := N__law_shape_row) (sc := defScope s__law_shape_row) (by decide +kernel)) (fun _ _ _ _ _ => (rgn 12 sc__law_shape_row.nd)) (fun _ _ _ _ _ => pts_yes) (fun _ _ _ _ _ => (rtup (racons (rmod (rixs (rv 3) (rv 12)) rint) (racons (radd (rmod (rixs (rv 3) (rv 12)) rint) (rmod (rixs (rv 3) (radd (rv 12) rint)) rint)) ranil)))) (by decide)) sc__law_shape_row.nd)) ranil)) ranil)))))))
 rsnil)
 (rscons (rsif (st (rtcmp (okO_eq hr) ok_eq (rv 0) rstr))
 (rsone (rsret (se (rtup (racons (rv 0) (racons (rv 1) (racons (rixs (rv 2) rint) (racons (rixs (rv 2) rint) (racons (rixs (rv 2) rint) (racons (rv 5) ranil))))))))))
 rsnil)
 (rsone (rsret (se (rtup (racons (rv 0) (racons (rv 1) (racons (rtup (racons (rsub (rmod (rixs (rv 3) rint) rint) rint) (racons (radd rint (rmod (rixs (rv 3) rint) rint)) ranil))) (racons (rmod (rixs (rv 3) rint) rint) ranil)))))))))))))))))))
theorem ok__law_row (h__law_lowest : Cal P w K mg base 1 "_law_lowest" f__law_lowest) (h__law_shape_row : Cal P w K mg base 3 "_law_shape_row" f__law_shape_row) (m_min : mg "min" = none) (m_sorted : mg "sorted" = none) (m_tuple : mg "tuple" = none) {f : Addr} {fd : FuncData} (F : FunD K "_law_row" "_law_row" (defArgs s__law_row) (defBody s__law_row) (defScope s__law_row) [] [] f fd) :
    FnOk P w K mg base (L2.CX P w) 4 f fd P__law_row (SpF K w mg f__law_row) :=
  okD (k := 3) F sc__law_row fun cdv A outer s H E hr => by
    have tk := takes_of (X := cxOf (L2.CX P w) P w K mg base N__law_row "_law_row" (defScope s__law_row) f cdv A outer s H E) rfl rfl rfl rfl
    exact
 (rscons (rsset (i := 4) sc__law_row.nd (se (rmod (rixs (rv 3) rint) rint)))
 (rscons (rsset (i := 5) sc__law_row.nd (se (rmod (rixs (rv 3) rint) rint)))
 (rscons (rsset (i := 6) sc__law_row.nd (se (rc h__law_lowest hr tk (racons (radd rint (rmod (rixs (rv 3) rint) rint)) (racons (radd rint (rmod (rixs (rv 3) rint) rint)) ranil)))))
 (rscons (rsif (st (rtcmp (okO_eq hr) ok_eq (rv 0) rstr))
 (rsone (rsret (se (rtup (racons (rv 0) (racons (rv 1) (racons (rixs (rv 2) rint) (racons (rv 6) (racons (rmod (rixs (rv 3) rint) rint) (racons (rc h__law_lowest hr tk (racons (rmul (rixs (rv 6) rint) (rmod (rixs (rv 3) rint) rint)) (racons (rmul (rixs (rv 6) rint) rint) ranil))) ranil))))))))))
 rsnil)
 (rscons (rsif (st (rtcmp (okO_eq hr) ok_eq (rv 0) rstr))
 (rsone (rsret (se (rtup (racons (rv 0) (racons (rv 1) (racons (rixs (rv 2) rint) (racons (rixs (rv 2) rint) (racons (rv 6) (racons (rv 4) ranil))))))))))
 rsnil)
 (rscons (rsif (st (rtcmp (okO_eq hr) ok_eq (rv 0) rstr))
 (rscons (rsset (i := 7) sc__law_row.nd (se (rc h__law_lowest hr tk (racons (rmod (rixs (rv 3) rint) rint) (racons (radd rint (rmod (rixs (rv 3) rint) rint)) ranil)))))
 (rscons (rsset (i := 8) sc__law_row.nd (se (rc h__law_lowest hr tk (racons (radd (rmul (rixs (rv 7) rint) (rixs (rv 6) rint)) (rmul (rmul (rixs (rv 6) rint) (rmod (rixs (rv 3) rint) rint)) (rixs (rv 7) rint))) (racons (rmul (rixs (rv 7) rint) (rixs (rv 6) rint)) ranil)))))
 (rscons (rsset (i := 9) sc__law_row.nd (se (rct call_tuple_of ok_tuple m_tuple (racons (rcb okO_sorted ok_sorted m_sorted (racons (rsl (rv 2) rpnone (rpsome (rmod (rixs (rv 3) rint) rint))) ranil)) ranil))))
 (rsone (rsret (se (rtup (racons (rv 0) (racons (rv 1) (racons (rv 7) (racons (rv 8) (racons (radd rint (rmod (rixs (rv 3) rint) rint)) (racons (rv 9) (racons (rct call_tuple_of ok_tuple m_tuple (racons (rsl (rv 2) (rpsome (rmod (rixs (rv 3) rint) rint)) rpnone) ranil)) ranil))))))))))))))
 rsnil)
 (rscons (rsif (st (rtcmp (okO_eq hr) ok_eq (rv 0) rstr))
 (rscons (rsset (i := 10) sc__law_row.nd (se (radd rint (rmod (rixs (rv 3) rint) rint))))
 (rscons (rsset (i := 11) sc__law_row.nd (se (radd rint (rmod (rixs (rv 3) rint) rint))))
 (rsone (rsret (se (rtup (racons (rv 0) (racons (rv 1) (racons (rv 10) (racons (rv 11) (racons (rmod (rixs (rv 3) rint) (radd (rcb (call_min2 rfl) ok_min2 m_min (racons (rv 10) (racons (rv 11) ranil))) rint)) (racons (radd rint (rmod (rixs (rv 3) rint) rint)) (racons (rmod (rixs (rv 3) rint) rint) ranil)))))))))))))
 rsnil)
 (rscons (rsif (st (rtcmp (okO_eq hr) ok_eq (rv 0) rstr))
 (rsone (rsret (se (rtup (racons (rv 0) (racons (rv 1) (racons (rixs (rv 2) rint) (racons (rv 4) (racons (rmod (rixs (rv 3) rint) rint) (racons (rct call_tuple_of ok_tuple m_tuple (racons (rsl (rv 2) (rpsome rint) (rpsome (radd rint (rmod (rixs (rv 3) rint) rint)))) ranil)) ranil))))))))))
 rsnil)
 (rscons (rsif (st (rtcmp (okO_eq hr) ok_eq (rv 0) rstr))
 (rsone (rsret (se (rtup (racons (rv 0) (racons (rv 1) (racons (rixs (rv 2) rint) (racons (rixs (rv 2) rint) (racons (rixs (rv 2) rint) (racons (rixs (rlst (racons rstr (racons rstr ranil))) (rmod (rixs (rv 3) rint) rint)) (racons (rv 4) (racons (rmod (rixs (rv 3) rint) rint) ranil))))))))))))
 rsnil)
 (rscons (rsif (st (rtw (rwor (rtcmp (okO_eq hr) ok_eq (rv 0) rstr) (rwo1 (rtcmp (okO_eq hr) ok_eq (rv 0) rstr)))))
 (rsone (rsret (se (rtup (racons (rv 0) (racons (rv 1) (racons (rv 5) (racons (rmod (rixs (rv 3) rint) rint) ranil))))))))
 rsnil)
 (rscons (rsif (st (rtcmp (okO_eq hr) ok_eq (rv 0) rstr))
 (rsone (rsret (se (rtup (racons (rv 0) (racons (rv 1) ranil))))))
 rsnil)
 (rscons (rsif (st (rtcmp (okO_eq hr) ok_eq (rv 0) rstr))
 (rsone (rsret (se (rtup (racons (rv 0) (racons (rv 1) (racons (rc h__law_lowest hr tk (racons (rmod (rixs (rv 3) rint) rint) (racons (radd rint (rmod (rixs (rv 3) rint) rint)) ranil))) ranil)))))))
 rsnil)
 (rscons (rsif (st (rtcmp (okO_eq hr) ok_eq (rv 0) rstr))
 (rscons (rsset (i := 12) sc__law_row.nd (se (rixs (rlst (racons rstr (racons rstr ranil))) (rmod (rixs (rv 3) rint) rint))))
 (rsone (rsret (se (rtup (racons (rv 0) (racons (rv 1) (racons (rv 4) (racons (rv 12) (racons (rixs (rv 2) rint) (racons (rixs (rv 2) rint) (racons (rv 5) (racons (rmod (rixs (rv 3) rint) rint) (racons (rmod (rixs (rv 3) rint) rint) (racons (rixs (rv 2) rint) ranil)))))))))))))))
 rsnil)
 (rsone (rsret (se (rc h__law_shape_row hr tk (racons (rv 0) (racons (rv 1) (racons (rv 2) (racons (rv 3) ranil)))))))))))))))))))))
theorem ok__law_book (h__law_kinds : Cal P w K mg base 1 "_law_kinds" f__law_kinds) (h__law_placed : Cal P w K mg base 2 "_law_placed" f__law_placed) (h__law_row : Cal P w K mg base 4 "_law_row" f__law_row) (m_len : mg "len" = none) (m_range : mg "range" = none) {f : Addr} {fd : FuncData} (F : FunD K "_law_book" "_law_book" (defArgs s__law_book) (defBody s__law_book) (defScope s__law_book) [] [] f fd) :
    FnOk P w K mg base (L2.CX P w) 5 f fd P__law_book (SpF K w mg f__law_book) :=
  okD (k := 4) F sc__law_book fun cdv A outer s H E hr => by
    have tk := takes_of (X := cxOf (L2.CX P w) P w K mg base N__law_book "_law_book" (defScope s__law_book) f cdv A outer s H E) rfl rfl rfl rfl
    exact
 (rscons (rsset (i := 5) sc__law_book.nd (se (rlst ranil)))
 (rscons (rsset (i := 6) sc__law_book.nd (se (rc0 h__law_kinds hr tk)))
 (rscons (rsfor (rirange1 m_range (rv 2)) (rgn 7 sc__law_book.nd)
 (rscons (rslaylc (i := 8) (Lc.mk (own := [("j", 10)]) (rirange1 m_range rint) (blkOk_by (N := N__law_book) (sc := defScope s__law_book) (by decide +kernel)) (fun _ _ _ _ _ => (rgn 10 sc__law_book.nd)) (fun _ _ _ _ _ => pts_yes) (fun _ _ _ _ _ => (rixs (rv 0) (rmod (radd (radd (rv 1) (rmul rint (rv 7))) (rv 10)) (rcb okO_len ok_len m_len (racons (rv 0) ranil))))) (by decide)) sc__law_book.nd)
 (rscons (rsset (i := 9) sc__law_book.nd (se (rixs (rv 6) (rmod (rixs (rv 4) (rmod (rixs (rv 8) rint) (rcb okO_len ok_len m_len (racons (rv 4) ranil)))) rint))))
 (rsone (rsset (i := 5) sc__law_book.nd (se (rc h__law_placed hr tk (racons (rv 5) (racons (rc h__law_row hr tk (racons (rv 9) (racons (rixs (rv 3) (rmod (rixs (rv 8) rint) (rcb okO_len ok_len m_len (racons (rv 3) ranil)))) (racons (rv 3) (racons (radd (rsl (rv 8) (rpsome rint) rpnone) (rsl (rv 8) rpnone (rpsome rint))) ranil))))) ranil)))))))) (passes_of rfl))
 (rsone (rsret (se (rv 5)))))))
theorem ok__law_crowd (h__law_placed : Cal P w K mg base 2 "_law_placed" f__law_placed) (m_range : mg "range" = none) {f : Addr} {fd : FuncData} (F : FunD K "_law_crowd" "_law_crowd" (defArgs s__law_crowd) (defBody s__law_crowd) (defScope s__law_crowd) [] [] f fd) :
    FnOk P w K mg base (L2.CX P w) 3 f fd P__law_crowd (SpF K w mg f__law_crowd) :=
  okD (k := 2) F sc__law_crowd fun cdv A outer s H E hr => by
    have tk := takes_of (X := cxOf (L2.CX P w) P w K mg base N__law_crowd "_law_crowd" (defScope s__law_crowd) f cdv A outer s H E) rfl rfl rfl rfl
    exact
 (rscons (rsfor (rirange1 m_range (rv 2)) (rgn 3 sc__law_crowd.nd)
 (rsone (rsset (i := 0) sc__law_crowd.nd (se (rc h__law_placed hr tk (racons (rv 0) (racons (rtup (racons rstr (racons (rixs rstr (radd (rv 1) (rv 3))) (racons (rtup (racons rint (racons rint ranil))) (racons rint ranil))))) ranil)))))) (passes_of rfl))
 (rsone (rsret (se (rv 0)))))
theorem ok__law_hand (h__law_placed : Cal P w K mg base 2 "_law_placed" f__law_placed) (h__law_row : Cal P w K mg base 4 "_law_row" f__law_row) (m_len : mg "len" = none) (m_list : mg "list" = none) (m_range : mg "range" = none) {f : Addr} {fd : FuncData} (F : FunD K "_law_hand" "_law_hand" (defArgs s__law_hand) (defBody s__law_hand) (defScope s__law_hand) [] [] f fd) :
    FnOk P w K mg base (L2.CX P w) 5 f fd P__law_hand (SpF K w mg f__law_hand) :=
  okD (k := 4) F sc__law_hand fun cdv A outer s H E hr => by
    have tk := takes_of (X := cxOf (L2.CX P w) P w K mg base N__law_hand "_law_hand" (defScope s__law_hand) f cdv A outer s H E) rfl rfl rfl rfl
    exact
 (rscons (rsset (i := 4) sc__law_hand.nd (se (rct call_list_of ok_list m_list (racons (rv 0) ranil))))
 (rscons (rsset (i := 5) sc__law_hand.nd (se (rlst (racons rstr (racons rstr (racons rstr (racons rstr ranil)))))))
 (rscons (rsfor (rirange1 m_range (rmod (rixs (rv 2) (rmod (rv 3) (rcb okO_len ok_len m_len (racons (rv 2) ranil)))) rint)) (rgn 6 sc__law_hand.nd)
 (rscons (rslaylc (i := 7) (Lc.mk (own := [("j", 10)]) (rirange1 m_range rint) (blkOk_by (N := N__law_hand) (sc := defScope s__law_hand) (by decide +kernel)) (fun _ _ _ _ _ => (rgn 10 sc__law_hand.nd)) (fun _ _ _ _ _ => pts_yes) (fun _ _ _ _ _ => (rixs (rv 2) (rmod (radd (radd (radd (rv 3) rint) (rmul rint (rv 6))) (rv 10)) (rcb okO_len ok_len m_len (racons (rv 2) ranil))))) (by decide)) sc__law_hand.nd)
 (rscons (rsset (i := 8) sc__law_hand.nd (se (rixs (rv 1) (rmod (rixs (rv 7) rint) rint))))
 (rscons (rsset (i := 9) sc__law_hand.nd (se (rixs (rv 5) (rmod (rixs (rv 7) rint) rint))))
 (rsone (rsif (st (rtcmp (okO_eq hr) ok_eq (rmod (rixs (rv 7) rint) rint) rint))
 (rsone (rslaylc (i := 4) (Lc.mk (own := [("row", 11)]) (riseq (rv 4)) (blkOk_by (N := N__law_hand) (sc := defScope s__law_hand) (by decide +kernel)) (fun _ _ _ _ _ => (rgn 11 sc__law_hand.nd)) (fun _ _ _ _ _ => (pts_if (rtw (rwor (rtcmp (okO_ne hr) ok_ne (rixs (rv 11) rint) (rv 9)) (rwo1 (rtcmp (okO_ne hr) ok_ne (rixs (rv 11) rint) (rv 8))))))) (fun _ _ _ _ _ => (rv 11)) (by decide)) sc__law_hand.nd))
 (rsone (rsset (i := 4) sc__law_hand.nd (se (rc h__law_placed hr tk (racons (rv 4) (racons (rc h__law_row hr tk (racons (rv 9) (racons (rv 8) (racons (rv 1) (racons (rmul (rlst (racons (rmod (rixs (rv 7) rint) rint) ranil)) rint) ranil))))) ranil))))))))))) (passes_of rfl))
 (rsone (rsret (se (rv 4)))))))
theorem ok__law_version  {f : Addr} {fd : FuncData} (F : FunD K "_law_version" "_law_version" (defArgs s__law_version) (defBody s__law_version) (defScope s__law_version) [] [] f fd) :
    FnOk P w K mg base (L2.CX P w) 1 f fd P__law_version (SpF K w mg f__law_version) :=
  okD (k := 0) F sc__law_version fun cdv A outer s H E hr => by
    have tk := takes_of (X := cxOf (L2.CX P w) P w K mg base N__law_version "_law_version" (defScope s__law_version) f cdv A outer s H E) rfl rfl rfl rfl
    exact
 (rscons (rsfor (riseq (rv 0)) (rgn 2 sc__law_version.nd)
 (rsone (rsif (st (rtw (rwand (rtcmp (okO_eq hr) ok_eq (rixs (rv 2) rint) (rixs (rv 1) rint)) (rw1 (rtcmp (okO_eq hr) ok_eq (rixs (rv 2) rint) (rixs (rv 1) rint))))))
 (rsone (rsret (se (rv 2))))
 rsnil)) (passes_of rfl))
 (rsone (rsret (se rnone))))
theorem ok__law_changes (h__law_version : Cal P w K mg base 1 "_law_version" f__law_version) (m_len : mg "len" = none) (m_range : mg "range" = none) {f : Addr} {fd : FuncData} (F : FunD K "_law_changes" "_law_changes" (defArgs s__law_changes) (defBody s__law_changes) (defScope s__law_changes) [] [] f fd) :
    FnOk P w K mg base (L2.CX P w) 2 f fd P__law_changes (SpF K w mg f__law_changes) :=
  okD (k := 1) F sc__law_changes fun cdv A outer s H E hr => by
    have tk := takes_of (X := cxOf (L2.CX P w) P w K mg base N__law_changes "_law_changes" (defScope s__law_changes) f cdv A outer s H E) rfl rfl rfl rfl
    exact
 (rscons (rsset (i := 3) sc__law_changes.nd (se (rc h__law_version hr tk (racons (rv 0) (racons (rv 2) ranil)))))
 (rscons (rsset (i := 4) sc__law_changes.nd (se (rfz (rlc (Lc.mk (own := [("rows", 5)]) (riseq (rv 1)) (blkOk_by (N := N__law_changes) (sc := defScope s__law_changes) (by decide +kernel)) (fun _ _ _ _ _ => (rgn 5 sc__law_changes.nd)) (fun _ _ _ _ _ => pts_yes) (fun _ _ _ _ _ => (rc h__law_version hr tk0 (racons (rv 5) (racons (rv 2) ranil)))) (by decide)) sc__law_changes.nd))))
 (rsone (rsret (se (rfz (rlc (Lc.mk (own := [("k", 6)]) (rirange1 m_range (rcb okO_len ok_len m_len (racons (rv 1) ranil))) (blkOk_by (N := N__law_changes) (sc := defScope s__law_changes) (by decide +kernel)) (fun _ _ _ _ _ => (rgn 6 sc__law_changes.nd)) (fun _ _ _ _ _ => (pts_if (rtcmp (okO_ne hr) ok_ne (rixs (rv 4) (rv 6)) (rv 3)))) (fun _ _ _ _ _ => (rtup (racons (rv 6) (racons (rixs (rv 4) (rv 6)) ranil)))) (by decide)) sc__law_changes.nd)))))))
theorem ok__law_keys (m_sorted : mg "sorted" = none) {f : Addr} {fd : FuncData} (F : FunD K "_law_keys" "_law_keys" (defArgs s__law_keys) (defBody s__law_keys) (defScope s__law_keys) [] [] f fd) :
    FnOk P w K mg base (L2.CX P w) 1 f fd P__law_keys (SpF K w mg f__law_keys) :=
  okD (k := 0) F sc__law_keys fun cdv A outer s H E hr => by
    have tk := takes_of (X := cxOf (L2.CX P w) P w K mg base N__law_keys "_law_keys" (defScope s__law_keys) f cdv A outer s H E) rfl rfl rfl rfl
    exact
 (rscons (rsown (i := 1) sc__law_keys.nd (sf (rflst ranil)))
 (rscons (rsfor (riseq (rv 0)) (rgn 2 sc__law_keys.nd)
 (rsone (rsfor (riseq (rv 2)) (rgn 3 sc__law_keys.nd)
 (rsone (rsif (stb (rtcmp (opo_notin hr) ok_notin (rtup (racons (rixs (rv 3) rint) (racons (rixs (rv 3) rint) ranil))) (rv 1)))
 (rsone (rsapp (i := 1) (se (rtup (racons (rixs (rv 3) rint) (racons (rixs (rv 3) rint) ranil))))))
 rsnil)) (passes_of rfl))) (passes_of rfl))
 (rsone (rsfrz 1 (rsret (se (rcb (cr_sortPr hr) ok_sortP m_sorted (racons (rv 1) ranil))))))))
theorem ok__law_merged (h__law_changes : Cal P w K mg base 2 "_law_changes" f__law_changes) (h__law_keys : Cal P w K mg base 1 "_law_keys" f__law_keys) (h__law_kinds : Cal P w K mg base 1 "_law_kinds" f__law_kinds) (h__law_version : Cal P w K mg base 1 "_law_version" f__law_version) (m_len : mg "len" = none) (m_tuple : mg "tuple" = none) {f : Addr} {fd : FuncData} (F : FunD K "_law_merged" "_law_merged" (defArgs s__law_merged) (defBody s__law_merged) (defScope s__law_merged) [] [] f fd) :
    FnOk P w K mg base (L2.CX P w) 3 f fd P__law_merged (SpF K w mg f__law_merged) :=
  okD (k := 2) F sc__law_merged fun cdv A outer s H E hr => by
    have tk := takes_of (X := cxOf (L2.CX P w) P w K mg base N__law_merged "_law_merged" (defScope s__law_merged) f cdv A outer s H E) rfl rfl rfl rfl
    exact
 (rscons (rsown (i := 2) sc__law_merged.nd (sf (rflst ranil)))
 (rscons (rsown (i := 3) sc__law_merged.nd (sf (rflst ranil)))
 (rscons (rsown (i := 4) sc__law_merged.nd (sf (rflst ranil)))
 (rscons (rsfor (riseq (rc h__law_keys hr tk (racons (radd (rlst (racons (rv 0) ranil)) (rv 1)) ranil))) (rgn 5 sc__law_merged.nd)
 (rscons (rsset (i := 6) sc__law_merged.nd (se (rc h__law_changes hr tk (racons (rv 0) (racons (rv 1) (racons (rv 5) ranil))))))
 (rscons (rsset (i := 7) sc__law_merged.nd (se (rc h__law_version hr tk (racons (rv 0) (racons (rv 5) ranil)))))
 (rscons (rsif (st (rtcmp (op_gt) (ok_cmp _) (rcb okO_len ok_len m_len (racons (rv 6) ranil)) rint))
 (rsone (rsset (i := 7) sc__law_merged.nd (se (rixs (rixs (rv 6) rint) rint))))
 rsnil)
 (rscons (rsif (st (rtcmp (op_gt) (ok_cmp _) (rcb okO_len ok_len m_len (racons (rfz (rlc (Lc.mk (own := [("change", 9)]) (riseq (rv 6)) (blkOk_by (N := N__law_merged) (sc := defScope s__law_merged) (by decide +kernel)) (fun _ _ _ _ _ => (rgn 9 sc__law_merged.nd)) (fun _ _ _ _ _ => (pts_if (rtcmp (okO_ne hr) ok_ne (rixs (rv 9) rint) (rv 7)))) (fun _ _ _ _ _ => (rv 9)) (by decide)) sc__law_merged.nd)) ranil)) rint))
 (rsone (rsapp (i := 2) (se (radd (rv 5) (rtup (racons (rct call_tuple_of ok_tuple m_tuple (racons (rv 6) ranil)) ranil))))))
 rsnil)
 (rsone (rsif (st (rtcmp (okO_isnot) ok_isnot (rv 7) rnone))
 (rscons (rsapp (i := 3) (se (rv 7)))
 (rsone (rsapp (i := 4) (se (rct call_tuple_of ok_tuple m_tuple (racons (rfz (rlc (Lc.mk (own := [("change", 9)]) (riseq (rv 6)) (blkOk_by (N := N__law_merged) (sc := defScope s__law_merged) (by decide +kernel)) (fun _ _ _ _ _ => (rgn 9 sc__law_merged.nd)) (fun _ _ _ _ _ => pts_yes) (fun _ _ _ _ _ => (rixs (rv 9) rint)) (by decide)) sc__law_merged.nd)) ranil))))))
 rsnil)))))) (passes_of rfl))
 (rscons (rslaylcb (i := 8) (Lc.mk (own := [("kind", 10)]) (riseq (rc0 h__law_kinds hr tk)) (blkOk_by (N := N__law_merged) (sc := defScope s__law_merged) (by decide +kernel)) (fun _ _ _ _ _ => (rgn 10 sc__law_merged.nd)) (fun _ _ _ _ _ => (pts_if (rtcmp (op_gt) (ok_cmp _) (rcb okO_len ok_len m_len (racons (rfz (rlc (Lc.mk (own := [("row", 7)]) (riseq (rv 3)) (blkOk_by (N := N__law_merged) (sc := relS _ (defScope s__law_merged)) (by decide +kernel)) (fun _ _ _ _ _ => (rgn 7 sc__law_merged.nd)) (fun _ _ _ _ _ => (pts_if (rtcmp (okO_eq hr) ok_eq (rixs (rv 7) rint) (rv 10)))) (fun _ _ _ _ _ => (rv 7)) (by decide)) sc__law_merged.nd)) ranil)) rint))) (fun _ _ _ _ _ => (rv 10)) (by decide)) sc__law_merged.nd)
 (rscons (rsif (stb (rtcmp (op_gt) (ok_cmp _) (rcb okO_len ok_len m_len (racons (rv 2) ranil)) rint))
 (rsone (rsfrz 3 (rsfrz 2 (rsret (se (rtup (racons (rtup (racons rstr (racons (rct call_tuple_of ok_tuple m_tuple (racons (rv 2) ranil)) ranil))) (racons (rv 3) (racons (rv 8) ranil)))))))))
 rsnil)
 (rscons (rsif (st (rtcmp (op_gt) (ok_cmp _) (rcb okO_len ok_len m_len (racons (rv 8) ranil)) rint))
 (rsone (rsfrz 3 (rsret (se (rtup (racons (rtup (racons rstr (racons (rixs (rv 8) rint) ranil))) (racons (rv 3) (racons (rv 8) ranil))))))))
 rsnil)
 (rsone (rsfrz 3 (rsfrz 4 (rsret (se (rtup (racons (rtup (racons rstr (racons (rct call_tuple_of ok_tuple m_tuple (racons (rv 3) ranil)) (racons (rct call_tuple_of ok_tuple m_tuple (racons (rv 4) ranil)) ranil)))) (racons (rv 3) (racons (rv 8) ranil))))))))))))))))
theorem ok__law_moved (m_len : mg "len" = none) (m_range : mg "range" = none) (m_sorted : mg "sorted" = none) (m_tuple : mg "tuple" = none) {f : Addr} {fd : FuncData} (F : FunD K "_law_moved" "_law_moved" (defArgs s__law_moved) (defBody s__law_moved) (defScope s__law_moved) [] [] f fd) :
    FnOk P w K mg base (L2.CX P w) 1 f fd P__law_moved (SpF K w mg f__law_moved) :=
  okD (k := 0) F sc__law_moved fun cdv A outer s H E hr => by
    have tk := takes_of (X := cxOf (L2.CX P w) P w K mg base N__law_moved "_law_moved" (defScope s__law_moved) f cdv A outer s H E) rfl rfl rfl rfl
    exact
 (rscons (rsif (st (rtcmp (okO_eq hr) ok_eq (rixs (rv 0) rint) rstr))
 (rscons (rsown (i := 2) sc__law_moved.nd (sf (rflst ranil)))
 (rscons (rsfor (riseq (rixs (rv 0) rint)) (rgn 3 sc__law_moved.nd)
 (rsone (rsapp (i := 2) (se (rct call_tuple_of ok_tuple m_tuple (racons (rcb okO_sorted ok_sorted m_sorted (racons (rfz (rlc (Lc.mk (own := [("at", 4)]) (riseq (rv 3)) (blkOk_by (N := N__law_moved) (sc := defScope s__law_moved) (by decide +kernel)) (fun _ _ _ _ _ => (rgn 4 sc__law_moved.nd)) (fun _ _ _ _ _ => pts_yes) (fun _ _ _ _ _ => (rixs (rv 1) (rv 4))) (by decide)) sc__law_moved.nd)) ranil)) ranil))))) (passes_of rfl))
 (rsone (rsfrz 2 (rsret (se (rtup (racons rstr (racons (rixs (rv 0) rint) (racons (rct call_tuple_of ok_tuple m_tuple (racons (rv 2) ranil)) ranil))))))))))
 rsnil)
 (rscons (rsif (st (rtcmp (okO_eq hr) ok_eq (rixs (rv 0) rint) rstr))
 (rscons (rsown (i := 5) sc__law_moved.nd (sf (rflst ranil)))
 (rscons (rsfor (riseq (rixs (rv 0) rint)) (rgn 3 sc__law_moved.nd)
 (rscons (rsset (i := 6) sc__law_moved.nd (se (rlst ranil)))
 (rscons (rsfor (rirange1 m_range (radd (rcb okO_len ok_len m_len (racons (rv 1) ranil)) rint)) (rgn 4 sc__law_moved.nd)
 (rsone (rsset (i := 6) sc__law_moved.nd (se (radd (rv 6) (rfz (rlc (Lc.mk (own := [("pair", 7)]) (riseq (rixs (rv 3) rint)) (blkOk_by (N := N__law_moved) (sc := defScope s__law_moved) (by decide +kernel)) (fun _ _ _ _ _ => (rgn 7 sc__law_moved.nd)) (fun _ _ _ _ _ => (pts_if (rtcmp (okO_eq hr) ok_eq (rixs (rv 1) (rixs (rv 7) rint)) (rv 4)))) (fun _ _ _ _ _ => (rtup (racons (rv 4) (racons (rixs (rv 7) rint) ranil)))) (by decide)) sc__law_moved.nd)))))) (passes_of rfl))
 (rsone (rsapp (i := 5) (se (rtup (racons (rixs (rv 3) rint) (racons (rixs (rv 3) rint) (racons (rct call_tuple_of ok_tuple m_tuple (racons (rv 6) ranil)) ranil))))))))) (passes_of rfl))
 (rsone (rsfrz 5 (rsret (se (rtup (racons rstr (racons (rct call_tuple_of ok_tuple m_tuple (racons (rv 5) ranil)) ranil)))))))))
 rsnil)
 (rsone (rsret (se (rv 0))))))
theorem ok__law_name  {f : Addr} {fd : FuncData} (F : FunD K "_law_name" "_law_name" (defArgs s__law_name) (defBody s__law_name) (defScope s__law_name) [] [] f fd) :
    FnOk P w K mg base (L2.CX P w) 1 f fd P__law_name (SpF K w mg f__law_name) :=
  okD (k := 0) F sc__law_name fun cdv A outer s H E hr => by
    have tk := takes_of (X := cxOf (L2.CX P w) P w K mg base N__law_name "_law_name" (defScope s__law_name) f cdv A outer s H E) rfl rfl rfl rfl
    exact
 (rscons (rsset (i := 1) sc__law_name.nd (se rstr))
 (rsone (rsret (se (radd (rixs (rv 1) (rmod (rv 0) rint)) (rixs (rlst (racons rstr (racons rstr (racons rstr (racons rstr ranil))))) (rmod (rdiv (rv 0) rint) rint)))))))
theorem ok__law_names (h__law_name : Cal P w K mg base 1 "_law_name" f__law_name) (m_range : mg "range" = none) {f : Addr} {fd : FuncData} (F : FunD K "_law_names" "_law_names" (defArgs s__law_names) (defBody s__law_names) (defScope s__law_names) [] [] f fd) :
    FnOk P w K mg base (L2.CX P w) 2 f fd P__law_names (SpF K w mg f__law_names) :=
  okD (k := 1) F sc__law_names fun cdv A outer s H E hr => by
    have tk := takes_of (X := cxOf (L2.CX P w) P w K mg base N__law_names "_law_names" (defScope s__law_names) f cdv A outer s H E) rfl rfl rfl rfl
    exact
 (rsone (rsret (se (rfz (rlc (Lc.mk (own := [("k", 1)]) (rirange1 m_range rint) (blkOk_by (N := N__law_names) (sc := defScope s__law_names) (by decide +kernel)) (fun _ _ _ _ _ => (rgn 1 sc__law_names.nd)) (fun _ _ _ _ _ => pts_yes) (fun _ _ _ _ _ => (radd (rc h__law_name hr tk0 (racons (rixs (rv 0) (rv 1)) ranil)) (rixs rstr (rv 1)))) (by decide)) sc__law_names.nd)))))
theorem ok__law_numbers (m_int : mg "int" = none) (m_len : mg "len" = none) (m_range : mg "range" = none) {f : Addr} {fd : FuncData} (F : FunD K "_law_numbers" "_law_numbers" (defArgs s__law_numbers) (defBody s__law_numbers) (defScope s__law_numbers) [] [] f fd) :
    FnOk P w K mg base (L2.CX P w) 1 f fd P__law_numbers (SpF K w mg f__law_numbers) :=
  okD (k := 0) F sc__law_numbers fun cdv A outer s H E hr => by
    have tk := takes_of (X := cxOf (L2.CX P w) P w K mg base N__law_numbers "_law_numbers" (defScope s__law_numbers) f cdv A outer s H E) rfl rfl rfl rfl
    exact
 (rscons (rsownlc (i := 2) (Lc.mk (own := [("cell", 9)]) (riseq (rsl (rv 0) rpnone (rpsome rint))) (blkOk_by (N := N__law_numbers) (sc := defScope s__law_numbers) (by decide +kernel)) (fun _ _ _ _ _ => (rgn 9 sc__law_numbers.nd)) (fun _ _ _ _ _ => pts_yes) (fun _ _ _ _ _ => (rct call_int1 ok_int m_int (racons (rv 9) ranil))) (by decide)) sc__law_numbers.nd)
 (rscons (rsif (stb (rtcmp (okO_eq hr) ok_eq (rcb okO_len ok_len m_len (racons (rv 2) ranil)) rint))
 (rsone (rsown (i := 2) sc__law_numbers.nd (sf (rflst (racons rint ranil)))))
 rsnil)
 (rscons (rsset (i := 3) sc__law_numbers.nd (seb (rcb okO_len ok_len m_len (racons (rv 2) ranil))))
 (rscons (rslaylcb (i := 4) (Lc.mk (own := [("cell", 9)]) (riseq (rv 2)) (blkOk_by (N := N__law_numbers) (sc := defScope s__law_numbers) (by decide +kernel)) (fun _ _ _ _ _ => (rgn 9 sc__law_numbers.nd)) (fun _ _ _ _ _ => pts_yes) (fun _ _ _ _ _ => (rcmp (op_ge) (ok_cmp _) (rv 9) (rpow rint rint))) (by decide)) sc__law_numbers.nd)
 (rscons (rsown (i := 5) sc__law_numbers.nd (sf (rflst ranil)))
 (rscons (rsfor (rirange1 m_range (rv 1)) (rgn 6 sc__law_numbers.nd)
 (rscons (rsset (i := 7) sc__law_numbers.nd (se (rmod (rv 6) (rv 3))))
 (rsone (rsif (stb (rtw (rwand (rt (rixs (rv 4) (rv 7))) (rw1 (rtcmp (op_gt) (ok_cmp _) (rixs (rv 2) (rv 7)) rint)))))
 (rscons (rsapp (i := 5) (seb (rmod (rct call_int1 ok_int m_int (racons (rixs (rv 2) (rv 7)) ranil)) rint)))
 (rsone (rsseti (i := 2) (seb (rdiv (rixs (rv 2) (rv 7)) rint)) (se (rv 7)))))
 (rscons (rsset (i := 8) sc__law_numbers.nd (seb (rmod (rmul (radd (radd (rmod (rct call_int1 ok_int m_int (racons (rixs (rv 2) (rv 7)) ranil)) rint) (rmul rint (rv 6))) rint) rint) rint)))
 (rscons (rsset (i := 8) sc__law_numbers.nd (se (rmod (rmul (rct call_int1 ok_int m_int (racons (radd (radd (rv 8) (rmul (rmul (rv 6) (rv 6)) rint)) rint) ranil)) rint) rint)))
 (rsone (rsapp (i := 5) (se (rmod (rdiv (rv 8) rint) rint))))))))) (passes_of rfl))
 (rsone (rsfrz 5 (rsret (se (rv 5)))))))))))
theorem ok_law (h__law_alone : Cal P w K mg base 13 "_law_alone" f__law_alone) (h__law_book : Cal P w K mg base 5 "_law_book" f__law_book) (h__law_crowd : Cal P w K mg base 3 "_law_crowd" f__law_crowd) (h__law_hand : Cal P w K mg base 5 "_law_hand" f__law_hand) (h__law_merged : Cal P w K mg base 3 "_law_merged" f__law_merged) (h__law_moved : Cal P w K mg base 1 "_law_moved" f__law_moved) (h__law_names : Cal P w K mg base 2 "_law_names" f__law_names) (h__law_numbers : Cal P w K mg base 1 "_law_numbers" f__law_numbers) (h__law_same : Cal P w K mg base 12 "_law_same" f__law_same) (h_merge_books : Cal P w K mg base 5 "merge_books" f_merge_books) (m_int : mg "int" = none) (m_len : mg "len" = none) (m_list : mg "list" = none) (m_range : mg "range" = none) (m_tuple : mg "tuple" = none) {f : Addr} {fd : FuncData} (F : FunD K "law" "law" (defArgs s_law) (defBody s_law) (defScope s_law) [] [] f fd) :
    FnOk P w K mg base (L2.CX P w) 14 f fd P_law (SpF K w mg f_law) :=
  okD (k := 13) F sc_law fun cdv A outer s H E hr => by
    have tk := takes_of (X := cxOf (L2.CX P w) P w K mg base N_law "law" (defScope s_law) f cdv A outer s H E) rfl rfl rfl rfl
    exact
 (rscons (rsset (i := 1) sc_law.nd (se (rc h__law_numbers hr tk (racons (rv 0) (racons rint ranil)))))
 (rscons (rsset (i := 2) sc_law.nd (se (rc h__law_names hr tk (racons (rv 1) ranil))))
 (rscons (rsset (i := 3) sc_law.nd (se (rc h__law_book hr tk (racons (rv 1) (racons rint (racons (rmod (rixs (rv 1) rint) rint) (racons (rv 2) (racons (rlst (racons rint (racons rint (racons rint (racons rint ranil))))) ranil))))))))
 (rscons (rsownlc (i := 5) (Lc.mk (own := [("k", 4)]) (rirange1 m_range (radd rint (rmod (rixs (rv 1) rint) rint))) (blkOk_by (N := N_law) (sc := defScope s_law) (by decide +kernel)) (fun _ _ _ _ _ => (rgn 4 sc_law.nd)) (fun _ _ _ _ _ => pts_yes) (fun _ _ _ _ _ => (rc h__law_hand hr tk0 (racons (rv 3) (racons (rv 2) (racons (rv 1) (racons (radd rint (rmul rint (rv 4))) ranil)))))) (by decide)) sc_law.nd)
 (rscons (rsif (stb (rtw (rwand (rtcmp (okO_eq hr) ok_eq (rmod (rixs (rv 1) rint) rint) rint) (rw1 (rtcmp (op_gt) (ok_cmp _) (rcb okO_len ok_len m_len (racons (rv 5) ranil)) rint)))))
 (rscons (rsseti (i := 5) (scall h__law_crowd hr tk (sacons (soix (i := 5)) (sacons (se rint) (sacons (se rint) (sa ranil))))) (se rint))
 (rsone (rsseti (i := 5) (scall h__law_crowd hr tk (sacons (soix (i := 5)) (sacons (se rint) (sacons (se (radd rint (rmod (rixs (rv 1) rint) rint))) (sa ranil))))) (se rint))))
 rsnil)
 (rscons (rsif (st (rtcmp (okO_eq hr) ok_eq (rmod (rixs (rv 1) rint) rint) rint))
 (rsone (rsfrz 5 (rsown (i := 5) sc_law.nd (sf (rladd (rmul (rlst (racons (rv 3) ranil)) (rsub (rcb okO_len ok_len m_len (racons (rv 5) ranil)) rint)) (rlst (racons (rixs (rv 5) rint) ranil)))))))
 rsnil)
 (rscons (rsset (i := 3) sc_law.nd (se (rct call_tuple_of ok_tuple m_tuple (racons (rv 3) ranil))))
 (rscons (rsset (i := 6) sc_law.nd (seb (rct call_tuple_of ok_tuple m_tuple (racons (rfz (rlc (Lc.mk (own := [("rows", 14)]) (riseq (rv 5)) (blkOk_by (N := N_law) (sc := defScope s_law) (by decide +kernel)) (fun _ _ _ _ _ => (rgn 14 sc_law.nd)) (fun _ _ _ _ _ => pts_yes) (fun _ _ _ _ _ => (rct call_tuple_of ok_tuple m_tuple (racons (rv 14) ranil))) (by decide)) sc_law.nd)) ranil))))
 (rscons (rsset (i := 7) sc_law.nd (se (rcb okO_len ok_len m_len (racons (rv 6) ranil))))
 (rscons (rsset (i := 8) sc_law.nd (seb (rixs (rc h__law_merged hr tk (racons (rct (okO_listX rfl) ok_listX m_list (racons (rv 3) ranil)) (racons (rv 5) ranil))) rint)))
 (rscons (rsset (i := 9) sc_law.nd (se (rc h_merge_books hr tk (racons (rv 3) (racons (rv 6) ranil)))))
 (rscons (rsif (st (rtnot (rt (rc h__law_same hr tk (racons (rv 9) (racons (rv 8) ranil))))))
 (rsone (rsret (se rbl)))
 rsnil)
 (rscons (rsfor (riseq (rlst (racons (rfz (rlc (Lc.mk (own := [("k", 4)]) (rirange1 m_range (rv 7)) (blkOk_by (N := N_law) (sc := defScope s_law) (by decide +kernel)) (fun _ _ _ _ _ => (rgn 4 sc_law.nd)) (fun _ _ _ _ _ => pts_yes) (fun _ _ _ _ _ => (rsub (rsub (rv 7) rint) (rv 4))) (by decide)) sc_law.nd)) (racons (rfz (rlc (Lc.mk (own := [("k", 4)]) (rirange1 m_range (rv 7)) (blkOk_by (N := N_law) (sc := defScope s_law) (by decide +kernel)) (fun _ _ _ _ _ => (rgn 4 sc_law.nd)) (fun _ _ _ _ _ => pts_yes) (fun _ _ _ _ _ => (rmod (radd (rv 4) rint) (rv 7))) (by decide)) sc_law.nd)) ranil)))) (rgn 10 sc_law.nd)
 (rscons (rsown (i := 11) sc_law.nd (sf (rlmul (rlst (racons (rtup ranil) ranil)) (rv 7))))
 (rscons (rsfor (rirange1 m_range (rv 7)) (rgn 4 sc_law.nd)
 (rsone (rsseti (i := 11) (se (rixs (rv 6) (rv 4))) (se (rixs (rv 10) (rv 4))))) (passes_of rfl))
 (rsone (rsif (stb (rtnot (rt (rc h__law_same hr tk (racons (rc h_merge_books hr tk (racons (rv 3) (racons (rct call_tuple_of ok_tuple m_tuple (racons (rv 11) ranil)) ranil))) (racons (rc h__law_moved hr tk (racons (rv 8) (racons (rv 10) ranil))) ranil))))))
 (rsone (rsret (se rbl)))
 rsnil)))) (passes_of rfl))
 (rscons (rsif (st (rtcmp (okO_lt hr) ok_lt (rv 7) rint))
 (rscons (rsset (i := 12) sc_law.nd (se (rmod (rixs (rv 1) rint) (radd (rv 7) rint))))
 (rscons (rslaylc (i := 13) (Lc.mk (own := [("k", 4)]) (rirange1 m_range (rv 7)) (blkOk_by (N := N_law) (sc := defScope s_law) (by decide +kernel)) (fun _ _ _ _ _ => (rgn 4 sc_law.nd)) (fun _ _ _ _ _ => pts_yes) (fun _ _ _ _ _ => (radd (rv 4) (rct call_int1 ok_int m_int (racons (rcmp (op_ge) (ok_cmp _) (rv 4) (rv 12)) ranil)))) (by decide)) sc_law.nd)
 (rsone (rsif (st (rtnot (rt (rc h__law_same hr tk (racons (rc h_merge_books hr tk (racons (rv 3) (racons (radd (radd (rsl (rv 6) rpnone (rpsome (rv 12))) (rtup (racons (rv 3) ranil))) (rsl (rv 6) (rpsome (rv 12)) rpnone)) ranil))) (racons (rc h__law_moved hr tk (racons (rv 8) (racons (rv 13) ranil))) ranil))))))
 (rsone (rsret (se rbl)))
 rsnil))))
 rsnil)
 (rscons (rsif (st (rtw (rwand (rtcmp (okO_lt hr) ok_lt (rv 7) rint) (rw1 (rtcmp (okO_ne hr) ok_ne (rixs (rv 9) rint) rstr)))))
 (rsone (rsif (st (rtnot (rt (rc h__law_same hr tk (racons (rsl (rc h_merge_books hr tk (racons (rv 3) (racons (radd (rv 6) (rv 6)) ranil))) rpnone (rpsome rint)) (racons (rsl (rv 8) rpnone (rpsome rint)) ranil))))))
 (rsone (rsret (se rbl)))
 rsnil))
 rsnil)
 (rscons (rsif (st (rtw (rwand (rtcmp (okO_eq hr) ok_eq (rixs (rv 9) rint) rstr) (rw1 (rtnot (rt (rc h__law_same hr tk (racons (rixs (rc h_merge_books hr tk (racons (rv 3) (racons (rtup (racons (rixs (rv 9) rint) ranil)) ranil))) rint) (racons (rixs (rv 9) rint) ranil)))))))))
 (rsone (rsret (se rbl)))
 rsnil)
 (rsone (rsret (se (rc h__law_alone hr tk (racons (rv 3) (racons (rv 6) ranil))))))))))))))))))))))
end
end K71

namespace K71
open PySem PySem.Spec PyProof.Rows L2 DL Cm Cg
theorem facts {w : World} {K : PySem.W.Frag} {h : Heap} {mg : Str → Option Value} {f : Addr} (X : K.In h) (G : h.Ns mainGlobals mg) (hfa : mg ("law" : Str) = some (.ref f)) (c : SaysEx fa fn ts ex w K) :
    ∃ fd : FuncData, (∀ (s : Shared) (v : Value), BindsTo s fd ⟨[v], []⟩ [("script", v)]) ∧ ∀ base : Heap, K.In base → base.Ns mainGlobals mg → FnOk PySem.Challenge.rw_sailloft_k71_whole_merge_without_order.prog w K mg base CXa 14 f fd ["script"] (SpF K w mg f_law) := by
  have more : ex K = true := c.more
  unfold ex at more
  try simp only [Bool.and_eq_true] at more
  have q_KIND_NAMES := more
  have c := c.t.d
  have m_abs := He.free_ok X G (c.fact 35 (f := .free "abs") rfl)
  have m_bool := He.free_ok X G (c.fact 36 (f := .free "bool") rfl)
  have m_enumerate := He.free_ok X G (c.fact 37 (f := .free "enumerate") rfl)
  have m_int := He.free_ok X G (c.fact 38 (f := .free "int") rfl)
  have m_isinstance := He.free_ok X G (c.fact 39 (f := .free "isinstance") rfl)
  have m_len := He.free_ok X G (c.fact 40 (f := .free "len") rfl)
  have m_list := He.free_ok X G (c.fact 41 (f := .free "list") rfl)
  have m_min := He.free_ok X G (c.fact 42 (f := .free "min") rfl)
  have m_range := He.free_ok X G (c.fact 43 (f := .free "range") rfl)
  have m_sorted := He.free_ok X G (c.fact 44 (f := .free "sorted") rfl)
  have m_str := He.free_ok X G (c.fact 45 (f := .free "str") rfl)
  have m_tuple := He.free_ok X G (c.fact 46 (f := .free "tuple") rfl)
  have c_KIND_NAMES : Cst K w mg "KIND_NAMES" k_KIND_NAMES := cstB_ok X G q_KIND_NAMES
  have c_MOST_ROWS : Cst K w mg "MOST_ROWS" k_MOST_ROWS := cstI (He.int_ok X G (c.fact 47 (f := .int "MOST_ROWS" (12)) rfl))
  have g__law_same := He.glo_ok X G (c.fact 0 (f := .glo "_law_same") rfl)
  obtain ⟨fd__law_same, F__law_same⟩ := c.def_ 0 (d := d__law_same) rfl
  have b__law_same : Binds K fd__law_same P__law_same [] := F__law_same.bindsN fun _ _ _ _ _ _ us hl => match us, hl with | [_, _], _ => rfl
  have g_find_row := He.glo_ok X G (c.fact 1 (f := .glo "find_row") rfl)
  obtain ⟨fd_find_row, F_find_row⟩ := c.def_ 1 (d := d_find_row) rfl
  have b_find_row : Binds K fd_find_row P_find_row [] := F_find_row.bindsN fun _ _ _ _ _ _ us hl => match us, hl with | [_, _, _], _ => rfl
  have g_has_row := He.glo_ok X G (c.fact 2 (f := .glo "has_row") rfl)
  obtain ⟨fd_has_row, F_has_row⟩ := c.def_ 2 (d := d_has_row) rfl
  have b_has_row : Binds K fd_has_row P_has_row [] := F_has_row.bindsN fun _ _ _ _ _ _ us hl => match us, hl with | [_, _, _], _ => rfl
  have g_row_version := He.glo_ok X G (c.fact 3 (f := .glo "row_version") rfl)
  obtain ⟨fd_row_version, F_row_version⟩ := c.def_ 3 (d := d_row_version) rfl
  have b_row_version : Binds K fd_row_version P_row_version [] := F_row_version.bindsN fun _ _ _ _ _ _ us hl => match us, hl with | [_, _, _], _ => rfl
  have g_key_changes := He.glo_ok X G (c.fact 4 (f := .glo "key_changes") rfl)
  obtain ⟨fd_key_changes, F_key_changes⟩ := c.def_ 4 (d := d_key_changes) rfl
  have b_key_changes : Binds K fd_key_changes P_key_changes [] := F_key_changes.bindsN fun _ _ _ _ _ _ us hl => match us, hl with | [_, _, _, _], _ => rfl
  have g_row_key := He.glo_ok X G (c.fact 5 (f := .glo "row_key") rfl)
  obtain ⟨fd_row_key, F_row_key⟩ := c.def_ 5 (d := d_row_key) rfl
  have b_row_key : Binds K fd_row_key P_row_key [] := F_row_key.bindsN fun _ _ _ _ _ _ us hl => match us, hl with | [_], _ => rfl
  have g_merge_keys := He.glo_ok X G (c.fact 6 (f := .glo "merge_keys") rfl)
  obtain ⟨fd_merge_keys, F_merge_keys⟩ := c.def_ 6 (d := d_merge_keys) rfl
  have b_merge_keys : Binds K fd_merge_keys P_merge_keys [] := F_merge_keys.bindsN fun _ _ _ _ _ _ us hl => match us, hl with | [_, _], _ => rfl
  have g_first_rows := He.glo_ok X G (c.fact 7 (f := .glo "first_rows") rfl)
  obtain ⟨fd_first_rows, F_first_rows⟩ := c.def_ 7 (d := d_first_rows) rfl
  have b_first_rows : Binds K fd_first_rows P_first_rows [] := F_first_rows.bindsN fun _ _ _ _ _ _ us hl => match us, hl with | [_, _], _ => rfl
  have g_kind_rows := He.glo_ok X G (c.fact 8 (f := .glo "kind_rows") rfl)
  obtain ⟨fd_kind_rows, F_kind_rows⟩ := c.def_ 8 (d := d_kind_rows) rfl
  have b_kind_rows : Binds K fd_kind_rows P_kind_rows [] := F_kind_rows.bindsN fun _ _ _ _ _ _ us hl => match us, hl with | [_, _], _ => rfl
  have g_full_kind := He.glo_ok X G (c.fact 9 (f := .glo "full_kind") rfl)
  obtain ⟨fd_full_kind, F_full_kind⟩ := c.def_ 9 (d := d_full_kind) rfl
  have b_full_kind : Binds K fd_full_kind P_full_kind [] := F_full_kind.bindsN fun _ _ _ _ _ _ us hl => match us, hl with | [_], _ => rfl
  have g_versions_differ := He.glo_ok X G (c.fact 10 (f := .glo "versions_differ") rfl)
  obtain ⟨fd_versions_differ, F_versions_differ⟩ := c.def_ 10 (d := d_versions_differ) rfl
  have b_versions_differ : Binds K fd_versions_differ P_versions_differ [] := F_versions_differ.bindsN fun _ _ _ _ _ _ us hl => match us, hl with | [_], _ => rfl
  have g_key_conflicts := He.glo_ok X G (c.fact 11 (f := .glo "key_conflicts") rfl)
  obtain ⟨fd_key_conflicts, F_key_conflicts⟩ := c.def_ 11 (d := d_key_conflicts) rfl
  have b_key_conflicts : Binds K fd_key_conflicts P_key_conflicts [] := F_key_conflicts.bindsN fun _ _ _ _ _ _ us hl => match us, hl with | [_, _], _ => rfl
  have g_merge_books := He.glo_ok X G (c.fact 12 (f := .glo "merge_books") rfl)
  obtain ⟨fd_merge_books, F_merge_books⟩ := c.def_ 12 (d := d_merge_books) rfl
  have b_merge_books : Binds K fd_merge_books P_merge_books [] := F_merge_books.bindsN fun _ _ _ _ _ _ us hl => match us, hl with | [_, _], _ => rfl
  have g__law_alone := He.glo_ok X G (c.fact 13 (f := .glo "_law_alone") rfl)
  obtain ⟨fd__law_alone, F__law_alone⟩ := c.def_ 13 (d := d__law_alone) rfl
  have b__law_alone : Binds K fd__law_alone P__law_alone [] := F__law_alone.bindsN fun _ _ _ _ _ _ us hl => match us, hl with | [_, _], _ => rfl
  have g__law_kinds := He.glo_ok X G (c.fact 14 (f := .glo "_law_kinds") rfl)
  obtain ⟨fd__law_kinds, F__law_kinds⟩ := c.def_ 14 (d := d__law_kinds) rfl
  have b__law_kinds : Binds K fd__law_kinds P__law_kinds [] := F__law_kinds.bindsN fun _ _ _ _ _ _ us hl => match us, hl with | [], _ => rfl
  have g__law_before := He.glo_ok X G (c.fact 15 (f := .glo "_law_before") rfl)
  obtain ⟨fd__law_before, F__law_before⟩ := c.def_ 15 (d := d__law_before) rfl
  have b__law_before : Binds K fd__law_before P__law_before [] := F__law_before.bindsN fun _ _ _ _ _ _ us hl => match us, hl with | [_, _], _ => rfl
  have g__law_placed := He.glo_ok X G (c.fact 16 (f := .glo "_law_placed") rfl)
  obtain ⟨fd__law_placed, F__law_placed⟩ := c.def_ 16 (d := d__law_placed) rfl
  have b__law_placed : Binds K fd__law_placed P__law_placed [] := F__law_placed.bindsN fun _ _ _ _ _ _ us hl => match us, hl with | [_, _], _ => rfl
  have g__law_lowest := He.glo_ok X G (c.fact 17 (f := .glo "_law_lowest") rfl)
  obtain ⟨fd__law_lowest, F__law_lowest⟩ := c.def_ 17 (d := d__law_lowest) rfl
  have b__law_lowest : Binds K fd__law_lowest P__law_lowest [] := F__law_lowest.bindsN fun _ _ _ _ _ _ us hl => match us, hl with | [_, _], _ => rfl
  have g__law_grain := He.glo_ok X G (c.fact 18 (f := .glo "_law_grain") rfl)
  obtain ⟨fd__law_grain, F__law_grain⟩ := c.def_ 18 (d := d__law_grain) rfl
  have b__law_grain : Binds K fd__law_grain P__law_grain [] := F__law_grain.bindsN fun _ _ _ _ _ _ us hl => match us, hl with | [_, _], _ => rfl
  have g__law_line := He.glo_ok X G (c.fact 19 (f := .glo "_law_line") rfl)
  obtain ⟨fd__law_line, F__law_line⟩ := c.def_ 19 (d := d__law_line) rfl
  have b__law_line : Binds K fd__law_line P__law_line [] := F__law_line.bindsN fun _ _ _ _ _ _ us hl => match us, hl with | [_, _], _ => rfl
  have g__law_piece := He.glo_ok X G (c.fact 20 (f := .glo "_law_piece") rfl)
  obtain ⟨fd__law_piece, F__law_piece⟩ := c.def_ 20 (d := d__law_piece) rfl
  have b__law_piece : Binds K fd__law_piece P__law_piece [] := F__law_piece.bindsN fun _ _ _ _ _ _ us hl => match us, hl with | [_, _], _ => rfl
  have g__law_shape_row := He.glo_ok X G (c.fact 21 (f := .glo "_law_shape_row") rfl)
  obtain ⟨fd__law_shape_row, F__law_shape_row⟩ := c.def_ 21 (d := d__law_shape_row) rfl
  have b__law_shape_row : Binds K fd__law_shape_row P__law_shape_row [] := F__law_shape_row.bindsN fun _ _ _ _ _ _ us hl => match us, hl with | [_, _, _, _], _ => rfl
  have g__law_row := He.glo_ok X G (c.fact 22 (f := .glo "_law_row") rfl)
  obtain ⟨fd__law_row, F__law_row⟩ := c.def_ 22 (d := d__law_row) rfl
  have b__law_row : Binds K fd__law_row P__law_row [] := F__law_row.bindsN fun _ _ _ _ _ _ us hl => match us, hl with | [_, _, _, _], _ => rfl
  have g__law_book := He.glo_ok X G (c.fact 23 (f := .glo "_law_book") rfl)
  obtain ⟨fd__law_book, F__law_book⟩ := c.def_ 23 (d := d__law_book) rfl
  have b__law_book : Binds K fd__law_book P__law_book [] := F__law_book.bindsN fun _ _ _ _ _ _ us hl => match us, hl with | [_, _, _, _, _], _ => rfl
  have g__law_crowd := He.glo_ok X G (c.fact 24 (f := .glo "_law_crowd") rfl)
  obtain ⟨fd__law_crowd, F__law_crowd⟩ := c.def_ 24 (d := d__law_crowd) rfl
  have b__law_crowd : Binds K fd__law_crowd P__law_crowd [] := F__law_crowd.bindsN fun _ _ _ _ _ _ us hl => match us, hl with | [_, _, _], _ => rfl
  have g__law_hand := He.glo_ok X G (c.fact 25 (f := .glo "_law_hand") rfl)
  obtain ⟨fd__law_hand, F__law_hand⟩ := c.def_ 25 (d := d__law_hand) rfl
  have b__law_hand : Binds K fd__law_hand P__law_hand [] := F__law_hand.bindsN fun _ _ _ _ _ _ us hl => match us, hl with | [_, _, _, _], _ => rfl
  have g__law_version := He.glo_ok X G (c.fact 26 (f := .glo "_law_version") rfl)
  obtain ⟨fd__law_version, F__law_version⟩ := c.def_ 26 (d := d__law_version) rfl
  have b__law_version : Binds K fd__law_version P__law_version [] := F__law_version.bindsN fun _ _ _ _ _ _ us hl => match us, hl with | [_, _], _ => rfl
  have g__law_changes := He.glo_ok X G (c.fact 27 (f := .glo "_law_changes") rfl)
  obtain ⟨fd__law_changes, F__law_changes⟩ := c.def_ 27 (d := d__law_changes) rfl
  have b__law_changes : Binds K fd__law_changes P__law_changes [] := F__law_changes.bindsN fun _ _ _ _ _ _ us hl => match us, hl with | [_, _, _], _ => rfl
  have g__law_keys := He.glo_ok X G (c.fact 28 (f := .glo "_law_keys") rfl)
  obtain ⟨fd__law_keys, F__law_keys⟩ := c.def_ 28 (d := d__law_keys) rfl
  have b__law_keys : Binds K fd__law_keys P__law_keys [] := F__law_keys.bindsN fun _ _ _ _ _ _ us hl => match us, hl with | [_], _ => rfl
  have g__law_merged := He.glo_ok X G (c.fact 29 (f := .glo "_law_merged") rfl)
  obtain ⟨fd__law_merged, F__law_merged⟩ := c.def_ 29 (d := d__law_merged) rfl
  have b__law_merged : Binds K fd__law_merged P__law_merged [] := F__law_merged.bindsN fun _ _ _ _ _ _ us hl => match us, hl with | [_, _], _ => rfl
  have g__law_moved := He.glo_ok X G (c.fact 30 (f := .glo "_law_moved") rfl)
  obtain ⟨fd__law_moved, F__law_moved⟩ := c.def_ 30 (d := d__law_moved) rfl
  have b__law_moved : Binds K fd__law_moved P__law_moved [] := F__law_moved.bindsN fun _ _ _ _ _ _ us hl => match us, hl with | [_, _], _ => rfl
  have g__law_name := He.glo_ok X G (c.fact 31 (f := .glo "_law_name") rfl)
  obtain ⟨fd__law_name, F__law_name⟩ := c.def_ 31 (d := d__law_name) rfl
  have b__law_name : Binds K fd__law_name P__law_name [] := F__law_name.bindsN fun _ _ _ _ _ _ us hl => match us, hl with | [_], _ => rfl
  have g__law_names := He.glo_ok X G (c.fact 32 (f := .glo "_law_names") rfl)
  obtain ⟨fd__law_names, F__law_names⟩ := c.def_ 32 (d := d__law_names) rfl
  have b__law_names : Binds K fd__law_names P__law_names [] := F__law_names.bindsN fun _ _ _ _ _ _ us hl => match us, hl with | [_], _ => rfl
  have g__law_numbers := He.glo_ok X G (c.fact 33 (f := .glo "_law_numbers") rfl)
  obtain ⟨fd__law_numbers, F__law_numbers⟩ := c.def_ 33 (d := d__law_numbers) rfl
  have b__law_numbers : Binds K fd__law_numbers P__law_numbers [] := F__law_numbers.bindsN fun _ _ _ _ _ _ us hl => match us, hl with | [_, _], _ => rfl
  obtain ⟨fd, F⟩ := c.def_ 34 (d := d_law) rfl
  have e := hfa.symm.trans (He.glo_ok X G (c.fact 34 (f := .glo "law") rfl))
  cases e
  have b := FunD.bindsA (ps := ["script"]) F fun _ _ _ _ _ _ us hl => match us, hl with | [_], _ => rfl
  refine ⟨fd, fun s v => b s [v] rfl, fun base _ _ => toAny ?_⟩
  have h__law_same : Cal PySem.Challenge.rw_sailloft_k71_whole_merge_without_order.prog w K mg base 12 "_law_same" f__law_same := ⟨_, _, _, ok__law_same m_bool m_int m_isinstance m_len m_range m_str m_tuple F__law_same g__law_same b__law_same 12, g__law_same, F__law_same.kp, b__law_same⟩
  have h_find_row : Cal PySem.Challenge.rw_sailloft_k71_whole_merge_without_order.prog w K mg base 1 "find_row" f_find_row := ⟨_, _, _, ok_find_row  F_find_row, g_find_row, F_find_row.kp, b_find_row⟩
  have h_has_row : Cal PySem.Challenge.rw_sailloft_k71_whole_merge_without_order.prog w K mg base 1 "has_row" f_has_row := ⟨_, _, _, ok_has_row  F_has_row, g_has_row, F_has_row.kp, b_has_row⟩
  have h_row_version : Cal PySem.Challenge.rw_sailloft_k71_whole_merge_without_order.prog w K mg base 2 "row_version" f_row_version := ⟨_, _, _, ok_row_version h_find_row h_has_row F_row_version, g_row_version, F_row_version.kp, b_row_version⟩
  have h_key_changes : Cal PySem.Challenge.rw_sailloft_k71_whole_merge_without_order.prog w K mg base 3 "key_changes" f_key_changes := ⟨_, _, _, ok_key_changes h_row_version m_enumerate m_tuple F_key_changes, g_key_changes, F_key_changes.kp, b_key_changes⟩
  have h_row_key : Cal PySem.Challenge.rw_sailloft_k71_whole_merge_without_order.prog w K mg base 1 "row_key" f_row_key := ⟨_, _, _, ok_row_key  F_row_key, g_row_key, F_row_key.kp, b_row_key⟩
  have h_merge_keys : Cal PySem.Challenge.rw_sailloft_k71_whole_merge_without_order.prog w K mg base 2 "merge_keys" f_merge_keys := ⟨_, _, _, ok_merge_keys h_row_key m_list m_sorted F_merge_keys, g_merge_keys, F_merge_keys.kp, b_merge_keys⟩
  have h_first_rows : Cal PySem.Challenge.rw_sailloft_k71_whole_merge_without_order.prog w K mg base 4 "first_rows" f_first_rows := ⟨_, _, _, ok_first_rows h_key_changes h_merge_keys h_row_version m_len m_tuple F_first_rows, g_first_rows, F_first_rows.kp, b_first_rows⟩
  have h_kind_rows : Cal PySem.Challenge.rw_sailloft_k71_whole_merge_without_order.prog w K mg base 1 "kind_rows" f_kind_rows := ⟨_, _, _, ok_kind_rows m_tuple F_kind_rows, g_kind_rows, F_kind_rows.kp, b_kind_rows⟩
  have h_full_kind : Cal PySem.Challenge.rw_sailloft_k71_whole_merge_without_order.prog w K mg base 2 "full_kind" f_full_kind := ⟨_, _, _, ok_full_kind h_kind_rows m_len c_KIND_NAMES c_MOST_ROWS F_full_kind, g_full_kind, F_full_kind.kp, b_full_kind⟩
  have h_versions_differ : Cal PySem.Challenge.rw_sailloft_k71_whole_merge_without_order.prog w K mg base 1 "versions_differ" f_versions_differ := ⟨_, _, _, ok_versions_differ  F_versions_differ, g_versions_differ, F_versions_differ.kp, b_versions_differ⟩
  have h_key_conflicts : Cal PySem.Challenge.rw_sailloft_k71_whole_merge_without_order.prog w K mg base 4 "key_conflicts" f_key_conflicts := ⟨_, _, _, ok_key_conflicts h_key_changes h_merge_keys h_versions_differ m_tuple F_key_conflicts, g_key_conflicts, F_key_conflicts.kp, b_key_conflicts⟩
  have h_merge_books : Cal PySem.Challenge.rw_sailloft_k71_whole_merge_without_order.prog w K mg base 5 "merge_books" f_merge_books := ⟨_, _, _, ok_merge_books h_first_rows h_full_kind h_key_conflicts m_len F_merge_books, g_merge_books, F_merge_books.kp, b_merge_books⟩
  have h__law_alone : Cal PySem.Challenge.rw_sailloft_k71_whole_merge_without_order.prog w K mg base 13 "_law_alone" f__law_alone := ⟨_, _, _, ok__law_alone h__law_same h_merge_books m_len m_range m_tuple F__law_alone, g__law_alone, F__law_alone.kp, b__law_alone⟩
  have h__law_kinds : Cal PySem.Challenge.rw_sailloft_k71_whole_merge_without_order.prog w K mg base 1 "_law_kinds" f__law_kinds := ⟨_, _, _, ok__law_kinds  F__law_kinds, g__law_kinds, F__law_kinds.kp, b__law_kinds⟩
  have h__law_before : Cal PySem.Challenge.rw_sailloft_k71_whole_merge_without_order.prog w K mg base 1 "_law_before" f__law_before := ⟨_, _, _, ok__law_before  F__law_before, g__law_before, F__law_before.kp, b__law_before⟩
  have h__law_placed : Cal PySem.Challenge.rw_sailloft_k71_whole_merge_without_order.prog w K mg base 2 "_law_placed" f__law_placed := ⟨_, _, _, ok__law_placed h__law_before F__law_placed, g__law_placed, F__law_placed.kp, b__law_placed⟩
  have h__law_lowest : Cal PySem.Challenge.rw_sailloft_k71_whole_merge_without_order.prog w K mg base 1 "_law_lowest" f__law_lowest := ⟨_, _, _, ok__law_lowest m_abs m_int m_range F__law_lowest, g__law_lowest, F__law_lowest.kp, b__law_lowest⟩
  have h__law_grain : Cal PySem.Challenge.rw_sailloft_k71_whole_merge_without_order.prog w K mg base 2 "_law_grain" f__law_grain := ⟨_, _, _, ok__law_grain h__law_lowest F__law_grain, g__law_grain, F__law_grain.kp, b__law_grain⟩
  have h__law_line : Cal PySem.Challenge.rw_sailloft_k71_whole_merge_without_order.prog w K mg base 1 "_law_line" f__law_line := ⟨_, _, _, ok__law_line  F__law_line, g__law_line, F__law_line.kp, b__law_line⟩
  have h__law_piece : Cal PySem.Challenge.rw_sailloft_k71_whole_merge_without_order.prog w K mg base 2 "_law_piece" f__law_piece := ⟨_, _, _, ok__law_piece h__law_lowest F__law_piece, g__law_piece, F__law_piece.kp, b__law_piece⟩
  have h__law_shape_row : Cal PySem.Challenge.rw_sailloft_k71_whole_merge_without_order.prog w K mg base 3 "_law_shape_row" f__law_shape_row := ⟨_, _, _, ok__law_shape_row h__law_grain h__law_line h__law_lowest h__law_piece m_range m_sorted m_tuple F__law_shape_row, g__law_shape_row, F__law_shape_row.kp, b__law_shape_row⟩
  have h__law_row : Cal PySem.Challenge.rw_sailloft_k71_whole_merge_without_order.prog w K mg base 4 "_law_row" f__law_row := ⟨_, _, _, ok__law_row h__law_lowest h__law_shape_row m_min m_sorted m_tuple F__law_row, g__law_row, F__law_row.kp, b__law_row⟩
  have h__law_book : Cal PySem.Challenge.rw_sailloft_k71_whole_merge_without_order.prog w K mg base 5 "_law_book" f__law_book := ⟨_, _, _, ok__law_book h__law_kinds h__law_placed h__law_row m_len m_range F__law_book, g__law_book, F__law_book.kp, b__law_book⟩
  have h__law_crowd : Cal PySem.Challenge.rw_sailloft_k71_whole_merge_without_order.prog w K mg base 3 "_law_crowd" f__law_crowd := ⟨_, _, _, ok__law_crowd h__law_placed m_range F__law_crowd, g__law_crowd, F__law_crowd.kp, b__law_crowd⟩
  have h__law_hand : Cal PySem.Challenge.rw_sailloft_k71_whole_merge_without_order.prog w K mg base 5 "_law_hand" f__law_hand := ⟨_, _, _, ok__law_hand h__law_placed h__law_row m_len m_list m_range F__law_hand, g__law_hand, F__law_hand.kp, b__law_hand⟩
  have h__law_version : Cal PySem.Challenge.rw_sailloft_k71_whole_merge_without_order.prog w K mg base 1 "_law_version" f__law_version := ⟨_, _, _, ok__law_version  F__law_version, g__law_version, F__law_version.kp, b__law_version⟩
  have h__law_changes : Cal PySem.Challenge.rw_sailloft_k71_whole_merge_without_order.prog w K mg base 2 "_law_changes" f__law_changes := ⟨_, _, _, ok__law_changes h__law_version m_len m_range F__law_changes, g__law_changes, F__law_changes.kp, b__law_changes⟩
  have h__law_keys : Cal PySem.Challenge.rw_sailloft_k71_whole_merge_without_order.prog w K mg base 1 "_law_keys" f__law_keys := ⟨_, _, _, ok__law_keys m_sorted F__law_keys, g__law_keys, F__law_keys.kp, b__law_keys⟩
  have h__law_merged : Cal PySem.Challenge.rw_sailloft_k71_whole_merge_without_order.prog w K mg base 3 "_law_merged" f__law_merged := ⟨_, _, _, ok__law_merged h__law_changes h__law_keys h__law_kinds h__law_version m_len m_tuple F__law_merged, g__law_merged, F__law_merged.kp, b__law_merged⟩
  have h__law_moved : Cal PySem.Challenge.rw_sailloft_k71_whole_merge_without_order.prog w K mg base 1 "_law_moved" f__law_moved := ⟨_, _, _, ok__law_moved m_len m_range m_sorted m_tuple F__law_moved, g__law_moved, F__law_moved.kp, b__law_moved⟩
  have h__law_name : Cal PySem.Challenge.rw_sailloft_k71_whole_merge_without_order.prog w K mg base 1 "_law_name" f__law_name := ⟨_, _, _, ok__law_name  F__law_name, g__law_name, F__law_name.kp, b__law_name⟩
  have h__law_names : Cal PySem.Challenge.rw_sailloft_k71_whole_merge_without_order.prog w K mg base 2 "_law_names" f__law_names := ⟨_, _, _, ok__law_names h__law_name m_range F__law_names, g__law_names, F__law_names.kp, b__law_names⟩
  have h__law_numbers : Cal PySem.Challenge.rw_sailloft_k71_whole_merge_without_order.prog w K mg base 1 "_law_numbers" f__law_numbers := ⟨_, _, _, ok__law_numbers m_int m_len m_range F__law_numbers, g__law_numbers, F__law_numbers.kp, b__law_numbers⟩
  exact ok_law h__law_alone h__law_book h__law_crowd h__law_hand h__law_merged h__law_moved h__law_names h__law_numbers h__law_same h_merge_books m_int m_len m_list m_range m_tuple F
end K71
open PySem PySem.W PySem.Calls PyProof.Rows
theorem PySem.Challenge.cw_sailloft_k71_whole_merge_without_order_holds : PySem.Challenge.rw_sailloft_k71_whole_merge_without_order.Holds := by
  w_on; o_law
  refine HandSHeadRun.head_any (r := OpenLaw.row PySem.Challenge.rw_sailloft_k71_whole_merge_without_order) (q := view (OpenLaw.row PySem.Challenge.rw_sailloft_k71_whole_merge_without_order).prog [42]) (H := K71.hk) (ob := K71.ob) (M := 6000) (loose := K71.loose) (d := HandSHeadRun.topDef (OpenLaw.row PySem.Challenge.rw_sailloft_k71_whole_merge_without_order).prog 42) (kwd := []) K71.ob_eq
    (by kernel_rfl) (fun s => by kernel_rfl) K71.run (by kernel_rfl) (by kernel_rfl) (by kernel_rfl) (by rfl) (by first | assumption | decide +kernel) (by decide +kernel) ⟨rfl, rfl, rfl, rfl, rfl, by decide +kernel⟩ ?hw ?hc
  case hw => w_witness2
  case hc =>
    refine L2.walk_ofE (l := PySem.Challenge.rw_sailloft_k71_whole_merge_without_order) (n := 63) (k := 14) (x := "script") (CX := DL.CXa) rfl (by decide) (by kernel_rfl) ⟨rfl, by decide, by decide⟩ ?F DL.CXa_no
    intro w mg fa h Y G hmg0
    obtain ⟨K, KX, c⟩ := Y
    have hmg : mg ("law" : PySem.Str) = some (.ref fa) := by
      have e : (HandSHeadRun.topDef (OpenLaw.row PySem.Challenge.rw_sailloft_k71_whole_merge_without_order).prog 42).name = ("law" : PySem.Str) := by kernel_rfl
      rw [← e]
      exact hmg0
    obtain ⟨fd, hb, hF⟩ := K71.facts (w := w) KX G hmg c
    exact ⟨K, fd, _, KX, hb, fun H a ns hl _ hS => DL.spTrue (K71.plain ns hl) hS, hF⟩
