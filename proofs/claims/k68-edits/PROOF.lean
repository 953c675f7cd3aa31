import PyProof.Rows.All
import Wide.All
import OpenK.AllK
import Wide.FinOn
import HandS.ForMost
import HandS.More
import HandS.Exc
import HandS.ExcOwn
import HandS.TupAny
import HandS.TupLe
import HandS.CallSlots
import HandS.WordsExc
import HandS.IsInst
import HandS.Wide
import HandS.Text
import HandS.Style
import HandS.Defaults
import HandS.HeadHook1
import HandS.HeadHook2
import KE.KStateDown
import HandS.Base
import HandS.Call
import HandS.Ends
import HandS.Words
import HandS.Head0
import HandS.Head1
import HandS.Head2
import HandS.HeadEnd
import HandS.Zip
import PyProof.EnumMake
import KE.GoesMore
import HandS.Iter
import HandS.HeadHook3
import HandS.HeadHook4
import HandS.ExcInit
import KE.KExcSuper
import HandS.TryMany
import HandS.TryOnly
import HandS.ExcField
import HandS.ExcIs
import KE.KExcIs
import PySem.Challenge.RW_sailloft_k68_edits_and_undoing
set_option Elab.async false
set_option linter.all false
set_option maxRecDepth 100000
set_option maxHeartbeats 0
/-! DL1: pure data over the hand layer: representation, growth, results, expressions. -/
namespace DL
open PySem PySem.Spec PyProof.Rows L2

abbrev D := PyData

/-! ### representation -/
/-- a dict with text keys, of the written part -/
def DicAt (K : PySem.W.Frag) (w : World) (a : Addr) (kvs : List (Str × V)) : Prop :=
  ∃ es n, L2.KDict K w a es n ∧ ∀ q ∈ kvs, ∃ u, PySem.W.nsIn K a q.1 = some (some u) ∧ RelV q.2 u
mutual
inductive Rp (K : PySem.W.Frag) (w : World) (H : Hp) : V → D → Prop
  | non : Rp K w H .non .none
  | bl (b : Bool) : Rp K w H (.bl b) (.bool b)
  | int (i : Int) : Rp K w H (.int i) (.int i)
  | str (x : Str) : Rp K w H (.str x) (.str x)
  | lst {a : Addr} {xs : List V} {ds : List D} : H a = some (.lst xs) → RpAll K w H xs ds → Rp K w H (.ref a) (.list ds)
  | tup {a : Addr} {xs : List V} {ds : List D} : SqT K H a xs → RpAll K w H xs ds → Rp K w H (.ref a) (.tuple ds)
  | scr {a : Addr} {xs : List V} {ds : List D} : SqL K H a xs → RpAll K w H xs ds → Rp K w H (.ref a) (.dict [(.none, .list ds)])
  | dic {a : Addr} {kvs : List (Str × V)} {ds : List D} : DicAt K w a kvs → RpAll K w H (kvs.map (·.2)) ds → Rp K w H (.ref a) (.dict ((kvs.map fun q => PyData.str q.1).zip ds))
inductive RpAll (K : PySem.W.Frag) (w : World) (H : Hp) : List V → List D → Prop
  | nil : RpAll K w H [] []
  | cons {v : V} {vs : List V} {d : D} {ds : List D} : Rp K w H v d → RpAll K w H vs ds → RpAll K w H (v :: vs) (d :: ds)
end
theorem seqT {K : PySem.W.Frag} {H H' : Hp} {a : Addr} {xs : List V} (e : Same H H') (h : SqT K H a xs) : SqT K H' a xs := by
  rcases h with (h | ⟨o, h⟩) | h
  · exact .inl (.inl (e _ _ h))
  · exact .inl (.inr ⟨o, e _ _ h⟩)
  · exact .inr h
section
variable {K : PySem.W.Frag} {w : World} {H H' : Hp}
mutual
theorem Rp.mono (e : Same H H') : ∀ {v : V} {d : D}, Rp K w H v d → Rp K w H' v d
  | _, _, .non => .non
  | _, _, .bl b => .bl b
  | _, _, .int i => .int i
  | _, _, .str x => .str x
  | _, _, .lst h r => .lst (e _ _ h) (RpAll.mono e r)
  | _, _, .tup h r => .tup (seqT e h) (RpAll.mono e r)
  | _, _, .scr h r => .scr (e.seq h) (RpAll.mono e r)
  | _, _, .dic h r => .dic h (RpAll.mono e r)
theorem RpAll.mono (e : Same H H') : ∀ {vs : List V} {ds : List D}, RpAll K w H vs ds → RpAll K w H' vs ds
  | _, _, .nil => .nil
  | _, _, .cons h r => .cons (Rp.mono e h) (RpAll.mono e r)
end
theorem RpAll.length : ∀ {vs : List V} {ds : List D}, RpAll K w H vs ds → vs.length = ds.length
  | _, _, .nil => rfl
  | _, _, .cons _ r => congrArg Nat.succ r.length
theorem RpAll.get : ∀ {vs : List V} {ds : List D} {i : Nat} {d : D}, RpAll K w H vs ds → ds[i]? = some d → ∃ v, vs[i]? = some v ∧ Rp K w H v d
  | _, _, _, _, .nil, e => by simp at e
  | _, _, 0, _, .cons h _, e => by
    simp at e
    subst e
    exact ⟨_, rfl, h⟩
  | _, _, i + 1, d, .cons _ r, e => by
    obtain ⟨v, h1, h2⟩ := RpAll.get (i := i) (d := d) r (by simpa using e)
    exact ⟨v, by simpa using h1, h2⟩
theorem RpAll.getV : ∀ {vs : List V} {ds : List D} {i : Nat} {v : V}, RpAll K w H vs ds → vs[i]? = some v → ∃ d, ds[i]? = some d ∧ Rp K w H v d
  | _, _, _, _, .nil, e => by simp at e
  | _, _, 0, _, .cons h _, e => by
    simp at e
    subst e
    exact ⟨_, rfl, h⟩
  | _, _, i + 1, d, .cons _ r, e => by
    obtain ⟨v, h1, h2⟩ := RpAll.getV (i := i) (v := d) r (by simpa using e)
    exact ⟨v, by simpa using h1, h2⟩
theorem RpAll.append : ∀ {vs us : List V} {ds es : List D}, RpAll K w H vs ds → RpAll K w H us es → RpAll K w H (vs ++ us) (ds ++ es)
  | _, _, _, _, .nil, s => s
  | _, _, _, _, .cons h r, s => .cons h (RpAll.append r s)
theorem RpAll.take : ∀ {vs : List V} {ds : List D} (n : Nat), RpAll K w H vs ds → RpAll K w H (vs.take n) (ds.take n)
  | _, _, 0, _ => .nil
  | _, _, _ + 1, .nil => .nil
  | _, _, n + 1, .cons h r => .cons h (RpAll.take n r)
theorem RpAll.drop : ∀ {vs : List V} {ds : List D} (n : Nat), RpAll K w H vs ds → RpAll K w H (vs.drop n) (ds.drop n)
  | _, _, 0, r => r
  | _, _, _ + 1, .nil => .nil
  | _, _, n + 1, .cons _ r => RpAll.drop n r
theorem RpAll.set : ∀ {vs : List V} {ds : List D} {v : V} {d : D} (i : Nat), RpAll K w H vs ds → Rp K w H v d → RpAll K w H (vs.set i v) (ds.set i d)
  | _, _, _, _, _, .nil, _ => .nil
  | _, _, _, _, 0, .cons _ r, q => .cons q r
  | _, _, _, _, i + 1, .cons h r, q => .cons h (RpAll.set i r q)
theorem RpAll.reverse {vs : List V} {ds : List D} (h : RpAll K w H vs ds) : RpAll K w H vs.reverse ds.reverse := by
  induction vs generalizing ds with
  | nil => cases h; exact .nil
  | cons v vs ih =>
    cases h with
    | cons h r =>
      rw [List.reverse_cons, List.reverse_cons]
      exact (ih r).append (.cons h .nil)
/-- data without objects: what is true of it in no heap -/
theorem Rp.ints (w : World) (H : Hp) : ∀ ns : List Int, RpAll K w H (ns.map V.int) (ns.map PyData.int)
  | [] => .nil
  | n :: ns => .cons (.int n) (Rp.ints w H ns)
/-! ### as the library has it: data without dicts -/
mutual
theorem Rp.dp : ∀ (d : D) (v : V), Rp K w H v d → d.canLay0 = true → Dp K H v d
  | .none, _, h, _ => by cases h; exact .non
  | .bool b, _, h, _ => by cases h; exact .bl b
  | .int i, _, h, _ => by cases h; exact .int i
  | .str x, _, h, _ => by cases h; exact .str x
  | .list ds, _, h, c => by
    cases h with
    | lst e r => exact .lst (SqL.of e) (Rp.dpAll ds _ r (by simpa only [PyData.canLay0] using c))
  | .tuple ds, _, h, c => by
    cases h with
    | tup e r => exact .tup e (Rp.dpAll ds _ r (by simpa only [PyData.canLay0] using c))
  | .dict _, _, _, c => by simp only [PyData.canLay0] at c; cases c
theorem Rp.dpAll : ∀ (ds : List D) (vs : List V), RpAll K w H vs ds → PyData.canLayAll0 ds = true → DpAll K H vs ds
  | [], _, h, _ => by cases h; exact .nil
  | d :: ds, _, h, c => by
    cases h with
    | cons h1 h2 =>
      have c' : d.canLay0 = true ∧ PyData.canLayAll0 ds = true := by simpa [PyData.canLayAll0] using c
      exact .cons (Rp.dp d _ h1 c'.1) (Rp.dpAll ds _ h2 c'.2)
end
end

/-! ### growth -/
/-- G: what is read for ever; H: all that is tracked -/
structure Gr (G H G' H' : Hp) : Prop where
  g : Same G G'
  s : Same G' H'
  h : Same H H'
  o : ∀ a, H a ≠ none → G a = none → G' a = none
theorem Gr.refl {G H : Hp} (s : Same G H) : Gr G H G H := ⟨Same.refl _, s, Same.refl _, fun _ _ h => h⟩
theorem Gr.trans {G H G1 H1 G2 H2 : Hp} (a : Gr G H G1 H1) (b : Gr G1 H1 G2 H2) : Gr G H G2 H2 :=
  ⟨a.g.trans b.g, b.s, a.h.trans b.h, fun c h1 h2 => b.o c (fun e => by
    cases q : H c with
    | none => exact h1 q
    | some o => rw [a.h c o q] at e; cases e) (a.o c h1 h2)⟩
theorem same_upd {H : Hp} {p : Addr} {o : HO} (h : H p = none) : Same H (upd H p o) := fun b x e => by
  rw [upd_ne (ne_of_none e h)]
  exact e
theorem upd2 {G H : Hp} {p : Addr} {o : HO} (s : Same G H) : Same (upd G p o) (upd H p o) := fun b x e => by
  by_cases hb : b = p
  · subst hb; rw [upd_same] at e ⊢; exact e
  · rw [upd_ne hb] at e ⊢; exact s b x e
theorem Gr.new {G H : Hp} {p : Addr} {o : HO} (s : Same G H) (h : H p = none) : Gr G H (upd G p o) (upd H p o) :=
  ⟨same_upd (s.free h), upd2 s, same_upd h, fun a h1 h2 => by
    have ne : a ≠ p := fun e => h1 (e ▸ h)
    rw [upd_ne ne]; exact h2⟩

/-! ### results -/
structure Er where
  cls : Str
  arg : Option (Str × D) := none
inductive Res (α : Type) where
  | ok (a : α)
  | er (e : Er)
  | no
theorem nr {α : Sort _} {a b : α} (h : a = b) : a = b := h
def Res.bind {α β : Type} : Res α → (α → Res β) → Res β
  | .ok a, f => f a
  | .er e, _ => .er e
  | .no, _ => .no
def Res.of {α : Type} : Option α → Res α
  | some a => .ok a
  | none => .no
@[simp] theorem Res.bind_ok {α β : Type} (a : α) (f : α → Res β) : (Res.ok a).bind f = f a := nr rfl
@[simp] theorem Res.bind_er {α β : Type} (e : Er) (f : α → Res β) : (Res.er e : Res α).bind f = .er e := nr rfl
@[simp] theorem Res.bind_no {α β : Type} (f : α → Res β) : (Res.no : Res α).bind f = .no := nr rfl
@[simp] theorem Res.of_some {α : Type} (a : α) : Res.of (some a) = .ok a := nr rfl
@[simp] theorem Res.of_none {α : Type} : Res.of (none : Option α) = .no := nr rfl
theorem Res.of_ok {α : Type} {o : Option α} {a : α} (h : Res.of o = .ok a) : o = some a := by
  cases o with
  | none => cases h
  | some b => cases h; rfl
theorem Res.of_er {α : Type} {o : Option α} {e : Er} (h : Res.of o = .er e) : False := by
  cases o <;> cases h

/-! ### slots -/
abbrev Bt := List (Option D)
/-- what is wished of an exception; what is known besides, of what is read and of the slots: it stands while the heap grows and while other slots are stored -/
structure WA where
  x : WX
  am : Hp → L2.St → Prop
  mono : ∀ G G' σ, Same G G' → am G σ → am G' σ
  ok : Nat → Bool
  set : ∀ (j : Nat) (v : Option V) (G : Hp) (σ : L2.St), ok j = true → am G σ → am G (σ.set j v)
def WA.of (x : WX) : WA := ⟨x, fun _ _ => True, fun _ _ _ _ h => h, fun _ => true, fun _ _ _ _ _ h => h⟩
def W0 : WA := WA.of fun _ _ _ _ => False
/-- an exception of ours -/
def ErR (K : PySem.W.Frag) (w : World) (mg : Str → Option Value) (e : Er) (cls : Value) (dd : Option Addr) (Hs G H : Hp) : Prop :=
  ∃ C, mg e.cls = some (.ref C) ∧ cls = .ref C ∧ match e.arg with
    | none => dd = none
    | some (f, x) => ∃ a v, dd = some a ∧ Hs a = none ∧ H a = some (.xd [(f, v)]) ∧ Rp K w G v x
theorem ErR.back {K : PySem.W.Frag} {w : World} {mg : Str → Option Value} {e : Er} {cls : Value} {dd : Option Addr} {H1 H2 G H : Hp} (s : Same H1 H2) (z : ErR K w mg e cls dd H2 G H) : ErR K w mg e cls dd H1 G H := by
  obtain ⟨C, h1, h2, h3⟩ := z
  refine ⟨C, h1, h2, ?_⟩
  split at h3
  · exact h3
  · rename_i f x q
    obtain ⟨a, v, q1, q2, q3, q4⟩ := h3
    exact ⟨a, v, q1, s.free q2, q3, q4⟩
def Ev (K : PySem.W.Frag) (w : World) (W : WA) (G : Hp) (σ : L2.St) (β : Bt) : Prop := β.length ≤ σ.length ∧ (∀ (i : Nat) (d : D), β[i]? = some (some d) → ∃ v, σ[i]? = some (some v) ∧ Rp K w G v d) ∧ W.am G σ
theorem Ev.mono {K : PySem.W.Frag} {w : World} {W : WA} {G G' : Hp} {σ : L2.St} {β : Bt} (h : Ev K w W G σ β) (e : Same G G') : Ev K w W G' σ β := ⟨h.1, fun i d q => by
  obtain ⟨v, h1, h2⟩ := h.2.1 i d q
  exact ⟨v, h1, h2.mono e⟩, W.mono _ _ _ e h.2.2⟩
/-- what an expression gives -/
def RP {α : Type} (K : PySem.W.Frag) (w : World) (mg : Str → Option Value) (W : WA) (σ : L2.St) (G H : Hp) (good : α → Hp → Hp → Prop) : Res α → Prop
  | .ok a => ∀ G' H', Gr G H G' H' → good a G' H'
  | .er e => ∀ cls dd G' H', Gr G H G' H' → ErR K w mg e cls dd H G' H' → W.x cls dd σ H'
  | .no => False
def TR (X : Cx) (W : WA) (den : Bt → Res D) : TE := fun σ H Q => ∃ G β, Same G H ∧ Ev X.K X.w W G σ β ∧ RP X.K X.w X.mg W σ G H (fun d G' H' => ∀ v, Rp X.K X.w G' v d → Q v H') (den β)
def TRt (X : Cx) (W : WA) (den : Bt → Res Bool) : TT := fun σ H Q => ∃ G β, Same G H ∧ Ev X.K X.w W G σ β ∧ RP X.K X.w X.mg W σ G H (fun b _ H' => Q b H') (den β)
def TRa (X : Cx) (W : WA) (den : Bt → Res (List D)) : TA := fun σ H Q => ∃ G β, Same G H ∧ Ev X.K X.w W G σ β ∧ RP X.K X.w X.mg W σ G H (fun ds G' H' => ∀ vs, RpAll X.K X.w G' vs ds → Q vs H') (den β)
/-- the expression e gives what den says -/
def RE (X : Cx) (W : WA) (e : Expr) (den : Bt → Res D) : Prop := PE X e (TR X W den)
def RT (X : Cx) (W : WA) (e : Expr) (den : Bt → Res Bool) : Prop := PT X e (TRt X W den)
def RW (X : Cx) (W : WA) (e : Expr) (den : Bt → Res Bool) : Prop := PW X e (TRt X W den)
def RA (X : Cx) (W : WA) (es : List Expr) (den : Bt → Res (List D)) : Prop := PA X es (TRa X W den)
theorem PE.imp {X : Cx} {e : Expr} {t t' : TE} (h : PE X e t) (i : ∀ σ H Q, t' σ H Q → t σ H Q) : PE X e t' := ⟨fun pins s σ H Q I q => h.run pins s σ H Q I (i σ H Q q)⟩
theorem PT.imp {X : Cx} {e : Expr} {t t' : TT} (h : PT X e t) (i : ∀ σ H Q, t' σ H Q → t σ H Q) : PT X e t' := ⟨fun pins s σ H Q I q => h.run pins s σ H Q I (i σ H Q q)⟩
theorem PW.imp {X : Cx} {e : Expr} {t t' : TT} (h : PW X e t) (i : ∀ σ H Q, t' σ H Q → t σ H Q) : PW X e t' := ⟨fun wh pins s σ H Q I q => h.run wh pins s σ H Q I (i σ H Q q)⟩
theorem PA.imp {X : Cx} {es : List Expr} {t t' : TA} (h : PA X es t) (i : ∀ σ H Q, t' σ H Q → t σ H Q) : PA X es t' := ⟨fun pos pins s σ H Q I q => h.run pos pins s σ H Q I (i σ H Q q)⟩
section
variable {K : PySem.W.Frag} {w : World} {mg : Str → Option Value} {W : WA} {σ : L2.St} {G H : Hp}
/-- a bind: the first part's wish from the whole's -/
theorem RP.bind {α β : Type} {good : α → Hp → Hp → Prop} {good2 : β → Hp → Hp → Prop} {r : Res α} {f : α → Res β} (h : RP K w mg W σ G H good2 (r.bind f))
    (k : ∀ a, r = .ok a → ∀ G' H', Gr G H G' H' → RP K w mg W σ G' H' good2 (f a) → good a G' H') : RP K w mg W σ G H good r := by
  cases r with
  | no => exact h
  | er e => exact h
  | ok a =>
    have h' : RP K w mg W σ G H good2 (f a) := h
    intro G' H' g
    refine k a rfl G' H' g ?_
    cases q : f a with
    | no => rw [q] at h'; exact h'
    | er e => rw [q] at h'; exact fun cls dd G2 H2 g2 z => h' cls dd G2 H2 (g.trans g2) (z.back g.h)
    | ok b => rw [q] at h'; exact fun G2 H2 g2 => h' G2 H2 (g.trans g2)
theorem RP.here {α : Type} {good : α → Hp → Hp → Prop} {a : α} (h : RP K w mg W σ G H good (.ok a)) {G' H' : Hp} (g : Gr G H G' H') : good a G' H' := h G' H' g
theorem RP.ofOpt {α : Type} {good : α → Hp → Hp → Prop} {o : Option α} (h : RP K w mg W σ G H good (Res.of o)) : ∃ a, o = some a ∧ ∀ G' H', Gr G H G' H' → good a G' H' := by
  cases o with
  | none => exact h.elim
  | some a => exact ⟨a, rfl, h⟩
end
end DL

/-! DL2: expressions: names, constants, operators, comparisons, displays, tests. -/
namespace DL
open PySem PySem.Spec PyProof.Rows L2

/-! ### what they compute -/
def dV (i : Nat) : Bt → Res D := fun β => match β[i]? with
  | some (some d) => .ok d
  | _ => .no
def dC (d : D) : Bt → Res D := fun _ => .ok d
def d1 (f : D → Option D) (a : Bt → Res D) : Bt → Res D := fun β => (a β).bind fun x => Res.of (f x)
def d2 (f : D → D → Option D) (a b : Bt → Res D) : Bt → Res D := fun β => (a β).bind fun x => (b β).bind fun y => Res.of (f x y)
def aNil : Bt → Res (List D) := fun _ => .ok []
def aCons (a : Bt → Res D) (r : Bt → Res (List D)) : Bt → Res (List D) := fun β => (a β).bind fun x => (r β).bind fun xs => .ok (x :: xs)
def dTup (a : Bt → Res (List D)) : Bt → Res D := fun β => (a β).bind fun xs => if xs.length ≤ sizeLine then .ok (.tuple xs) else .no
def dLst (a : Bt → Res (List D)) : Bt → Res D := fun β => (a β).bind fun xs => if xs.length ≤ sizeLine then .ok (.list xs) else .no
def dN (f : List D → Option D) (a : Bt → Res (List D)) : Bt → Res D := fun β => (a β).bind fun xs => Res.of (f xs)
def asB : D → Option Bool
  | .bool b => some b
  | _ => none
def tV (a : Bt → Res D) : Bt → Res Bool := fun β => (a β).bind fun x => Res.of (asB x)
def tNot (a : Bt → Res Bool) : Bt → Res Bool := fun β => (a β).bind fun x => .ok (!x)
def tAnd (a b : Bt → Res Bool) : Bt → Res Bool := fun β => (a β).bind fun x => if x = true then b β else .ok false
def tOr (a b : Bt → Res Bool) : Bt → Res Bool := fun β => (a β).bind fun x => if x = true then .ok true else b β
def dNot (a : Bt → Res D) : Bt → Res D := fun β => (a β).bind fun x => (Res.of (asB x)).bind fun x => .ok (.bool !x)
def dAnd (a b : Bt → Res D) : Bt → Res D := fun β => (a β).bind fun x => (Res.of (asB x)).bind fun x => if x = true then b β else .ok (.bool false)
def dOr (a b : Bt → Res D) : Bt → Res D := fun β => (a β).bind fun x => (Res.of (asB x)).bind fun x => if x = true then .ok (.bool true) else b β
def dIf (t : Bt → Res Bool) (a b : Bt → Res D) : Bt → Res D := fun β => (t β).bind fun x => if x = true then a β else b β

/-! ### the rules' common part -/
section
variable {X : Cx} {W : WA}
/-- r gives what f computes -/
def OkR1 (X : Cx) (r : V → Hp → VK → Prop) (f : D → Option D) : Prop := ∀ x d, f x = some d → ∀ v G H Q, Same G H → Rp X.K X.w G v x → (∀ G' H', Gr G H G' H' → ∀ u, Rp X.K X.w G' u d → Q u H') → r v H Q
def OkR2 (X : Cx) (r : R2) (f : D → D → Option D) : Prop := ∀ x y d, f x y = some d → ∀ v u G H Q, Same G H → Rp X.K X.w G v x → Rp X.K X.w G u y → (∀ G' H', Gr G H G' H' → ∀ u, Rp X.K X.w G' u d → Q u H') → r v u H Q
def OkRN (X : Cx) (r : List V → Hp → VK → Prop) (f : List D → Option D) : Prop := ∀ xs d, f xs = some d → ∀ vs G H Q, Same G H → RpAll X.K X.w G vs xs → (∀ G' H', Gr G H G' H' → ∀ u, Rp X.K X.w G' u d → Q u H') → r vs H Q
theorem op2D {r : R2} {f : D → D → Option D} {da db : Bt → Res D} (k : OkR2 X r f) (σ : L2.St) (H : Hp) (Q : VK) (h : TR X W (d2 f da db) σ H Q) : tOp r (TR X W da) (TR X W db) σ H Q := by
  obtain ⟨G, β, s, ev, rp⟩ := h
  refine ⟨G, β, s, ev, rp.bind fun x ex G1 H1 g1 rp1 v rv => ?_⟩
  refine ⟨G1, β, g1.s, ev.mono g1.g, rp1.bind fun y ey G2 H2 g2 rp2 u ru => ?_⟩
  obtain ⟨d, ed, q⟩ := rp2.ofOpt
  exact k x y d ed v u G2 H2 Q g2.s (rv.mono g2.g) ru q
theorem op1D {r : V → Hp → VK → Prop} {f : D → Option D} {da : Bt → Res D} (k : OkR1 X r f) (σ : L2.St) (H : Hp) (Q : VK) (h : TR X W (d1 f da) σ H Q) : tUn r (TR X W da) σ H Q := by
  obtain ⟨G, β, s, ev, rp⟩ := h
  refine ⟨G, β, s, ev, rp.bind fun x ex G1 H1 g1 rp1 v rv => ?_⟩
  obtain ⟨d, ed, q⟩ := rp1.ofOpt
  exact k x d ed v G1 H1 Q g1.s rv q
theorem opND {r : List V → Hp → VK → Prop} {f : List D → Option D} {da : Bt → Res (List D)} (k : OkRN X r f) (σ : L2.St) (H : Hp) (Q : VK) (h : TR X W (dN f da) σ H Q) : tCB r (TRa X W da) σ H Q := by
  obtain ⟨G, β, s, ev, rp⟩ := h
  refine ⟨G, β, s, ev, rp.bind fun x ex G1 H1 g1 rp1 v rv => ?_⟩
  obtain ⟨d, ed, q⟩ := rp1.ofOpt
  exact k x d ed v G1 H1 Q g1.s rv q
theorem OkR2.or1 {r r' : R2} {f g : D → D → Option D} (h : OkR2 X r f) (h' : OkR2 X r' g) : OkR2 X (fun x y H Q => r x y H Q ∨ r' x y H Q) (fun x y => (f x y).or (g x y)) := fun x y d e0 v u G H Q s rv ru q => by
  have e : (f x y).or (g x y) = some d := e0
  cases ef : f x y with
  | some z =>
    rw [ef] at e
    exact .inl (h x y d (ef.trans e) v u G H Q s rv ru q)
  | none =>
    rw [ef] at e
    exact .inr (h' x y d e v u G H Q s rv ru q)
theorem OkR2.from {r : R2} {f g : D → D → Option D} (h : OkR2 X r f) (e : ∀ x y d, g x y = some d → f x y = some d) : OkR2 X r g := fun x y d q => h x y d (e x y d q)
theorem OkR1.from {r : V → Hp → VK → Prop} {f g : D → Option D} (h : OkR1 X r f) (e : ∀ x d, g x = some d → f x = some d) : OkR1 X r g := fun x d q => h x d (e x d q)

/-! ### names, constants -/
theorem rv (i : Nat) {x : Str} {pos : Pos} (hN : X.N[i]? = some x := by rfl) (hv : Vis X.env.scope x := by first | exact Or.inl rfl | exact Or.inr (Or.inl rfl) | exact Or.inr (Or.inr rfl)) (hd : (x == ("__debug__" : Str)) = false := by decide)
    (hcd : (x == ("__classdict__" : Str)) = false := by decide) : RE X W (.Name x pos) (dV i) := by
  refine PE.imp (pe_var hN hv hd hcd) fun σ H Q h => ?_
  obtain ⟨G, β, s, ev, rp⟩ := h
  unfold dV at rp
  split at rp
  · rename_i d e
    obtain ⟨v, e1, e2⟩ := ev.2.1 i d e
    exact ⟨v, e1, rp.here (Gr.refl s) v e2⟩
  · exact rp.elim
theorem rconst {e : Expr} {v : V} {d : D} (h : PE X e (tC v)) (r : ∀ G, Rp X.K X.w G v d) : RE X W e (dC d) := by
  refine PE.imp h fun σ H Q h => ?_
  obtain ⟨G, β, s, ev, rp⟩ := h
  exact rp.here (Gr.refl s) v (r G)
theorem rint {i j pos} : RE X W (.Constant (.int i) j pos) (dC (.int i)) := rconst pe_int fun _ => .int _
theorem rstr {i j pos} : RE X W (.Constant (.str i) j pos) (dC (.str i)) := rconst pe_str fun _ => .str _
theorem rbl {i j pos} : RE X W (.Constant (.bool i) j pos) (dC (.bool i)) := rconst pe_bl fun _ => .bl _
theorem rnone {j pos} : RE X W (.Constant .none j pos) (dC .none) := rconst pe_non fun _ => .non
/-- a constant of the module -/
theorem rglob {x : Str} {v : V} {u : Value} {d : D} {pos : Pos} (hm : X.mg x = some u) (r : RelV v u) (rp : ∀ G, Rp X.K X.w G v d) (hg : Gl X x := by rfl) (hd : (x == ("__debug__" : Str)) = false := by decide) : RE X W (.Name x pos) (dC d) :=
  rconst (pe_glob hg hm r hd) rp

/-! ### operators -/
theorem rop {a b : Expr} {da db : Bt → Res D} {op : Operator} {pos : Pos} {r : R2} {f : D → D → Option D} (ho : OpR X (binaryOp op) r) (k : OkR2 X r f) (ha : RE X W a da) (hb : RE X W b db) : RE X W (.BinOp a op b pos) (d2 f da db) :=
  PE.imp (pe_op ho ha hb) (op2D k)
theorem rcmp {a b : Expr} {da db : Bt → Res D} {op : CmpOp} {pos : Pos} {r : R2} {f : D → D → Option D} (ho : OpR X (compareOp op) r) (k : OkR2 X r f) (ha : RE X W a da) (hb : RE X W b db) (hm : behindInMarks op b = false := by rfl) : RE X W (.Compare a [op] [b] pos) (d2 f da db) :=
  PE.imp (pe_cmpR ho ha hb hm) (op2D k)
theorem rix {a b : Expr} {da db : Bt → Res D} {pos : Pos} {r : R2} {f : D → D → Option D} (ho : IxR X r) (k : OkR2 X r f) (ha : RE X W a da) (hb : RE X W b db) (hs : PlainIx b := by exact fun _ _ => rfl) : RE X W (.Subscript a b pos) (d2 f da db) :=
  PE.imp (pe_ix ho ha hb hs) (op2D k)
theorem runo {a : Expr} {da : Bt → Res D} {op : UnaryOp} {pos : Pos} {r : V → Hp → VK → Prop} {f : D → Option D} (ho : UnR X (unaryOp op) r) (k : OkR1 X r f) (ha : RE X W a da) : RE X W (.UnaryOp op a pos) (d1 f da) :=
  PE.imp (pe_un ho ha) (op1D k)

/-! ### arguments, displays -/
theorem ranil : RA X W [] aNil := PA.imp pa_nil fun σ H Q h => by
  obtain ⟨G, β, s, ev, rp⟩ := h
  exact rp.here (Gr.refl s) [] .nil
theorem racons {e : Expr} {es : List Expr} {da : Bt → Res D} {dr : Bt → Res (List D)} (ha : RE X W e da) (hr : RA X W es dr) (hs : starEach (e :: es) X.env = (false, eval e X.env) :: starEach es X.env := by rfl) : RA X W (e :: es) (aCons da dr) :=
  PA.imp (pa_cons ha hr hs) fun σ H Q h => by
    obtain ⟨G, β, s, ev, rp⟩ := h
    refine ⟨G, β, s, ev, rp.bind fun x ex G1 H1 g1 rp1 v rv => ?_⟩
    refine ⟨G1, β, g1.s, ev.mono g1.g, rp1.bind fun y ey G2 H2 g2 rp2 u ru => ?_⟩
    exact rp2.here (Gr.refl g2.s) (v :: u) (.cons (rv.mono g2.g) ru)
theorem rtup {es : List Expr} {da : Bt → Res (List D)} {x1} {pos : Pos} (h : RA X W es da) : RE X W (.Tuple es x1 pos) (dTup da) :=
  PE.imp (pe_tup h) fun σ H Q h => by
    obtain ⟨G, β, s, ev, rp⟩ := h
    refine ⟨G, β, s, ev, rp.bind fun x ex G1 H1 g1 rp1 vs rv => ?_⟩
    have hl := rv.length
    by_cases hz : x.length ≤ sizeLine
    · rw [if_pos hz] at rp1
      refine ⟨by omega, fun p hp => ?_⟩
      exact rp1.here (Gr.new g1.s hp) (.ref p) (.tup (.inl (.inl upd_same)) (RpAll.mono (same_upd (g1.s.free hp)) rv))
    · rw [if_neg hz] at rp1
      exact rp1.elim
theorem rlst {es : List Expr} {da : Bt → Res (List D)} {pos : Pos} (h : RA X W es da) : RE X W (.List es pos) (dLst da) :=
  PE.imp (pe_lst h) fun σ H Q h => by
    obtain ⟨G, β, s, ev, rp⟩ := h
    refine ⟨G, β, s, ev, rp.bind fun x ex G1 H1 g1 rp1 vs rv => ?_⟩
    have hl := rv.length
    by_cases hz : x.length ≤ sizeLine
    · rw [if_pos hz] at rp1
      refine ⟨by omega, fun p hp => ?_⟩
      exact rp1.here (Gr.new g1.s hp) (.ref p) (.lst upd_same (RpAll.mono (same_upd (g1.s.free hp)) rv))
    · rw [if_neg hz] at rp1
      exact rp1.elim

/-! ### tests and bools -/
theorem asB_ok {d : D} {b : Bool} (h : asB d = some b) : d = .bool b := by
  cases d <;> simp [asB] at h
  rw [h]
theorem rt {e : Expr} {da : Bt → Res D} (h : RE X W e da) (he : ∀ whole, isTrue e X.env whole = (do let v ← whole; standAt e.pos; holding [v] (truthy v)) := by intro _; rfl) : RT X W e (tV da) :=
  PT.imp (pt_val h he) fun σ H Q h => by
    obtain ⟨G, β, s, ev, rp⟩ := h
    refine ⟨G, β, s, ev, rp.bind fun x ex G1 H1 g1 rp1 v rv => ?_⟩
    obtain ⟨b, eb, q⟩ := rp1.ofOpt
    cases asB_ok eb
    cases rv
    exact ⟨b, rfl, q _ _ (Gr.refl g1.s)⟩
theorem rtcmp {a b : Expr} {da db : Bt → Res D} {op : CmpOp} {pos : Pos} {r : R2} {f : D → D → Option D} (ho : OpR X (compareOp op) r) (k : OkR2 X r f) (ha : RE X W a da) (hb : RE X W b db) (hm : behindInMarks op b = false := by rfl) : RT X W (.Compare a [op] [b] pos) (tV (d2 f da db)) :=
  PT.imp (pt_cmpR ho ha hb hm) fun σ H Q h => by
    obtain ⟨G, β, s, ev, rp⟩ := h
    refine op2D (W := W) (da := da) (db := db) k σ H (fun x H' => ∃ k, x = .bl k ∧ Q k H') ⟨G, β, s, ev, rp.bind fun x ex G1 H1 g1 rp1 v rv => ?_⟩
    obtain ⟨b, eb, q⟩ := rp1.ofOpt
    cases asB_ok eb
    cases rv
    exact ⟨b, rfl, q _ _ (Gr.refl g1.s)⟩
theorem rtnot {a : Expr} {da : Bt → Res Bool} {pos : Pos} (h : RT X W a da) : RT X W (.UnaryOp .Not a pos) (tNot da) :=
  PT.imp (pt_not h) fun σ H Q h => by
    obtain ⟨G, β, s, ev, rp⟩ := h
    refine ⟨G, β, s, ev, rp.bind fun x ex G1 H1 g1 rp1 => ?_⟩
    exact rp1.here (Gr.refl g1.s)
theorem rw1 {a : Expr} {da : Bt → Res Bool} {pos : Pos} (h : RT X W a da) : RW X W (.BoolOp .And [a] pos) da := pw_and1 h
theorem rwo1 {a : Expr} {da : Bt → Res Bool} {pos : Pos} (h : RT X W a da) : RW X W (.BoolOp .Or [a] pos) da := pw_or1 h
theorem rwand {a b : Expr} {rest : List Expr} {da db : Bt → Res Bool} {pos : Pos} (ha : RT X W a da) (hb : RW X W (.BoolOp .And (b :: rest) pos) db) : RW X W (.BoolOp .And (a :: b :: rest) pos) (tAnd da db) :=
  PW.imp (pw_and ha hb) fun σ H Q h => by
    obtain ⟨G, β, s, ev, rp⟩ := h
    refine ⟨G, β, s, ev, rp.bind fun x ex G1 H1 g1 rp1 => ?_⟩
    cases x with
    | true => exact ⟨G1, β, g1.s, ev.mono g1.g, rp1⟩
    | false => exact rp1.here (Gr.refl g1.s)
theorem rwor {a b : Expr} {rest : List Expr} {da db : Bt → Res Bool} {pos : Pos} (ha : RT X W a da) (hb : RW X W (.BoolOp .Or (b :: rest) pos) db) : RW X W (.BoolOp .Or (a :: b :: rest) pos) (tOr da db) :=
  PW.imp (pw_or ha hb) fun σ H Q h => by
    obtain ⟨G, β, s, ev, rp⟩ := h
    refine ⟨G, β, s, ev, rp.bind fun x ex G1 H1 g1 rp1 => ?_⟩
    cases x with
    | true => exact rp1.here (Gr.refl g1.s)
    | false => exact ⟨G1, β, g1.s, ev.mono g1.g, rp1⟩
theorem rtw {e : Expr} {d : Bt → Res Bool} (h : RW X W e d) : RT X W e d := PW.pt h
theorem rnot {a : Expr} {da : Bt → Res D} {pos : Pos} (h : RE X W a da) : RE X W (.UnaryOp .Not a pos) (dNot da) :=
  PE.imp (pe_not h) fun σ H Q h => by
    obtain ⟨G, β, s, ev, rp⟩ := h
    refine ⟨G, β, s, ev, rp.bind fun x ex G1 H1 g1 rp1 v rv => ?_⟩
    cases eb : asB x with
    | none => rw [eb] at rp1; exact rp1.elim
    | some b =>
      rw [eb] at rp1
      cases asB_ok eb
      cases rv
      exact ⟨b, rfl, rp1.here (Gr.refl g1.s) _ (.bl _)⟩
theorem rbone {op} {a : Expr} {da : Bt → Res D} {pos : Pos} (h : RE X W a da) : RE X W (.BoolOp op [a] pos) da := pe_one h
theorem rand {a b : Expr} {rest : List Expr} {da db : Bt → Res D} {pos : Pos} (ha : RE X W a da) (hb : RE X W (.BoolOp .And (b :: rest) pos) db) : RE X W (.BoolOp .And (a :: b :: rest) pos) (dAnd da db) :=
  PE.imp (pe_and ha hb) fun σ H Q h => by
    obtain ⟨G, β, s, ev, rp⟩ := h
    refine ⟨G, β, s, ev, rp.bind fun x ex G1 H1 g1 rp1 v rv => ?_⟩
    cases eb : asB x with
    | none => rw [eb] at rp1; exact rp1.elim
    | some b =>
      rw [eb] at rp1
      cases asB_ok eb
      cases rv
      refine ⟨b, rfl, ?_⟩
      cases b with
      | true => exact ⟨G1, β, g1.s, ev.mono g1.g, rp1⟩
      | false => exact rp1.here (Gr.refl g1.s) _ (.bl _)
theorem ror {a b : Expr} {rest : List Expr} {da db : Bt → Res D} {pos : Pos} (ha : RE X W a da) (hb : RE X W (.BoolOp .Or (b :: rest) pos) db) : RE X W (.BoolOp .Or (a :: b :: rest) pos) (dOr da db) :=
  PE.imp (pe_or ha hb) fun σ H Q h => by
    obtain ⟨G, β, s, ev, rp⟩ := h
    refine ⟨G, β, s, ev, rp.bind fun x ex G1 H1 g1 rp1 v rv => ?_⟩
    cases eb : asB x with
    | none => rw [eb] at rp1; exact rp1.elim
    | some b =>
      rw [eb] at rp1
      cases asB_ok eb
      cases rv
      refine ⟨b, rfl, ?_⟩
      cases b with
      | true => exact rp1.here (Gr.refl g1.s) _ (.bl _)
      | false => exact ⟨G1, β, g1.s, ev.mono g1.g, rp1⟩
theorem rif {c a b : Expr} {dc : Bt → Res Bool} {da db : Bt → Res D} {pos : Pos} (hc : RT X W c dc) (ha : RE X W a da) (hb : RE X W b db) : RE X W (.IfExp c a b pos) (dIf dc da db) :=
  PE.imp (pe_ifExp hc ha hb) fun σ H Q h => by
    obtain ⟨G, β, s, ev, rp⟩ := h
    refine ⟨G, β, s, ev, rp.bind fun x ex G1 H1 g1 rp1 => ?_⟩
    cases x with
    | true => exact ⟨G1, β, g1.s, ev.mono g1.g, rp1⟩
    | false => exact ⟨G1, β, g1.s, ev.mono g1.g, rp1⟩
end
end DL

/-! DL3: the operators on data. -/
namespace DL
open PySem PySem.Spec PyProof.Rows L2
section
variable {X : Cx} {W : WA} {a b : Expr} {da db : Bt → Res D} {pos : Pos}
/-! ### arithmetic -/
def fAdd : D → D → Option D
  | .int i, .int j => some (.int (i + j))
  | .str x, .str y => if x.length + y.length ≤ sizeLine then some (.str (x ++ y)) else none
  | .tuple xs, .tuple ys => if xs.length + ys.length ≤ sizeLine then some (.tuple (xs ++ ys)) else none
  | .list xs, .list ys => if xs.length + ys.length ≤ sizeLine then some (.list (xs ++ ys)) else none
  | _, _ => none
abbrev rAddStr : R2 := fun x y H Q => ∃ i j, x = .str i ∧ y = .str j ∧ i.length + j.length ≤ sizeLine ∧ Q (.str (i ++ j)) H
theorem ok_add : OkR2 X (fun x y H Q => rI0 (fun i j => .int (i + j)) x y H Q ∨ (rAddStr x y H Q ∨ (rCatA X.K x y H Q ∨ rCat x y H Q))) fAdd := by
  intro x y d e v u G H Q s rv ru q
  cases rv with
  | int i =>
    cases ru <;> simp only [fAdd, Option.some.injEq, reduceCtorEq] at e
    subst e
    exact .inl ⟨_, _, rfl, rfl, q _ _ (Gr.refl s) _ (.int _)⟩
  | str i =>
    cases ru <;> simp only [fAdd, reduceCtorEq] at e
    split at e
    · cases e
      rename_i h
      exact .inr (.inl ⟨_, _, rfl, rfl, h, q _ _ (Gr.refl s) _ (.str _)⟩)
    · cases e
  | tup hx rx =>
    cases ru with
    | tup hy ry =>
      simp only [fAdd] at e
      split at e
      · cases e
        rename_i h
        have l1 := rx.length
        have l2 := ry.length
        refine .inr (.inr (.inl ⟨_, _, _, _, rfl, rfl, seqT s hx, seqT s hy, by omega, fun e0 => ?_, fun _ e0 => ?_, fun _ _ p hp => ?_⟩))
        · subst e0
          cases rx
          exact q _ _ (Gr.refl s) _ (.tup hy ry)
        · subst e0
          cases ry
          rw [List.append_nil] at q
          exact q _ _ (Gr.refl s) _ (.tup hx rx)
        · exact q _ _ (Gr.new s hp) _ (.tup (.inl (.inl upd_same)) (RpAll.mono (same_upd (s.free hp)) (rx.append ry)))
      · cases e
    | _ => simp only [fAdd, reduceCtorEq] at e
  | lst hx rx =>
    cases ru with
    | lst hy ry =>
      simp only [fAdd] at e
      split at e
      · cases e
        rename_i h
        have l1 := rx.length
        have l2 := ry.length
        refine .inr (.inr (.inr ⟨_, _, _, _, rfl, rfl, s _ _ hx, s _ _ hy, by omega, fun p hp => ?_⟩))
        exact q _ _ (Gr.new s hp) _ (.lst upd_same (RpAll.mono (same_upd (s.free hp)) (rx.append ry)))
      · cases e
    | _ => simp only [fAdd, reduceCtorEq] at e
  | _ => cases ru <;> simp only [fAdd, reduceCtorEq] at e
theorem radd (ha : RE X W a da) (hb : RE X W b db) : RE X W (.BinOp a .Add b pos) (d2 fAdd da db) := rop (op_add.or (op_add_str.or (op_catA.or op_cat))) ok_add ha hb
def fSub : D → D → Option D
  | .int i, .int j => some (.int (i - j))
  | _, _ => none
theorem ok_sub : OkR2 X (rI0 fun i j => .int (i - j)) fSub := by
  intro x y d e v u G H Q s rv ru q
  cases rv <;> cases ru <;> simp only [fSub, Option.some.injEq, reduceCtorEq] at e
  subst e
  exact ⟨_, _, rfl, rfl, q _ _ (Gr.refl s) _ (.int _)⟩
theorem rsub (ha : RE X W a da) (hb : RE X W b db) : RE X W (.BinOp a .Sub b pos) (d2 fSub da db) := rop op_sub ok_sub ha hb
def small64 (i : Int) : Bool := decide (-(2 ^ 64) < i) && decide (i < 2 ^ 64)
def mulOk (i j : Int) : Bool := small64 i || (small64 j || decide (i.natAbs.log2 + j.natAbs.log2 < 1000000))
def fMul : D → D → Option D
  | .int i, .int j => if mulOk i j = true then some (.int (i * j)) else none
  | .list xs, .int k => if -(2 ^ 63) ≤ k ∧ k < 2 ^ 63 ∧ xs.length * k.toNat ≤ sizeLine then some (.list (List.replicate k.toNat xs).flatten) else none
  | _, _ => none
theorem RpAll.flat {K : PySem.W.Frag} {w : World} {H : Hp} {vs : List V} {ds : List D} (r : RpAll K w H vs ds) : ∀ n : Nat, RpAll K w H (List.replicate n vs).flatten (List.replicate n ds).flatten
  | 0 => .nil
  | n + 1 => by
    rw [List.replicate_succ, List.replicate_succ, List.flatten_cons, List.flatten_cons]
    exact r.append (RpAll.flat r n)
theorem ok_mul : OkR2 X (fun x y H Q => rI CMul (fun i j => .int (i * j)) x y H Q ∨ (rI CMulW (fun i j => .int (i * j)) x y H Q ∨ rRep x y H Q)) fMul := by
  intro x y d e v u G H Q s rv ru q
  cases rv with
  | int i =>
    cases ru with
    | int j =>
      simp only [fMul] at e
      split at e
      · cases e
        rename_i h
        simp only [mulOk, small64, Bool.or_eq_true, Bool.and_eq_true, decide_eq_true_eq] at h
        rcases h with h | h | h
        · exact .inl ⟨_, _, rfl, rfl, .inl h, q _ _ (Gr.refl s) _ (.int _)⟩
        · exact .inl ⟨_, _, rfl, rfl, .inr h, q _ _ (Gr.refl s) _ (.int _)⟩
        · exact .inr (.inl ⟨_, _, rfl, rfl, h, q _ _ (Gr.refl s) _ (.int _)⟩)
      · cases e
    | _ => simp only [fMul, reduceCtorEq] at e
  | lst hx rx =>
    cases ru with
    | int j =>
      simp only [fMul] at e
      split at e
      · cases e
        rename_i h
        have l1 := rx.length
        refine .inr (.inr ⟨_, _, _, rfl, rfl, s _ _ hx, h.1, h.2.1, by rw [l1]; exact h.2.2, fun p hp => ?_⟩)
        exact q _ _ (Gr.new s hp) _ (.lst upd_same (RpAll.mono (same_upd (s.free hp)) (rx.flat _)))
      · cases e
    | _ => simp only [fMul, reduceCtorEq] at e
  | _ => cases ru <;> simp only [fMul, reduceCtorEq] at e
theorem rmul (ha : RE X W a da) (hb : RE X W b db) : RE X W (.BinOp a .Mult b pos) (d2 fMul da db) := rop (op_mul.or (op_mulW.or op_rep)) ok_mul ha hb
def divOk (j : Int) : Bool := (decide (j ≠ 0) && decide (j.natAbs < 1073741824)) || (decide (0 < j) && decide (j.natAbs.log2 < 9000))
def fDiv : D → D → Option D
  | .int i, .int j => if divOk j = true then some (.int (i.fdiv j)) else none
  | _, _ => none
theorem ok_div : OkR2 X (fun x y H Q => rI CDivN (fun i j => .int (i.fdiv j)) x y H Q ∨ rI CDivW (fun i j => .int (i / j)) x y H Q) fDiv := by
  intro x y d e v u G H Q s rv ru q
  cases rv with
  | int i =>
    cases ru with
    | int j =>
      simp only [fDiv] at e
      split at e
      · cases e
        rename_i h
        simp only [divOk, Bool.or_eq_true, Bool.and_eq_true, decide_eq_true_eq] at h
        rcases h with h | h
        · exact .inl ⟨_, _, rfl, rfl, h, q _ _ (Gr.refl s) _ (.int _)⟩
        · refine .inr ⟨_, _, rfl, rfl, h, ?_⟩
          have e2 : i / j = i.fdiv j := (Int.fdiv_eq_ediv_of_nonneg i (by omega)).symm
          show Q (.int (i / j)) H
          rw [e2]
          exact q _ _ (Gr.refl s) _ (.int _)
      · cases e
    | _ => simp only [fDiv, reduceCtorEq] at e
  | _ => cases ru <;> simp only [fDiv, reduceCtorEq] at e
theorem rdiv (ha : RE X W a da) (hb : RE X W b db) : RE X W (.BinOp a .FloorDiv b pos) (d2 fDiv da db) := rop (op_fdivN.or op_fdivW) ok_div ha hb
def fMod : D → D → Option D
  | .int i, .int j => if j ≠ 0 then some (.int (i.fmod j)) else none
  | _, _ => none
theorem ok_mod : OkR2 X (rI (fun _ j => j ≠ 0) fun i j => .int (i.fmod j)) fMod := by
  intro x y d e v u G H Q s rv ru q
  cases rv <;> cases ru <;> simp only [fMod, reduceCtorEq] at e
  split at e
  · cases e
    rename_i h
    exact ⟨_, _, rfl, rfl, h, q _ _ (Gr.refl s) _ (.int _)⟩
  · cases e
theorem rmod (ha : RE X W a da) (hb : RE X W b db) : RE X W (.BinOp a .Mod b pos) (d2 fMod da db) := rop op_modN ok_mod ha hb
def fPow : D → D → Option D
  | .int i, .int j => if 0 ≤ j ∧ j ≤ 1000000 ∧ i.natAbs < 2 ^ 64 then some (.int (i ^ j.toNat)) else none
  | _, _ => none
theorem ok_pow : OkR2 X (rI CPow fun i j => .int (i ^ j.toNat)) fPow := by
  intro x y d e v u G H Q s rv ru q
  cases rv <;> cases ru <;> simp only [fPow, reduceCtorEq] at e
  split at e
  · cases e
    rename_i h
    exact ⟨_, _, rfl, rfl, h, q _ _ (Gr.refl s) _ (.int _)⟩
  · cases e
theorem rpow (ha : RE X W a da) (hb : RE X W b db) : RE X W (.BinOp a .Pow b pos) (d2 fPow da db) := rop op_pow ok_pow ha hb
def fNeg : D → Option D
  | .int i => some (.int (-i))
  | _ => none
theorem ok_neg : OkR1 X (rU fun i => .int (-i)) fNeg := by
  intro x d e v G H Q s rv q
  cases rv <;> simp only [fNeg, Option.some.injEq, reduceCtorEq] at e
  subst e
  exact ⟨_, rfl, q _ _ (Gr.refl s) _ (.int _)⟩
theorem rneg (ha : RE X W a da) : RE X W (.UnaryOp .USub a pos) (d1 fNeg da) := runo un_neg ok_neg ha

/-! ### == and != -/
def eqD : D → D → Option Bool
  | .int i, .int j => some (i == j)
  | .str i, .str j => some (i == j)
  | .bool i, .bool j => some (i == j)
  | x, y => if SeqAt.shaped x = true ∧ SeqAt.shaped y = true then some (PyData.eqv x y) else none
def fEq (x y : D) : Option D := (eqD x y).map .bool
def fNe (x y : D) : Option D := (eqD x y).map fun b => .bool !b
theorem eqD_cases {x y : D} {b : Bool} (h : eqD x y = some b) : (∃ i j, x = .int i ∧ y = .int j ∧ b = (i == j)) ∨ (∃ i j, x = .str i ∧ y = .str j ∧ b = (i == j)) ∨ (∃ i j, x = .bool i ∧ y = .bool j ∧ b = (i == j)) ∨
    (SeqAt.shaped x = true ∧ SeqAt.shaped y = true ∧ b = PyData.eqv x y) := by
  unfold eqD at h
  split at h
  · cases h; exact .inl ⟨_, _, rfl, rfl, rfl⟩
  · cases h; exact .inr (.inl ⟨_, _, rfl, rfl, rfl⟩)
  · cases h; exact .inr (.inr (.inl ⟨_, _, rfl, rfl, rfl⟩))
  · split at h
    · rename_i q
      cases h
      exact .inr (.inr (.inr ⟨q.1, q.2, rfl⟩))
    · cases h
theorem ok_eq : OkR2 X (fun x y H Q => L2.rEq x y H Q ∨ rEqD X.K x y H Q) fEq := by
  intro x y d e v u G H Q s rv ru q
  obtain ⟨b, e1, rfl⟩ := Option.map_eq_some_iff.mp (show (eqD x y).map PyData.bool = some d from e)
  have q' := q _ _ (Gr.refl s) _ (.bl b)
  rcases eqD_cases e1 with ⟨i, j, rfl, rfl, rfl⟩ | ⟨i, j, rfl, rfl, rfl⟩ | ⟨i, j, rfl, rfl, rfl⟩ | ⟨h1, h2, rfl⟩
  · cases rv; cases ru
    exact .inl ⟨rfl, by rw [dec_int]; exact q'⟩
  · cases rv; cases ru
    exact .inl ⟨rfl, by rw [dec_str]; exact q'⟩
  · cases rv; cases ru
    exact .inl ⟨rfl, by rw [dec_bl]; exact q'⟩
  · exact .inr ⟨x, y, (rv.mono s).dp _ _ (SeqAt.canLay_of_shaped h1), (ru.mono s).dp _ _ (SeqAt.canLay_of_shaped h2), h1, h2, q'⟩
theorem ok_ne : OkR2 X (fun x y H Q => L2.rNe x y H Q ∨ rNeD X.K x y H Q) fNe := by
  intro x y d e v u G H Q s rv ru q
  obtain ⟨b, e1, rfl⟩ := Option.map_eq_some_iff.mp (show (eqD x y).map (fun b => PyData.bool !b) = some d from e)
  have q' := q _ _ (Gr.refl s) _ (.bl !b)
  rcases eqD_cases e1 with ⟨i, j, rfl, rfl, rfl⟩ | ⟨i, j, rfl, rfl, rfl⟩ | ⟨i, j, rfl, rfl, rfl⟩ | ⟨h1, h2, rfl⟩
  · cases rv; cases ru
    exact .inl ⟨rfl, by rw [dec_int]; exact q'⟩
  · cases rv; cases ru
    exact .inl ⟨rfl, by rw [dec_str]; exact q'⟩
  · cases rv; cases ru
    exact .inl ⟨rfl, by rw [dec_bl]; exact q'⟩
  · exact .inr ⟨x, y, (rv.mono s).dp _ _ (SeqAt.canLay_of_shaped h1), (ru.mono s).dp _ _ (SeqAt.canLay_of_shaped h2), h1, h2, q'⟩
theorem okO_eq {k : Nat} (hr : Room k X.A) : OpR X (compareOp .Eq) (fun x y H Q => L2.rEq x y H Q ∨ rEqD X.K x y H Q) := op_eq.or (op_eqD hr.units)
theorem okO_ne {k : Nat} (hr : Room k X.A) : OpR X (compareOp .NotEq) (fun x y H Q => L2.rNe x y H Q ∨ rNeD X.K x y H Q) := op_ne.or (op_neD hr.units)

/-! ### order -/
def ltS : D → D → Option Bool
  | .int i, .int j => some (decide (i < j))
  | .str i, .str j => some (decide (i.cps.toList < j.cps.toList))
  | _, _ => none
/-- lexicographic, on numbers and texts that stand on like places -/
def lexD : List D → List D → Option Bool
  | [], [] => some false
  | [], _ :: _ => some true
  | _ :: _, [] => some false
  | x :: xs, y :: ys => match x, y with
    | .int i, .int j => if i = j then lexD xs ys else some (decide (i < j))
    | .str i, .str j => if i = j then lexD xs ys else some (decide (i.cps.toList < j.cps.toList))
    | _, _ => none
def fCmp (f : Int → Int → Bool) : D → D → Option D
  | .int i, .int j => some (.bool (f i j))
  | _, _ => none
theorem ok_cmp (f : Int → Int → Bool) : OkR2 X (rI0 fun i j => .bl (f i j)) (fCmp f) := by
  intro x y d e v u G H Q s rv ru q
  cases rv <;> cases ru <;> simp only [fCmp, Option.some.injEq, reduceCtorEq] at e
  subst e
  exact ⟨_, _, rfl, rfl, q _ _ (Gr.refl s) _ (.bl _)⟩
abbrev fLe : D → D → Option D := fCmp fun i j => decide (i ≤ j)
abbrev fGt : D → D → Option D := fCmp fun i j => decide (j < i)
abbrev fGe : D → D → Option D := fCmp fun i j => decide (j ≤ i)
end
end DL

/-! DL4: order of texts and tuples, is, in, subscripts, slices. -/
namespace DL
open PySem PySem.Spec PyProof.Rows L2
/-! ### < of tuples of numbers and texts -/
def kin : D → D → Bool
  | .int _, .int _ => true
  | .str _, .str _ => true
  | _, _ => false
def eqS : D → D → Bool
  | .int i, .int j => i == j
  | .str i, .str j => i == j
  | _, _ => false
def ltB : D → D → Bool
  | .int i, .int j => decide (i < j)
  | .str i, .str j => decide (i.cps.toList < j.cps.toList)
  | _, _ => false
def lexB : List D → List D → Bool
  | [], [] => false
  | [], _ :: _ => true
  | _ :: _, [] => false
  | x :: xs, y :: ys => if eqS x y = true then lexB xs ys else ltB x y
def kinAll : List D → List D → Bool
  | x :: xs, y :: ys => kin x y && kinAll xs ys
  | _, _ => true
theorem kinAll_at : ∀ {xs ys : List D} {j : Nat} {x y : D}, kinAll xs ys = true → xs[j]? = some x → ys[j]? = some y → kin x y = true
  | [], _, _, _, _, _, h, _ => by simp at h
  | _ :: _, [], _, _, _, _, _, h => by simp at h
  | a :: xs, b :: ys, 0, x, y, k, h1, h2 => by
    simp at h1 h2
    subst h1 h2
    simp only [kinAll, Bool.and_eq_true] at k
    exact k.1
  | a :: xs, b :: ys, j + 1, x, y, k, h1, h2 => by
    simp only [kinAll, Bool.and_eq_true] at k
    exact kinAll_at (j := j) k.2 (by simpa using h1) (by simpa using h2)
theorem lexAt_lex (xs ys : List D) : ∀ k i, k = min xs.length ys.length - i → i ≤ min xs.length ys.length →
    Ob.lexAt (fun j => eqS (xs.getD j .none) (ys.getD j .none)) (fun j => ltB (xs.getD j .none) (ys.getD j .none)) (decide (xs.length < ys.length)) i k = lexB (xs.drop i) (ys.drop i)
  | 0, i, hk, hi => by
    have e : i = min xs.length ys.length := by omega
    rw [Ob.lexAt_zero]
    by_cases h : xs.length < ys.length
    · have h1 : xs.drop i = [] := List.drop_of_length_le (by omega)
      have h2 : i < ys.length := by omega
      rw [h1, List.drop_eq_getElem_cons h2, decide_eq_true h]
      rfl
    · have h1 : ys.drop i = [] := List.drop_of_length_le (by omega)
      rw [h1, decide_eq_false h]
      cases xs.drop i <;> rfl
  | k + 1, i, hk, hi => by
    have h1 : i < xs.length := by omega
    have h2 : i < ys.length := by omega
    rw [Ob.lexAt_succ, List.drop_eq_getElem_cons h1, List.drop_eq_getElem_cons h2]
    have ex : xs.getD i .none = xs[i] := by rw [List.getD_eq_getElem?_getD, List.getElem?_eq_getElem h1]; rfl
    have ey : ys.getD i .none = ys[i] := by rw [List.getD_eq_getElem?_getD, List.getElem?_eq_getElem h2]; rfl
    rw [ex, ey, lexAt_lex xs ys k (i + 1) (by omega) (by omega)]
    rfl
section
variable {X : Cx} {W : WA} {a b : Expr} {da db : Bt → Res D} {pos : Pos}
def rLtD (K : PySem.W.Frag) (w : World) : R2 := fun x y H Q => ∃ p q xs ys ds es, x = .ref p ∧ y = .ref q ∧ SqT K H p xs ∧ SqT K H q ys ∧ RpAll K w H xs ds ∧ RpAll K w H ys es ∧ kinAll ds es = true ∧ Q (.bl (lexB ds es)) H
theorem at_rel {K : PySem.W.Frag} {w : World} {H : Hp} {its : List Value} {xs : List V} {ds : List D} (r : Vals xs its) (h : RpAll K w H xs ds) (j : Nat) (hj : j < its.toArray.size) :
    ∃ v d, ds[j]? = some d ∧ ds.getD j .none = d ∧ Rp K w H v d ∧ RelV v its.toArray[j] := by
  have l1 := r.length
  have l2 := h.length
  have hj' : j < its.length := by simpa using hj
  have hx : j < xs.length := by omega
  have hd : j < ds.length := by omega
  obtain ⟨v, e1, e2⟩ := h.get (List.getElem?_eq_getElem hd)
  obtain ⟨u, e3, e4⟩ := r.get e1
  rw [List.getElem?_eq_getElem hj'] at e3
  cases e3
  exact ⟨v, ds[j], List.getElem?_eq_getElem hd, by rw [List.getD_eq_getElem?_getD, List.getElem?_eq_getElem hd]; rfl, e2, by simpa using e4⟩
theorem lt_strO {A : Around} {s : Shared} (i j : Str) (t u : Tok) : Ob.RcOp .Lt A s (.str i t) (.str j u) (decide (i.cps.toList < j.cps.toList)) := fun prog w E Q h => lt_str h
theorem op_ltD (hu : X.A.units < cLine) : OpR X (compareOp .Lt) (rLtD X.K X.w) := by
  intro pins s σ H x y v u Q I rx ry h
  obtain ⟨p, q, xs, ys, ds, es, rfl, rfl, hp, hq, hd, he, hk, h⟩ := h
  cases rx
  cases ry
  obtain ⟨its, r1, p1, _⟩ := I.tuple hp
  obtain ⟨its2, r2, p2, _⟩ := I.tuple hq
  have l1 : its.toArray.size = ds.length := by rw [List.size_toArray, ← r1.length, hd.length]
  have l2 : its2.toArray.size = es.length := by rw [List.size_toArray, ← r2.length, he.length]
  have R := Ob.RcOp.tuples_lt (A := X.A) (s := s) (e := fun j => eqS (ds.getD j .none) (es.getD j .none)) (r := fun j => ltB (ds.getD j .none) (es.getD j .none)) p1 p2 hu (fun j h1 h2 => by
    obtain ⟨v1, d1, x1, x2, x3, x4⟩ := at_rel r1 hd j h1
    obtain ⟨v2, d2, y1, y2, y3, y4⟩ := at_rel r2 he j h2
    have k := kinAll_at hk x1 y1
    simp only [x2, y2]
    cases x3 with
    | int i =>
      cases y3 <;> simp only [kin, reduceCtorEq] at k
      obtain ⟨t, et⟩ := x4
      obtain ⟨t', et'⟩ := y4
      rw [et, et']
      exact SeqAt.EqAt.int_int _ _ _ _
    | str i =>
      cases y3 <;> simp only [kin, reduceCtorEq] at k
      obtain ⟨t, et⟩ := x4
      obtain ⟨t', et'⟩ := y4
      rw [et, et']
      exact SeqAt.EqAt.str_str _ _ _ _
    | _ => cases y3 <;> simp only [kin, reduceCtorEq] at k) (fun j h1 h2 _ => by
    obtain ⟨v1, d1, x1, x2, x3, x4⟩ := at_rel r1 hd j h1
    obtain ⟨v2, d2, y1, y2, y3, y4⟩ := at_rel r2 he j h2
    have k := kinAll_at hk x1 y1
    simp only [x2, y2]
    cases x3 with
    | int i =>
      cases y3 <;> simp only [kin, reduceCtorEq] at k
      obtain ⟨t, et⟩ := x4
      obtain ⟨t', et'⟩ := y4
      rw [et, et']
      exact Ob.RcOp.lt_int _ _ _ _
    | str i =>
      cases y3 <;> simp only [kin, reduceCtorEq] at k
      obtain ⟨t, et⟩ := x4
      obtain ⟨t', et'⟩ := y4
      rw [et, et']
      exact lt_strO _ _ _ _
    | _ => cases y3 <;> simp only [kin, reduceCtorEq] at k)
  rw [l1, l2] at R
  have e := lexAt_lex ds es (min ds.length es.length) 0 rfl (Nat.zero_le _)
  rw [e] at R
  have z : wpAny (model X.prog X.w) X.A (compareOp .Lt (.ref p) (.ref q)) (EP X pins σ Q) X.xe s := R X.prog X.w X.xe (EP X pins σ Q) ⟨.bl _, H, I, rfl, h⟩
  exact z
def fLt : D → D → Option D
  | .int i, .int j => some (.bool (decide (i < j)))
  | .str i, .str j => some (.bool (decide (i.cps.toList < j.cps.toList)))
  | .tuple xs, .tuple ys => if kinAll xs ys = true then some (.bool (lexB xs ys)) else none
  | _, _ => none
theorem ok_lt : OkR2 X (fun x y H Q => rI0 (fun i j => .bl (decide (i < j))) x y H Q ∨ ((∃ i j, x = .str i ∧ y = .str j ∧ Q (.bl (decide (i.cps.toList < j.cps.toList))) H) ∨ rLtD X.K X.w x y H Q)) fLt := by
  intro x y d e v u G H Q s rv ru q
  cases rv with
  | int i =>
    cases ru <;> simp only [fLt, Option.some.injEq, reduceCtorEq] at e
    subst e
    exact .inl ⟨_, _, rfl, rfl, q _ _ (Gr.refl s) _ (.bl _)⟩
  | str i =>
    cases ru <;> simp only [fLt, Option.some.injEq, reduceCtorEq] at e
    subst e
    exact .inr (.inl ⟨_, _, rfl, rfl, q _ _ (Gr.refl s) _ (.bl _)⟩)
  | tup hx rx =>
    cases ru with
    | tup hy ry =>
      simp only [fLt] at e
      split at e
      · cases e
        rename_i h
        exact .inr (.inr ⟨_, _, _, _, _, _, rfl, rfl, seqT s hx, seqT s hy, RpAll.mono s rx, RpAll.mono s ry, h, q _ _ (Gr.refl s) _ (.bl _)⟩)
      · cases e
    | _ => simp only [fLt, reduceCtorEq] at e
  | _ => cases ru <;> simp only [fLt, reduceCtorEq] at e
theorem okO_lt {k : Nat} (hr : Room k X.A) : OpR X (compareOp .Lt) (fun x y H Q => rI0 (fun i j => .bl (decide (i < j))) x y H Q ∨ ((∃ i j, x = .str i ∧ y = .str j ∧ Q (.bl (decide (i.cps.toList < j.cps.toList))) H) ∨ rLtD X.K X.w x y H Q)) :=
  op_lt.or (op_lt_str.or (op_ltD hr.units0))

/-! ### is -/
def isN : D → Bool
  | .none => true
  | _ => false
def fIs : D → D → Option D
  | x, .none => some (.bool (isN x))
  | .bool i, .bool j => some (.bool (decide (i = j)))
  | _, _ => none
def fIsNot : D → D → Option D
  | x, .none => some (.bool !(isN x))
  | .bool i, .bool j => some (.bool !(decide (i = j)))
  | _, _ => none
theorem isN_eq {K : PySem.W.Frag} {w : World} {H : Hp} {v : V} {d : D} (r : Rp K w H v d) : decide (v = .non) = isN d := by
  cases r <;> simp [isN]
theorem ok_is : OkR2 X (fun x y H Q => (y = .non ∧ Q (.bl (decide (x = .non))) H) ∨ (∃ a b, x = .bl a ∧ y = .bl b ∧ Q (.bl (decide (a = b))) H)) fIs := by
  intro x y d e v u G H Q s rv ru q
  cases ru with
  | non =>
    simp only [fIs, Option.some.injEq] at e
    subst e
    exact .inl ⟨rfl, by rw [isN_eq rv]; exact q _ _ (Gr.refl s) _ (.bl _)⟩
  | bl j =>
    cases rv <;> simp only [fIs, Option.some.injEq, reduceCtorEq] at e
    subst e
    exact .inr ⟨_, _, rfl, rfl, q _ _ (Gr.refl s) _ (.bl _)⟩
  | _ => cases rv <;> simp only [fIs, reduceCtorEq] at e
theorem ok_isnot : OkR2 X (fun x y H Q => (y = .non ∧ Q (.bl (!decide (x = .non))) H) ∨ (∃ a b, x = .bl a ∧ y = .bl b ∧ Q (.bl (!decide (a = b))) H)) fIsNot := by
  intro x y d e v u G H Q s rv ru q
  cases ru with
  | non =>
    simp only [fIsNot, Option.some.injEq] at e
    subst e
    exact .inl ⟨rfl, by rw [isN_eq rv]; exact q _ _ (Gr.refl s) _ (.bl _)⟩
  | bl j =>
    cases rv <;> simp only [fIsNot, Option.some.injEq, reduceCtorEq] at e
    subst e
    exact .inr ⟨_, _, rfl, rfl, q _ _ (Gr.refl s) _ (.bl _)⟩
  | _ => cases rv <;> simp only [fIsNot, reduceCtorEq] at e
theorem okO_is : OpR X (compareOp .Is) (fun x y H Q => (y = .non ∧ Q (.bl (decide (x = .non))) H) ∨ (∃ a b, x = .bl a ∧ y = .bl b ∧ Q (.bl (decide (a = b))) H)) := op_isN.or op_is_bl
theorem okO_isnot : OpR X (compareOp .IsNot) (fun x y H Q => (y = .non ∧ Q (.bl (!decide (x = .non))) H) ∨ (∃ a b, x = .bl a ∧ y = .bl b ∧ Q (.bl (!decide (a = b))) H)) := op_notN.or op_isnot_bl

/-! ### in -/
def seqOf : D → Option (List D)
  | .list xs => some xs
  | .tuple xs => some xs
  | _ => none
def inD (x y : D) : Option Bool := match y with
  | .list ys => if SeqAt.shaped x = true ∧ SeqAt.shaped y = true then some (ys.any fun z => PyData.eqv z x) else none
  | .tuple ys => if SeqAt.shaped x = true ∧ SeqAt.shaped y = true then some (ys.any fun z => PyData.eqv z x) else none
  | .str z => match x with
    | .str c => if c.cps.size = 1 then some (decide (c.cps.getD 0 0 ∈ z.cps.toList)) else none
    | _ => none
  | _ => none
def fIn (x y : D) : Option D := (inD x y).map .bool
def fNotIn (x y : D) : Option D := (inD x y).map fun b => .bool !b
def rInA (K : PySem.W.Frag) (neg : Bool) : R2 := fun x y H Q => (∃ d ds, Dp K H x d ∧ (Dp K H y (.list ds) ∨ Dp K H y (.tuple ds)) ∧ SeqAt.shaped d = true ∧ SeqAt.shaped (.list ds) = true ∧ Q (.bl (if neg then !ds.any fun z => PyData.eqv z d else ds.any fun z => PyData.eqv z d)) H) ∨
  ∃ (c : Nat) (z : Str), x = .str ⟨#[c]⟩ ∧ y = .str z ∧ Q (.bl (if neg then !decide (c ∈ z.cps.toList) else decide (c ∈ z.cps.toList))) H
theorem shaped_lt {ds : List D} (h : SeqAt.shaped (.tuple ds) = true) : SeqAt.shaped (.list ds) = true := by
  have h1 := SeqAt.canLay_of_shaped h
  have h2 := SeqAt.depth_of_shaped h
  refine Bool.and_eq_true_iff.mpr ⟨?_, decide_eq_true ?_⟩
  · simpa only [PyData.canLay0] using h1
  · simpa only [PyData.depth] using h2
theorem opo_in {k : Nat} (hr : Room k X.A) : OpR X (compareOp .In) (rInA X.K false) := by
  have hu : X.A.units + 65 < cLine := by have := hr.un; omega
  intro pins s σ H x y v u Q I rx ry h
  rcases h with ⟨d, ds, hd, he, sd, se, q⟩ | ⟨c, z, e1, e2, q⟩
  · obtain ⟨as, r1⟩ := Dp.reads I d x v hd rx
    rcases he with he | he
    · obtain ⟨bs, r2⟩ := Dp.reads I (.list ds) y u he ry
      exact SeqAt.in_list_reads r2 r1 (SeqAt.canLay_of_shaped se) (SeqAt.canLay_of_shaped sd) (room_in_shaped sd hu) ⟨.bl _, H, I, rfl, q⟩
    · obtain ⟨bs, r2⟩ := Dp.reads I (.tuple ds) y u he ry
      exact SeqAt.in_tuple_reads r2 r1 (SeqAt.canLay_of_shaped se) (SeqAt.canLay_of_shaped sd) (room_in_shaped sd hu) ⟨.bl _, H, I, rfl, q⟩
  · exact op_in_sign pins s σ H x y v u Q I rx ry ⟨c, z, e1, e2, q⟩
theorem opo_notin {k : Nat} (hr : Room k X.A) : OpR X (compareOp .NotIn) (rInA X.K true) := by
  have hu : X.A.units + 65 < cLine := by have := hr.un; omega
  intro pins s σ H x y v u Q I rx ry h
  rcases h with ⟨d, ds, hd, he, sd, se, q⟩ | ⟨c, z, e1, e2, q⟩
  · obtain ⟨as, r1⟩ := Dp.reads I d x v hd rx
    rcases he with he | he
    · obtain ⟨bs, r2⟩ := Dp.reads I (.list ds) y u he ry
      exact SeqAt.notIn_list_reads r2 r1 (SeqAt.canLay_of_shaped se) (SeqAt.canLay_of_shaped sd) (room_in_shaped sd hu) ⟨.bl _, H, I, rfl, q⟩
    · obtain ⟨bs, r2⟩ := Dp.reads I (.tuple ds) y u he ry
      exact SeqAt.notIn_tuple_reads r2 r1 (SeqAt.canLay_of_shaped se) (SeqAt.canLay_of_shaped sd) (room_in_shaped sd hu) ⟨.bl _, H, I, rfl, q⟩
  · exact op_notIn_sign pins s σ H x y v u Q I rx ry ⟨c, z, e1, e2, q⟩
theorem one_sign {c : Str} (h : c.cps.size = 1) : c = ⟨#[c.cps.getD 0 0]⟩ := by
  obtain ⟨⟨l⟩⟩ := c
  cases l with
  | nil => simp at h
  | cons x r =>
    cases r with
    | nil => rfl
    | cons y r => simp at h
theorem in_core {neg : Bool} {x y : D} {b : Bool} (e : inD x y = some b) {v u : V} {G H : Hp} {Q : VK} (s : Same G H) (rv : Rp X.K X.w G v x) (ru : Rp X.K X.w G u y) (q : Q (.bl (if neg then !b else b)) H) : rInA X.K neg v u H Q := by
  cases ru with
  | lst hy ry =>
    simp only [inD] at e
    split at e
    · rename_i h
      cases e
      exact .inl ⟨x, _, (rv.mono s).dp _ _ (SeqAt.canLay_of_shaped h.1), .inl (Rp.dp _ _ (.lst (s _ _ hy) (RpAll.mono s ry)) (SeqAt.canLay_of_shaped h.2)), h.1, h.2, q⟩
    · cases e
  | tup hy ry =>
    simp only [inD] at e
    split at e
    · rename_i h
      cases e
      exact .inl ⟨x, _, (rv.mono s).dp _ _ (SeqAt.canLay_of_shaped h.1), .inr (Rp.dp _ _ (.tup (seqT s hy) (RpAll.mono s ry)) (SeqAt.canLay_of_shaped h.2)), h.1, shaped_lt h.2, q⟩
    · cases e
  | str z =>
    cases rv <;> simp only [inD, reduceCtorEq] at e
    split at e
    · rename_i h
      cases e
      exact .inr ⟨_, z, congrArg V.str (one_sign h), rfl, q⟩
    · cases e
  | _ => cases rv <;> simp only [inD, reduceCtorEq] at e
theorem ok_in : OkR2 X (rInA X.K false) fIn := by
  intro x y d e v u G H Q s rv ru q
  obtain ⟨b, e1, rfl⟩ := Option.map_eq_some_iff.mp (show (inD x y).map PyData.bool = some d from e)
  exact in_core (neg := false) e1 s rv ru (q _ _ (Gr.refl s) _ (.bl b))
theorem ok_notin : OkR2 X (rInA X.K true) fNotIn := by
  intro x y d e v u G H Q s rv ru q
  obtain ⟨b, e1, rfl⟩ := Option.map_eq_some_iff.mp (show (inD x y).map (fun b => PyData.bool !b) = some d from e)
  exact in_core (neg := true) e1 s rv ru (q _ _ (Gr.refl s) _ (.bl !b))
theorem nomarkE {op : CmpOp} (b : Expr) (h : (match b with | .Name .. => true | .Subscript .. => true | .Call .. => true | .BinOp .. => true | .Attribute .. => true | _ => false) = true) : behindInMarks op b = false := by
  cases b <;> first
    | rfl
    | (simp [behindInMarks]; done)
    | cases h

/-! ### subscripts -/
def fIx : D → D → Option D
  | .list xs, .int i => atI xs i
  | .tuple xs, .int i => atI xs i
  | .str z, .int i => if z.length ≤ sizeLine then (atI z.cps.toList i).map fun c => .str ⟨#[c]⟩ else none
  | _, _ => none
theorem atI_rp {K : PySem.W.Frag} {w : World} {H : Hp} {xs : List V} {ds : List D} (r : RpAll K w H xs ds) {i : Int} {d : D} (e : atI ds i = some d) : ∃ v, atI xs i = some v ∧ Rp K w H v d := by
  unfold atI at e ⊢
  rw [r.length]
  cases h : ixN ds.length i with
  | none => rw [h] at e; cases e
  | some j =>
    rw [h] at e
    exact r.get e
theorem ok_ix : OkR2 X (rIx X.K) fIx := by
  intro x y d e v u G H Q s rv ru q
  cases rv with
  | lst hx rx =>
    cases ru <;> simp only [fIx, reduceCtorEq] at e
    obtain ⟨z, e1, e2⟩ := atI_rp rx e
    exact .inl ⟨_, _, _, z, rfl, rfl, SqL.of (s _ _ hx), e1, q _ _ (Gr.refl s) _ e2⟩
  | tup hx rx =>
    cases ru <;> simp only [fIx, reduceCtorEq] at e
    obtain ⟨z, e1, e2⟩ := atI_rp rx e
    exact .inr (.inl ⟨_, _, _, z, rfl, rfl, seqT s hx, e1, q _ _ (Gr.refl s) _ e2⟩)
  | str z =>
    cases ru <;> simp only [fIx, reduceCtorEq] at e
    split at e
    · rename_i h
      obtain ⟨c, e1, rfl⟩ := Option.map_eq_some_iff.mp e
      exact .inr (.inr ⟨_, _, c, rfl, rfl, h, e1, q _ _ (Gr.refl s) _ (.str _)⟩)
    · cases e
  | _ => cases ru <;> simp only [fIx, reduceCtorEq] at e
theorem rixs (ha : RE X W a da) (hb : RE X W b db) (hs : PlainIx b := by exact fun _ _ => rfl) : RE X W (.Subscript a b pos) (d2 fIx da db) := rix ix_seq ok_ix ha hb hs
end
end DL

/-! DL5: slices, built-in calls, calls of defs, iterators, comprehensions. -/
namespace DL
open PySem PySem.Spec PyProof.Rows L2
section
variable {X : Cx} {W : WA} {a b : Expr} {da db : Bt → Res D} {pos : Pos}
/-! ### slices -/
def cutD {α : Type} (xs : List α) (lo hi : Option Int) : List α := (xs.drop (HT.sIx xs.length 0 lo)).take (HT.sIx xs.length xs.length hi - HT.sIx xs.length 0 lo)
theorem RpAll.cut {K : PySem.W.Frag} {w : World} {H : Hp} {xs : List V} {ds : List D} (r : RpAll K w H xs ds) (lo hi : Option Int) : RpAll K w H (cutV xs lo hi) (cutD ds lo hi) := by
  unfold cutV cutD
  rw [r.length]
  exact (r.drop _).take _
def pNone : Bt → Res (Option Int) := fun _ => .ok none
def asI : D → Option Int
  | .int i => some i
  | _ => none
def pSome (a : Bt → Res D) : Bt → Res (Option Int) := fun β => (a β).bind fun x => (Res.of (asI x)).bind fun i => .ok (some i)
def RO (X : Cx) (W : WA) (e : Option Expr) (den : Bt → Res (Option Int)) : Prop := PO X e fun σ H Q => ∃ G β, Same G H ∧ Ev X.K X.w W G σ β ∧ RP X.K X.w X.mg W σ G H (fun o _ H' => Q o H') (den β)
theorem asI_ok {d : D} {i : Int} (h : asI d = some i) : d = .int i := by
  cases d <;> simp [asI] at h
  rw [h]
theorem rpnone : RO X W none pNone := ⟨fun pins s σ H Q I h => by
  obtain ⟨G, β, s', ev, rp⟩ := h
  exact po_none.run pins s σ H Q I (rp.here (Gr.refl s'))⟩
theorem rpsome (h : RE X W a da) : RO X W (some a) (pSome da) := ⟨fun pins s σ H Q I hq => by
  refine (po_some h).run pins s σ H Q I ?_
  obtain ⟨G, β, s', ev, rp⟩ := hq
  refine ⟨G, β, s', ev, rp.bind fun x ex G1 H1 g1 rp1 v rv => ?_⟩
  cases e : asI x with
  | none => rw [e] at rp1; exact rp1.elim
  | some i =>
    rw [e] at rp1
    cases asI_ok e
    cases rv
    exact ⟨i, rfl, rp1.here (Gr.refl g1.s)⟩⟩
def fSl : D → Option Int → Option Int → Option D
  | .list xs, lo, hi => some (.list (cutD xs lo hi))
  | .dict [(.none, .list xs)], lo, hi => some (.list (cutD xs lo hi))
  | .tuple xs, lo, hi => some (.tuple (cutD xs lo hi))
  | .str z, lo, hi => if z.length ≤ sizeLine then some (.str (cutS z lo hi)) else none
  | _, _, _ => none
def dSl (a : Bt → Res D) (l h : Bt → Res (Option Int)) : Bt → Res D := fun β => (a β).bind fun x => (l β).bind fun lo => (h β).bind fun hi => Res.of (fSl x lo hi)
theorem cut_whole {xs : List D} {lo hi : Option Int} (h : HT.sIx xs.length 0 lo = 0 ∧ HT.sIx xs.length xs.length hi = xs.length) : cutD xs lo hi = xs := by
  unfold cutD
  rw [h.1, h.2]
  simp
theorem sl_core {x d : D} {lo hi : Option Int} (e : fSl x lo hi = some d) {v : V} {G H : Hp} {Q : VK} (s : Same G H) (rv : Rp X.K X.w G v x) (q : ∀ G' H', Gr G H G' H' → ∀ u, Rp X.K X.w G' u d → Q u H') :
    rSlL X.K v lo hi H Q ∨ (rSlA X.K v lo hi H Q ∨ rSlS v lo hi H Q) := by
  cases rv with
  | lst hx rx =>
    simp only [fSl, Option.some.injEq] at e
    subst e
    exact .inl ⟨_, _, rfl, SqL.of (s _ _ hx), fun p hp => q _ _ (Gr.new s hp) _ (.lst upd_same (RpAll.mono (same_upd (s.free hp)) (rx.cut lo hi)))⟩
  | scr hx rx =>
    simp only [fSl, Option.some.injEq] at e
    subst e
    exact .inl ⟨_, _, rfl, s.seq hx, fun p hp => q _ _ (Gr.new s hp) _ (.lst upd_same (RpAll.mono (same_upd (s.free hp)) (rx.cut lo hi)))⟩
  | tup hx rx =>
    simp only [fSl, Option.some.injEq] at e
    subst e
    refine .inr (.inl ⟨_, _, rfl, seqT s hx, fun h => ?_, fun h p hp => ?_⟩)
    · rw [rx.length] at h
      rw [cut_whole h] at q
      exact q _ _ (Gr.refl s) _ (.tup hx rx)
    · exact q _ _ (Gr.new s hp) _ (.tup (.inl (.inl upd_same)) (RpAll.mono (same_upd (s.free hp)) (rx.cut lo hi)))
  | str z =>
    simp only [fSl] at e
    split at e
    · rename_i h
      cases e
      exact .inr (.inr ⟨_, rfl, h, q _ _ (Gr.refl s) _ (.str _)⟩)
    · cases e
  | @dic _ kvs ds hd hr =>
    cases kvs with
    | nil => simp only [fSl, List.map_nil, List.zip_nil_left, reduceCtorEq] at e
    | cons k r =>
      cases ds with
      | nil => simp only [fSl, List.zip_nil_right, reduceCtorEq] at e
      | cons d0 ds =>
        cases r <;> cases ds <;> simp only [fSl, List.map_cons, List.map_nil, List.zip_cons_cons, List.zip_nil_left, List.zip_nil_right, reduceCtorEq] at e
  | _ => simp only [fSl, reduceCtorEq] at e
theorem rsl {lo hi : Option Expr} {dl dh : Bt → Res (Option Int)} {p2 : Pos} (ha : RE X W a da) (hl : RO X W lo dl) (hh : RO X W hi dh) : RE X W (.Subscript a (.Slice lo hi none p2) pos) (dSl da dl dh) :=
  PE.imp (pe_slice (sl_list.or (sl_tupA.or sl_str)) ha hl hh) fun σ H Q h => by
    obtain ⟨G, β, s, ev, rp⟩ := h
    refine ⟨G, β, s, ev, rp.bind fun x ex G1 H1 g1 rp1 v rv => ?_⟩
    refine ⟨G1, β, g1.s, ev.mono g1.g, rp1.bind fun l el G2 H2 g2 rp2 => ?_⟩
    refine ⟨G2, β, g2.s, (ev.mono g1.g).mono g2.g, rp2.bind fun u eu G3 H3 g3 rp3 => ?_⟩
    obtain ⟨d, ed, q⟩ := rp3.ofOpt
    exact sl_core ed g3.s ((rv.mono g2.g).mono g3.g) q
/-! ### xs[::-1] -/
def fRev : D → Option D
  | .list xs => some (.list xs.reverse)
  | .tuple xs => if xs.length = 1 ∨ xs.length = 0 then none else some (.tuple xs.reverse)
  | _ => none

/-! ### built-in calls -/
def fLen : List D → Option D
  | [.list xs] => some (.int xs.length)
  | [.tuple xs] => some (.int xs.length)
  | [.str z] => if z.length ≤ sizeLine then some (.int z.length) else none
  | _ => none
theorem ok_len : OkRN X (fun xs H Q => (∃ p ys, xs = [.ref p] ∧ (SqL X.K H p ys ∨ SqT X.K H p ys) ∧ Q (.int ys.length) H) ∨ (∃ z, xs = [.str z] ∧ z.length ≤ sizeLine ∧ Q (.int z.length) H)) fLen := by
  intro xs d e vs G H Q s rv q
  cases rv with
  | nil => cases e
  | cons r1 rr =>
    cases rr with
    | cons r2 rr => cases r1 <;> cases e
    | nil =>
      cases r1 with
      | lst hx rx =>
        simp only [fLen, Option.some.injEq] at e
        subst e
        rw [← rx.length] at q
        exact .inl ⟨_, _, rfl, .inl (SqL.of (s _ _ hx)), q _ _ (Gr.refl s) _ (.int _)⟩
      | tup hx rx =>
        simp only [fLen, Option.some.injEq] at e
        subst e
        rw [← rx.length] at q
        exact .inl ⟨_, _, rfl, .inr (seqT s hx), q _ _ (Gr.refl s) _ (.int _)⟩
      | str z =>
        simp only [fLen] at e
        split at e
        · rename_i h
          cases e
          exact .inr ⟨_, rfl, h, q _ _ (Gr.refl s) _ (.int _)⟩
        · cases e
      | _ => simp only [fLen, reduceCtorEq] at e
/-- a built-in function, a built-in type, called -/
theorem rcb {id : String} {r : List V → Hp → VK → Prop} {f : List D → Option D} {x : Str} {p : Pos} {e : Expr} {es : List Expr} {dd : Bt → Res (List D)} (hc : CallR X (.builtin id) r) (k : OkRN X r f) (hm : X.mg x = none) (ha : RA X W (e :: es) dd)
    (hv : bootBuiltins x = some (.builtin id) := by decide +kernel) (hg : Gl X x := by rfl) (hn : x ≠ "__name__" := by decide) (hdb : (x == ("__debug__" : Str)) = false := by decide)
    (he : starEach (e :: es) X.env = (false, eval e X.env) :: starEach es X.env := by rfl) (hpl : (backTo pos (starEach es X.env)).any (·.1) = false := by rfl) : RE X W (.Call (.Name x p) (e :: es) [] pos) (dN f dd) :=
  PE.imp (pe_callB hc hg hm hv ha hn hdb he hpl) (opND k)
theorem rct {T : String} {r : List V → Hp → VK → Prop} {f : List D → Option D} {x : Str} {p : Pos} {e : Expr} {es : List Expr} {dd : Bt → Res (List D)} (hc : CallR X (.type T) r) (k : OkRN X r f) (hm : X.mg x = none) (ha : RA X W (e :: es) dd)
    (hv : bootBuiltins x = some (.type T) := by decide +kernel) (hg : Gl X x := by rfl) (hn : x ≠ "__name__" := by decide) (hdb : (x == ("__debug__" : Str)) = false := by decide)
    (he : starEach (e :: es) X.env = (false, eval e X.env) :: starEach es X.env := by rfl) (hpl : (backTo pos (starEach es X.env)).any (·.1) = false := by rfl) : RE X W (.Call (.Name x p) (e :: es) [] pos) (dN f dd) :=
  PE.imp (pe_callTy hc hg hm hv ha hn hdb he hpl) (opND k)
theorem okO_len : CallR X (.builtin "len") (fun xs H Q => (∃ p ys, xs = [.ref p] ∧ (SqL X.K H p ys ∨ SqT X.K H p ys) ∧ Q (.int ys.length) H) ∨ (∃ z, xs = [.str z] ∧ z.length ≤ sizeLine ∧ Q (.int z.length) H)) := call_len_seq.or call_len_str
def fAbs : List D → Option D
  | [.int i] => some (.int (if i < 0 then -i else i))
  | _ => none
theorem ok_abs : OkRN X (fun xs H Q => ∃ i, xs = [.int i] ∧ Q (.int (if i < 0 then -i else i)) H) fAbs := by
  intro xs d e vs G H Q s rv q
  cases rv with
  | nil => cases e
  | cons r1 rr =>
    cases rr with
    | cons r2 rr => cases r1 <;> cases e
    | nil =>
      cases r1 <;> simp only [fAbs, Option.some.injEq, reduceCtorEq] at e
      subst e
      exact ⟨_, rfl, q _ _ (Gr.refl s) _ (.int _)⟩
def fInt : List D → Option D
  | [.int i] => some (.int i)
  | [.bool k] => some (.int (if k then 1 else 0))
  | _ => none
theorem ok_int : OkRN X (fun xs H Q => (∃ i, xs = [.int i] ∧ Q (.int i) H) ∨ ∃ k, xs = [.bl k] ∧ Q (.int (if k then 1 else 0)) H) fInt := by
  intro xs d e vs G H Q s rv q
  cases rv with
  | nil => cases e
  | cons r1 rr =>
    cases rr with
    | cons r2 rr => cases r1 <;> cases e
    | nil =>
      cases r1 with
      | int i =>
        simp only [fInt, Option.some.injEq] at e
        subst e
        exact .inl ⟨_, rfl, q _ _ (Gr.refl s) _ (.int _)⟩
      | bl i =>
        simp only [fInt, Option.some.injEq] at e
        subst e
        exact .inr ⟨_, rfl, q _ _ (Gr.refl s) _ (.int _)⟩
      | _ => simp only [fInt, reduceCtorEq] at e
def fMin2 : List D → Option D
  | [.int i, .int j] => some (.int (if j < i then j else i))
  | _ => none
def fMax2 : List D → Option D
  | [.int i, .int j] => some (.int (if j > i then j else i))
  | _ => none
theorem two_ints {f : List D → Option D} {g : Int → Int → Int} (h1 : ∀ i j, f [.int i, .int j] = some (.int (g i j))) (h2 : ∀ xs d, f xs = some d → ∃ i j, xs = [.int i, .int j]) :
    OkRN X (fun xs H Q => ∃ i j, xs = [.int i, .int j] ∧ Q (.int (g i j)) H) f := by
  intro xs d e vs G H Q s rv q
  obtain ⟨i, j, rfl⟩ := h2 xs d e
  rw [h1] at e
  cases e
  cases rv with
  | cons r1 rr =>
    cases rr with
    | cons r2 rr =>
      cases rr
      cases r1
      cases r2
      exact ⟨_, _, rfl, q _ _ (Gr.refl s) _ (.int _)⟩
theorem ok_min2 : OkRN X (fun xs H Q => ∃ i j, xs = [.int i, .int j] ∧ Q (.int (if j < i then j else i)) H) fMin2 := two_ints (fun _ _ => rfl) fun xs d e => by
  unfold fMin2 at e
  split at e
  · exact ⟨_, _, rfl⟩
  · cases e
theorem ok_max2 : OkRN X (fun xs H Q => ∃ i j, xs = [.int i, .int j] ∧ Q (.int (if j > i then j else i)) H) fMax2 := two_ints (fun _ _ => rfl) fun xs d e => by
  unfold fMax2 at e
  split at e
  · exact ⟨_, _, rfl⟩
  · cases e
def fTuple : List D → Option D
  | [.list xs] => some (.tuple xs)
  | [.tuple xs] => some (.tuple xs)
  | _ => none
theorem ok_tuple : OkRN X (fun xs H Q => ∃ p ys, xs = [.ref p] ∧ ((SqL X.K H p ys ∧ ∀ l, H l = none → Q (.ref l) (upd H l (.tup ys))) ∨ (SqT X.K H p ys ∧ Q (.ref p) H))) fTuple := by
  intro xs d e vs G H Q s rv q
  cases rv with
  | nil => cases e
  | cons r1 rr =>
    cases rr with
    | cons r2 rr => cases r1 <;> cases e
    | nil =>
      cases r1 with
      | lst hx rx =>
        simp only [fTuple, Option.some.injEq] at e
        subst e
        exact ⟨_, _, rfl, .inl ⟨SqL.of (s _ _ hx), fun l hl => q _ _ (Gr.new s hl) _ (.tup (.inl (.inl upd_same)) (RpAll.mono (same_upd (s.free hl)) rx))⟩⟩
      | tup hx rx =>
        simp only [fTuple, Option.some.injEq] at e
        subst e
        exact ⟨_, _, rfl, .inr ⟨seqT s hx, q _ _ (Gr.refl s) _ (.tup hx rx)⟩⟩
      | _ => simp only [fTuple, reduceCtorEq] at e
def fList : List D → Option D
  | [.list xs] => some (.list xs)
  | [.tuple xs] => some (.list xs)
  | _ => none
theorem ok_list : OkRN X (fun xs H Q => ∃ p ys, xs = [.ref p] ∧ (SqL X.K H p ys ∨ SqT X.K H p ys) ∧ ∀ l, H l = none → Q (.ref l) (upd H l (.lst ys))) fList := by
  intro xs d e vs G H Q s rv q
  cases rv with
  | nil => cases e
  | cons r1 rr =>
    cases rr with
    | cons r2 rr => cases r1 <;> cases e
    | nil =>
      cases r1 with
      | lst hx rx =>
        simp only [fList, Option.some.injEq] at e
        subst e
        exact ⟨_, _, rfl, .inl (SqL.of (s _ _ hx)), fun l hl => q _ _ (Gr.new s hl) _ (.lst upd_same (RpAll.mono (same_upd (s.free hl)) rx))⟩
      | tup hx rx =>
        simp only [fList, Option.some.injEq] at e
        subst e
        exact ⟨_, _, rfl, .inr (seqT s hx), fun l hl => q _ _ (Gr.new s hl) _ (.lst upd_same (RpAll.mono (same_upd (s.free hl)) rx))⟩
      | _ => simp only [fList, reduceCtorEq] at e

/-! ### isinstance -/
def tyD : D → String
  | .none => "NoneType"
  | .bool _ => "bool"
  | .int _ => "int"
  | .str _ => "str"
  | .list _ => "list"
  | .tuple _ => "tuple"
  | .dict [(.none, .list _)] => "list"
  | .dict _ => "dict"
/-- is a value of type a one of type b? -/
def subB (a b : String) : Bool := decide (a = b) || (decide (a = "bool") && decide (b = "int"))
def dIsi (T : String) (a : Bt → Res D) : Bt → Res D := fun β => (a β).bind fun x => match x with
  | .dict _ => .no
  | x => .ok (.bool (subB (tyD x) T))
def tyNames : List String := ["int", "bool", "str", "tuple", "list", "dict"]
theorem kit_all : ∀ b ∈ tyNames, ∀ a ∈ ["NoneType", "bool", "int", "str", "list", "tuple"], kitB a b = some (subB a b) := by decide +kernel
theorem SqT.ty {K : PySem.W.Frag} {H : Hp} {a : Addr} {xs : List V} (h : SqT K H a xs) : TyX K H (.ref a) (.type "tuple") := by
  rcases h with (h | ⟨o, h⟩) | ⟨o, its, n, h, hc, _⟩
  · exact .base (.tup h)
  · exact .fTuple h
  · exact .kTuple h hc
theorem risi {T : String} {x : Str} {p p2 : Pos} (hT : T ∈ tyNames) (hm : X.mg "isinstance" = none) (hm2 : X.mg x = none) (ha : RE X W a da) (hv2 : bootBuiltins x = some (.type T) := by decide +kernel) (hg : Gl X "isinstance" := by rfl) (hg2 : Gl X x := by rfl)
    (hn : x ≠ "__name__" := by decide) (hd : (x == ("__debug__" : Str)) = false := by decide) (he : starEach [a, .Name x p2] X.env = (false, eval a X.env) :: starEach [.Name x p2] X.env := by rfl) : RE X W (.Call (.Name "isinstance" p) [a, .Name x p2] [] pos) (dIsi T da) :=
  PE.imp (pe_callB call_isi hg hm (by decide +kernel) (pa_cons ha (pa_cons (pe_bltn (v := .ty T) hg2 hm2 hv2 rfl hn hd) pa_nil) he) (he := he)) fun σ H Q h => by
    obtain ⟨G, β, s, ev, rp⟩ := h
    refine ⟨G, β, s, ev, rp.bind fun x ex G1 H1 g1 rp1 v rv => ?_⟩
    have key : ∀ t, t ∈ ["NoneType", "bool", "int", "str", "list", "tuple"] → TyX X.K H1 v (.type t) → (Q (.bl (subB t T)) H1) → rIsi X.K [v, .ty T] H1 Q := fun t ht ty q =>
      ⟨v, .ty T, .type t, .type T, _, rfl, .ty T, ty, kit_ty (kit_all T hT t ht), q⟩
    cases rv with
    | non => exact key "NoneType" (by decide) (.base .non) (rp1.here (Gr.refl g1.s) _ (.bl _))
    | bl b => exact key "bool" (by decide) (.base (.bl b)) (rp1.here (Gr.refl g1.s) _ (.bl _))
    | int i => exact key "int" (by decide) (.base (.int i)) (rp1.here (Gr.refl g1.s) _ (.bl _))
    | str z => exact key "str" (by decide) (.base (.str z)) (rp1.here (Gr.refl g1.s) _ (.bl _))
    | lst hx rx => exact key "list" (by decide) (.base (.lst (g1.s _ _ hx))) (rp1.here (Gr.refl g1.s) _ (.bl _))
    | tup hx rx => exact key "tuple" (by decide) (SqT.ty (seqT g1.s hx)) (rp1.here (Gr.refl g1.s) _ (.bl _))
    | scr hx rx => exact rp1.elim
    | dic hx rx => exact rp1.elim
end
end DL

/-! DL6: t[::-1], calls of defs, iterators, comprehensions. -/
namespace DL
open PySem PySem.Spec PyProof.Rows L2
open HT (sIx)
/-! ### [::-1] of a tuple -/
theorem rev_places (n : Nat) : Builtin.Slice.slicePlaces ((n : Int) - 1) (-1) (-1) = n := by
  unfold Builtin.Slice.slicePlaces
  rw [if_neg (show ¬ ((-1 : Int) > 0) by omega)]
  split
  · have e : ((n : Int) - 1 - -1 - 1) / (- -1) + 1 = (n : Int) := by
      rw [show (- -1 : Int) = 1 by omega, Int.ediv_one]
      omega
    rw [e]
    omega
  · omega
theorem rev_pick (xs : Array Value) : ((List.range xs.size).filterMap fun (m : Nat) => xs[((xs.size : Int) - 1 + (m : Int) * -1).toNat]?).toArray = xs.toList.reverse.toArray := by
  have e : ∀ m, m ∈ List.range xs.size → xs[((xs.size : Int) - 1 + (m : Int) * -1).toNat]? = some (xs.toList.reverse.getD m .none) := fun m hm => by
    have h : m < xs.size := List.mem_range.mp hm
    have i1 : ((xs.size : Int) - 1 + (m : Int) * -1).toNat = xs.size - 1 - m := by omega
    rw [i1, Array.getElem?_eq_getElem (by omega), List.getD_eq_getElem?_getD, List.getElem?_reverse (by simpa using h)]
    simp only [Array.length_toList]
    rw [List.getElem?_eq_getElem (by rw [Array.length_toList]; omega)]
    simp
  have go : ∀ l : List Nat, (∀ m ∈ l, m ∈ List.range xs.size) → (l.filterMap fun (m : Nat) => xs[((xs.size : Int) - 1 + (m : Int) * -1).toNat]?) = l.map fun m => xs.toList.reverse.getD m .none := fun l => by
    induction l with
    | nil => intro _; rfl
    | cons m l ih =>
      intro h
      rw [List.filterMap_cons, e m (h m List.mem_cons_self), List.map_cons, ih fun k hk => h k (List.mem_cons_of_mem _ hk)]
  rw [go _ fun _ h => h]
  congr 1
  apply List.ext_getElem?
  intro i
  rw [List.getElem?_map]
  by_cases h : i < xs.size
  · rw [List.getElem?_range h, List.getElem?_eq_getElem (by simpa using h)]
    simp only [Option.map_some, List.getD_eq_getElem?_getD]
    rw [List.getElem?_eq_getElem (by simpa using h)]
    rfl
  · rw [List.getElem?_eq_none (by simpa using h), List.getElem?_eq_none (by simpa using h)]
    rfl
section
variable {prog : Program} {w : World} {A : Around} {E : Value → Shared → Prop} {s : Shared}
theorem rev_applied {sl : Addr} {vs : Value} {n : Nat} {Q : Int × Int × Nat → Shared → Prop} (hs : s.heap.IsSliceOf sl .none .none vs) (ps : IsPart vs (some (-1)))
    (h : Q ((n : Int) - 1, -1, n) s) : wpAny (model prog w) A (Builtin.Slice.sliceApplied (.ref sl) (pure (n : Int))) Q E s := by
  obtain ⟨os, hos, hcs, hds⟩ := id hs
  unfold Builtin.Slice.sliceApplied Builtin.Slice.sliceFields
  refine wpAny_bind (wpAny_bind (wpAny_field hos hds (x := .none) rfl (wpAny_bind (wpAny_field hos hds (x := .none) rfl (wpAny_bind (wpAny_field hos hds (x := vs) rfl (wpAny_pure ?_)))))))
  refine wpAny_bind (HT.slicePart_ ps ?_)
  show wpAny _ _ (if ((-1 : Int) == 0) = true then _ else _) _ _ s
  rw [if_neg (by decide)]
  refine wpAny_bind (HT.slicePart_ .none (wpAny_bind (HT.slicePart_ .none (wpAny_bind (wpAny_pure ?_)))))
  show wpAny _ _ (pure ((n : Int) - 1, (-1 : Int), Builtin.Slice.slicePlaces ((n : Int) - 1) (-1) (-1))) _ _ s
  rw [rev_places]
  exact wpAny_pure h
theorem getItem_tuple_rev {t sl : Addr} {items : Array Value} {vs : Value} {Q : Value → Shared → Prop} (ht : IsTup s.heap t items) (hs : s.heap.IsSliceOf sl .none .none vs) (ps : IsPart vs (some (-1)))
    (h : Q (.ref s.heap.objs.size) { s with heap := s.heap.push { cls := .type "tuple", data := .seq items.toList.reverse.toArray } })
    (hsz : items.size ≤ sizeLine) : wpAny (model prog w) A (getItem (.ref t) (.ref sl)) Q E s := by
  have hz : sizeOk (.seq items.toList.reverse.toArray) := by
    show items.toList.reverse.toArray.size ≤ sizeLine
    simpa using hsz
  obtain ⟨os, hos, hcs, hds⟩ := id hs
  have hTs : s.TypeIs (.ref sl) "slice" := ⟨os, hos, hcs⟩
  unfold getItem
  try with_reducible refine wpAny_holding ?_
  first | refine wpAny_bind (wpAny_pure ?_) | skip
  refine wpAny_bind (wpAny_sequenceKey ht.typeIs (by decide) ?_)
  refine wpAny_bind (wpAny_callSpecial?_slot (name := Str.ofString "__getitem__") ht.typeIs PyProof.Rows.slot_tuple_getitem
    (wpAny_call_entry PyProof.Rows.slot_tuple_getitem ht.typeIs entry_tuple_getitem ?_ (args_tuple_getitem _ _)))
  show wpAny _ _ (Builtin.Tuple.tupleItemsOf (.ref t) >>= _) _ _ s
  refine wpAny_bind (tupleItemsOf_ ht ?_)
  refine wpAny_bind (wpAny_typeOf hTs ?_)
  rw [if_pos (by decide)]
  refine wpAny_bind (rev_applied hs ps ?_)
  show wpAny _ _ (if (((items.size : Int) - 1) == 0 && (-1 : Int) == 1 && items.size == items.size) = true then _ else _) _ _ s
  rw [if_neg (by simp), rev_pick]
  first
    | exact wpAny_bind (m := Builtin.Tuple.tupleExact _) (wpAny_newObj_type (wpAny_pure ⟨_, rfl, wpAny_pure h⟩) hz)
    | exact wpAny_bind (m := Builtin.Tuple.tupleExact _) (wpAny_newObj_type (wpAny_bind (wpAny_pure (wpAny_pure ⟨_, rfl, wpAny_pure h⟩))) hz)
    | exact wpAny_bind (wpAny_bind (m := Builtin.Tuple.tupleExact _) (wpAny_newObj_type (wpAny_pure (wpAny_pure ⟨_, rfl, wpAny_pure h⟩)) hz))
    | exact wpAny_bind (wpAny_bind (m := Builtin.Tuple.tupleExact _) (wpAny_newObj_type (wpAny_pure ⟨_, rfl, wpAny_pure h⟩) hz))
end
section
variable {X : Cx} {W : WA} {a b : Expr} {da db : Bt → Res D} {pos : Pos}
def tRevA (K : PySem.W.Frag) (te : TE) : TE := fun σ H Q => te σ H fun x H1 => ∃ a xs, x = .ref a ∧ ((SqL K H1 a xs ∧ ∀ p, H1 p = none → Q (.ref p) (upd H1 p (.lst xs.reverse))) ∨ (SqT K H1 a xs ∧ ∀ p, H1 p = none → Q (.ref p) (upd H1 p (.tup xs.reverse))))
theorem pe_revA {e : Expr} {te : TE} {k : Nat} {p1 p2 p3 pos : Pos} (he : PE X e te) : PE X (.Subscript e (.Slice none none (some (.UnaryOp .USub (.Constant (.int 1) k p1) p2)) p3) pos) (tRevA X.K te) := by
  refine ⟨fun pins s σ H Q I h => ?_⟩
  refine Subscript_ (thn (he.run pins s σ H _ I h) fun v s1 ⟨x, H1, I1, r1, q1⟩ => ?_)
  obtain ⟨a, xs, ex, q⟩ := q1
  subst ex
  cases r1
  have step : PO X (some (.UnaryOp .USub (.Constant (.int 1) k p1) p2)) (tPart (tUn (rU fun i => .int (-i)) (tC (.int 1)))) := po_some (pe_un un_neg pe_int)
  refine wpAny_Slice (thn (po_none.run pins s1 σ H1 (fun o H2 => o = none ∧ H2 = H1) I1 ⟨rfl, rfl⟩) fun vl s2 ⟨l, H2, I2, pl, el, e2⟩ => ?_)
  subst el e2
  refine thn (po_none.run pins s2 σ H2 (fun o H3 => o = none ∧ H3 = H2) I2 ⟨rfl, rfl⟩) fun vu s3 ⟨u, H3, I3, pu, eu, e3⟩ => ?_
  subst eu e3
  refine thn (step.run pins s3 σ H3 (fun o H4 => o = some (-1) ∧ H4 = H3) I3 ⟨1, rfl, -1, rfl, rfl, rfl⟩) fun vs s4 ⟨o, H4, I4, ps, eo, e4⟩ => ?_
  subst eo e4
  have I5 : Inv X pins σ H4 { s4 with heap := s4.heap.push { cls := .type "slice", data := .fields #[vl, vu, vs] } } := I4.kept (t' := s4.toks) fun b ob q => Heap.get?_push_of_some _ q
  cases pl
  cases pu
  show wpAny (model X.prog X.w) X.A (subscriptTail e (.Slice none none (some (.UnaryOp .USub (.Constant (.int 1) k p1) p2)) p3) (.ref a) (.ref s4.heap.objs.size)) (EP X pins σ Q) X.xe { s4 with heap := s4.heap.push { cls := .type "slice", data := .fields #[.none, .none, vs] } }
  rcases q with ⟨hx, q⟩ | ⟨hx, q⟩
  · obtain ⟨its, r, ht, hz⟩ := I5.list hx
    have hlen := r.length
    refine tail_any (ops := [.ref a, .ref s4.heap.objs.size]) ht.isList.typeIs (PySem.slot_list_getitem.lookup) ?_ (by with_unfolding_all rfl)
    refine wpAny_getItem_list_slice ht.isList (Heap.IsSliceOf.new _ .none .none vs) .none .none ps (by decide) ?_ (by rw [List.size_toArray]; omega)
    rw [PySem.W.krv_pick]
    refine ⟨.ref _, _, I5.laid (t' := s4.toks) (o := .lst xs.reverse) (fun b ob q => Heap.get?_push_of_some _ q) (Nat.le_refl _) ?_, rfl, q _ (I5.hok.fresh (Nat.le_refl _))⟩
    exact ⟨by rw [List.length_reverse]; exact hz, _, 0, r.reverse, Heap.get?_push_size _ rfl⟩
  · obtain ⟨its, r, ht, hz⟩ := I5.tuple hx
    have hlen := r.length
    refine tail_any (ops := [.ref a, .ref s4.heap.objs.size]) ht.typeIs (PyProof.Rows.slot_tuple_getitem.lookup) ?_ (by with_unfolding_all rfl)
    refine getItem_tuple_rev ht (Heap.IsSliceOf.new _ .none .none vs) ps ?_ (by rw [List.size_toArray]; omega)
    refine ⟨.ref _, _, I5.laid (t' := s4.toks) (o := .tup xs.reverse) (fun b ob q => Heap.get?_push_of_some _ q) (Nat.le_refl _) ?_, rfl, q _ (I5.hok.fresh (Nat.le_refl _))⟩
    exact ⟨by rw [List.length_reverse]; exact hz, _, r.reverse, ⟨_, Heap.get?_push_size _ rfl, rfl, _, rfl⟩⟩
def fRevA : D → Option D
  | .list xs => some (.list xs.reverse)
  | .tuple xs => some (.tuple xs.reverse)
  | _ => none
theorem rrev {k : Nat} {p1 p2 p3 : Pos} (ha : RE X W a da) : RE X W (.Subscript a (.Slice none none (some (.UnaryOp .USub (.Constant (.int 1) k p1) p2)) p3) pos) (d1 fRevA da) :=
  PE.imp (pe_revA ha) fun σ H Q h => by
    obtain ⟨G, β, s, ev, rp⟩ := h
    refine ⟨G, β, s, ev, rp.bind fun x ex G1 H1 g1 rp1 v rv => ?_⟩
    obtain ⟨d, ed, q⟩ := rp1.ofOpt
    cases rv with
    | lst hx rx =>
      simp only [fRevA, Option.some.injEq] at ed
      subst ed
      exact ⟨_, _, rfl, .inl ⟨SqL.of (g1.s _ _ hx), fun p hp => q _ _ (Gr.new g1.s hp) _ (.lst upd_same (RpAll.mono (same_upd (g1.s.free hp)) rx.reverse))⟩⟩
    | tup hx rx =>
      simp only [fRevA, Option.some.injEq] at ed
      subst ed
      exact ⟨_, _, rfl, .inr ⟨seqT g1.s hx, fun p hp => q _ _ (Gr.new g1.s hp) _ (.tup (.inl (.inl upd_same)) (RpAll.mono (same_upd (g1.s.free hp)) rx.reverse))⟩⟩
    | _ => simp only [fRevA, reduceCtorEq] at ed

end

/-! ### an order of texts -/
theorem ltc_irr : ∀ a : List Nat, ltCps a a = false
  | [] => rfl
  | x :: r => by simp [ltCps, ltc_irr r]
theorem ltc_eq : ∀ a b : List Nat, ltCps a b = false → ltCps b a = false → a = b
  | [], [], _, _ => rfl
  | [], _ :: _, h, _ => by simp [ltCps] at h
  | _ :: _, [], _, h => by simp [ltCps] at h
  | x :: r, y :: t, h1, h2 => by
    simp only [ltCps, Bool.or_eq_false_iff, decide_eq_false_iff_not, Bool.and_eq_false_iff, beq_eq_false_iff_ne] at h1 h2
    have e : x = y := by omega
    subst e
    have q1 : ltCps r t = false := h1.2.resolve_left fun z => z rfl
    have q2 : ltCps t r = false := h2.2.resolve_left fun z => z rfl
    rw [ltc_eq r t q1 q2]
theorem ltc_neg : ∀ a b c : List Nat, ltCps b a = false → ltCps c b = false → ltCps c a = false
  | _, _, [], h1, h2 => by
    rename_i a b
    cases b with
    | nil => exact h1
    | cons y t => simp [ltCps] at h2
  | [], _, _ :: _, _, _ => rfl
  | x :: r, [], z :: q, h1, _ => by simp [ltCps] at h1
  | x :: r, y :: t, z :: q, h1, h2 => by
    simp only [ltCps, Bool.or_eq_false_iff, decide_eq_false_iff_not, Bool.and_eq_false_iff, beq_eq_false_iff_ne] at h1 h2 ⊢
    refine ⟨by omega, ?_⟩
    by_cases e : z = x
    · refine .inr ?_
      have e1 : y = x := by omega
      have e2 : z = y := by omega
      exact ltc_neg r t q (h1.2.resolve_left fun w => w e1) (h2.2.resolve_left fun w => w e2)
    · exact .inl e
theorem ltc_lt : ∀ a b : List Nat, ltCps a b = decide (a < b)
  | [], [] => by simp [ltCps]
  | [], _ :: _ => by simp [ltCps]
  | _ :: _, [] => by simp [ltCps]
  | x :: r, y :: t => by
    simp only [ltCps, ltc_lt r t, List.cons_lt_cons_iff]
    by_cases h : x < y
    · simp [h]
    · by_cases e : x = y
      · simp [e]
      · simp [h, e]
theorem perm_same {α : Type} {le : α → α → Prop} (as : ∀ a b, le a b → le b a → a = b) : ∀ (l1 l2 : List α), l1.Perm l2 → l1.Pairwise le → l2.Pairwise le → l1 = l2
  | [], l2, p, _, _ => (List.nil_perm.mp p).symm
  | a :: t1, [], p, _, _ => by
    have h := p.length_eq
    simp at h
  | a :: t1, b :: t2, p, h1, h2 => by
    have e : a = b := by
      have ha : a ∈ b :: t2 := p.subset List.mem_cons_self
      have hb : b ∈ a :: t1 := p.symm.subset List.mem_cons_self
      rcases List.mem_cons.mp ha with e | ha
      · exact e
      · rcases List.mem_cons.mp hb with e | hb
        · exact e.symm
        · exact as a b ((List.pairwise_cons.mp h1).1 b hb) ((List.pairwise_cons.mp h2).1 a ha)
    subst e
    rw [perm_same as t1 t2 p.cons_inv (List.pairwise_cons.mp h1).2 (List.pairwise_cons.mp h2).2]
/-- insertion by a test «is less than» -/
def insBy {α : Type} (lt : α → α → Bool) (x : α) : List α → List α
  | [] => [x]
  | y :: r => if lt y x = true then y :: insBy lt x r else x :: y :: r
def sortBy {α : Type} (lt : α → α → Bool) : List α → List α
  | [] => []
  | x :: r => insBy lt x (sortBy lt r)
section
variable {α : Type} {lt : α → α → Bool}
theorem insBy_perm (x : α) : ∀ l : List α, (insBy lt x l).Perm (x :: l)
  | [] => List.Perm.refl _
  | y :: r => by
    unfold insBy
    split
    · exact ((insBy_perm x r).cons y).trans (List.Perm.swap x y r)
    · exact List.Perm.refl _
theorem sortBy_perm : ∀ l : List α, (sortBy lt l).Perm l
  | [] => List.Perm.refl _
  | x :: r => (insBy_perm x _).trans ((sortBy_perm r).cons x)
theorem insBy_ord (asy : ∀ a b, lt a b = true → lt b a = false) (tr : ∀ a b c, lt b a = false → lt c b = false → lt c a = false) (x : α) : ∀ l : List α, l.Pairwise (fun a b => lt b a = false) → (insBy lt x l).Pairwise fun a b => lt b a = false
  | [], _ => by simp [insBy]
  | y :: r, h => by
    obtain ⟨h1, h2⟩ := List.pairwise_cons.mp h
    unfold insBy
    split
    · rename_i q
      refine List.pairwise_cons.mpr ⟨fun z hz => ?_, insBy_ord asy tr x r h2⟩
      rcases List.mem_cons.mp ((insBy_perm x r).subset hz) with e | hz
      · rw [e]; exact asy _ _ q
      · exact h1 z hz
    · rename_i q
      have q' : lt y x = false := by simpa using q
      refine List.pairwise_cons.mpr ⟨fun z hz => ?_, h⟩
      rcases List.mem_cons.mp hz with e | hz
      · rw [e]; exact q'
      · exact tr x y z q' (h1 z hz)
theorem sortBy_ord (asy : ∀ a b, lt a b = true → lt b a = false) (tr : ∀ a b c, lt b a = false → lt c b = false → lt c a = false) : ∀ l : List α, (sortBy lt l).Pairwise fun a b => lt b a = false
  | [] => List.Pairwise.nil
  | x :: r => insBy_ord asy tr x _ (sortBy_ord asy tr r)
end
abbrev ltT (x y : Str) : Bool := ltCps x.cps.toList y.cps.toList
theorem ltT_asy (a b : Str) (h : ltT a b = true) : ltT b a = false := by
  cases e : ltT b a with
  | false => rfl
  | true =>
    exfalso
    have key : ∀ x y : List Nat, ltCps x y = true → ltCps y x = true → False := fun x => by
      induction x with
      | nil => intro y h1 h2; cases y <;> simp [ltCps] at h1 h2
      | cons a r ih =>
        intro y h1 h2
        cases y with
        | nil => simp [ltCps] at h1
        | cons b t =>
          simp only [ltCps, Bool.or_eq_true, decide_eq_true_eq, Bool.and_eq_true, beq_iff_eq] at h1 h2
          rcases h1 with h1 | ⟨h1, q1⟩
          · rcases h2 with h2 | ⟨h2, q2⟩
            · omega
            · omega
          · rcases h2 with h2 | ⟨h2, q2⟩
            · omega
            · exact ih t q1 q2
    exact key _ _ h e
theorem str_of {a b : Str} (h : a.cps.toList = b.cps.toList) : a = b := by
  obtain ⟨⟨x⟩⟩ := a
  obtain ⟨⟨y⟩⟩ := b
  simpa using h
theorem risingS_pw : ∀ (l : List Str) (p : Str), risingS p l = true → (p :: l).Pairwise fun a b => ltT b a = false
  | [], p, _ => by simp
  | x :: r, p, h => by
    simp only [risingS, Bool.and_eq_true, Bool.not_eq_true'] at h
    have ih := risingS_pw r x h.2
    refine List.pairwise_cons.mpr ⟨fun z hz => ?_, ih⟩
    rcases List.mem_cons.mp hz with e | hz
    · rw [e]; exact h.1
    · exact ltc_neg _ _ _ h.1 ((List.pairwise_cons.mp ih).1 z hz)
theorem sorted_same {ys xs : List Str} (p : ys.Perm xs) (h : sortedS ys = true) : ys = sortBy ltT xs := by
  refine perm_same (le := fun a b => ltT b a = false) (fun a b h1 h2 => str_of (ltc_eq _ _ h2 h1)) _ _ (p.trans (sortBy_perm xs).symm) ?_ (sortBy_ord ltT_asy (fun a b c h1 h2 => ltc_neg _ _ _ h1 h2) xs)
  cases ys with
  | nil => exact List.Pairwise.nil
  | cons x r => exact risingS_pw r x h
def strsOf : List D → Option (List Str)
  | [] => some []
  | .str x :: r => (strsOf r).map (x :: ·)
  | _ => none
def intsOf : List D → Option (List Int)
  | [] => some []
  | .int x :: r => (intsOf r).map (x :: ·)
  | _ => none
theorem strsOf_eq : ∀ {ds : List D} {xs : List Str}, strsOf ds = some xs → ds = xs.map PyData.str
  | [], _, h => by cases h; rfl
  | d :: r, xs, h => by
    cases d <;> simp only [strsOf, reduceCtorEq] at h
    obtain ⟨t, e, rfl⟩ := Option.map_eq_some_iff.mp h
    rw [strsOf_eq e]; rfl
theorem intsOf_eq : ∀ {ds : List D} {xs : List Int}, intsOf ds = some xs → ds = xs.map PyData.int
  | [], _, h => by cases h; rfl
  | d :: r, xs, h => by
    cases d <;> simp only [intsOf, reduceCtorEq] at h
    obtain ⟨t, e, rfl⟩ := Option.map_eq_some_iff.mp h
    rw [intsOf_eq e]; rfl
theorem rpAll_strs {K : PySem.W.Frag} {w : World} {H : Hp} : ∀ {xs : List Str} {vs : List V}, RpAll K w H vs (xs.map PyData.str) → vs = xs.map V.str
  | [], _, h => by cases h; rfl
  | x :: r, _, h => by
    cases h with
    | cons h1 h2 => cases h1; rw [rpAll_strs h2]; rfl
theorem strs_rp {K : PySem.W.Frag} {w : World} {H : Hp} : ∀ xs : List Str, RpAll K w H (xs.map V.str) (xs.map PyData.str)
  | [] => .nil
  | x :: r => .cons (.str x) (strs_rp r)
theorem rpAll_ints {K : PySem.W.Frag} {w : World} {H : Hp} : ∀ {xs : List Int} {vs : List V}, RpAll K w H vs (xs.map PyData.int) → vs = xs.map V.int
  | [], _, h => by cases h; rfl
  | x :: r, _, h => by
    cases h with
    | cons h1 h2 => cases h1; rw [rpAll_ints h2]; rfl
section
variable {X : Cx}
def fSorted : List D → Option D
  | [.list ds] => match strsOf ds with
    | some xs => if xs.length < 64 then some (.list ((sortBy ltT xs).map PyData.str)) else none
    | none => match intsOf ds with
      | some ns => if ns.length < 64 then some (.list ((sortBy (fun i j => decide (i < j)) ns).map PyData.int)) else none
      | none => none
  | _ => none
theorem ok_sorted : OkRN X (fun vs H Q => rSortedS X.K vs H Q ∨ rSorted X.K vs H Q) fSorted := by
  intro xs d e vs G H Q s rv q
  cases rv with
  | nil => cases e
  | cons r1 rr =>
    cases rr with
    | cons r2 rr => cases r1 <;> cases e
    | nil =>
      cases r1 with
      | lst hx rx =>
        simp only [fSorted] at e
        split at e
        · rename_i zs hz
          split at e
          · rename_i h64
            cases e
            have e1 := strsOf_eq hz
            subst e1
            have e2 := rpAll_strs rx
            subst e2
            refine .inl ⟨_, _, rfl, SqL.of (s _ _ hx), h64, fun ys p h1 h2 hp => ?_⟩
            rw [sorted_same h1 h2]
            exact q _ _ (Gr.new s hp) _ (.lst upd_same (strs_rp _))
          · cases e
        · split at e
          · rename_i zs hz
            split at e
            · rename_i h64
              cases e
              have e1 := intsOf_eq hz
              subst e1
              have e2 := rpAll_ints rx
              subst e2
              refine .inr ⟨_, _, rfl, SqL.of (s _ _ hx), h64, fun ys p h1 h2 hp => ?_⟩
              have e3 : ys = sortBy (fun i j => decide (i < j)) zs := by
                refine perm_same (le := fun a b : Int => a ≤ b) (fun a b => Int.le_antisymm) _ _ (h1.trans (sortBy_perm zs).symm) h2 ?_
                have := sortBy_ord (lt := fun i j : Int => decide (i < j)) (fun a b h => by simp at h ⊢; omega) (fun a b c h h' => by simp at h h' ⊢; omega) zs
                exact this.imp fun {a b} h => by simp at h; omega
              rw [e3]
              exact q _ _ (Gr.new s hp) _ (.lst upd_same (Rp.ints _ _ _))
            · cases e
          · cases e
      | _ => simp only [fSorted, reduceCtorEq] at e
theorem okO_sorted : CallR X (.builtin "sorted") (fun vs H Q => rSortedS X.K vs H Q ∨ rSorted X.K vs H Q) := cr_sortedS.or cr_sorted
end
end DL

/-! DL7: calls of defs, targets, iterators, comprehensions. -/
namespace DL
open PySem PySem.Spec PyProof.Rows L2
/-! ### calls of defs -/
/-- the promise: what f computes -/
abbrev Wd (E : XK) : WA := WA.of fun cls d _ H => E cls d H
def SpF (K : PySem.W.Frag) (w : World) (mg : Str → Option Value) (f : List D → Res D) : Sp := fun vs H Q E => ∃ G ds, Same G H ∧ RpAll K w G vs ds ∧ RP K w mg (Wd E) [] G H (fun d G' H' => ∀ v, Rp K w G' v d → Q v H') (f ds)
def dCall (f : List D → Res D) (a : Bt → Res (List D)) : Bt → Res D := fun β => (a β).bind f
theorem SpF.len {K : PySem.W.Frag} {w : World} {mg : Str → Option Value} {f : List D → Res D} {n : Nat} (hf : ∀ ds, ds.length ≠ n → f ds = .no) (vs : List V) (H : Hp) (Q : VK) (E : XK) (h : SpF K w mg f vs H Q E) : vs.length = n := by
  obtain ⟨G, ds, s, r, rp⟩ := h
  rw [r.length]
  by_cases e : ds.length = n
  · exact e
  · rw [hf ds e] at rp
    exact rp.elim
section
variable {X : Cx} {W : WA} {k : Nat} {f : Addr} {fd : FuncData} {ps : List Str} {g : List D → Res D} {x : Str} {p pos : Pos} {e : Expr} {es : List Expr} {da : Bt → Res (List D)}
theorem rcall (F : FnOk X.prog X.w X.K X.mg X.base (L2.CX X.prog X.w) k f fd ps (SpF X.K X.w X.mg g)) (hr : Room k X.A) (hm : X.mg x = some (.ref f)) (kp : PySem.W.keepIn X.K (.ref f) = true) (hb : Binds X.K fd ps []) (tk : Takes X W.x) (ha : RA X W (e :: es) da)
    (hg : Gl X x := by rfl) (hdb : (x == ("__debug__" : Str)) = false := by decide) (he : starEach (e :: es) X.env = (false, eval e X.env) :: starEach es X.env := by rfl) (hpl : (backTo pos (starEach es X.env)).any (·.1) = false := by rfl) :
    RE X W (.Call (.Name x p) (e :: es) [] pos) (dCall g da) :=
  PE.imp (pe_callSD (E := fun σ => WE W.x σ) F hr hg hm kp hb .nil (passAt tk) ha hdb he hpl) fun σ H Q h => by
    obtain ⟨G, β, s, ev, rp⟩ := h
    refine ⟨G, β, s, ev, rp.bind fun ds ed G1 H1 g1 rp1 vs rv => ?_⟩
    show SpF X.K X.w X.mg g (vs ++ []) H1 Q (WE W.x σ)
    rw [List.append_nil]
    refine ⟨G1, ds, g1.s, rv, ?_⟩
    cases q : g ds with
    | no => rw [q] at rp1; exact rp1
    | er e => rw [q] at rp1; exact rp1
    | ok d => rw [q] at rp1; exact rp1
theorem rcall0 (F : FnOk X.prog X.w X.K X.mg X.base (L2.CX X.prog X.w) k f fd ps (SpF X.K X.w X.mg g)) (hr : Room k X.A) (hm : X.mg x = some (.ref f)) (kp : PySem.W.keepIn X.K (.ref f) = true) (hb : Binds X.K fd ps []) (tk : Takes X W.x)
    (hg : Gl X x := by rfl) (hdb : (x == ("__debug__" : Str)) = false := by decide) : RE X W (.Call (.Name x p) [] [] pos) (dCall g aNil) := by
  refine ⟨fun pins s σ H Q I h => ?_⟩
  refine wpAny_Call_Name_kw (ld_glob I hg hm ?_ hdb)
  refine PySem.W.callWith_K0 I.kIn kp (run_fnSD (E := fun σ => WE W.x σ) (us := []) (vs := []) (dvs := []) (ds := []) F hr hb .nil (passAt tk σ) I .nil ?_)
  obtain ⟨G, β, s', ev, rp⟩ := h
  exact ⟨G, [], s', .nil, rp⟩
end

/-! ### targets: a name, a flat tuple of names -/
inductive Tgt where
  | nm (i : Nat)
  | tup (is : List Nat)
def gNames : List Nat → TGs
  | [] => gNil
  | i :: r => gCons (gName i) (gNames r)
def tgt (K : PySem.W.Frag) : Tgt → TG
  | .nm i => gName i
  | .tup is => gTup K is.length (gNames is)
def Tgt.slots : Tgt → List Nat
  | .nm i => [i]
  | .tup is => is
def setAll : List Nat → List D → Bt → Option Bt
  | [], [], β => some β
  | i :: is, d :: ds, β => setAll is ds (β.set i (some d))
  | _, _, _ => none
def setT : Tgt → D → Bt → Option Bt
  | .nm i, d, β => some (β.set i (some d))
  | .tup is, .tuple ds, β => setAll is ds β
  | _, _, _ => none
theorem wipe_set (σ : L2.St) (i : Nat) (x : Option V) : ∀ vs : List Nat, wipe (σ.set i x) vs = if i ∈ vs then wipe σ vs else (wipe σ vs).set i x
  | [] => by simp [wipe]
  | v :: vs => by
    show (wipe (σ.set i x) vs).set v none = _
    rw [wipe_set σ i x vs]
    by_cases h : i ∈ vs
    · rw [if_pos h, if_pos (List.mem_cons_of_mem _ h)]; rfl
    · rw [if_neg h]
      by_cases e : i = v
      · subst e
        rw [if_pos List.mem_cons_self, List.set_set]; rfl
      · rw [if_neg (by simp [e, h]), List.set_comm _ _ e]; rfl
theorem wipe_in {σ : L2.St} {i : Nat} {x : Option V} {vs : List Nat} (h : i ∈ vs) : wipe (σ.set i x) vs = wipe σ vs := by rw [wipe_set, if_pos h]
theorem wipe_idem (σ : L2.St) : ∀ vs us : List Nat, (∀ i ∈ us, i ∈ vs) → wipe (wipe σ us) vs = wipe σ vs
  | vs, [], _ => rfl
  | vs, u :: us, h => by
    show wipe ((wipe σ us).set u none) vs = _
    rw [wipe_in (h u List.mem_cons_self)]
    exact wipe_idem σ vs us fun i hi => h i (List.mem_cons_of_mem _ hi)
section
variable {K : PySem.W.Frag} {w : World} {G H : Hp} {σ : L2.St} {β β' : Bt}
theorem Ev.set {v : V} {d : D} {W : WA} (h : Ev K w W G σ β) (r : Rp K w G v d) (i : Nat) (hw : W.ok i = true) : Ev K w W G (σ.set i (some v)) (β.set i (some d)) := by
  refine ⟨by simpa using h.1, fun j x e => ?_, W.set _ _ _ _ hw h.2.2⟩
  by_cases q : j = i
  · subst q
    by_cases hl : j < β.length
    · rw [List.getElem?_set_self hl] at e
      cases e
      exact ⟨v, List.getElem?_set_self (Nat.lt_of_lt_of_le hl h.1), r⟩
    · rw [List.getElem?_eq_none (by simpa using hl)] at e
      cases e
  · rw [List.getElem?_set_ne (Ne.symm q)] at e
    obtain ⟨u, e1, e2⟩ := h.2.1 j x e
    exact ⟨u, by rw [List.getElem?_set_ne (Ne.symm q)]; exact e1, e2⟩
theorem names_run {Q : L2.St → Hp → Prop} : ∀ {is : List Nat} {ds : List D} {xs : List V} {σ : L2.St} {β : Bt}, RpAll K w G xs ds → Ev K w W0 G σ β → setAll is ds β = some β' →
    (∀ σ', Ev K w W0 G σ' β' → (∀ vs : List Nat, (∀ i ∈ is, i ∈ vs) → wipe σ' vs = wipe σ vs) → Q σ' H) → gNames is xs σ H Q
  | [], _, _, σ, β, r, ev, e, q => by
    cases r with
    | nil =>
      cases e
      exact ⟨rfl, q σ ev fun _ _ => rfl⟩
    | cons _ _ => cases e
  | i :: is, _, _, σ, β, r, ev, e, q => by
    cases r with
    | nil => cases e
    | cons h t =>
      refine ⟨_, _, rfl, names_run t (ev.set h i rfl) e fun σ' ev' hw => q σ' ev' fun vs hv => ?_⟩
      rw [hw vs fun j hj => hv j (List.mem_cons_of_mem _ hj)]
      exact wipe_in (hv i List.mem_cons_self)
theorem tgt_run {Q : L2.St → Hp → Prop} {t : Tgt} {d : D} {v : V} (s : Same G H) (r : Rp K w G v d) (ev : Ev K w W0 G σ β) (e : setT t d β = some β')
    (q : ∀ σ', Ev K w W0 G σ' β' → (∀ vs : List Nat, (∀ i ∈ t.slots, i ∈ vs) → wipe σ' vs = wipe σ vs) → Q σ' H) : tgt K t v σ H Q := by
  cases t with
  | nm i =>
    cases e
    exact q _ (ev.set r i rfl) fun vs hv => wipe_in (hv i List.mem_cons_self)
  | tup is =>
    cases r with
    | @tup a xs ds hx rx =>
      have e' : setAll is ds β = some β' := e
      refine ⟨_, _, rfl, seqT s hx, ?_, names_run rx ev e' q⟩
      rw [rx.length]
      have key : ∀ {is : List Nat} {ds : List D} {β : Bt}, setAll is ds β = some β' → ds.length = is.length := fun {is} => by
        induction is with
        | nil => intro ds β e; cases ds <;> first | rfl | cases e
        | cons i is ih =>
          intro ds β e
          cases ds with
          | nil => cases e
          | cons d ds => exact congrArg Nat.succ (ih e)
      exact key e'
    | _ => cases e
end
def RG (X : Cx) (tg : Expr) (t : Tgt) : Prop := PG X tg (tgt X.K t)
theorem rgn {X : Cx} (i : Nat) {x : Str} {pos : Pos} (hN : X.N.Nodup) (hi : X.N[i]? = some x := by rfl) (hx : Loc X.env.scope x := by first | exact Or.inl rfl | exact Or.inr rfl) (hf : X.fn x = true ∨ X.env.scope.names.lookup x = some .local := by first | exact .inl rfl | exact .inr rfl | assumption) : RG X (.Name x pos) (.nm i) :=
  pg_name hN hi hx hf
def RGs (X : Cx) (ts : List Expr) (is : List Nat) : Prop := PGs X ts (gNames is)
theorem rgnil {X : Cx} : RGs X [] [] := pgs_nil
theorem rgcons {X : Cx} {e : Expr} {es : List Expr} {i : Nat} {is : List Nat} (h : RG X e (.nm i)) (r : RGs X es is) (hs : (assignEach (e :: es) X.env).map (·.2) = assign e X.env :: (assignEach es X.env).map (·.2) := by rfl) : RGs X (e :: es) (i :: is) := pgs_cons h r hs
theorem rgtup {X : Cx} {es : List Expr} {k : Nat} {is : List Nat} {pos : Pos} (hc : X.calm = true) (h : RGs X es is) (hn : (assignEach es X.env).length = is.length := by rfl) (hst : (assignEach es X.env).findIdx? (·.1) = none := by rfl) : RG X (.Tuple es k pos) (.tup is) :=
  pg_tup hc h hn hst

/-! ### iterators -/
/-- J walks the items ds, as long as what is in G stands -/
structure ItD (K : PySem.W.Frag) (w : World) (G : Hp) (J : It) (ds : List D) : Prop where
  go : ∀ i H, Same G H → i < ds.length → J.go i H
  stop : ∀ i H, Same G H → ds.length ≤ i → J.stop i H
  yld : ∀ i d G1 H x H', ds[i]? = some d → Same G G1 → Same G1 H → J.yld i H x H' → ∃ G2, Gr G1 H G2 H' ∧ Rp K w G2 x d
def TRi (X : Cx) (W : WA) (den : Bt → Res (List D)) : TI := fun σ H R => ∃ G β, Same G H ∧ Ev X.K X.w W G σ β ∧ RP X.K X.w X.mg W σ G H (fun ds G' H' => ∀ J, ItD X.K X.w G' J ds → R J H') (den β)
def RI (X : Cx) (W : WA) (tg e : Expr) (den : Bt → Res (List D)) : Prop := PI X tg e (TRi X W den)
theorem PI.imp {X : Cx} {tg e : Expr} {t t' : TI} (h : PI X tg e t) (i : ∀ σ H Q, t' σ H Q → t σ H Q) : PI X tg e t' := ⟨fun pins s σ H Q I q => h.run pins s σ H Q I (i σ H Q q)⟩
theorem pior {X : Cx} {tg e : Expr} {t t' : TI} (h : PI X tg e t) (h' : PI X tg e t') : PI X tg e fun σ H R => t σ H R ∨ t' σ H R := ⟨fun pins s σ H Q I q => q.elim (h.run pins s σ H Q I) (h'.run pins s σ H Q I)⟩
def signs (z : Str) : List D := z.cps.toList.map fun c => .str ⟨#[c]⟩
def itemsOf : D → Option (List D)
  | .list xs => some xs
  | .tuple xs => some xs
  | .str z => some (signs z)
  | _ => none
def iSeq (a : Bt → Res D) : Bt → Res (List D) := fun β => (a β).bind fun x => Res.of (itemsOf x)
section
variable {X : Cx} {W : WA} {a : Expr} {da : Bt → Res D} {tg : Expr}
theorem itd_list {K : PySem.W.Frag} {w : World} {G : Hp} {p : Addr} {xs : List V} {ds : List D} (h : SqL K G p xs) (r : RpAll K w G xs ds) : ItD K w G (Itl K p) ds where
  go := fun i H s hi => by
    obtain ⟨v, e1, _⟩ := r.get (List.getElem?_eq_getElem hi)
    exact ⟨xs, v, s.seq h, e1⟩
  stop := fun i H s hi => ⟨xs, s.seq h, by rw [r.length]; exact hi⟩
  yld := fun i d G1 H x H' hd s1 s2 y => by
    obtain ⟨v, e1, e2⟩ := r.get hd
    obtain ⟨e, y⟩ := y
    subst e
    have e3 := y xs ((s1.trans s2).seq h)
    rw [e1] at e3
    cases e3
    exact ⟨G1, Gr.refl s2, e2.mono s1⟩
theorem itd_tup {K : PySem.W.Frag} {w : World} {G : Hp} {p : Addr} {xs : List V} {ds : List D} (h : SqT K G p xs) (r : RpAll K w G xs ds) : ItD K w G (Itt K p) ds where
  go := fun i H s hi => by
    obtain ⟨v, e1, _⟩ := r.get (List.getElem?_eq_getElem hi)
    exact ⟨xs, v, seqT s h, e1⟩
  stop := fun i H s hi => ⟨xs, seqT s h, by rw [r.length]; exact hi⟩
  yld := fun i d G1 H x H' hd s1 s2 y => by
    obtain ⟨v, e1, e2⟩ := r.get hd
    obtain ⟨e, y⟩ := y
    subst e
    have e3 := y xs (seqT (s1.trans s2) h)
    rw [e1] at e3
    cases e3
    exact ⟨G1, Gr.refl s2, e2.mono s1⟩
theorem itd_str {K : PySem.W.Frag} {w : World} {G : Hp} (z : Str) : ItD K w G (Its z) (signs z) where
  go := fun i H s hi => show i < z.cps.size by simpa [signs] using hi
  stop := fun i H s hi => show z.cps.size ≤ i by simpa [signs] using hi
  yld := fun i d G1 H x H' hd s1 s2 y => by
    obtain ⟨e, c, e1, e2⟩ := y
    subst e e2
    have e3 : (signs z)[i]? = some (.str ⟨#[c]⟩) := by
      unfold signs
      rw [List.getElem?_map, Array.getElem?_toList, e1]
      rfl
    rw [e3] at hd
    cases hd
    exact ⟨G1, Gr.refl s2, .str _⟩
theorem riseq (ha : RE X W a da) : RI X W tg a (iSeq da) :=
  PI.imp (pior (pi_list ha) (pior (pi_tup ha) (pi_str ha))) fun σ H R h => by
    obtain ⟨G, β, s, ev, rp⟩ := h
    cases q : da β with
    | no => unfold iSeq at rp; rw [q] at rp; exact rp.elim
    | er e =>
      refine Or.inl ⟨G, β, s, ev, ?_⟩
      unfold iSeq at rp
      rw [q] at rp ⊢
      exact rp
    | ok x =>
      have rp' : RP X.K X.w X.mg W σ G H (fun ds G' H' => ∀ (J : It), ItD X.K X.w G' J ds → R J H') (Res.of (itemsOf x)) := by
        unfold iSeq at rp
        rw [q] at rp
        exact rp
      obtain ⟨ds, eds, qq⟩ := RP.ofOpt rp'
      cases x with
      | list xs =>
        cases eds
        refine Or.inl ⟨G, β, s, ev, ?_⟩
        rw [q]
        intro G' H' g v rv
        cases rv with
        | lst hx rx => exact ⟨_, rfl, ⟨_, SqL.of (g.s _ _ hx)⟩, qq G' H' g _ (itd_list (SqL.of hx) rx)⟩
      | tuple xs =>
        cases eds
        refine Or.inr (Or.inl ⟨G, β, s, ev, ?_⟩)
        rw [q]
        intro G' H' g v rv
        cases rv with
        | tup hx rx => exact ⟨_, rfl, ⟨_, seqT g.s hx⟩, qq G' H' g _ (itd_tup hx rx)⟩
      | str z =>
        cases eds
        refine Or.inr (Or.inr ⟨G, β, s, ev, ?_⟩)
        rw [q]
        intro G' H' g v rv
        cases rv
        exact ⟨z, rfl, qq G' H' g _ (itd_str z)⟩
      | _ => cases eds
end
end DL

/-! DL8: ranges, comprehensions. -/
namespace DL
open PySem PySem.Spec PyProof.Rows L2
section
variable {X : Cx} {W : WA} {a b : Expr} {da db : Bt → Res D} {tg : Expr} {p pos : Pos}
/-! ### ranges -/
def rangeL (lo : Int) (n : Nat) : List D := (List.range n).map fun (i : Nat) => PyData.int (lo + (i : Int))
theorem rangeL_length (lo : Int) (n : Nat) : (rangeL lo n).length = n := by simp [rangeL]
theorem rangeL_get (lo : Int) (n i : Nat) (h : i < n) : (rangeL lo n)[i]? = some (.int (lo + i)) := by
  unfold rangeL
  rw [List.getElem?_map, List.getElem?_range h]
  rfl
theorem itd_range {K : PySem.W.Frag} {w : World} {G : Hp} (lo : Int) (n : Nat) : ItD K w G (Itr lo n) (rangeL lo n) where
  go := fun i H s hi => by rw [rangeL_length] at hi; exact hi
  stop := fun i H s hi => by rw [rangeL_length] at hi; exact hi
  yld := fun i d G1 H x H' hd s1 s2 y => by
    obtain ⟨e, y⟩ := y
    subst e y
    have hi : i < n := by
      have := (List.getElem?_eq_some_iff.mp hd).1
      rwa [rangeL_length] at this
    rw [rangeL_get lo n i hi] at hd
    cases hd
    exact ⟨G1, Gr.refl s2, .int _⟩
def inR (i : Int) : Bool := decide (-(2 ^ 62) ≤ i) && decide (i < 2 ^ 62)
def iRange1 (a : Bt → Res D) : Bt → Res (List D) := fun β => (a β).bind fun x => match x with
  | .int n => if inR n = true then .ok (rangeL 0 n.toNat) else .no
  | _ => .no
def iRange2 (a b : Bt → Res D) : Bt → Res (List D) := fun β => (a β).bind fun x => (b β).bind fun y => match x, y with
  | .int m, .int n => if inR m = true ∧ inR n = true then .ok (rangeL m (n - m).toNat) else .no
  | _, _ => .no
theorem inR_ok {i : Int} (h : inR i = true) : -(2 ^ 62) ≤ i ∧ i < 2 ^ 62 := by
  simpa only [inR, Bool.and_eq_true, decide_eq_true_eq] using h
theorem rirange1 (hm : X.mg "range" = none) (ha : RE X W a da) (hg : Gl X "range" := by rfl) (hs1 : starEach [a] X.env = (false, eval a X.env) :: starEach [] X.env := by rfl) (hs : starEach [a] X.env = [(false, eval a X.env)] := by rfl) : RI X W tg (.Call (.Name "range" p) [a] [] pos) (iRange1 da) :=
  PI.imp (pi_range1 hg hm (pa_cons ha pa_nil hs1) hs) fun σ H R h => by
    obtain ⟨G, β, s, ev, rp⟩ := h
    refine ⟨G, β, s, ev, rp.bind fun x ex G1 H1 g1 rp1 v rv => ?_⟩
    cases rv with
    | int n =>
      simp only at rp1
      split at rp1
      · rename_i hn
        obtain ⟨h1, h2⟩ := inR_ok hn
        exact ⟨n, rfl, h1, h2, rp1.here (Gr.refl g1.s) _ (itd_range 0 _)⟩
      · exact rp1.elim
    | _ => exact rp1.elim
theorem rirange2 (hm : X.mg "range" = none) (ha : RE X W a da) (hb : RE X W b db) (hg : Gl X "range" := by rfl) (hs1 : starEach [a, b] X.env = (false, eval a X.env) :: starEach [b] X.env := by rfl) (hs3 : starEach [b] X.env = (false, eval b X.env) :: starEach [] X.env := by rfl)
    (hs : starEach [a, b] X.env = [(false, eval a X.env), (false, eval b X.env)] := by rfl) (hs2 : starEach [b] X.env = [(false, eval b X.env)] := by rfl) : RI X W tg (.Call (.Name "range" p) [a, b] [] pos) (iRange2 da db) :=
  PI.imp (pi_range2 hg hm (pa_cons ha (pa_cons hb pa_nil hs3) hs1) hs hs2) fun σ H R h => by
    obtain ⟨G, β, s, ev, rp⟩ := h
    refine ⟨G, β, s, ev, rp.bind fun x ex G1 H1 g1 rp1 v rv => ?_⟩
    refine ⟨G1, β, g1.s, ev.mono g1.g, rp1.bind fun y ey G2 H2 g2 rp2 u ru => ?_⟩
    cases rv with
    | int m =>
      cases ru with
      | int n =>
        simp only at rp2
        split at rp2
        · rename_i hn
          obtain ⟨h1, h2⟩ := inR_ok hn.1
          obtain ⟨h3, h4⟩ := inR_ok hn.2
          exact ⟨m, n, rfl, ⟨h1, h2, h3, h4⟩, rp2.here (Gr.refl g2.s) _ (itd_range m _)⟩
        · exact rp2.elim
      | _ => exact rp2.elim
    | _ => exact rp2.elim

/-! ### new lists -/
theorem Gr.put {G H G' H' : Hp} {a : Addr} {o : HO} (g : Gr G H G' H') (h1 : H a = none) (h2 : G' a = none) : Gr G H G' (upd H' a o) :=
  ⟨g.g, fun b x e => by
    have ne : b ≠ a := fun z => by rw [z, h2] at e; cases e
    rw [upd_ne ne]; exact g.s b x e, fun b x e => by
    have ne : b ≠ a := fun z => by rw [z, h1] at e; cases e
    rw [upd_ne ne]; exact g.h b x e, g.o⟩
/-- the expression gives a new list of these -/
def TRf (X : Cx) (W : WA) (den : Bt → Res (List D)) : TE := fun σ H Q => ∃ G β, Same G H ∧ Ev X.K X.w W G σ β ∧
  RP X.K X.w X.mg W σ G H (fun ds G' H' => ∀ a vs, H a = none → G' a = none → H' a = some (.lst vs) → RpAll X.K X.w G' vs ds → Q (.ref a) H') (den β)
def RF (X : Cx) (W : WA) (e : Expr) (den : Bt → Res (List D)) : Prop := PE X e (TRf X W den)
def dFz (a : Bt → Res (List D)) : Bt → Res D := fun β => (a β).bind fun ds => .ok (.list ds)
/-- the new list is laid into what is read -/
theorem Gr.lay {G H G' H' : Hp} {a : Addr} {o : HO} (g : Gr G H G' H') (h1 : H a = none) (h2 : G' a = none) (h3 : H' a = some o) : Gr G H (upd G' a o) H' :=
  ⟨g.g.trans (same_upd h2), fun b x e => by
    by_cases hb : b = a
    · subst hb; rw [upd_same] at e; cases e; exact h3
    · rw [upd_ne hb] at e; exact g.s b x e, g.h, fun b n1 n2 => by
    have ne : b ≠ a := fun z => n1 (z ▸ h1)
    rw [upd_ne ne]; exact g.o b n1 n2⟩
theorem rfz {e : Expr} {d : Bt → Res (List D)} (h : RF X W e d) : RE X W e (dFz d) :=
  PE.imp h fun σ H Q h => by
    obtain ⟨G, β, s, ev, rp⟩ := h
    refine ⟨G, β, s, ev, ?_⟩
    unfold dFz at rp
    cases q : d β with
    | no => rw [q] at rp; exact rp
    | er e => rw [q] at rp; exact rp
    | ok ds =>
      rw [q] at rp
      intro G' H' g a vs h1 h2 h3 r
      exact rp _ _ (g.lay h1 h2 h3) _ (.lst upd_same (RpAll.mono (same_upd h2) r))
def fLst (a : Bt → Res (List D)) : Bt → Res (List D) := fun β => (a β).bind fun xs => if xs.length ≤ sizeLine then .ok xs else .no
theorem rflst {es : List Expr} {da : Bt → Res (List D)} (h : RA X W es da) : RF X W (.List es pos) (fLst da) :=
  PE.imp (pe_lst h) fun σ H Q h => by
    obtain ⟨G, β, s, ev, rp⟩ := h
    refine ⟨G, β, s, ev, rp.bind fun x ex G1 H1 g1 rp1 vs rv => ?_⟩
    have hl := rv.length
    by_cases hz : x.length ≤ sizeLine
    · rw [if_pos hz] at rp1
      refine ⟨by omega, fun p hp => ?_⟩
      have g2 : Gr G1 H1 G1 (upd H1 p (.lst vs)) := ⟨Same.refl _, g1.s.trans (same_upd hp), same_upd hp, fun _ _ h => h⟩
      exact rp1.here g2 p vs (g1.h.free hp) (g1.s.free hp) upd_same rv
    · rw [if_neg hz] at rp1
      exact rp1.elim
def iSq (a : Bt → Res D) : Bt → Res (List D) := fun β => (a β).bind fun x => match x with
  | .list xs => .ok xs
  | .tuple xs => .ok xs
  | _ => .no
theorem rflist {e : Expr} (hm : X.mg "list" = none) (ha : RE X W e da) (hg : Gl X "list" := by rfl) (hs : starEach [e] X.env = (false, eval e X.env) :: starEach [] X.env := by rfl) : RF X W (.Call (.Name "list" p) [e] [] pos) (iSq da) :=
  PE.imp (pe_callTy call_list_of hg hm (by decide +kernel) (pa_cons ha pa_nil hs) (he := hs)) fun σ H Q h => by
    obtain ⟨G, β, s, ev, rp⟩ := h
    refine ⟨G, β, s, ev, rp.bind fun x ex G1 H1 g1 rp1 v rv => ?_⟩
    cases rv with
    | lst hx rx =>
      refine ⟨_, _, rfl, .inl (SqL.of (g1.s _ _ hx)), fun p hp => ?_⟩
      exact rp1.here ((Gr.refl g1.s).put hp (g1.s.free hp)) p _ (g1.h.free hp) (g1.s.free hp) upd_same rx
    | tup hx rx =>
      refine ⟨_, _, rfl, .inr (seqT g1.s hx), fun p hp => ?_⟩
      exact rp1.here ((Gr.refl g1.s).put hp (g1.s.free hp)) p _ (g1.h.free hp) (g1.s.free hp) upd_same rx
    | _ => exact rp1.elim
end

/-! ### comprehensions -/
def noEr {α : Type} : Res α → Res α
  | .er _ => .no
  | r => r
def wipeB (β : Bt) : List Nat → Bt
  | [] => β
  | v :: vs => (wipeB β vs).set v none
theorem wipeB_length (β : Bt) : ∀ vs : List Nat, (wipeB β vs).length = β.length
  | [] => rfl
  | v :: vs => by unfold wipeB; rw [List.length_set, wipeB_length β vs]
theorem Ev.wipe {K : PySem.W.Frag} {w : World} {W : WA} {G : Hp} {σ : L2.St} {β : Bt} (h : Ev K w W G σ β) : ∀ vs : List Nat, Ev K w W0 G (L2.wipe σ vs) (wipeB β vs)
  | [] => ⟨h.1, h.2.1, trivial⟩
  | v :: vs => by
    have ih := h.wipe vs
    refine ⟨by rw [wipe_length, wipeB_length]; exact h.1, fun i d e => ?_, trivial⟩
    have e' : ((wipeB β vs).set v none)[i]? = some (some d) := e
    by_cases q : i = v
    · subst q
      by_cases hl : i < (wipeB β vs).length
      · rw [List.getElem?_set_self hl] at e'; cases e'
      · rw [List.getElem?_eq_none (by simpa using hl)] at e'; cases e'
    · rw [List.getElem?_set_ne (Ne.symm q)] at e'
      obtain ⟨u, e1, e2⟩ := ih.2.1 i d e'
      exact ⟨u, by show ((L2.wipe σ vs).set v none)[i]? = _; rw [List.getElem?_set_ne (Ne.symm q)]; exact e1, e2⟩
/-- one turn: the target, the test, the element -/
def cmD (tg : Tgt) (t : Bt → Res Bool) (e : Bt → Res D) (β : Bt) (d : D) : Res (Option D) := match setT tg d β with
  | none => .no
  | some β' => noEr ((t β').bind fun b => if b = true then (e β').bind fun y => .ok (some y) else .ok none)
def lcD (f : D → Res (Option D)) : List D → Res (List D)
  | [] => .ok []
  | d :: ds => (f d).bind fun o => (lcD f ds).bind fun r => .ok (o.toList ++ r)
def dLc (it : Bt → Res (List D)) (tg : Tgt) (t : Bt → Res Bool) (e : Bt → Res D) (vs : List Nat) : Bt → Res (List D) := fun β => (it β).bind fun ds => if ds.length ≤ sizeLine then lcD (cmD tg t e (wipeB β vs)) ds else .no
theorem cmD_er {tg t e β d x} (h : cmD tg t e β d = .er x) : False := by
  unfold cmD at h
  split at h
  · cases h
  · unfold noEr at h
    split at h
    · cases h
    · rename_i hh
      exact hh _ h
theorem lcD_er {f : D → Res (Option D)} (hf : ∀ d x, f d = .er x → False) : ∀ {ds : List D} {x : Er}, lcD f ds = .er x → False
  | [], _, h => by cases h
  | d :: ds, x, h => by
    unfold lcD at h
    cases q : f d with
    | no => rw [q] at h; cases h
    | er e => exact hf d e q
    | ok o =>
      rw [q] at h
      have h' : ((lcD f ds).bind fun r => Res.ok (o.toList ++ r)) = .er x := h
      cases q2 : lcD f ds with
      | no => rw [q2] at h'; cases h'
      | er e => exact lcD_er hf q2
      | ok r => rw [q2] at h'; cases h'
theorem lcD_cons {f : D → Res (Option D)} {d : D} {ds r : List D} (h : lcD f (d :: ds) = .ok r) : ∃ o r', f d = .ok o ∧ lcD f ds = .ok r' ∧ r = o.toList ++ r' := by
  unfold lcD at h
  cases q : f d with
  | no => rw [q] at h; cases h
  | er e => rw [q] at h; cases h
  | ok o =>
    rw [q] at h
    have h' : ((lcD f ds).bind fun r => Res.ok (o.toList ++ r)) = .ok r := h
    cases q2 : lcD f ds with
    | no => rw [q2] at h'; cases h'
    | er e => rw [q2] at h'; cases h'
    | ok r' => rw [q2] at h'; cases h'; exact ⟨o, r', rfl, rfl, rfl⟩
/-- the reading of a list comprehension -/
theorem lc_rd {X : Cx} {W : WA} {dit : Bt → Res (List D)} {tg : Tgt} {t : Bt → Res Bool} {e : Bt → Res D} {vs : List Nat} (hv : ∀ i ∈ tg.slots, i ∈ vs) (σ : L2.St) (H : Hp) (Q : VK) (h : TRf X W (dLc dit tg t e vs) σ H Q) :
    tLc (TRi X W dit) (tgt X.K tg) (TRt X W0 t) (TR X W0 e) vs σ H Q := by
  obtain ⟨G, β, s, ev, rp⟩ := h
  refine ⟨G, β, s, ev, rp.bind fun ds ed G1 H1 g1 rp1 J hJ P hP => ?_⟩
  by_cases hz : ds.length ≤ sizeLine
  · rw [if_pos hz] at rp1
    cases hr : lcD (cmD tg t e (wipeB β vs)) ds with
    | no => rw [hr] at rp1; exact rp1.elim
    | er x => exact (lcD_er (fun d x => cmD_er) hr).elim
    | ok rs =>
      rw [hr] at rp1
      refine ⟨fun i m H2 => m = ds.length - i ∧ i ≤ ds.length ∧ ∃ G2 acc accD r, Gr G1 H1 G2 H2 ∧ G2 P = none ∧ H2 P = some (.lst acc) ∧ RpAll X.K X.w G2 acc accD ∧ accD.length ≤ i ∧ lcD (cmD tg t e (wipeB β vs)) (ds.drop i) = .ok r ∧ accD ++ r = rs,
        ⟨ds.length, rfl, Nat.zero_le _, G1, [], [], rs, (Gr.refl g1.s).put hP (g1.s.free hP), g1.s.free hP, upd_same, .nil, Nat.le_refl _, hr, rfl⟩, fun i m H2 hI => ?_⟩
      obtain ⟨rfl, hi, G2, acc, accD, r, g2, hG, hA, ra, hl, hd, he⟩ := hI
      by_cases hlt : i < ds.length
      · refine .inr ⟨hJ.go i H2 (g2.g.trans g2.s) hlt, fun H' => ∃ m', m' < ds.length - i ∧ (m' = ds.length - (i + 1) ∧ i + 1 ≤ ds.length ∧ ∃ G2 acc accD r, Gr G1 H1 G2 H' ∧ G2 P = none ∧ H' P = some (.lst acc) ∧ RpAll X.K X.w G2 acc accD ∧ accD.length ≤ i + 1 ∧ lcD (cmD tg t e (wipeB β vs)) (ds.drop (i + 1)) = .ok r ∧ accD ++ r = rs),
          fun H' q => q, fun x H' hy => ?_⟩
        rw [List.drop_eq_getElem_cons hlt] at hd
        obtain ⟨o, r', ho, hr', e3⟩ := lcD_cons hd
        obtain ⟨G3, g3, rx⟩ := hJ.yld i _ G2 H2 x H' (List.getElem?_eq_getElem hlt) g2.g g2.s hy
        have ev3 : Ev X.K X.w W0 G3 (wipe σ vs) (wipeB β vs) := (((ev.mono g1.g).mono g2.g).mono g3.g).wipe vs
        have hP2 : H2 P ≠ none := by rw [hA]; exact fun z => nomatch z
        have noW : ∀ {α : Type} {good : α → Hp → Hp → Prop} {r : Res α} {σ' : L2.St} {Ga Ha : Hp}, (∀ x, r ≠ .er x) → (∀ a, r = .ok a → ∀ G' H', Gr Ga Ha G' H' → good a G' H') → r ≠ .no → RP X.K X.w X.mg W0 σ' Ga Ha good r := fun {α good r σ' Ga Ha} h1 h2 h3 => by
          cases r with
          | no => exact absurd rfl h3
          | er x => exact absurd rfl (h1 x)
          | ok a => exact h2 a rfl
        unfold cmD at ho
        cases hs : setT tg ds[i] (wipeB β vs) with
        | none => rw [hs] at ho; cases ho
        | some β' =>
          rw [hs] at ho
          have ho : noEr ((t β').bind fun b => if b = true then (e β').bind fun y => .ok (some y) else .ok none) = .ok o := ho
          refine tgt_run (g3.s) rx ev3 hs fun σ2 ev2 hw => ⟨?_, ?_⟩
          · rw [hw vs hv, wipe_idem σ vs vs fun _ h => h]
          · cases ht : t β' with
            | no => rw [ht] at ho; cases ho
            | er x => rw [ht] at ho; cases ho
            | ok b =>
              rw [ht] at ho
              refine ⟨G3, β', g3.s, ev2, noW (fun x z => by rw [ht] at z; cases z) (fun b' eb G4 H4 g4 => ?_) (by rw [ht]; exact fun z => nomatch z)⟩
              rw [ht] at eb
              cases eb
              have g24 := g3.trans g4
              have hP4 : G4 P = none := g24.o P hP2 hG
              have hA4 : H4 P = some (.lst acc) := g24.h _ _ hA
              cases b with
              | false =>
                rw [if_neg Bool.false_ne_true]
                have e4 : o = none := by
                  have z : noEr (Res.ok (none : Option D)) = .ok o := ho
                  cases z; rfl
                subst e4
                exact ⟨ds.length - (i + 1), by omega, rfl, hlt, G4, acc, accD, r', g2.trans g24, hP4, hA4, RpAll.mono g24.g ra, by omega, hr', by rw [← he, e3]; rfl⟩
              | true =>
                rw [if_pos rfl]
                have ho' : noEr ((e β').bind fun y => Res.ok (some y)) = .ok o := ho
                cases hee : e β' with
                | no => rw [hee] at ho'; cases ho'
                | er x => rw [hee] at ho'; cases ho'
                | ok y =>
                  rw [hee] at ho'
                  have e4 : o = some y := by
                    have z : noEr (Res.ok (some y)) = .ok o := ho'
                    cases z; rfl
                  subst e4
                  refine ⟨G4, β', g4.s, ev2.mono g4.g, noW (fun x z => by rw [hee] at z; cases z) (fun y' ey G5 H5 g5 u ru => ?_) (by rw [hee]; exact fun z => nomatch z)⟩
                  rw [hee] at ey
                  cases ey
                  have g25 := g24.trans g5
                  have hP5 : G5 P = none := g25.o P hP2 hG
                  have hA5 : H5 P = some (.lst acc) := g25.h _ _ hA
                  refine ⟨acc, hA5, by rw [ra.length]; omega, ds.length - (i + 1), by omega, rfl, hlt, G5, acc ++ [u], accD ++ [y], r', (g2.trans g25).put hP hP5, hP5, upd_same, (RpAll.mono g25.g ra).append (.cons ru .nil), ?_, hr', ?_⟩
                  · rw [List.length_append]
                    show accD.length + 1 ≤ i + 1
                    omega
                  · rw [← he, e3, List.append_assoc]
                    rfl
      · have e1 : i = ds.length := by omega
        subst e1
        refine .inl ⟨hJ.stop _ H2 (g2.g.trans g2.s) (Nat.le_refl _), ?_⟩
        rw [List.drop_length] at hd
        cases hd
        rw [List.append_nil] at he
        subst he
        exact rp1.here g2 P acc (g1.h.free hP) hG hA ra
  · rw [if_neg hz] at rp1
    exact rp1.elim
section
variable {X : Cx} {W : WA} {tg elt iter : Expr} {dit : Bt → Res (List D)} {tgd : Tgt} {t : Bt → Res Bool} {de : Bt → Res D} {own : List (Str × Nat)} {scope : Scope} {ifs : List Expr} {pos : Pos}
def yesT : Bt → Res Bool := fun _ => .ok true
theorem pts_yes {X : Cx} : PTs X [] (TRt X W0 yesT) := ⟨fun pins s σ H Q I h => by
  obtain ⟨G, β, s', ev, rp⟩ := h
  exact pts_nil.run pins s σ H Q I (rp.here (Gr.refl s'))⟩
theorem pts_if {X : Cx} {c : Expr} {t : Bt → Res Bool} (h : RT X W0 c t) : PTs X [c] (TRt X W0 t) := pts_one h
theorem rflc (hi : RI X W tg iter dit) (ok : BlkOk X.N X.env.scope scope own) (hN : X.N.Nodup)
    (hg : ∀ (s : Shared) (H : Hp) (C : Addr) (cl : List (Str × Addr)) (fp : List Addr), RG (X.blk s H scope (compEnvC scope cl C X.env) fp) tg tgd)
    (ht : ∀ (s : Shared) (H : Hp) (C : Addr) (cl : List (Str × Addr)) (fp : List Addr), PTs (X.blk s H scope (compEnvC scope cl C X.env) fp) ifs (TRt (X.blk s H scope (compEnvC scope cl C X.env) fp) W0 t))
    (he : ∀ (s : Shared) (H : Hp) (C : Addr) (cl : List (Str × Addr)) (fp : List Addr), RE (X.blk s H scope (compEnvC scope cl C X.env) fp) W0 elt de)
    (hv : ∀ i ∈ tgd.slots, i ∈ own.map (·.2)) (hc : X.calm = true := by rfl) (hs : ∀ x, foldedSetIterable iter X.env x = pure x := by intro _; rfl) : RF X W (.ListComp elt [⟨tg, iter, ifs, 0⟩] scope pos) (dLc dit tgd t de (own.map (·.2))) :=
  PE.imp (pe_lc (g := tgt X.K tgd) (tt := TRt X W0 t) (te := TR X W0 de) hc hN hi ok hg ht he hs) (lc_rd hv)
end
end DL

/-! DL9: statements. -/
namespace DL
open PySem PySem.Spec PyProof.Rows L2
/-! ### the slots of a def: data, or a list of its own that it may change -/
inductive AV where
  | un
  | dat (d : D)
  | own (ds : List D)
abbrev At := List AV
def AV.dt : AV → Option D
  | .dat d => some d
  | _ => none
def AV.vw : AV → Option D
  | .dat d => some d
  | .own ds => some (.list ds)
  | .un => none
def dats (α : At) : Bt := α.map AV.dt
def view (α : At) : Bt := α.map AV.vw
structure Sv (K : PySem.W.Frag) (w : World) (W : WA) (G0 H0 G H : Hp) (σ : L2.St) (α : At) : Prop where
  gr : Gr G0 H0 G H
  len : α.length ≤ σ.length
  dat : ∀ (i : Nat) (d : D), α[i]? = some (.dat d) → ∃ v, σ[i]? = some (some v) ∧ Rp K w G v d
  own : ∀ (i : Nat) (ds : List D), α[i]? = some (.own ds) → ∃ p vs, σ[i]? = some (some (.ref p)) ∧ H0 p = none ∧ G p = none ∧ H p = some (.lst vs) ∧ RpAll K w G vs ds
  sep : ∀ (i j : Nat) (ds es : List D) (p : Addr), i ≠ j → α[i]? = some (.own ds) → α[j]? = some (.own es) → σ[i]? = some (some (.ref p)) → σ[j]? = some (some (.ref p)) → False
  am : W.am G σ
/-! ### data without lists -/
mutual
def noL : D → Bool
  | .list _ => false
  | .dict _ => false
  | .tuple ds => noLs ds
  | _ => true
def noLs : List D → Bool
  | [] => true
  | d :: ds => noL d && noLs ds
end
section
variable {K : PySem.W.Frag} {w : World} {G G' : Hp}
mutual
theorem Rp.noL (t : ∀ a xs, SqT K G a xs → SqT K G' a xs) : ∀ {v : V} {d : D}, Rp K w G v d → noL d = true → Rp K w G' v d
  | _, _, .non, _ => .non
  | _, _, .bl b, _ => .bl b
  | _, _, .int i, _ => .int i
  | _, _, .str x, _ => .str x
  | _, _, .lst h r, n => by simp [DL.noL] at n
  | _, _, .tup h r, n => .tup (t _ _ h) (RpAll.noL t r (by simpa [DL.noL] using n))
  | _, _, .scr h r, n => by simp [DL.noL] at n
  | _, _, .dic h r, n => by simp [DL.noL] at n
theorem RpAll.noL (t : ∀ a xs, SqT K G a xs → SqT K G' a xs) : ∀ {vs : List V} {ds : List D}, RpAll K w G vs ds → noLs ds = true → RpAll K w G' vs ds
  | _, _, .nil, _ => .nil
  | _, _, .cons h r, n => by
    simp only [noLs, Bool.and_eq_true] at n
    exact .cons (Rp.noL t h n.1) (RpAll.noL t r n.2)
end
end
section
variable {K : PySem.W.Frag} {w : World} {W : WA} {G0 H0 G H : Hp} {σ : L2.St} {α : At}
theorem Sv.ev (S : Sv K w W G0 H0 G H σ α) : Ev K w W G σ (dats α) := by
  refine ⟨by unfold dats; rw [List.length_map]; exact S.len, fun i d e => ?_, S.am⟩
  unfold dats at e
  rw [List.getElem?_map] at e
  cases q : α[i]? with
  | none => rw [q] at e; cases e
  | some a =>
    rw [q] at e
    cases a with
    | dat d' => cases e; exact S.dat i d q
    | un => cases e
    | own ds => cases e
theorem Sv.grow {G' H' : Hp} (S : Sv K w W G0 H0 G H σ α) (g : Gr G H G' H') : Sv K w W G0 H0 G' H' σ α :=
  ⟨S.gr.trans g, S.len, fun i d e => by
    obtain ⟨v, h1, h2⟩ := S.dat i d e
    exact ⟨v, h1, h2.mono g.g⟩, fun i ds e => by
    obtain ⟨p, vs, h1, h2, h3, h4, h5⟩ := S.own i ds e
    exact ⟨p, vs, h1, h2, g.o p (by rw [h4]; exact fun z => nomatch z) h3, g.h _ _ h4, RpAll.mono g.g h5⟩, S.sep, W.mono _ _ _ g.g S.am⟩
/-- an address of a list of our own -/
def Ow (σ : L2.St) (α : At) (a : Addr) : Prop := ∃ (i : Nat) (ds : List D), α[i]? = some (.own ds) ∧ σ[i]? = some (some (.ref a))
theorem Sv.ow (S : Sv K w W G0 H0 G H σ α) {a : Addr} (h : Ow σ α a) : G a = none ∧ ∃ vs, H a = some (.lst vs) := by
  obtain ⟨i, ds, e1, e2⟩ := h
  obtain ⟨p, vs, h1, h2, h3, h4, h5⟩ := S.own i ds e1
  rw [e2] at h1
  cases h1
  exact ⟨h3, vs, h4⟩
open Classical in
noncomputable def frz (G H : Hp) (σ : L2.St) (α : At) : Hp := fun a => if Ow σ α a then H a else G a
open Classical in
noncomputable def thaw (G : Hp) (σ : L2.St) (α : At) : Hp := fun a => if Ow σ α a then none else G a
theorem frz_yes {a : Addr} (h : Ow σ α a) : frz G H σ α a = H a := by unfold frz; exact if_pos h
theorem frz_no {a : Addr} (h : ¬ Ow σ α a) : frz G H σ α a = G a := by unfold frz; exact if_neg h
theorem thaw_yes {a : Addr} (h : Ow σ α a) : thaw G σ α a = none := by unfold thaw; exact if_pos h
theorem thaw_no {a : Addr} (h : ¬ Ow σ α a) : thaw G σ α a = G a := by unfold thaw; exact if_neg h
theorem Sv.frzG (S : Sv K w W G0 H0 G H σ α) : Same G (frz G H σ α) := fun a o e => by
  by_cases h : Ow σ α a
  · rw [(S.ow h).1] at e; cases e
  · rw [frz_no h]; exact e
theorem Sv.frzH (S : Sv K w W G0 H0 G H σ α) : Same (frz G H σ α) H := fun a o e => by
  by_cases h : Ow σ α a
  · rw [frz_yes h] at e; exact e
  · rw [frz_no h] at e; exact S.gr.s a o e
theorem Sv.view (S : Sv K w W G0 H0 G H σ α) : Ev K w W (frz G H σ α) σ (view α) := by
  refine ⟨by unfold DL.view; rw [List.length_map]; exact S.len, fun i d e => ?_, W.mono _ _ _ S.frzG S.am⟩
  unfold DL.view at e
  rw [List.getElem?_map] at e
  cases q : α[i]? with
  | none => rw [q] at e; cases e
  | some a =>
    rw [q] at e
    cases a with
    | dat d' =>
      cases e
      obtain ⟨v, h1, h2⟩ := S.dat i d q
      exact ⟨v, h1, h2.mono S.frzG⟩
    | un => cases e
    | own ds =>
      cases e
      obtain ⟨p, vs, h1, h2, h3, h4, h5⟩ := S.own i ds q
      exact ⟨.ref p, h1, .lst (by rw [frz_yes ⟨i, ds, q, h1⟩]; exact h4) (RpAll.mono S.frzG h5)⟩
theorem Sv.thawG {G1 H1 : Hp} (S : Sv K w W G0 H0 G H σ α) (g : Gr (frz G H σ α) H G1 H1) : Gr G H (thaw G1 σ α) H1 :=
  ⟨fun a o e => by
    by_cases h : Ow σ α a
    · rw [(S.ow h).1] at e; cases e
    · rw [thaw_no h]; exact g.g a o (by rw [frz_no h]; exact e), fun a o e => by
    by_cases h : Ow σ α a
    · rw [thaw_yes h] at e; cases e
    · rw [thaw_no h] at e; exact g.s a o e, g.h, fun a n1 n2 => by
    by_cases h : Ow σ α a
    · exact thaw_yes h
    · rw [thaw_no h]; exact g.o a n1 (by rw [frz_no h]; exact n2)⟩
theorem Sv.thawT {G1 H1 : Hp} (S : Sv K w W G0 H0 G H σ α) (g : Gr (frz G H σ α) H G1 H1) (a : Addr) (xs : List V) (h : SqT K G1 a xs) : SqT K (thaw G1 σ α) a xs := by
  have no : ∀ o, G1 a = some o → (∀ vs, o ≠ .lst vs) → ¬ Ow σ α a := fun o e n q => by
    obtain ⟨_, vs, hv⟩ := S.ow q
    have e1 := g.s a o e
    have e2 := g.h _ _ hv
    rw [e1] at e2
    cases e2
    exact n vs rfl
  rcases h with (h | ⟨o, h⟩) | h
  · exact .inl (.inl (by rw [thaw_no (no _ h fun vs z => nomatch z)]; exact h))
  · exact .inl (.inr ⟨o, by rw [thaw_no (no _ h fun vs z => nomatch z)]; exact h⟩)
  · exact .inr h
end

/-! ### expressions of a statement -/
def TSe (X : Cx) (W : WA) (den : At → Res D) : TE := fun σ H Q => ∃ G0 H0 G α, Sv X.K X.w W G0 H0 G H σ α ∧ RP X.K X.w X.mg W σ G H (fun d G' H' => ∀ v, Rp X.K X.w G' v d → Q v H') (den α)
def TSt (X : Cx) (W : WA) (den : At → Res Bool) : TT := fun σ H Q => ∃ G0 H0 G α, Sv X.K X.w W G0 H0 G H σ α ∧ RP X.K X.w X.mg W σ G H (fun b _ H' => Q b H') (den α)
def TSf (X : Cx) (W : WA) (den : At → Res (List D)) : TE := fun σ H Q => ∃ G0 H0 G α, Sv X.K X.w W G0 H0 G H σ α ∧
  RP X.K X.w X.mg W σ G H (fun ds G' H' => ∀ a vs, H a = none → G' a = none → H' a = some (.lst vs) → RpAll X.K X.w G' vs ds → Q (.ref a) H') (den α)
def SE (X : Cx) (W : WA) (e : Expr) (den : At → Res D) : Prop := PE X e (TSe X W den)
def ST (X : Cx) (W : WA) (e : Expr) (den : At → Res Bool) : Prop := PT X e (TSt X W den)
def SF (X : Cx) (W : WA) (e : Expr) (den : At → Res (List D)) : Prop := PE X e (TSf X W den)
def erL (e : Er) : Bool := match e.arg with
  | none => true
  | some (_, x) => noL x
/-- read with our own lists: the result holds no list -/
def bor {α : Type} (ok : α → Bool) : Res α → Res α
  | .ok d => if ok d = true then .ok d else .no
  | .er e => if erL e = true then .er e else .no
  | .no => .no
def sD {α : Type} (d : Bt → Res α) : At → Res α := fun α => d (dats α)
def sB (d : Bt → Res D) : At → Res D := fun α => bor noL (d (view α))
def sBt (d : Bt → Res Bool) : At → Res Bool := fun α => bor (fun _ => true) (d (view α))
def sBf (d : Bt → Res (List D)) : At → Res (List D) := fun α => bor noLs (d (view α))
section
variable {X : Cx} {W : WA} {e : Expr}
theorem se {d : Bt → Res D} (h : RE X W e d) : SE X W e (sD d) := PE.imp h fun σ H Q ⟨G0, H0, G, α, S, rp⟩ => ⟨G, dats α, S.gr.s, S.ev, rp⟩
theorem st {d : Bt → Res Bool} (h : RT X W e d) : ST X W e (sD d) := PT.imp h fun σ H Q ⟨G0, H0, G, α, S, rp⟩ => ⟨G, dats α, S.gr.s, S.ev, rp⟩
theorem sf {d : Bt → Res (List D)} (h : RF X W e d) : SF X W e (sD d) := PE.imp h fun σ H Q ⟨G0, H0, G, α, S, rp⟩ => ⟨G, dats α, S.gr.s, S.ev, rp⟩
theorem bor_run {β : Type} {K : PySem.W.Frag} {w : World} {mg : Str → Option Value} {W : WA} {G0 H0 G H : Hp} {σ : L2.St} {α : At} {ok : β → Bool} {good good2 : β → Hp → Hp → Prop} (S : Sv K w W G0 H0 G H σ α) {r : Res β}
    (rp : RP K w mg W σ G H good (bor ok r)) (k : ∀ b G' H', Gr (frz G H σ α) H G' H' → ok b = true → good b (thaw G' σ α) H' → good2 b G' H') : RP K w mg W σ (frz G H σ α) H good2 r := by
  cases r with
  | no => exact rp
  | er x =>
    have rp' : RP K w mg W σ G H good (if erL x = true then .er x else .no) := rp
    by_cases hx : erL x = true
    · rw [if_pos hx] at rp'
      intro cls dd G' H' g z
      refine rp' cls dd _ _ (S.thawG g) ?_
      obtain ⟨C, h1, h2, h3⟩ := z
      refine ⟨C, h1, h2, ?_⟩
      cases ha : x.arg with
      | none => rw [ha] at h3; exact h3
      | some fx =>
        rw [ha] at h3
        obtain ⟨a, v, q1, q2, q2', q3⟩ := h3
        refine ⟨a, v, q1, q2, q2', q3.noL (S.thawT g) ?_⟩
        unfold erL at hx
        rw [ha] at hx
        exact hx
    · rw [if_neg hx] at rp'
      exact rp'.elim
  | ok b =>
    have rp' : RP K w mg W σ G H good (if ok b = true then .ok b else .no) := rp
    by_cases hb : ok b = true
    · rw [if_pos hb] at rp'
      exact fun G' H' g => k b G' H' g hb (rp' _ _ (S.thawG g))
    · rw [if_neg hb] at rp'
      exact rp'.elim
theorem seb {d : Bt → Res D} (h : RE X W e d) : SE X W e (sB d) := PE.imp h fun σ H Q ⟨G0, H0, G, α, S, rp⟩ =>
  ⟨_, view α, S.frzH, S.view, bor_run S rp fun b G' H' g hb q v rv => q v (rv.noL (S.thawT g) hb)⟩
theorem stb {d : Bt → Res Bool} (h : RT X W e d) : ST X W e (sBt d) := PT.imp h fun σ H Q ⟨G0, H0, G, α, S, rp⟩ =>
  ⟨_, view α, S.frzH, S.view, bor_run S rp fun b G' H' g hb q => q⟩
theorem sfb {d : Bt → Res (List D)} (h : RF X W e d) : SF X W e (sBf d) := PE.imp h fun σ H Q ⟨G0, H0, G, α, S, rp⟩ =>
  ⟨_, view α, S.frzH, S.view, bor_run S rp fun b G' H' g hb q a vs h1 h2 h3 r => q a vs h1 (by
    by_cases ho : Ow σ α a
    · exact thaw_yes ho
    · rw [thaw_no ho]; exact h2) h3 (r.noL (S.thawT g) hb)⟩
end

/-! ### outcomes -/
inductive Out where
  | nx (α : At)
  | rt (d : D)
  | bk (α : At)
  | ct (α : At)
  | er (e : Er) (α : At)
  | no
def OutP (K : PySem.W.Frag) (w : World) (mg : Str → Option Value) (W : WA) (D0 : Ends) (G0 H0 G : Hp) : Out → Prop
  | .nx α => ∀ σ' G' H', Same G G' → Sv K w W G0 H0 G' H' σ' α → D0.nx σ' H'
  | .bk α => ∀ σ' G' H', Same G G' → Sv K w W G0 H0 G' H' σ' α → D0.bk σ' H'
  | .ct α => ∀ σ' G' H', Same G G' → Sv K w W G0 H0 G' H' σ' α → D0.ct σ' H'
  | .rt d => ∀ G' H', Same G G' → Gr G0 H0 G' H' → ∀ v, Rp K w G' v d → D0.rt v H'
  | .er e α => ∀ cls dd σ' G' H', Same G G' → Sv K w W G0 H0 G' H' σ' α → ErR K w mg e cls dd H0 G' H' → W.x cls dd σ' H'
  | .no => False
def TSs (X : Cx) (W : WA) (den : At → Out) : TS := fun D0 σ H => ∃ G0 H0 G α, Sv X.K X.w W G0 H0 G H σ α ∧ OutP X.K X.w X.mg W D0 G0 H0 G (den α)
def RS (X : Cx) (W : WA) (st : Stmt) (den : At → Out) : Prop := PS X st (TSs X W den)
def RSs (X : Cx) (W : WA) (sts : List Stmt) (den : At → Out) : Prop := PSs X sts (TSs X W den)
theorem PS.imp {X : Cx} {st : Stmt} {t t' : TS} (h : PS X st t) (i : ∀ D σ H, t' D σ H → t D σ H) : PS X st t' := ⟨fun pins s σ H D I q => h.run pins s σ H D I (i D σ H q)⟩
theorem PSs.imp {X : Cx} {st : List Stmt} {t t' : TS} (h : PSs X st t) (i : ∀ D σ H, t' D σ H → t D σ H) : PSs X st t' := ⟨fun pins s σ H D I q => h.run pins s σ H D I (i D σ H q)⟩
theorem OutP.mono {K : PySem.W.Frag} {w : World} {mg : Str → Option Value} {W : WA} {D0 : Ends} {G0 H0 G G' : Hp} (e : Same G G') {o : Out} (h : OutP K w mg W D0 G0 H0 G o) : OutP K w mg W D0 G0 H0 G' o := by
  cases o with
  | nx α => exact fun σ' G2 H2 s S => h σ' G2 H2 (e.trans s) S
  | bk α => exact fun σ' G2 H2 s S => h σ' G2 H2 (e.trans s) S
  | ct α => exact fun σ' G2 H2 s S => h σ' G2 H2 (e.trans s) S
  | rt d => exact fun G2 H2 s g => h G2 H2 (e.trans s) g
  | er x α => exact fun cls dd σ' G2 H2 s S => h cls dd σ' G2 H2 (e.trans s) S
  | no => exact h
/-- behind an expression -/
def ofR {β : Type} (r : Res β) (α : At) (f : β → Out) : Out := match r with
  | .ok b => f b
  | .er e => .er e α
  | .no => .no
theorem ofR_run {β : Type} {K : PySem.W.Frag} {w : World} {mg : Str → Option Value} {W : WA} {D0 : Ends} {G0 H0 G H : Hp} {σ : L2.St} {α : At} {good : β → Hp → Hp → Prop} {f : β → Out} (S : Sv K w W G0 H0 G H σ α) {r : Res β}
    (h : OutP K w mg W D0 G0 H0 G (ofR r α f)) (k : ∀ b, r = .ok b → ∀ G' H', Gr G H G' H' → Sv K w W G0 H0 G' H' σ α → OutP K w mg W D0 G0 H0 G' (f b) → good b G' H') : RP K w mg W σ G H good r := by
  cases r with
  | no => exact h
  | er x => exact fun cls dd G' H' g z => h cls dd σ G' H' g.g (S.grow g) (z.back S.gr.h)
  | ok b => exact fun G' H' g => k b rfl G' H' g (S.grow g) (OutP.mono g.g h)
section
variable {X : Cx} {W : WA}
def sNil : At → Out := fun α => .nx α
def sSeq (a b : At → Out) : At → Out := fun α => match a α with
  | .nx α' => b α'
  | o => o
theorem rsnil : RSs X W [] sNil := PSs.imp pss_nil fun D σ H ⟨G0, H0, G, α, S, h⟩ => h σ G H (Same.refl G) S
theorem seq_out {K : PySem.W.Frag} {w : World} {mg : Str → Option Value} {D0 D1 : Ends} {G0 H0 G : Hp} {o : Out} {b : At → Out} (h : OutP K w mg W D0 G0 H0 G (match o with | .nx α' => b α' | o => o))
    (n : ∀ α σ' G' H', o = .nx α → Same G G' → Sv K w W G0 H0 G' H' σ' α → OutP K w mg W D0 G0 H0 G' (b α) → D1.nx σ' H') (e1 : D1.rt = D0.rt) (e2 : D1.bk = D0.bk) (e3 : D1.ct = D0.ct) : OutP K w mg W D1 G0 H0 G o := by
  cases o with
  | nx α => exact fun σ' G' H' s S => n α σ' G' H' rfl s S (OutP.mono s h)
  | bk α => exact fun σ' G' H' s S => by rw [e2]; exact h σ' G' H' s S
  | ct α => exact fun σ' G' H' s S => by rw [e3]; exact h σ' G' H' s S
  | rt d => exact fun G' H' s g v r => by rw [e1]; exact h G' H' s g v r
  | er x α => exact h
  | no => exact h
theorem rscons {st : Stmt} {rest : List Stmt} {a b : At → Out} (h1 : RS X W st a) (h2 : RSs X W rest b) : RSs X W (st :: rest) (sSeq a b) :=
  PSs.imp (pss_cons h1 h2) fun D σ H ⟨G0, H0, G, α, S, h⟩ => by
    refine ⟨G0, H0, G, α, S, ?_⟩
    exact seq_out (D0 := D) (D1 := { D with nx := _ }) h (fun α' σ' G' H' _ s S' h' => ⟨G0, H0, G', α', S', h'⟩) rfl rfl rfl
theorem rsone {st : Stmt} {a : At → Out} (h1 : RS X W st a) : RSs X W [st] a := pss_one h1
/-! ### small statements -/
theorem rspass {pos : Pos} : RS X W (.Pass pos) sNil := PS.imp ps_pass fun D σ H ⟨G0, H0, G, α, S, h⟩ => h σ G H (Same.refl G) S
theorem rsbrk {pos : Pos} : RS X W (.Break pos) (fun α => .bk α) := PS.imp ps_break fun D σ H ⟨G0, H0, G, α, S, h⟩ => h σ G H (Same.refl G) S
theorem rscont {pos : Pos} : RS X W (.Continue pos) (fun α => .ct α) := PS.imp ps_continue fun D σ H ⟨G0, H0, G, α, S, h⟩ => h σ G H (Same.refl G) S
def sRet (d : At → Res D) : At → Out := fun α => ofR (d α) α fun x => .rt x
theorem rsret {e : Expr} {d : At → Res D} {pos : Pos} (h : SE X W e d) : RS X W (.Return (some e) pos) (sRet d) :=
  PS.imp (ps_ret h) fun D0 σ H ⟨G0, H0, G, α, S, q⟩ => ⟨G0, H0, G, α, S, ofR_run S q fun b eb G' H' g S' o v rv => o G' H' (Same.refl _) S'.gr v rv⟩
theorem rsretn {pos : Pos} : RS X W (.Return none pos) (fun _ => .rt .none) := PS.imp ps_retN fun D σ H ⟨G0, H0, G, α, S, h⟩ => h G H (Same.refl G) S.gr _ .non
def sDrop (d : At → Res D) : At → Out := fun α => ofR (d α) α fun _ => .nx α
theorem rsdrop {e : Expr} {d : At → Res D} {pos : Pos} (h : SE X W e d) (hs : swapsWith e none pos.line X.env = pure false := by rfl) : RS X W (.Expr e pos) (sDrop d) :=
  PS.imp (ps_expr h hs) fun D0 σ H ⟨G0, H0, G, α, S, q⟩ => ⟨G0, H0, G, α, S, ofR_run S q fun b eb G' H' g S' o v rv => o σ G' H' (Same.refl _) S'⟩
/-! ### stores -/
theorem Sv.set {K : PySem.W.Frag} {w : World} {W : WA} {G0 H0 G H : Hp} {σ : L2.St} {α : At} {v : V} {d : D} (S : Sv K w W G0 H0 G H σ α) (r : Rp K w G v d) (i : Nat) (hw : W.ok i = true) : Sv K w W G0 H0 G H (σ.set i (some v)) (α.set i (.dat d)) := by
  have at_ : ∀ (j : Nat) (a : AV), j ≠ i → (α.set i (.dat d))[j]? = some a → α[j]? = some a := fun j a ne e => by rw [List.getElem?_set_ne (Ne.symm ne)] at e; exact e
  have self : ∀ a, (α.set i (.dat d))[i]? = some a → a = .dat d ∧ i < α.length := fun a e => by
    by_cases hl : i < α.length
    · rw [List.getElem?_set_self hl] at e
      cases e
      exact ⟨rfl, hl⟩
    · rw [List.getElem?_eq_none (by simpa using hl)] at e
      cases e
  refine ⟨S.gr, by simpa using S.len, fun j x e => ?_, fun j ds e => ?_, fun j k ds es p ne e1 e2 e3 e4 => ?_, W.set _ _ _ _ hw S.am⟩
  · by_cases q : j = i
    · subst q
      obtain ⟨h1, h2⟩ := self _ e
      cases h1
      exact ⟨v, List.getElem?_set_self (Nat.lt_of_lt_of_le h2 S.len), r⟩
    · obtain ⟨u, h1, h2⟩ := S.dat j x (at_ j _ q e)
      exact ⟨u, by rw [List.getElem?_set_ne (Ne.symm q)]; exact h1, h2⟩
  · by_cases q : j = i
    · subst q
      exact nomatch (self _ e).1
    · obtain ⟨p, vs, h1, h2⟩ := S.own j ds (at_ j _ q e)
      exact ⟨p, vs, by rw [List.getElem?_set_ne (Ne.symm q)]; exact h1, h2⟩
  · have q1 : j ≠ i := fun z => by subst z; exact nomatch (self _ e1).1
    have q2 : k ≠ i := fun z => by subst z; exact nomatch (self _ e2).1
    rw [List.getElem?_set_ne (Ne.symm q1)] at e3
    rw [List.getElem?_set_ne (Ne.symm q2)] at e4
    exact S.sep j k ds es p ne (at_ j _ q1 e1) (at_ k _ q2 e2) e3 e4
/-- a new list of our own -/
theorem Sv.setOwn {K : PySem.W.Frag} {w : World} {W : WA} {G0 H0 G H G' H' : Hp} {σ : L2.St} {α : At} {a : Addr} {vs : List V} {ds : List D} (S : Sv K w W G0 H0 G H σ α) (g : Gr G H G' H') (h1 : H a = none) (h2 : G' a = none) (h3 : H' a = some (.lst vs)) (r : RpAll K w G' vs ds) (i : Nat) (hw : W.ok i = true) :
    Sv K w W G0 H0 G' H' (σ.set i (some (.ref a))) (α.set i (.own ds)) := by
  have S' := S.grow g
  have at_ : ∀ (j : Nat) (x : AV), j ≠ i → (α.set i (.own ds))[j]? = some x → α[j]? = some x := fun j x ne e => by rw [List.getElem?_set_ne (Ne.symm ne)] at e; exact e
  have self : ∀ x, (α.set i (.own ds))[i]? = some x → x = .own ds ∧ i < α.length := fun x e => by
    by_cases hl : i < α.length
    · rw [List.getElem?_set_self hl] at e
      cases e
      exact ⟨rfl, hl⟩
    · rw [List.getElem?_eq_none (by simpa using hl)] at e
      cases e
  have apart : ∀ (j : Nat) (es : List D) (p : Addr), α[j]? = some (AV.own es) → σ[j]? = some (some (V.ref p)) → p ≠ a := fun j es p e1 e2 z => by
    obtain ⟨p', vs', q1, q2, q3, q4, q5⟩ := S.own j es e1
    rw [e2] at q1
    cases q1
    rw [z, h1] at q4
    cases q4
  refine ⟨S'.gr, by simpa using S.len, fun j x e => ?_, fun j es e => ?_, fun j k es fs p ne e1 e2 e3 e4 => ?_, W.set _ _ _ _ hw S'.am⟩
  · by_cases q : j = i
    · subst q
      exact nomatch (self _ e).1
    · obtain ⟨u, q1, q2⟩ := S'.dat j x (at_ j _ q e)
      exact ⟨u, by rw [List.getElem?_set_ne (Ne.symm q)]; exact q1, q2⟩
  · by_cases q : j = i
    · subst q
      obtain ⟨e', hl⟩ := self _ e
      cases e'
      exact ⟨a, vs, List.getElem?_set_self (Nat.lt_of_lt_of_le hl S.len), S.gr.h.free h1, h2, h3, r⟩
    · obtain ⟨p, vs, q1, q2⟩ := S'.own j es (at_ j _ q e)
      exact ⟨p, vs, by rw [List.getElem?_set_ne (Ne.symm q)]; exact q1, q2⟩
  · by_cases q1 : j = i
    · have q2 : k ≠ i := fun z => ne (q1.trans z.symm)
      subst q1
      obtain ⟨e', hl⟩ := self _ e1
      rw [List.getElem?_set_self (Nat.lt_of_lt_of_le hl S.len)] at e3
      rw [List.getElem?_set_ne (Ne.symm q2)] at e4
      cases e3
      exact apart k fs _ (at_ k _ q2 e2) e4 rfl
    · rw [List.getElem?_set_ne (Ne.symm q1)] at e3
      by_cases q2 : k = i
      · subst q2
        obtain ⟨e', hl⟩ := self _ e2
        rw [List.getElem?_set_self (Nat.lt_of_lt_of_le hl S.len)] at e4
        cases e4
        exact apart j es _ (at_ j _ q1 e1) e3 rfl
      · rw [List.getElem?_set_ne (Ne.symm q2)] at e4
        exact S.sep j k es fs p ne (at_ j _ q1 e1) (at_ k _ q2 e2) e3 e4
def sSet (i : Nat) (d : At → Res D) : At → Out := fun α => ofR (d α) α fun x => .nx (α.set i (.dat x))
def sOwn (i : Nat) (d : At → Res (List D)) : At → Out := fun α => ofR (d α) α fun x => .nx (α.set i (.own x))
theorem rsset {i : Nat} {x : Str} {e : Expr} {d : At → Res D} {pos pos' : Pos} (hN : X.N.Nodup) (h : SE X W e d) (hw : W.ok i = true := by rfl) (hi : X.N[i]? = some x := by rfl) (hx : Loc X.env.scope x := by first | exact Or.inl rfl | exact Or.inr rfl) (hs : swapsWith e (some (.Name x pos')) pos.line X.env = pure false := by rfl)
    (hf : X.fn x = true ∨ X.env.scope.names.lookup x = some .local := by first | exact .inl rfl | exact .inr rfl | assumption) : RS X W (.Assign [.Name x pos'] e pos) (sSet i d) :=
  PS.imp (ps_set hN hi hx h hs hf) fun D0 σ H ⟨G0, H0, G, α, S, q⟩ => ⟨G0, H0, G, α, S, ofR_run S q fun b eb G' H' g S' o v rv => o _ G' H' (Same.refl _) (S'.set rv i hw)⟩
theorem rsown {i : Nat} {x : Str} {e : Expr} {d : At → Res (List D)} {pos pos' : Pos} (hN : X.N.Nodup) (h : SF X W e d) (hw : W.ok i = true := by rfl) (hi : X.N[i]? = some x := by rfl) (hx : Loc X.env.scope x := by first | exact Or.inl rfl | exact Or.inr rfl) (hs : swapsWith e (some (.Name x pos')) pos.line X.env = pure false := by rfl)
    (hf : X.fn x = true ∨ X.env.scope.names.lookup x = some .local := by first | exact .inl rfl | exact .inr rfl | assumption) : RS X W (.Assign [.Name x pos'] e pos) (sOwn i d) :=
  PS.imp (ps_set hN hi hx h hs hf) fun D0 σ H ⟨G0, H0, G, α, S, q⟩ => ⟨G0, H0, G, α, S, ofR_run S q fun b eb G' H' g S' o a vs h1 h2 h3 r => o _ G' H' (Same.refl _) (S.setOwn g h1 h2 h3 r i hw)⟩
end
end DL

/-! DL10: if, for, while, changes of lists, raise, the rule of a def. -/
namespace DL
open PySem PySem.Spec PyProof.Rows L2
section
variable {X : Cx} {W : WA}
def sIf (t : At → Res Bool) (a b : At → Out) : At → Out := fun α => ofR (t α) α fun c => if c = true then a α else b α
theorem rsif {c : Expr} {t : At → Res Bool} {s1 s2 : List Stmt} {a b : At → Out} {pos : Pos} (h : ST X W c t) (ha : RSs X W s1 a) (hb : RSs X W s2 b) : RS X W (.If c s1 s2 pos) (sIf t a b) :=
  PS.imp (ps_if h ha hb) fun D0 σ H ⟨G0, H0, G, α, S, q⟩ => ⟨G0, H0, G, α, S, ofR_run S q fun c ec G' H' g S' o => by
    cases c with
    | true => exact ⟨G0, H0, G', α, S', o⟩
    | false => exact ⟨G0, H0, G', α, S', o⟩⟩
/-! ### targets -/
def setAllA : List Nat → List D → At → Option At
  | [], [], α => some α
  | i :: is, d :: ds, α => setAllA is ds (α.set i (.dat d))
  | _, _, _ => none
def setTA : Tgt → D → At → Option At
  | .nm i, d, α => some (α.set i (.dat d))
  | .tup is, .tuple ds, α => setAllA is ds α
  | _, _, _ => none
theorem setAllA_len : ∀ {is : List Nat} {ds : List D} {α α' : At}, setAllA is ds α = some α' → ds.length = is.length
  | [], [], _, _, _ => rfl
  | [], _ :: _, _, _, e => by cases e
  | _ :: _, [], _, _, e => by cases e
  | i :: is, d :: ds, α, α', e => congrArg Nat.succ (setAllA_len (α := α.set i (.dat d)) e)
theorem namesA_run {K : PySem.W.Frag} {w : World} {W : WA} {G0 H0 G H : Hp} {α' : At} {Q : L2.St → Hp → Prop} : ∀ {is : List Nat} {ds : List D} {xs : List V} {σ : L2.St} {α : At}, RpAll K w G xs ds → Sv K w W G0 H0 G H σ α → setAllA is ds α = some α' → is.all W.ok = true →
    (∀ σ', Sv K w W G0 H0 G H σ' α' → Q σ' H) → gNames is xs σ H Q
  | [], _, _, σ, α, r, S, e, hw, q => by
    cases r with
    | nil =>
      cases e
      exact ⟨rfl, q σ S⟩
    | cons _ _ => cases e
  | i :: is, _, _, σ, α, r, S, e, hw, q => by
    cases r with
    | nil => cases e
    | cons h t =>
      rw [List.all_cons, Bool.and_eq_true] at hw
      exact ⟨_, _, rfl, namesA_run t (S.set h i hw.1) e hw.2 q⟩
theorem tgtA_run {K : PySem.W.Frag} {w : World} {W : WA} {G0 H0 G H : Hp} {σ : L2.St} {α α' : At} {Q : L2.St → Hp → Prop} {t : Tgt} {d : D} {v : V} (r : Rp K w G v d) (S : Sv K w W G0 H0 G H σ α) (e : setTA t d α = some α') (hw : t.slots.all W.ok = true)
    (q : ∀ σ', Sv K w W G0 H0 G H σ' α' → Q σ' H) : tgt K t v σ H Q := by
  cases t with
  | nm i =>
    cases e
    exact q _ (S.set r i (by simpa [Tgt.slots] using hw))
  | tup is =>
    cases r with
    | @tup a xs ds hx rx =>
      have e' : setAllA is ds α = some α' := e
      exact ⟨_, _, rfl, seqT S.gr.s hx, by rw [rx.length]; exact setAllA_len e', namesA_run rx S e' hw q⟩
    | _ => cases e
def sSetT (t : Tgt) (d : At → Res D) : At → Out := fun α => ofR (d α) α fun x => match setTA t x α with
  | some α' => .nx α'
  | none => .no
theorem rssett {tg e : Expr} {t : Tgt} {d : At → Res D} {pos : Pos} (h : SE X W e d) (hg : RG X tg t) (hw' : t.slots.all W.ok = true := by rfl) (hs : swapsWithSole [tg] e pos.line X.env = pure false := by rfl) (hw : swappedStores [tg] e X.env = pure none := by rfl)
    (h1 : (assignEach [tg] X.env).map (·.2) = [assign tg X.env] := by rfl) : RS X W (.Assign [tg] e pos) (sSetT t d) :=
  PS.imp (ps_asg h hg hs hw h1) fun D0 σ H ⟨G0, H0, G, α, S, q⟩ => ⟨G0, H0, G, α, S, ofR_run S q fun b eb G' H' g S' o v rv => by
    cases e : setTA t b α with
    | none => rw [e] at o; exact o.elim
    | some α' =>
      rw [e] at o
      exact tgtA_run rv S' e hw' fun σ' S2 => o σ' G' H' (Same.refl _) S2⟩
/-- name = [..] on one line, the name a local: the store stands within -/
theorem lc_rdS {dit : Bt → Res (List D)} {tg : Tgt} {t : Bt → Res Bool} {e : Bt → Res D} {vs : List Nat} (hv : ∀ i ∈ tg.slots, i ∈ vs) (σ : L2.St) (H : Hp) (Q : VK) (h : TSf X W (sD (dLc dit tg t e vs)) σ H Q) :
    tLc (TRi X W dit) (tgt X.K tg) (TRt X W0 t) (TR X W0 e) vs σ H Q := by
  obtain ⟨G0, H0, G, α, S, rp⟩ := h
  exact lc_rd hv σ H Q ⟨G, dats α, S.gr.s, S.ev, rp⟩
theorem lc_rdB {dit : Bt → Res (List D)} {tg : Tgt} {t : Bt → Res Bool} {e : Bt → Res D} {vs : List Nat} (hv : ∀ i ∈ tg.slots, i ∈ vs) (σ : L2.St) (H : Hp) (Q : VK) (h : TSf X W (sBf (dLc dit tg t e vs)) σ H Q) :
    tLc (TRi X W dit) (tgt X.K tg) (TRt X W0 t) (TR X W0 e) vs σ H Q := by
  obtain ⟨G0, H0, G, α, S, rp⟩ := h
  exact lc_rd hv σ H Q ⟨_, view α, S.frzH, S.view, bor_run S rp fun b G' H' g hb q a vs h1 h2 h3 r => q a vs h1 (by
    by_cases ho : Ow σ α a
    · exact thaw_yes ho
    · rw [thaw_no ho]; exact h2) h3 (r.noL (S.thawT g) hb)⟩
/-- what a comprehension's rule asks -/
structure Lc (X : Cx) (W : WA) (tg elt iter : Expr) (ifs : List Expr) (scope : Scope) (own : List (Str × Nat)) (dit : Bt → Res (List D)) (tgd : Tgt) (t : Bt → Res Bool) (de : Bt → Res D) : Prop where
  it : RI X W tg iter dit
  ok : BlkOk X.N X.env.scope scope own
  tg : ∀ (s : Shared) (H : Hp) (C : Addr) (cl : List (Str × Addr)) (fp : List Addr), RG (X.blk s H scope (compEnvC scope cl C X.env) fp) tg tgd
  ifs : ∀ (s : Shared) (H : Hp) (C : Addr) (cl : List (Str × Addr)) (fp : List Addr), PTs (X.blk s H scope (compEnvC scope cl C X.env) fp) ifs (TRt (X.blk s H scope (compEnvC scope cl C X.env) fp) W0 t)
  elt : ∀ (s : Shared) (H : Hp) (C : Addr) (cl : List (Str × Addr)) (fp : List Addr), RE (X.blk s H scope (compEnvC scope cl C X.env) fp) W0 elt de
  sl : ∀ i ∈ tgd.slots, i ∈ own.map (·.2)
section
variable {tg elt iter : Expr} {dit : Bt → Res (List D)} {tgd : Tgt} {t : Bt → Res Bool} {de : Bt → Res D} {own : List (Str × Nat)} {scope : Scope} {ifs : List Expr} {pos spos py : Pos} {y : Str} {i : Nat}
theorem rlc (h : Lc X W tg elt iter ifs scope own dit tgd t de) (hN : X.N.Nodup) (hc : X.calm = true := by rfl) (hs : ∀ x, foldedSetIterable iter X.env x = pure x := by intro _; rfl) : RF X W (.ListComp elt [⟨tg, iter, ifs, 0⟩] scope pos) (dLc dit tgd t de (own.map (·.2))) :=
  rflc h.it h.ok hN h.tg h.ifs h.elt h.sl hc hs
theorem set_lc (h : Lc X W tg elt iter ifs scope own dit tgd t de) (hN : X.N.Nodup) (hy : X.N[i]? = some y) (hyl : X.env.scope.names.lookup y = some .local) (hl : (py.line == pos.line) = true) (ha : (scope.names.any fun (n, k) => n == y && (k == .local || k == .cell)) = false) (hk : X.env.scope.kind = .function)
    (hc : X.calm = true) (hs : ∀ x, foldedSetIterable iter X.env x = pure x) {den : At → Res (List D)} (rd : ∀ σ H Q, TSf X W den σ H Q → tLc (TRi X W dit) (tgt X.K tgd) (TRt X W0 t) (TR X W0 de) (own.map (·.2)) σ H Q) {D0 : Ends} {σ : L2.St} {H : Hp} {f : List D → At → Out}
    (step : ∀ ds G0 H0 G H α a vs G' H', Sv X.K X.w W G0 H0 G H σ α → Gr G H G' H' → Sv X.K X.w W G0 H0 G' H' σ α → OutP X.K X.w X.mg W D0 G0 H0 G' (f ds α) → H a = none → G' a = none → H' a = some (.lst vs) → RpAll X.K X.w G' vs ds → D0.nx (σ.set i (some (.ref a))) H')
    (hq : TSs X W (fun α => ofR (den α) α fun ds => f ds α) D0 σ H) : tAsg (tLc (TRi X W dit) (tgt X.K tgd) (TRt X W0 t) (TR X W0 de) (own.map (·.2))) (gName i) D0 σ H := by
  obtain ⟨G0, H0, G, α, S, o⟩ := hq
  refine rd σ H _ ⟨G0, H0, G, α, S, ofR_run S o fun ds ed G' H' g S' o' a vs h1 h2 h3 r => ?_⟩
  exact step ds G0 H0 G H α a vs G' H' S g S' o' h1 h2 h3 r
/-- .. to a list of our own; to data; with our own lists read -/
theorem rsownlc (h : Lc X W tg elt iter ifs scope own dit tgd t de) (hN : X.N.Nodup) (hw : W.ok i = true := by rfl) (hy : X.N[i]? = some y := by rfl) (hyl : X.env.scope.names.lookup y = some .local := by rfl) (hl : (py.line == pos.line) = true := by rfl) (ha : (scope.names.any fun (n, k) => n == y && (k == .local || k == .cell)) = false := by decide +kernel) (hk : X.env.scope.kind = .function := by rfl)
    (hc : X.calm = true := by rfl) (hs : ∀ x, foldedSetIterable iter X.env x = pure x := by intro _; rfl) : RS X W (.Assign [.Name y py] (.ListComp elt [⟨tg, iter, ifs, 0⟩] scope pos) spos) (sOwn i (sD (dLc dit tgd t de (own.map (·.2))))) :=
  PS.imp (ps_setLc (g := tgt X.K tgd) (tt := TRt X W0 t) (te := TR X W0 de) hc hN hy hyl (sw_true hk hyl hl ha) h.it h.ok h.tg h.ifs h.elt hs) fun D0 σ H q =>
    set_lc (f := fun ds α => .nx (α.set i (.own ds))) h hN hy hyl hl ha hk hc hs (lc_rdS h.sl) (fun ds G0 H0 G H α a vs G' H' S g S' o h1 h2 h3 r => o _ G' H' (Same.refl _) (S.setOwn g h1 h2 h3 r i hw)) q
theorem rsownlcb (h : Lc X W tg elt iter ifs scope own dit tgd t de) (hN : X.N.Nodup) (hw : W.ok i = true := by rfl) (hy : X.N[i]? = some y := by rfl) (hyl : X.env.scope.names.lookup y = some .local := by rfl) (hl : (py.line == pos.line) = true := by rfl) (ha : (scope.names.any fun (n, k) => n == y && (k == .local || k == .cell)) = false := by decide +kernel) (hk : X.env.scope.kind = .function := by rfl)
    (hc : X.calm = true := by rfl) (hs : ∀ x, foldedSetIterable iter X.env x = pure x := by intro _; rfl) : RS X W (.Assign [.Name y py] (.ListComp elt [⟨tg, iter, ifs, 0⟩] scope pos) spos) (sOwn i (sBf (dLc dit tgd t de (own.map (·.2))))) :=
  PS.imp (ps_setLc (g := tgt X.K tgd) (tt := TRt X W0 t) (te := TR X W0 de) hc hN hy hyl (sw_true hk hyl hl ha) h.it h.ok h.tg h.ifs h.elt hs) fun D0 σ H q =>
    set_lc (f := fun ds α => .nx (α.set i (.own ds))) h hN hy hyl hl ha hk hc hs (lc_rdB h.sl) (fun ds G0 H0 G H α a vs G' H' S g S' o h1 h2 h3 r => o _ G' H' (Same.refl _) (S.setOwn g h1 h2 h3 r i hw)) q
/-- a new list of our own becomes data -/
theorem Sv.setLay {K : PySem.W.Frag} {w : World} {W : WA} {G0 H0 G H G' H' : Hp} {σ : L2.St} {α : At} {a : Addr} {vs : List V} {ds : List D} (S : Sv K w W G0 H0 G H σ α) (g : Gr G H G' H') (h1 : H a = none) (h2 : G' a = none) (h3 : H' a = some (.lst vs)) (r : RpAll K w G' vs ds) (i : Nat) (hw : W.ok i = true) :
    Sv K w W G0 H0 (upd G' a (.lst vs)) H' (σ.set i (some (.ref a))) (α.set i (.dat (.list ds))) :=
  (S.grow (g.lay h1 h2 h3)).set (.lst upd_same (RpAll.mono (same_upd h2) r)) i hw
def sLay (i : Nat) (d : At → Res (List D)) : At → Out := fun α => ofR (d α) α fun x => .nx (α.set i (.dat (.list x)))
theorem rslaylc (h : Lc X W tg elt iter ifs scope own dit tgd t de) (hN : X.N.Nodup) (hw : W.ok i = true := by rfl) (hy : X.N[i]? = some y := by rfl) (hyl : X.env.scope.names.lookup y = some .local := by rfl) (hl : (py.line == pos.line) = true := by rfl) (ha : (scope.names.any fun (n, k) => n == y && (k == .local || k == .cell)) = false := by decide +kernel) (hk : X.env.scope.kind = .function := by rfl)
    (hc : X.calm = true := by rfl) (hs : ∀ x, foldedSetIterable iter X.env x = pure x := by intro _; rfl) : RS X W (.Assign [.Name y py] (.ListComp elt [⟨tg, iter, ifs, 0⟩] scope pos) spos) (sLay i (sD (dLc dit tgd t de (own.map (·.2))))) :=
  PS.imp (ps_setLc (g := tgt X.K tgd) (tt := TRt X W0 t) (te := TR X W0 de) hc hN hy hyl (sw_true hk hyl hl ha) h.it h.ok h.tg h.ifs h.elt hs) fun D0 σ H q =>
    set_lc (f := fun ds α => .nx (α.set i (.dat (.list ds)))) h hN hy hyl hl ha hk hc hs (lc_rdS h.sl) (fun ds G0 H0 G H α a vs G' H' S g S' o h1 h2 h3 r => o _ _ H' (same_upd h2) (S.setLay g h1 h2 h3 r i hw)) q
theorem rslaylcb (h : Lc X W tg elt iter ifs scope own dit tgd t de) (hN : X.N.Nodup) (hw : W.ok i = true := by rfl) (hy : X.N[i]? = some y := by rfl) (hyl : X.env.scope.names.lookup y = some .local := by rfl) (hl : (py.line == pos.line) = true := by rfl) (ha : (scope.names.any fun (n, k) => n == y && (k == .local || k == .cell)) = false := by decide +kernel) (hk : X.env.scope.kind = .function := by rfl)
    (hc : X.calm = true := by rfl) (hs : ∀ x, foldedSetIterable iter X.env x = pure x := by intro _; rfl) : RS X W (.Assign [.Name y py] (.ListComp elt [⟨tg, iter, ifs, 0⟩] scope pos) spos) (sLay i (sBf (dLc dit tgd t de (own.map (·.2))))) :=
  PS.imp (ps_setLc (g := tgt X.K tgd) (tt := TRt X W0 t) (te := TR X W0 de) hc hN hy hyl (sw_true hk hyl hl ha) h.it h.ok h.tg h.ifs h.elt hs) fun D0 σ H q =>
    set_lc (f := fun ds α => .nx (α.set i (.dat (.list ds)))) h hN hy hyl hl ha hk hc hs (lc_rdB h.sl) (fun ds G0 H0 G H α a vs G' H' S g S' o h1 h2 h3 r => o _ _ H' (same_upd h2) (S.setLay g h1 h2 h3 r i hw)) q
/-- a new list to data, by a plain store -/
theorem rslay {i : Nat} {x : Str} {e : Expr} {d : At → Res (List D)} {pos pos' : Pos} (hN : X.N.Nodup) (h : SF X W e d) (hw : W.ok i = true := by rfl) (hi : X.N[i]? = some x := by rfl) (hx : Loc X.env.scope x := by first | exact Or.inl rfl | exact Or.inr rfl) (hs : swapsWith e (some (.Name x pos')) pos.line X.env = pure false := by rfl)
    (hf : X.fn x = true ∨ X.env.scope.names.lookup x = some .local := by first | exact .inl rfl | exact .inr rfl | assumption) : RS X W (.Assign [.Name x pos'] e pos) (sLay i d) :=
  PS.imp (ps_set hN hi hx h hs hf) fun D0 σ H ⟨G0, H0, G, α, S, q⟩ => ⟨G0, H0, G, α, S, ofR_run S q fun b eb G' H' g S' o a vs h1 h2 h3 r => o _ _ H' (same_upd h2) (S.setLay g h1 h2 h3 r i hw)⟩
end

/-! ### changes of our own lists -/
theorem Sv.put {K : PySem.W.Frag} {w : World} {W : WA} {G0 H0 G H : Hp} {σ : L2.St} {α : At} {i : Nat} {ds es : List D} {p : Addr} {vs : List V} (S : Sv K w W G0 H0 G H σ α) (e1 : α[i]? = some (.own ds)) (e2 : σ[i]? = some (some (.ref p))) (r : RpAll K w G vs es) :
    Sv K w W G0 H0 G (upd H p (.lst vs)) σ (α.set i (.own es)) := by
  obtain ⟨p', vs', q1, q2, q3, q4, q5⟩ := S.own i ds e1
  rw [e2] at q1
  cases q1
  have at_ : ∀ (j : Nat) (a : AV), j ≠ i → (α.set i (.own es))[j]? = some a → α[j]? = some a := fun j a ne e => by rw [List.getElem?_set_ne (Ne.symm ne)] at e; exact e
  have self : ∀ a, (α.set i (.own es))[i]? = some a → a = .own es := fun a e => by
    by_cases hl : i < α.length
    · rw [List.getElem?_set_self hl] at e
      cases e
      rfl
    · rw [List.getElem?_eq_none (by simpa using hl)] at e
      cases e
  have back : ∀ (j : Nat) (fs : List D), (α.set i (.own es))[j]? = some (.own fs) → ∃ gs, α[j]? = some (.own gs) := fun j fs e => by
    by_cases q : j = i
    · subst q; exact ⟨ds, e1⟩
    · exact ⟨fs, at_ j _ q e⟩
  refine ⟨S.gr.put q2 q3, by simpa using S.len, fun j x e => ?_, fun j fs e => ?_, fun j k fs gs q ne a1 a2 a3 a4 => ?_, S.am⟩
  · by_cases q : j = i
    · subst q
      exact nomatch self _ e
    · exact S.dat j x (at_ j _ q e)
  · by_cases q : j = i
    · subst q
      cases self _ e
      exact ⟨p, vs, e2, q2, q3, upd_same, r⟩
    · have e' := at_ j _ q e
      obtain ⟨p', vs'', b1, b2, b3, b4, b5⟩ := S.own j fs e'
      have ne : p' ≠ p := fun z => S.sep j i fs ds p q e' e1 (z ▸ b1) e2
      exact ⟨p', vs'', b1, b2, b3, by rw [upd_ne ne]; exact b4, b5⟩
  · obtain ⟨x1, y1⟩ := back j fs a1
    obtain ⟨x2, y2⟩ := back k gs a2
    exact S.sep j k x1 x2 q ne y1 y2 a3 a4
def ownAt (i : Nat) (α : At) (f : List D → Out) : Out := match α[i]? with
  | some (.own ds) => f ds
  | _ => .no
theorem ownAt_out {K : PySem.W.Frag} {w : World} {mg : Str → Option Value} {D0 : Ends} {G0 H0 G : Hp} {i : Nat} {α : At} {f : List D → Out} (h : OutP K w mg W D0 G0 H0 G (ownAt i α f)) : ∃ ds, α[i]? = some (.own ds) ∧ OutP K w mg W D0 G0 H0 G (f ds) := by
  unfold ownAt at h
  split at h
  · rename_i ds e
    exact ⟨ds, e, h⟩
  · exact h.elim
def sApp (i : Nat) (d : At → Res D) : At → Out := fun α => ownAt i α fun ds => ofR (d α) α fun x => if ds.length < sizeLine then .nx (α.set i (.own (ds ++ [x]))) else .no
section
variable {i : Nat} {x : Str} {e : Expr} {pos p1 apos cpos : Pos}
/-- x.append(e) -/
theorem rsapp {d : At → Res D} (h : SE X W e d) (hi : X.N[i]? = some x := by rfl) (hv : Vis X.env.scope x := by first | exact Or.inl rfl | exact Or.inr (Or.inl rfl) | exact Or.inr (Or.inr rfl)) (hd : (x == ("__debug__" : Str)) = false := by decide) (hcd : (x == ("__classdict__" : Str)) = false := by decide)
    (hst : starEach [e] X.env = (false, eval e X.env) :: starEach [] X.env := by rfl) (hbase : attributeBase (.Name x p1) "append" X.env (eval (.Name x p1) X.env) = eval (.Name x p1) X.env := by rfl)
    (hfew : ((backTo cpos (starEach [e] X.env)).all (fun x => !x.1) && (backToKw cpos (keywordEach [] X.env)).all (fun x => x.1.isSome) && decide ([e].length + ([] : List Keyword).length + (if ([] : List Keyword).isEmpty then 0 else 1) < 30)) = true := by rfl)
    (hline : (apos.endLine == cpos.line) = true := by rfl) (hsw : swapsWith (.Call (.Attribute (.Name x p1) "append" apos) [e] [] cpos) none pos.line X.env = pure false := by rfl) : RS X W (.Expr (.Call (.Attribute (.Name x p1) "append" apos) [e] [] cpos) pos) (sApp i d) :=
  PS.imp (ps_expr (pe_bm PySem.F.plainAttrs_list PySem.F.slot_list_append PySem.F.type_list_append mt_append (pv i hi hv hd hcd) (pa_cons h pa_nil hst) hbase hfew hline hst) hsw) fun D0 σ H ⟨G0, H0, G, α, S, q⟩ => by
    obtain ⟨ds, ea, o⟩ := ownAt_out q
    obtain ⟨p, vs, b1, b2, b3, b4, b5⟩ := S.own i ds ea
    refine ⟨.ref p, b1, .inl ⟨rfl, _, SqL.of b4⟩, G0, H0, G, α, S, ofR_run S o fun b eb G' H' g S' o' v rv => ?_⟩
    obtain ⟨p', vs', c1, c2, c3, c4, c5⟩ := S'.own i ds ea
    rw [b1] at c1
    cases c1
    by_cases hz : ds.length < sizeLine
    · rw [if_pos hz] at o'
      exact ⟨p, vs', v, rfl, rfl, c4, by rw [c5.length]; exact hz, o' _ _ _ (Same.refl _) (S'.put ea b1 (c5.append (.cons rv .nil)))⟩
    · rw [if_neg hz] at o'
      exact o'.elim
/-- x.extend(e), e a list -/
def sExt (i : Nat) (d : At → Res D) : At → Out := fun α => ownAt i α fun ds => ofR (d α) α fun x => match x with
  | .list es => if ds.length + es.length ≤ sizeLine then .nx (α.set i (.own (ds ++ es))) else .no
  | _ => .no
theorem rsext {d : At → Res D} (h : SE X W e d) (hi : X.N[i]? = some x := by rfl) (hv : Vis X.env.scope x := by first | exact Or.inl rfl | exact Or.inr (Or.inl rfl) | exact Or.inr (Or.inr rfl)) (hd : (x == ("__debug__" : Str)) = false := by decide) (hcd : (x == ("__classdict__" : Str)) = false := by decide)
    (hst : starEach [e] X.env = (false, eval e X.env) :: starEach [] X.env := by rfl) (hbase : attributeBase (.Name x p1) "extend" X.env (eval (.Name x p1) X.env) = eval (.Name x p1) X.env := by rfl)
    (hfew : ((backTo cpos (starEach [e] X.env)).all (fun x => !x.1) && (backToKw cpos (keywordEach [] X.env)).all (fun x => x.1.isSome) && decide ([e].length + ([] : List Keyword).length + (if ([] : List Keyword).isEmpty then 0 else 1) < 30)) = true := by rfl)
    (hline : (apos.endLine == cpos.line) = true := by rfl) (hsw : swapsWith (.Call (.Attribute (.Name x p1) "extend" apos) [e] [] cpos) none pos.line X.env = pure false := by rfl) : RS X W (.Expr (.Call (.Attribute (.Name x p1) "extend" apos) [e] [] cpos) pos) (sExt i d) :=
  PS.imp (ps_expr (pe_bm PySem.F.plainAttrs_list PySem.F.slot_list_extend PySem.F.type_list_extend mt_extend (pv i hi hv hd hcd) (pa_cons h pa_nil hst) hbase hfew hline hst) hsw) fun D0 σ H ⟨G0, H0, G, α, S, q⟩ => by
    obtain ⟨ds, ea, o⟩ := ownAt_out q
    obtain ⟨p, vs, b1, b2, b3, b4, b5⟩ := S.own i ds ea
    refine ⟨.ref p, b1, .inl ⟨rfl, _, SqL.of b4⟩, G0, H0, G, α, S, ofR_run S o fun b eb G' H' g S' o' v rv => ?_⟩
    obtain ⟨p', vs', c1, c2, c3, c4, c5⟩ := S'.own i ds ea
    rw [b1] at c1
    cases c1
    cases rv with
    | lst hx rx =>
      have o' : OutP X.K X.w X.mg W D0 G0 H0 G' (if _ then _ else _) := o'
      split at o'
      · rename_i hz
        exact ⟨p, _, vs', _, rfl, rfl, c4, S'.gr.s _ _ hx, by rw [c5.length, rx.length]; exact hz, o' _ _ _ (Same.refl _) (S'.put ea b1 (c5.append rx))⟩
      · exact o'.elim
    | _ => exact o'.elim
/-- x[k] = e -/
def sSetI (i : Nat) (dk d : At → Res D) : At → Out := fun α => ofR (d α) α fun v => ownAt i α fun _ => ofR (dk α) α fun k => ownAt i α fun ds => match k with
  | .int k => (match ixN ds.length k with
    | some j => .nx (α.set i (.own (ds.set j v)))
    | none => .no)
  | _ => .no
theorem rsseti {k : Expr} {dk d : At → Res D} {tpos : Pos} (h : SE X W e d) (hk : SE X W k dk) (hi : X.N[i]? = some x := by rfl) (hv : Vis X.env.scope x := by first | exact Or.inl rfl | exact Or.inr (Or.inl rfl) | exact Or.inr (Or.inr rfl)) (hd : (x == ("__debug__" : Str)) = false := by decide) (hcd : (x == ("__classdict__" : Str)) = false := by decide)
    (ha : ∀ v, assign (.Subscript (.Name x p1) k tpos) X.env v = (do
      let ov ← holding [v] (eval (.Name x p1) X.env)
      let iv ← holding [v, ov] (eval k X.env)
      standAt tpos
      holding [v, ov, iv] (setItem ov iv v)
      release [v, ov, iv] []) := by intro _; rfl)
    (hs : swapsWithSole [.Subscript (.Name x p1) k tpos] e pos.line X.env = pure false := by rfl) (hw : swappedStores [.Subscript (.Name x p1) k tpos] e X.env = pure none := by rfl)
    (h1 : (assignEach [.Subscript (.Name x p1) k tpos] X.env).map (·.2) = [assign (.Subscript (.Name x p1) k tpos) X.env] := by rfl) : RS X W (.Assign [.Subscript (.Name x p1) k tpos] e pos) (sSetI i dk d) :=
  PS.imp (ps_asg h (pg_sub (pv i hi hv hd hcd) hk set_list ha) hs hw h1) fun D0 σ H ⟨G0, H0, G, α, S, q⟩ => by
    refine ⟨G0, H0, G, α, S, ofR_run S q fun b eb G' H' g S' o v rv => ?_⟩
    obtain ⟨ds, ea, o⟩ := ownAt_out o
    obtain ⟨p, vs, b1, b2, b3, b4, b5⟩ := S'.own i ds ea
    refine ⟨.ref p, b1, G0, H0, G', α, S', ofR_run S' o fun kd ek G2 H2 g2 S2 o2 kv rk => ?_⟩
    obtain ⟨ds2, ea2, o2⟩ := ownAt_out o2
    rw [ea] at ea2
    cases ea2
    obtain ⟨p', vs', c1, c2, c3, c4, c5⟩ := S2.own i ds ea
    rw [b1] at c1
    cases c1
    cases rk with
    | int kk =>
      have o2 : OutP X.K X.w X.mg W D0 G0 H0 G2 (match ixN ds.length kk with | some j => Out.nx (α.set i (.own (ds.set j b))) | none => .no) := o2
      cases hj : ixN ds.length kk with
      | none => rw [hj] at o2; exact o2.elim
      | some j =>
        rw [hj] at o2
        exact ⟨p, vs', kk, j, rfl, rfl, c4, by rw [c5.length]; exact hj, o2 _ _ _ (Same.refl _) (S2.put ea b1 (c5.set j (rv.mono g2.g)))⟩
    | _ => exact o2.elim
/-- a list of our own is left as it is from here on -/
def frzA (i : Nat) (α : At) : At := match α[i]? with
  | some (.own ds) => α.set i (.dat (.list ds))
  | _ => α
theorem Sv.frzA {K : PySem.W.Frag} {w : World} {W : WA} {G0 H0 G H : Hp} {σ : L2.St} {α : At} (S : Sv K w W G0 H0 G H σ α) (i : Nat) : ∃ G', Same G G' ∧ Sv K w W G0 H0 G' H σ (frzA i α) := by
  unfold DL.frzA
  split
  · rename_i ds e
    obtain ⟨p, vs, b1, b2, b3, b4, b5⟩ := S.own i ds e
    refine ⟨upd G p (.lst vs), same_upd b3, ?_⟩
    have at_ : ∀ (j : Nat) (a : AV), j ≠ i → (α.set i (.dat (.list ds)))[j]? = some a → α[j]? = some a := fun j a ne e => by rw [List.getElem?_set_ne (Ne.symm ne)] at e; exact e
    have self : ∀ a, (α.set i (.dat (.list ds)))[i]? = some a → a = .dat (.list ds) := fun a e => by
      by_cases hl : i < α.length
      · rw [List.getElem?_set_self hl] at e
        cases e
        rfl
      · rw [List.getElem?_eq_none (by simpa using hl)] at e
        cases e
    refine ⟨⟨S.gr.g.trans (same_upd b3), fun a o q => ?_, S.gr.h, fun a n1 n2 => ?_⟩, by simpa using S.len, fun j x q => ?_, fun j fs q => ?_, fun j k fs gs q ne a1 a2 a3 a4 => ?_, W.mono _ _ _ (same_upd b3) S.am⟩
    · by_cases hp : a = p
      · subst hp; rw [upd_same] at q; cases q; exact b4
      · rw [upd_ne hp] at q; exact S.gr.s a o q
    · have hp : a ≠ p := fun z => n1 (z ▸ b2)
      rw [upd_ne hp]; exact S.gr.o a n1 n2
    · by_cases hj : j = i
      · subst hj
        cases self _ q
        exact ⟨.ref p, b1, .lst upd_same (RpAll.mono (same_upd b3) b5)⟩
      · obtain ⟨v, h1, h2⟩ := S.dat j x (at_ j _ hj q)
        exact ⟨v, h1, h2.mono (same_upd b3)⟩
    · by_cases hj : j = i
      · subst hj
        exact nomatch self _ q
      · have q' := at_ j _ hj q
        obtain ⟨p', vs', c1, c2, c3, c4, c5⟩ := S.own j fs q'
        have ne : p' ≠ p := fun z => S.sep j i fs ds p hj q' e (z ▸ c1) b1
        exact ⟨p', vs', c1, c2, by rw [upd_ne ne]; exact c3, c4, RpAll.mono (same_upd b3) c5⟩
    · have q1 : j ≠ i := fun z => by subst z; exact nomatch self _ a1
      have q2 : k ≠ i := fun z => by subst z; exact nomatch self _ a2
      exact S.sep j k fs gs q ne (at_ j _ q1 a1) (at_ k _ q2 a2) a3 a4
  · exact ⟨G, Same.refl _, S⟩
theorem rsfrz {st : Stmt} {d : At → Out} (i : Nat) (h : RS X W st d) : RS X W st (fun α => d (frzA i α)) :=
  PS.imp h fun D0 σ H ⟨G0, H0, G, α, S, q⟩ => by
    obtain ⟨G', s, S'⟩ := S.frzA i
    exact ⟨G0, H0, G', _, S', q.mono s⟩
end
/-! ### for -/
def forD (tg : Tgt) (body : At → Out) : List D → At → Out
  | [], α => .nx α
  | d :: ds, α => match setTA tg d α with
    | none => .no
    | some α1 => match body α1 with
      | .nx α2 => forD tg body ds α2
      | .ct α2 => forD tg body ds α2
      | .bk α2 => .nx α2
      | o => o
def sFor (it : Bt → Res (List D)) (tg : Tgt) (body : At → Out) : At → Out := fun α => ofR (it (dats α)) α fun ds => forD tg body ds α
theorem rsfor {tg iter : Expr} {dit : Bt → Res (List D)} {tgd : Tgt} {body : List Stmt} {db : At → Out} {pos : Pos} (hi : RI X W tg iter dit) (hg : RG X tg tgd) (hb : RSs X W body db) (hp : PassesOwn (model X.prog X.w) X.A X.env X.xe) (hc : X.calm = true := by rfl) (hw' : tgd.slots.all W.ok = true := by rfl)
    (hs : ∀ x, foldedSetIterable iter X.env x = pure x := by intro _; rfl) : RS X W (.For tg iter body [] pos) (sFor dit tgd db) :=
  PS.imp (ps_for hp hc hi hg hb hs) fun D0 σ H ⟨G0, H0, G, α, S, q⟩ => by
    refine ⟨G, dats α, S.gr.s, S.ev, ofR_run S q fun ds ed G1 H1 g S1 o J hJ => ?_⟩
    refine ⟨fun i m σ H => m = ds.length - i ∧ i ≤ ds.length ∧ ∃ G α, Same G1 G ∧ Sv X.K X.w W G0 H0 G H σ α ∧ OutP X.K X.w X.mg W D0 G0 H0 G (forD tgd db (ds.drop i) α), ⟨ds.length, rfl, Nat.zero_le _, G1, α, Same.refl _, S1, o⟩, fun i m σ H hI => ?_⟩
    obtain ⟨rfl, hi, G2, α2, s2, S2, o2⟩ := hI
    by_cases hlt : i < ds.length
    · refine .inr ⟨hJ.go i H (s2.trans S2.gr.s) hlt, fun σ' H' => ∃ G α, Same G1 G ∧ Sv X.K X.w W G0 H0 G H' σ' α ∧ OutP X.K X.w X.mg W D0 G0 H0 G (forD tgd db (ds.drop (i + 1)) α), fun σ' H' ⟨G3, α3, h⟩ => ⟨ds.length - (i + 1), by omega, rfl, hlt, G3, α3, h⟩, fun x H' hy => ?_⟩
      rw [List.drop_eq_getElem_cons hlt] at o2
      obtain ⟨G3, g3, rx⟩ := hJ.yld i _ G2 H x H' (List.getElem?_eq_getElem hlt) s2 S2.gr.s hy
      have S3 := S2.grow g3
      unfold forD at o2
      cases ha : setTA tgd ds[i] α2 with
      | none => rw [ha] at o2; exact o2.elim
      | some α3 =>
        rw [ha] at o2
        refine tgtA_run rx S3 ha hw' fun σ3 S4 => ⟨G0, H0, G3, α3, S4, ?_⟩
        have o3 : OutP X.K X.w X.mg W D0 G0 H0 G2 (match db α3 with | .nx α2 => forD tgd db (ds.drop (i + 1)) α2 | .ct α2 => forD tgd db (ds.drop (i + 1)) α2 | .bk α2 => .nx α2 | o => o) := o2
        have o3 := o3.mono g3.g
        cases hb : db α3 with
        | nx α4 => rw [hb] at o3; exact fun σ' G' H' s S' => ⟨G', α4, (s2.trans g3.g).trans s, S', o3.mono s⟩
        | ct α4 => rw [hb] at o3; exact fun σ' G' H' s S' => ⟨G', α4, (s2.trans g3.g).trans s, S', o3.mono s⟩
        | bk α4 => rw [hb] at o3; exact o3
        | rt d => rw [hb] at o3; exact o3
        | er e α4 => rw [hb] at o3; exact o3
        | no => rw [hb] at o3; exact o3
    · have e1 : i = ds.length := by omega
      subst e1
      rw [List.drop_length] at o2
      exact .inl ⟨hJ.stop _ H (s2.trans S2.gr.s) (Nat.le_refl _), o2 σ G2 H (Same.refl _) S2⟩
/-! ### while -/
def whileD (t : At → Res Bool) (body : At → Out) : Nat → At → Out
  | 0, _ => .no
  | n + 1, α => ofR (t α) α fun c => if c = true then (match body α with
      | .nx α2 => whileD t body n α2
      | .ct α2 => whileD t body n α2
      | .bk α2 => .nx α2
      | o => o) else .nx α
theorem rswhile {c : Expr} {t : At → Res Bool} {body : List Stmt} {db : At → Out} {pos : Pos} (n : Nat) (hc : ST X W c t) (hb : RSs X W body db) (hp : PassesOwn (model X.prog X.w) X.A X.env X.xe) : RS X W (.While c body [] pos) (whileD t db n) :=
  PS.imp (ps_while hp hc hb) fun D0 σ H ⟨G0, H0, G, α, S, q⟩ => by
    refine ⟨fun m σ H => ∃ G α, Sv X.K X.w W G0 H0 G H σ α ∧ OutP X.K X.w X.mg W D0 G0 H0 G (whileD t db m α), ⟨n, G, α, S, q⟩, fun m σ H hI => ?_⟩
    obtain ⟨G2, α2, S2, o2⟩ := hI
    cases m with
    | zero => exact o2.elim
    | succ m =>
      refine ⟨G0, H0, G2, α2, S2, ofR_run S2 o2 fun c ec G3 H3 g S3 o3 => ?_⟩
      cases c with
      | false => exact o3 σ G3 H3 (Same.refl _) S3
      | true =>
        refine ⟨fun σ' H' => ∃ G α, Sv X.K X.w W G0 H0 G H' σ' α ∧ OutP X.K X.w X.mg W D0 G0 H0 G (whileD t db m α), fun σ' H' h => ⟨m, Nat.lt_succ_self m, h⟩, G0, H0, G3, α2, S3, ?_⟩
        have o4 : OutP X.K X.w X.mg W D0 G0 H0 G3 (match db α2 with | .nx α2 => whileD t db m α2 | .ct α2 => whileD t db m α2 | .bk α2 => .nx α2 | o => o) := o3
        cases hb : db α2 with
        | nx α4 => rw [hb] at o4; exact fun σ' G' H' s S' => ⟨G', α4, S', o4.mono s⟩
        | ct α4 => rw [hb] at o4; exact fun σ' G' H' s S' => ⟨G', α4, S', o4.mono s⟩
        | bk α4 => rw [hb] at o4; exact o4
        | rt d => rw [hb] at o4; exact o4
        | er e α4 => rw [hb] at o4; exact o4
        | no => rw [hb] at o4; exact o4
/-! ### never reached -/
theorem rsno {st : Stmt} : RS X W st (fun _ => .no) := PS.imp ps_never fun D σ H ⟨G0, H0, G, α, S, h⟩ => h
theorem rssno {sts : List Stmt} : RSs X W sts (fun _ => .no) := PSs.imp pss_never fun D σ H ⟨G0, H0, G, α, S, h⟩ => h
end
/-! ### the rule of a def -/
def fD (n N : Nat) (body : At → Out) : List D → Res D := fun ds => if ds.length = n then (match body (ds.map AV.dat ++ List.replicate (N - n) AV.un) with
  | .rt d => .ok d
  | .nx _ => .ok .none
  | .er e _ => .er e
  | _ => .no) else .no
theorem fD_len {n N : Nat} {body : At → Out} (ds : List D) (h : ds.length ≠ n) : fD n N body ds = .no := by
  unfold fD
  rw [if_neg h]
theorem okD {P : Program} {w : World} {K : PySem.W.Frag} {mg : Str → Option Value} {base : Heap} {x qual : Str} {params : Arguments} {bodyS : List Stmt} {scope : Scope} {f : Addr} {fd : FuncData} {N ps : List Str} {k : Nat} {den : At → Out}
    (F : FunD K x qual params bodyS scope [] [] f fd) (S : FnScope N ps scope)
    (h : ∀ (cdv : Value) (A : Around) (outer : List Env) (s : Shared) (H : Hp) (E : XK), Room k (A.deeper (envOfC qual scope s.heap.objs.size f cdv)) → RSs (cxOf (L2.CX P w) P w K mg base N qual scope f cdv A outer s H E) (Wd E) bodyS den) :
    FnOk P w K mg base (L2.CX P w) (k + 1) f fd ps (SpF K w mg (fD ps.length N.length den)) := by
  refine F.ok S (SpF.len fD_len) fun cdv A outer s H vs Q E hr hsp => ⟨_, h cdv A outer s H E hr, ?_⟩
  obtain ⟨G, ds, sg, r, rp⟩ := hsp
  have hlen : ps.length ≤ N.length := by
    have := congrArg List.length S.pre
    rw [List.length_take] at this
    omega
  by_cases hn : ds.length = ps.length
  · unfold fD at rp
    rw [if_pos hn] at rp
    have l1 := r.length
    have st : Sv K w (Wd E) G H G H (L2.start N vs) (ds.map AV.dat ++ List.replicate (N.length - ps.length) AV.un) := by
      have noO : ∀ (i : Nat) (es : List D), (ds.map AV.dat ++ List.replicate (N.length - ps.length) AV.un)[i]? = some (.own es) → False := fun i es e => by
        by_cases hi : i < ds.length
        · rw [List.getElem?_append_left (by simpa using hi), List.getElem?_map, List.getElem?_eq_getElem hi] at e
          cases e
        · rw [List.getElem?_append_right (by simpa using hi), List.getElem?_replicate] at e
          split at e <;> cases e
      refine ⟨Gr.refl sg, ?_, fun i d e => ?_, fun i es e => (noO i es e).elim, fun i j es fs p ne e1 _ _ _ => (noO i es e1).elim, trivial⟩
      · unfold L2.start
        simp only [List.length_append, List.length_map, List.length_replicate]
        omega
      · by_cases hi : i < ds.length
        · rw [List.getElem?_append_left (by simpa using hi), List.getElem?_map] at e
          cases hd : ds[i]? with
          | none => rw [hd] at e; cases e
          | some d' =>
            rw [hd] at e
            cases e
            obtain ⟨v, h1, h2⟩ := r.get hd
            refine ⟨v, ?_, h2⟩
            unfold L2.start
            rw [List.getElem?_append_left (by rw [List.length_map]; omega), List.getElem?_map, h1]
            rfl
        · rw [List.getElem?_append_right (by simpa using hi), List.getElem?_replicate] at e
          split at e <;> cases e
    refine ⟨G, H, G, _, st, ?_⟩
    cases hb : den (ds.map AV.dat ++ List.replicate (N.length - ps.length) AV.un) with
    | nx α => rw [hb] at rp; exact fun σ' G' H' _ S' => rp _ _ S'.gr _ .non
    | rt d => rw [hb] at rp; exact fun G' H' _ g v rv => rp _ _ g v rv
    | er e α => rw [hb] at rp; exact fun cls dd σ' G' H' _ S' z => rp cls dd _ _ S'.gr z
    | bk α => rw [hb] at rp; exact rp.elim
    | ct α => rw [hb] at rp; exact rp.elim
    | no => rw [hb] at rp; exact rp.elim
  · rw [fD_len ds hn] at rp
    exact rp.elim
end DL

/-! DL11: what the printed walks name: defs that may be called, constants of the module, number updates. -/
namespace DL
open PySem PySem.Spec PyProof.Rows L2
/-- the def x may be called, at level k, and computes g -/
def Cal (P : Program) (w : World) (K : PySem.W.Frag) (mg : Str → Option Value) (base : Heap) (k : Nat) (x : Str) (g : List D → Res D) : Prop :=
  ∃ f fd ps, FnOk P w K mg base (L2.CX P w) k f fd ps (SpF K w mg g) ∧ mg x = some (.ref f) ∧ PySem.W.keepIn K (.ref f) = true ∧ Binds K fd ps []
/-- a constant of the module -/
def Cst (K : PySem.W.Frag) (w : World) (mg : Str → Option Value) (x : Str) (d : D) : Prop := ∃ v u, mg x = some u ∧ RelV v u ∧ ∀ G, Rp K w G v d
section
variable {X : Cx} {W : WA} {k k' : Nat} {g : List D → Res D} {x : Str} {p pos : Pos} {e : Expr} {es : List Expr} {da : Bt → Res (List D)}
theorem rc (C : Cal X.prog X.w X.K X.mg X.base k x g) (hr : Room k' X.A) (tk : Takes X W.x) (ha : RA X W (e :: es) da) (hk : k ≤ k' := by decide)
    (hg : Gl X x := by rfl) (hdb : (x == ("__debug__" : Str)) = false := by decide) (he : starEach (e :: es) X.env = (false, eval e X.env) :: starEach es X.env := by rfl) (hpl : (backTo pos (starEach es X.env)).any (·.1) = false := by rfl) :
    RE X W (.Call (.Name x p) (e :: es) [] pos) (dCall g da) := by
  obtain ⟨f, fd, ps, F, hm, kp, hb⟩ := C
  exact rcall F (hr.mono hk) hm kp hb tk ha hg hdb he hpl
theorem rc0 (C : Cal X.prog X.w X.K X.mg X.base k x g) (hr : Room k' X.A) (tk : Takes X W.x) (hk : k ≤ k' := by decide) (hg : Gl X x := by rfl) (hdb : (x == ("__debug__" : Str)) = false := by decide) : RE X W (.Call (.Name x p) [] [] pos) (dCall g aNil) := by
  obtain ⟨f, fd, ps, F, hm, kp, hb⟩ := C
  exact rcall0 F (hr.mono hk) hm kp hb tk hg hdb
theorem rcst {d : D} (C : Cst X.K X.w X.mg x d) (hg : Gl X x := by rfl) (hd : (x == ("__debug__" : Str)) = false := by decide) : RE X W (.Name x pos) (dC d) := by
  obtain ⟨v, u, hm, r, rp⟩ := C
  exact rglob hm r rp hg hd
/-- x += e, numbers -/
def sAug (i : Nat) (d : At → Res D) : At → Out := fun α => match α[i]? with
  | some (.dat (.int n)) => ofR (d α) α fun x => (match x with
    | .int m => .nx (α.set i (.dat (.int (n + m))))
    | _ => .no)
  | _ => .no
theorem rsaug {i : Nat} {e : Expr} {d : At → Res D} {pos' : Pos} (hN : X.N.Nodup) (h : SE X W e d) (hw : W.ok i = true := by rfl) (hi : X.N[i]? = some x := by rfl) (hx : Loc X.env.scope x := by first | exact Or.inl rfl | exact Or.inr rfl)
    (hf : X.fn x = true ∨ X.env.scope.names.lookup x = some .local := by first | exact .inl rfl | exact .inr rfl | assumption) : RS X W (.AugAssign (.Name x pos') .Add e pos) (sAug i d) :=
  PS.imp (ps_aug hN hi hx h ip_add hf) fun D0 σ H ⟨G0, H0, G, α, S, q⟩ => by
    unfold sAug at q
    split at q
    · rename_i n en
      obtain ⟨v, e1, e2⟩ := S.dat i _ en
      cases e2
      refine ⟨_, e1, G0, H0, G, α, S, ofR_run S q fun b eb G' H' g S' o v rv => ?_⟩
      cases rv with
      | int m => exact ⟨_, _, rfl, rfl, o _ G' H' (Same.refl _) (S'.set (.int _) i hw)⟩
      | _ => exact o.elim
    · exact q.elim
end
/-- nothing is let out of a block -/
theorem tk0 {X : Cx} : Takes X W0.x := takes0
section
open He
variable {P : Program} {w : World} {K : PySem.W.Frag} {mg : Str → Option Value} {base : Heap}
/-- a def of the text: where it stands, by what the head tells -/
structure Dfn (K : PySem.W.Frag) (mg : Str → Option Value) (x : Str) (st : Stmt) (ps : List Str) : Prop where
  ex : ∃ f fd, FunD K x x (defArgs st) (defBody st) (defScope st) [] [] f fd ∧ mg x = some (.ref f) ∧ Binds K fd ps []
theorem Dfn.cal {x : Str} {st : Stmt} {ps : List Str} {k : Nat} {g : List D → Res D} (d : Dfn K mg x st ps)
    (h : ∀ f fd, FunD K x x (defArgs st) (defBody st) (defScope st) [] [] f fd → FnOk P w K mg base (L2.CX P w) k f fd ps (SpF K w mg g)) : Cal P w K mg base k x g := by
  obtain ⟨f, fd, F, hm, hb⟩ := d.ex
  exact ⟨f, fd, ps, h f fd F, hm, F.kp, hb⟩
end
end DL
namespace DL
open PySem PySem.Spec PyProof.Rows L2
theorem okNo {P : Program} {w : World} {K : PySem.W.Frag} {mg : Str → Option Value} {base : Heap} {CX : CXT} {k : Nat} {f : Addr} {fd : FuncData} {ps : List Str} : FnOk P w K mg base CX k f fd ps (SpF K w mg fun _ => .no) :=
  ⟨fun vs H Q E ⟨G, ds, s, r, rp⟩ => rp.elim, fun A outer s H args us vs Q E hr e0 hb hv ⟨G, ds, sg, r, rp⟩ => rp.elim⟩
end DL

/-! DL12: a law's end. -/
namespace DL
open PySem PySem.Spec PyProof.Rows L2
def CXa : CXT := fun outer H s E u s' => ∃ P w, L2.CX P w outer H s E u s'
theorem CXa_no (H : Hp) (s : Shared) (e : Value) (s' : Shared) (h : CXa [] H s (fun _ _ _ => False) e s') : False := by
  obtain ⟨P, w, a, B, H', cls, d, _, _, _, _, _, _, _, z⟩ := h
  exact z
theorem toAny {P : Program} {w : World} {K : PySem.W.Frag} {mg : Str → Option Value} {base : Heap} {k : Nat} {f : Addr} {fd : FuncData} {ps : List Str} {sp : Sp} (F : FnOk P w K mg base (L2.CX P w) k f fd ps sp) : FnOk P w K mg base CXa k f fd ps sp :=
  ⟨F.len, fun A outer s H args us vs Q E hr he hb hv hs => codeAny_mono (F.run A outer s H args us vs Q E hr he hb hv hs) fun r s' h => by
    cases r with
    | ok o =>
      cases o with
      | ret u => exact h
      | _ => exact h
    | error e => exact ⟨P, w, h⟩⟩
/-- a law that answers true for this script -/
theorem spTrue {K : PySem.W.Frag} {w : World} {mg : Str → Option Value} {g : List D → Res D} {H : Hp} {a : Addr} {ns : List Int} (h : g [.dict [(.none, .list (ns.map PyData.int))]] = .ok (.bool true)) (hS : SqL K H a (ns.map V.int)) :
    SpF K w mg g [.ref a] H (fun v _ => v = .bl true) fun _ _ _ => False :=
  ⟨H, _, Same.refl _, .cons (.scr hS (Rp.ints w H ns)) .nil, by
    rw [h]
    exact fun G' H' _ v rv => by cases rv; rfl⟩
theorem cstI {K : PySem.W.Frag} {w : World} {mg : Str → Option Value} {x : Str} {i : Int} (h : ∃ t, mg x = some (.int i t)) : Cst K w mg x (.int i) := by
  obtain ⟨t, e⟩ := h
  exact ⟨.int i, _, e, ⟨t, rfl⟩, fun _ => .int i⟩
theorem cstS {K : PySem.W.Frag} {w : World} {mg : Str → Option Value} {x z : Str} (h : ∃ t, mg x = some (.str z t)) : Cst K w mg x (.str z) := by
  obtain ⟨t, e⟩ := h
  exact ⟨.str z, _, e, ⟨t, rfl⟩, fun _ => .str z⟩
end DL

/-! DL13: comparisons of three, pairs stored at once, zip. -/
namespace DL
open PySem PySem.Spec PyProof.Rows L2
theorem rpGrow {α : Type} {K : PySem.W.Frag} {w : World} {mg : Str → Option Value} {W : WA} {σ : L2.St} {G H G' H' : Hp} {good : α → Hp → Hp → Prop} {r : Res α} (h : RP K w mg W σ G H good r) (g : Gr G H G' H') : RP K w mg W σ G' H' good r := by
  cases r with
  | ok a => exact fun G2 H2 g2 => h _ _ (g.trans g2)
  | er e => exact fun cls dd G2 H2 g2 z => h cls dd _ _ (g.trans g2) (z.back g.h)
  | no => exact h
section
variable {X : Cx} {W : WA} {a b c : Expr} {da db dc : Bt → Res D} {pos : Pos}
def dChain (f g : D → D → Option D) (da db dc : Bt → Res D) : Bt → Res D := fun β => (da β).bind fun x => (db β).bind fun y => (Res.of (f x y)).bind fun z => (Res.of (asB z)).bind fun k => if k = true then (dc β).bind fun w => Res.of (g y w) else .ok (.bool false)
theorem chainD {r r' : R2} {f g : D → D → Option D} (k : OkR2 X r f) (k' : OkR2 X r' g) (σ : L2.St) (H : Hp) (Q : VK) (h : TR X W (dChain f g da db dc) σ H Q) : tChain r r' (TR X W da) (TR X W db) (TR X W dc) σ H Q := by
  obtain ⟨G, β, s, ev, rp⟩ := h
  refine ⟨G, β, s, ev, rp.bind fun x ex G1 H1 g1 rp1 v rv => ?_⟩
  refine ⟨G1, β, g1.s, ev.mono g1.g, rp1.bind fun y ey G2 H2 g2 rp2 u ru => ?_⟩
  cases ef : f x y with
  | none => rw [ef] at rp2; exact rp2.elim
  | some z =>
    rw [ef] at rp2
    cases ez : asB z with
    | none =>
      have q : RP X.K X.w X.mg W σ G2 H2 (fun d G' H' => ∀ v, Rp X.K X.w G' v d → Q v H') ((Res.of (asB z)).bind fun k => if k = true then (dc β).bind fun w => Res.of (g y w) else .ok (.bool false)) := rp2
      rw [ez] at q
      exact q.elim
    | some t =>
      cases asB_ok ez
      refine k x y _ ef v u G2 H2 _ g2.s (rv.mono g2.g) ru fun G3 H3 g3 z' rz => ?_
      cases rz
      refine ⟨t, rfl, ?_⟩
      cases t with
      | false =>
        rw [if_neg (by decide)]
        exact rp2 G3 H3 g3 _ (.bl false)
      | true =>
        rw [if_pos rfl]
        have q : RP X.K X.w X.mg W σ G2 H2 (fun d G' H' => ∀ v, Rp X.K X.w G' v d → Q v H') ((dc β).bind fun w => Res.of (g y w)) := rp2
        refine ⟨G3, β, g3.s, (ev.mono (g1.g.trans g2.g)).mono g3.g, RP.bind (rpGrow q g3) fun w ew G4 H4 g4 rp4 w' rw' => ?_⟩
        obtain ⟨d, ed, q4⟩ := rp4.ofOpt
        exact k' y w d ed u w' G4 H4 Q g4.s ((ru.mono g3.g).mono g4.g) rw' q4
theorem rchain {op op' : CmpOp} {r r' : R2} {f g : D → D → Option D} (ho : OpR X (compareOp op) r) (k : OkR2 X r f) (ho' : OpR X (compareOp op') r') (k' : OkR2 X r' g) (ha : RE X W a da) (hb : RE X W b db) (hc : RE X W c dc)
    (hm : lastMarks [op, op'] [b, c] = false := by with_unfolding_all rfl) : RE X W (.Compare a [op, op'] [b, c] pos) (dChain f g da db dc) := PE.imp (pe_chain ho ho' ha hb hc hm) (chainD k k')
theorem rtchain {op op' : CmpOp} {r r' : R2} {f g : D → D → Option D} (ho : OpR X (compareOp op) r) (k : OkR2 X r f) (ho' : OpR X (compareOp op') r') (k' : OkR2 X r' g) (ha : RE X W a da) (hb : RE X W b db) (hc : RE X W c dc)
    (hm : lastMarks [op, op'] [b, c] = false := by with_unfolding_all rfl) : RT X W (.Compare a [op, op'] [b, c] pos) (tV (dChain f g da db dc)) :=
  PT.imp (pt_chain ho ho' ha hb hc hm) fun σ H Q h => by
    obtain ⟨G, β, s, ev, rp⟩ := h
    refine chainD (W := W) (da := da) (db := db) (dc := dc) k k' σ H (fun x H' => ∃ k, x = .bl k ∧ Q k H') ⟨G, β, s, ev, rp.bind fun x ex G1 H1 g1 rp1 v rv => ?_⟩
    obtain ⟨b, eb, q⟩ := rp1.ofOpt
    cases asB_ok eb
    cases rv
    exact ⟨b, rfl, q _ _ (Gr.refl g1.s)⟩
/-! ### a pair of names from a pair of values -/
def sPar (i j : Nat) (d : At → Res (List D)) : At → Out := fun α => ofR (d α) α fun xs => match xs with
  | [x, y] => .nx ((α.set i (.dat x)).set j (.dat y))
  | _ => .no
theorem rspar {i j : Nat} {x y : Str} {d : Bt → Res (List D)} {px py pt : Pos} {kt k2 pt2} (hN : X.N.Nodup) (ha : RA X W [a, b] d) (hwi : W.ok i = true := by rfl) (hwj : W.ok j = true := by rfl) (hi : X.N[i]? = some x := by rfl) (hj : X.N[j]? = some y := by rfl) (hij : i ≠ j := by decide)
    (hx : X.env.scope.names.lookup x = some .local := by rfl) (hy : X.env.scope.names.lookup y = some .local := by rfl) (hc : X.calm = true := by rfl)
    (hw : swappedStores [.Tuple [.Name x px, .Name y py] kt pt] (.Tuple [a, b] k2 pt2) X.env = pure (some [x, y]) := by rfl)
    (hs : swapsWithSole [.Tuple [.Name x px, .Name y py] kt pt] (.Tuple [a, b] k2 pt2) pos.line X.env = pure false := by rfl) : RS X W (.Assign [.Tuple [.Name x px, .Name y py] kt pt] (.Tuple [a, b] k2 pt2) pos) (sPar i j (sD d)) :=
  PS.imp (ps_par hc hN hi hj hij hx hy ha hw hs) fun D0 σ H ⟨G0, H0, G, α, S, q⟩ => ⟨G, dats α, S.gr.s, S.ev, ofR_run S q fun xs exs G' H' g S' o vs rv => by
    match xs, o, rv with
    | [x, y], o, .cons r1 (.cons r2 .nil) => exact ⟨_, _, rfl, o _ G' H' (Same.refl _) ((S'.set r1 i hwi).set r2 j hwj)⟩
    | [], o, _ => exact o.elim
    | [_], o, _ => exact o.elim
    | _ :: _ :: _ :: _, o, _ => exact o.elim⟩
/-! ### zip -/
def pairUp : List D → List D → List D
  | x :: xs, y :: ys => .tuple [x, y] :: pairUp xs ys
  | _, _ => []
theorem pairUp_get : ∀ {xs ys : List D} {i : Nat} {d : D}, (pairUp xs ys)[i]? = some d → ∃ x y, xs[i]? = some x ∧ ys[i]? = some y ∧ d = .tuple [x, y]
  | [], _, _, _, h => by simp [pairUp] at h
  | _ :: _, [], _, _, h => by simp [pairUp] at h
  | x :: xs, y :: ys, 0, d, h => by
    simp [pairUp] at h
    exact ⟨x, y, rfl, rfl, h.symm⟩
  | x :: xs, y :: ys, i + 1, d, h => by
    simp only [pairUp, List.getElem?_cons_succ] at h ⊢
    exact pairUp_get h
theorem pairUp_len : ∀ {xs ys : List D}, (pairUp xs ys).length = min xs.length ys.length
  | [], _ => by simp [pairUp]
  | _ :: _, [] => by simp [pairUp]
  | _ :: xs, _ :: ys => by
    simp only [pairUp, List.length_cons, pairUp_len (xs := xs) (ys := ys)]
    omega
def iZip (da db : Bt → Res D) : Bt → Res (List D) := fun β => (da β).bind fun x => (db β).bind fun y => match x, y with
  | .tuple xs, .tuple ys => .ok (pairUp xs ys)
  | .list xs, .list ys => .ok (pairUp xs ys)
  | _, _ => .no
theorem itd_zipT {K : PySem.W.Frag} {w : World} {G : Hp} {p q : Addr} {xs ys : List V} {ds es : List D} (h : SqT K G p xs) (h2 : SqT K G q ys) (r : RpAll K w G xs ds) (r2 : RpAll K w G ys es) : ItD K w G (RZ.ItzT K p q) (pairUp ds es) where
  go := fun i H s hi => by
    rw [pairUp_len] at hi
    obtain ⟨v, e1, _⟩ := r.get (List.getElem?_eq_getElem (by omega : i < ds.length))
    obtain ⟨u, e2, _⟩ := r2.get (List.getElem?_eq_getElem (by omega : i < es.length))
    exact ⟨xs, ys, v, u, seqT s h, seqT s h2, e1, e2⟩
  stop := fun i H s hi => ⟨xs, ys, seqT s h, seqT s h2, by
    rw [pairUp_len] at hi
    rw [r.length, r2.length]
    omega⟩
  yld := fun i d G1 H x H' hd s1 s2 y => by
    obtain ⟨dx, dy, e1, e2, rfl⟩ := pairUp_get hd
    obtain ⟨T, v, u, rfl, n, rfl, y1, y2⟩ := y
    obtain ⟨v', a1, b1⟩ := r.get e1
    obtain ⟨u', a2, b2⟩ := r2.get e2
    have e3 := y1 xs (seqT (s1.trans s2) h)
    have e4 := y2 ys (seqT (s1.trans s2) h2)
    rw [a1] at e3
    rw [a2] at e4
    cases e3
    cases e4
    have f := same_upd (o := .tup [v, u]) (s2.free n)
    exact ⟨_, Gr.new s2 n, .tup (.inl (.inl upd_same)) (.cons ((b1.mono s1).mono f) (.cons ((b2.mono s1).mono f) .nil))⟩
theorem itd_zip {K : PySem.W.Frag} {w : World} {G : Hp} {p q : Addr} {xs ys : List V} {ds es : List D} (h : SqL K G p xs) (h2 : SqL K G q ys) (r : RpAll K w G xs ds) (r2 : RpAll K w G ys es) : ItD K w G (Itz K p q) (pairUp ds es) where
  go := fun i H s hi => by
    rw [pairUp_len] at hi
    obtain ⟨v, e1, _⟩ := r.get (List.getElem?_eq_getElem (by omega : i < ds.length))
    obtain ⟨u, e2, _⟩ := r2.get (List.getElem?_eq_getElem (by omega : i < es.length))
    exact ⟨xs, ys, v, u, s.seq h, s.seq h2, e1, e2⟩
  stop := fun i H s hi => ⟨xs, ys, s.seq h, s.seq h2, by
    rw [pairUp_len] at hi
    rw [r.length, r2.length]
    omega⟩
  yld := fun i d G1 H x H' hd s1 s2 y => by
    obtain ⟨dx, dy, e1, e2, rfl⟩ := pairUp_get hd
    obtain ⟨T, v, u, rfl, n, rfl, y1, y2⟩ := y
    obtain ⟨v', a1, b1⟩ := r.get e1
    obtain ⟨u', a2, b2⟩ := r2.get e2
    have e3 := y1 xs ((s1.trans s2).seq h)
    have e4 := y2 ys ((s1.trans s2).seq h2)
    rw [a1] at e3
    rw [a2] at e4
    cases e3
    cases e4
    have f := same_upd (o := .tup [v, u]) (s2.free n)
    exact ⟨_, Gr.new s2 n, .tup (.inl (.inl upd_same)) (.cons ((b1.mono s1).mono f) (.cons ((b2.mono s1).mono f) .nil))⟩
theorem rizip {elts : List Expr} {kk : Nat} {p tpos : Pos} (hm : X.mg "zip" = none) (ha : RE X W a da) (hb : RE X W b db) (hg : Gl X "zip" := by rfl) (hs1 : starEach [a, b] X.env = (false, eval a X.env) :: starEach [b] X.env := by rfl) (hs3 : starEach [b] X.env = (false, eval b X.env) :: starEach [] X.env := by rfl)
    (hpl : (backTo pos (starEach [b] X.env)).any (·.1) = false := by rfl) : RI X W (.Tuple elts kk tpos) (.Call (.Name "zip" p) [a, b] [] pos) (iZip da db) :=
  PI.imp (RZ.pi_zipA hg hm (pa_cons ha (pa_cons hb pa_nil hs3) hs1) hs1 hpl) fun σ H R h => by
    obtain ⟨G, β, s, ev, rp⟩ := h
    refine ⟨G, β, s, ev, rp.bind fun x ex G1 H1 g1 rp1 v rv => ?_⟩
    refine ⟨G1, β, g1.s, ev.mono g1.g, rp1.bind fun y ey G2 H2 g2 rp2 u ru => ?_⟩
    cases rv with
    | tup hx rx =>
      cases ru with
      | tup hy ry => exact ⟨_, _, _, _, rfl, .inr ⟨seqT (g2.g.trans g2.s) hx, seqT g2.s hy, rp2.here (Gr.refl g2.s) _ (itd_zipT (seqT g2.g hx) hy (RpAll.mono g2.g rx) ry)⟩⟩
      | _ => exact rp2.elim
    | lst hx rx =>
      cases ru with
      | lst hy ry => exact ⟨_, _, _, _, rfl, .inl ⟨SqL.of (g2.s _ _ (g2.g _ _ hx)), SqL.of (g2.s _ _ hy), rp2.here (Gr.refl g2.s) _ (itd_zip (SqL.of (g2.g _ _ hx)) (SqL.of hy) (RpAll.mono g2.g rx) ry)⟩⟩
      | _ => exact rp2.elim
    | _ => cases ru <;> exact rp2.elim
end
end DL

/-! DL14: enumerate of lists and tuples. -/
namespace DL
open PySem PySem.Spec PyProof.Rows L2
/-- enumerate.__new__ over a tuple -/
theorem newEnumT (t : Addr) (its : Array Value) (k : Nat) (dc : Option Addr) (slots : Array (Option Value)) : Meets (Builtin.«enumerate.__new__» ⟨[.type "enumerate", .ref t], []⟩) (fun _ R z => z.heap.get? t = some { cls := .type "tuple", dict := dc, data := .seq its k, slots := slots } ∧
      R (.ok (.ret (.ref (z.heap.push { cls := .type "tuple_iterator", data := .fields #[.ref t, .int 0 0] }).objs.size)))
        { z with heap := (z.heap.push { cls := .type "tuple_iterator", data := .fields #[.ref t, .int 0 0] }).push { cls := .type "enumerate", data := .fields #[.none, .bool false, .ref z.heap.objs.size, rawInt 0, .none, .none] } }) :=
  .of_wp fun prog w A R s hh => by
    obtain ⟨hp, g, d, tk, os⟩ := s; obtain ⟨hl, h⟩ := hh
    have hsub := sub_enumerate; have hT : Heap.IsTuple (Shared.heap ⟨hp, g, d, tk, os⟩) t its := ⟨_, hl, rfl, k, rfl⟩
    wp_walk using AutoSeq1.wpAny_loadPart' hl
    refine wpAny_stack_any fun st => wpAny_pure ?_
    split
    · rename_i c _ _ _ _ _
      cases (c == Value.type "enumerate")
      · wp_walk using AutoSeq1.wpAny_loadPart' hl, wpAny_pyIter_tuple hT
        exact ⟨_, rfl, h⟩
      · wp_walk using AutoSeq1.wpAny_loadPart' hl, wpAny_pyIter_tuple hT
        exact ⟨_, rfl, h⟩
    · wp_walk using AutoSeq1.wpAny_loadPart' hl, wpAny_pyIter_tuple hT
      exact ⟨_, rfl, h⟩
theorem callEnumT {prog : Program} {w : World} {A : Around} {E : Value → Shared → Prop} {s : Shared} {t : Addr} {its : Array Value} {Q : Value → Shared → Prop} (hT : s.heap.IsTuple t its)
    (h : ∀ h', IsEnum h' (s.heap.objs.size + 1) s.heap.objs.size 0 .none → h'.IsTupleIter s.heap.objs.size t 0 → (∀ b o, s.heap.get? b = some o → h'.get? b = some o) → Q (.ref (s.heap.objs.size + 1)) { s with heap := h' }) :
    wpAny (model prog w) A (call (.type "enumerate") [.ref t]) Q E s := by
  obtain ⟨⟨c, dct, dt, slots⟩, hl, hc, n, hd⟩ := hT
  have hc : c = .type "tuple" := hc
  have hd : dt = .seq its n := hd
  subst hc hd
  refine callType_new F.called_enumerate (by decide) (F.typeCall_enumerate_1 _) (F.newCall_enumerate_1 _) (fun obj => F.args_object_init_2 obj _) F.entry_enumerate_new (newEnumT t its n dct slots) ⟨hl, ?_⟩
  have z1 : (s.heap.push { cls := .type "tuple_iterator", data := .fields #[.ref t, .int 0 0] }).objs.size = s.heap.objs.size + 1 := Heap.size_push ..
  show _ ∧ Q (.ref _) _
  rw [z1]
  have he : IsEnum ((s.heap.push { cls := .type "tuple_iterator", data := .fields #[.ref t, .int 0 0] }).push { cls := .type "enumerate", data := .fields #[.none, .bool false, .ref s.heap.objs.size, rawInt 0, .none, .none] }) (s.heap.objs.size + 1) s.heap.objs.size 0 .none := by
    have q := Heap.get?_push_size (s.heap.push { cls := .type "tuple_iterator", data := .fields #[.ref t, .int 0 0] }) (o := { cls := .type "enumerate", data := .fields #[.none, .bool false, .ref s.heap.objs.size, rawInt 0, .none, .none] }) rfl
    rw [z1] at q
    exact q
  exact ⟨⟨_, he, rfl⟩, h _ he ⟨_, Heap.get?_push_of_some _ (Heap.get?_push_size _ rfl), rfl, rfl⟩ fun b o x => Heap.get?_push_of_some _ (Heap.get?_push_of_some _ x)⟩
/-- the tuple at a, each item in a new pair with its place -/
def IteT (K : PySem.W.Frag) (a : Addr) (n : Nat) : It :=
  ⟨fun i H => ∃ (xs : List V) (x : V), SqT K H a xs ∧ xs.length = n ∧ xs[i]? = some x, fun i H v H' => ∃ T x, v = .ref T ∧ H T = none ∧ H' = upd H T (.tup [.int (i : Nat), x]) ∧ ∀ ys, SqT K H a ys → ys[i]? = some x, fun i H => ∃ xs : List V, SqT K H a xs ∧ xs.length = n ∧ n ≤ i⟩
theorem turnEnumT {P : Program} {w : World} {K : PySem.W.Frag} {elts : List Expr} {kk : Nat} {tpos : Pos} {a e it : Addr} {n : Nat} (hae : a ≠ e) (hai : a ≠ it) :
    Turn P w K (.Tuple elts kk tpos) (IteT K a n) [e, it] e (fun i h => (∃ old, IsEnum h e it ((i : Nat) : Int) old) ∧ h.IsTupleIter it a i ∧ e ≠ it ∧ i ≤ n) where
  mem := by simp
  obj := fun i h st b hb => by
    obtain ⟨⟨old, he⟩, ⟨o, ho, hc, hd⟩, _⟩ := st
    have hb' : b = e ∨ b = it := by simpa using hb
    rcases hb' with rfl | rfl
    · refine ⟨_, he, fun v q => ?_⟩
      cases q
    · refine ⟨o, ho, fun v q => ?_⟩
      rw [hd] at q
      cases q
  keep := fun i h h' st k => let ⟨⟨old, he⟩, hi, hne, hin⟩ := st; ⟨⟨old, k e (by simp) _ he⟩, hi.at fun o q => k it (by simp) o q, hne, hin⟩
  item := by
    intro X hP hw hK hc i pins s σ H E I hf st hg
    subst hP hw hK
    obtain ⟨⟨old, he⟩, hit, hne, hin⟩ := st
    obtain ⟨xs, x, hq, hln, hx⟩ := hg
    obtain ⟨its, rv, p, hz⟩ := I.tuple hq
    obtain ⟨u, hu, ru⟩ := rv.get hx
    have hel : e < s.heap.objs.size := Heap.lt_size he
    have hil : it < s.heap.objs.size := by obtain ⟨_, q, _⟩ := hit; exact Heap.lt_size q
    have hlt : i < its.toArray.size := by
      have := (List.getElem?_eq_some_iff.mp hu).1
      simpa using this
    have hT : s.heap.IsTuple a its.toArray := p
    refine wpAny_pyNext_enum_itemD (Draws.tuple (A := X.A.in1) (prog := X.prog) (w := X.w) (I.ok.hd hc) it a hai its.toArray) he ⟨hit, hT⟩ hlt hne (by simp [hne, Ne.symm hae]) fun v h' tk pv ho st' hT' hsz hk => ?_
    have ev : v = u := by
      have : its.toArray[i]? = some v := pv
      rw [List.getElem?_toArray, hu] at this
      exact (Option.some.inj this).symm
    subst ev
    refine ⟨_, rfl, wpAny_letOwnedTupleGo_enum (s := { s with heap := h', toks := tk + 1 }) ho fun h2 he2 sb => ?_⟩
    have hP := (sb.2 _ (Nat.ne_of_gt hel)).trans hT'
    have new : ObjOk X.prog X.w (upd H s.heap.objs.size (.tup [.int (i : Nat), x])) h2 s.heap.objs.size (.tup [.int (i : Nat), x]) := ⟨by show 2 ≤ sizeLine; decide, [.int i tk, v], .cons ⟨_, rfl⟩ (.cons ru .nil), ⟨_, hP, rfl, _, rfl⟩⟩
    have I1 : Inv X pins σ (upd H s.heap.objs.size (.tup [.int (i : Nat), x])) { s with heap := h2, toks := tk + 1 } :=
      I.turnedNew (ch := [e, it]) (fun b ob hb q => (sb.2 b (fun z => hb (by simp [z]))).trans (hk b ob (fun z => hb (by simp [z])) (fun z => hb (by simp [z])) q)) hf (Nat.le_refl _) new
    refine ⟨.ref s.heap.objs.size, _, I1, rfl, ⟨_, x, rfl, I.hok.fresh (Nat.le_refl _), rfl, fun ys hy => by rw [I.tuple_inj hy hq]; exact hx⟩, ⟨⟨v, ?_⟩, st'.1.at fun o q => (sb.2 it (Ne.symm hne)).trans q, hne, by have := (List.getElem?_eq_some_iff.mp hx).1; omega⟩, fun b hb => ?_⟩
    · rw [show ((i + 1 : Nat) : Int) = (i : Int) + 1 by omega]
      exact he2
    · have hb' : b = e ∨ b = it := by simpa using hb
      rw [upd_ne (Nat.ne_of_lt (by rcases hb' with rfl | rfl <;> assumption))]
      exact (hf b hb).1
  done := by
    intro X hP hw hK hc i pins s σ H E I hf st hg
    subst hP hw hK
    obtain ⟨⟨old, he⟩, hit, hne, hin⟩ := st
    obtain ⟨xs, hq, hln, hx⟩ := hg
    obtain ⟨its, rv, p, hz⟩ := I.tuple hq
    obtain ⟨f0, f1, f2, f3, f4, f5⟩ := hf it (by simp)
    have hl := rv.length
    have ei : i = its.toArray.size := by simp; omega
    have hT : s.heap.IsTuple a its.toArray := p
    exact wpAny_pyNext_enum_endD (Draws.tuple (A := X.A.in1) (prog := X.prog) (w := X.w) (I.ok.hd hc) it a hai its.toArray) he ⟨ei ▸ hit, hT⟩ fun h' eb => ⟨rfl, I.turned (t' := s.toks) (fun b o hb q => eb b o hb q) f0 f1 f3 f4 f5⟩
  self := fun A i s Q E st h => let ⟨⟨_, he⟩, _⟩ := st; wpAny_pyIter_enum he h
/-- enumerate(e), e a list or a tuple -/
def iEnumA (K : PySem.W.Frag) (ta : TA) : TI := fun σ H R => ta σ H fun vs H1 => ∃ a xs, vs = [.ref a] ∧ SqT K H1 a xs ∧ R (IteT K a xs.length) H1
theorem pi_enumT {X : Cx} {e : Expr} {ta : TA} {p pos tpos : Pos} {elts : List Expr} {kk : Nat} (hg : Gl X "enumerate") (hm : X.mg "enumerate" = none) (ha : PA X [e] ta) (hs : starEach [e] X.env = [(false, eval e X.env)] := by rfl) :
    PI X (.Tuple elts kk tpos) (.Call (.Name "enumerate" p) [e] [] pos) (iEnumA X.K ta) := by
  refine ⟨fun pins s σ H R I h => ?_⟩
  refine Call_ (ld_blt I hg hm boot_enumerate (PyProof.Rows.callWith_type1 (thn (ha.run pos pins s σ H _ I h) fun us s1 ⟨vs, H1, I1, r1, q1⟩ => ?_) hs rfl))
  obtain ⟨a, xs, rfl, hq, q⟩ := q1
  cases r1 with
  | cons r rr =>
    cases rr
    cases r
    obtain ⟨its, rv, pt, hz⟩ := I1.tuple hq
    have hT : s1.heap.IsTuple a its.toArray := pt
    have hal : a < s1.heap.objs.size := by obtain ⟨_, w1, _⟩ := hT; exact Heap.lt_size w1
    refine callEnumT hT fun h' he hit hk => wpAny_pyIter_enum he ?_
    have I2 : Inv X pins σ H1 { s1 with heap := h' } := I1.kept (t' := s1.toks) hk
    refine ⟨s1.heap.objs.size + 1, [s1.heap.objs.size + 1, s1.heap.objs.size], _, _, H1, rfl, I2, turnEnumT (n := xs.length) (it := s1.heap.objs.size) (Nat.ne_of_lt (Nat.lt_succ_of_lt hal)) (Nat.ne_of_lt hal), ⟨⟨.none, he⟩, hit, Nat.succ_ne_self _, Nat.zero_le _⟩, fun b hb => ?_, q⟩
    have hb' : b = s1.heap.objs.size + 1 ∨ b = s1.heap.objs.size := by simpa using hb
    have hle : s1.heap.objs.size ≤ b := by
      rcases hb' with rfl | rfl
      · exact Nat.le_succ _
      · exact Nat.le_refl _
    exact I1.fpOk hle (I1.hok.fresh hle)
/-- each item with its place -/
def places : Nat → List D → List D
  | _, [] => []
  | i, d :: ds => .tuple [.int (i : Int), d] :: places (i + 1) ds
theorem places_len : ∀ {ds : List D} {i : Nat}, (places i ds).length = ds.length
  | [], _ => rfl
  | _ :: ds, i => congrArg Nat.succ places_len
theorem places_get : ∀ {ds : List D} {k i : Nat} {d : D}, (places k ds)[i]? = some d → ∃ x, ds[i]? = some x ∧ d = .tuple [.int ((k + i : Nat) : Int), x]
  | [], _, _, _, h => by simp [places] at h
  | x :: ds, k, 0, d, h => by
    simp [places] at h
    exact ⟨x, rfl, h.symm⟩
  | x :: ds, k, i + 1, d, h => by
    simp only [places, List.getElem?_cons_succ] at h ⊢
    obtain ⟨y, h1, h2⟩ := places_get h
    exact ⟨y, h1, by rw [h2, show k + 1 + i = k + (i + 1) by omega]⟩
theorem itd_enumT {K : PySem.W.Frag} {w : World} {G : Hp} {p : Addr} {xs : List V} {ds : List D} (h : SqT K G p xs) (r : RpAll K w G xs ds) : ItD K w G (IteT K p xs.length) (places 0 ds) where
  go := fun i H s hi => by
    rw [places_len] at hi
    obtain ⟨v, e1, _⟩ := r.get (List.getElem?_eq_getElem hi)
    exact ⟨xs, v, seqT s h, rfl, e1⟩
  stop := fun i H s hi => ⟨xs, seqT s h, rfl, by rw [places_len] at hi; rw [r.length]; exact hi⟩
  yld := fun i d G1 H x H' hd s1 s2 y => by
    obtain ⟨dx, e1, rfl⟩ := places_get hd
    obtain ⟨T, v, rfl, n, rfl, y1⟩ := y
    obtain ⟨v', a1, b1⟩ := r.get e1
    have e3 := y1 xs (seqT (s1.trans s2) h)
    rw [a1] at e3
    cases e3
    have f := same_upd (o := .tup [.int (i : Nat), v]) (s2.free n)
    refine ⟨_, Gr.new s2 n, .tup (.inl (.inl upd_same)) (.cons ?_ (.cons ((b1.mono s1).mono f) .nil))⟩
    rw [Nat.zero_add]
    exact .int _
theorem itd_enum {K : PySem.W.Frag} {w : World} {G : Hp} {p : Addr} {xs : List V} {ds : List D} (h : SqL K G p xs) (r : RpAll K w G xs ds) : ItD K w G (Ite K p) (places 0 ds) where
  go := fun i H s hi => by
    rw [places_len] at hi
    obtain ⟨v, e1, _⟩ := r.get (List.getElem?_eq_getElem hi)
    exact ⟨xs, v, s.seq h, e1⟩
  stop := fun i H s hi => ⟨xs, s.seq h, by rw [places_len] at hi; rw [r.length]; exact hi⟩
  yld := fun i d G1 H x H' hd s1 s2 y => by
    obtain ⟨dx, e1, rfl⟩ := places_get hd
    obtain ⟨T, v, rfl, n, rfl, y1⟩ := y
    obtain ⟨v', a1, b1⟩ := r.get e1
    have e3 := y1 xs ((s1.trans s2).seq h)
    rw [a1] at e3
    cases e3
    have f := same_upd (o := .tup [.int (i : Nat), v]) (s2.free n)
    refine ⟨_, Gr.new s2 n, .tup (.inl (.inl upd_same)) (.cons ?_ (.cons ((b1.mono s1).mono f) .nil))⟩
    rw [Nat.zero_add]
    exact .int _
def iEnumD (da : Bt → Res D) : Bt → Res (List D) := fun β => (da β).bind fun x => match x with
  | .tuple xs => .ok (places 0 xs)
  | .list xs => .ok (places 0 xs)
  | _ => .no
theorem rienum {X : Cx} {W : WA} {a : Expr} {da : Bt → Res D} {elts : List Expr} {kk : Nat} {p pos tpos : Pos} (hm : X.mg "enumerate" = none) (ha : RE X W a da) (hg : Gl X "enumerate" := by rfl) (hs1 : starEach [a] X.env = (false, eval a X.env) :: starEach [] X.env := by rfl)
    (hs : starEach [a] X.env = [(false, eval a X.env)] := by rfl) : RI X W (.Tuple elts kk tpos) (.Call (.Name "enumerate" p) [a] [] pos) (iEnumD da) :=
  PI.imp (pior (pi_enum hg hm (pa_cons ha pa_nil hs1) hs) (pi_enumT hg hm (pa_cons ha pa_nil hs1) hs)) fun σ H R h => by
    obtain ⟨G, β, s, ev, rp⟩ := h
    cases q : da β with
    | no => unfold iEnumD at rp; rw [q] at rp; exact rp.elim
    | er e =>
      refine Or.inl ⟨G, β, s, ev, ?_⟩
      unfold iEnumD at rp
      rw [q] at rp ⊢
      exact rp
    | ok x =>
      unfold iEnumD at rp
      rw [q] at rp
      cases x with
      | tuple xs =>
        refine Or.inr ⟨G, β, s, ev, ?_⟩
        rw [q]
        intro G' H' g v rv
        cases rv with
        | tup hx rx => exact ⟨_, _, rfl, seqT g.s hx, rp.here g _ (itd_enumT hx rx)⟩
      | list xs =>
        refine Or.inl ⟨G, β, s, ev, ?_⟩
        rw [q]
        intro G' H' g v rv
        cases rv with
        | lst hx rx => exact ⟨_, _, rfl, SqL.of (g.s _ _ hx), rp.here g _ (itd_enum (SqL.of hx) rx)⟩
      | _ => exact rp.elim
end DL

/-! DL15: written tuples and dicts as constants; a dict's value by key. -/
namespace DL
open PySem PySem.Spec PyProof.Rows L2
/-- what is written in K at v is d -/
def rdV (K : PySem.W.Frag) : Nat → Value → D → Bool
  | 0, _, _ => false
  | n + 1, v, d => match v, d with
    | .none, .none => true
    | .bool a, .bool b => decide (a = b)
    | .int i _, .int j => decide (i = j)
    | .str x _, .str y => decide (x = y)
    | .ref a, .tuple ds => (match K.lookup a with
      | some ⟨.type c, _, .seq its _, _⟩ => decide (c = "tuple") && (decide (its.size ≤ sizeLine) && (decide (its.size = ds.length) && (its.toList.zip ds).all fun q => rdV K n q.1 q.2))
      | _ => false)
    | _, _ => false
theorem rdAll {K : PySem.W.Frag} {w : World} {n : Nat} (ih : ∀ {v : Value} {d : D}, rdV K n v d = true → ∃ u, RelV u v ∧ ∀ G, Rp K w G u d) : ∀ {vs : List Value} {ds : List D}, vs.length = ds.length → ((vs.zip ds).all fun q => rdV K n q.1 q.2) = true → ∃ us, Vals us vs ∧ ∀ G, RpAll K w G us ds
  | [], [], _, _ => ⟨[], .nil, fun _ => .nil⟩
  | [], _ :: _, h, _ => by cases h
  | _ :: _, [], h, _ => by cases h
  | v :: vs, d :: ds, h, k => by
    rw [List.zip_cons_cons, List.all_cons, Bool.and_eq_true] at k
    obtain ⟨u, r, p⟩ := ih k.1
    obtain ⟨us, rs, ps⟩ := rdAll ih (Nat.succ.inj h) k.2
    exact ⟨u :: us, .cons r rs, fun G => .cons (p G) (ps G)⟩
theorem rdV_ok {K : PySem.W.Frag} {w : World} : ∀ {n : Nat} {v : Value} {d : D}, rdV K n v d = true → ∃ u, RelV u v ∧ ∀ G, Rp K w G u d := by
  intro n
  induction n with
  | zero => intro v d h; cases h
  | succ n ih =>
    intro v d h
    unfold rdV at h
    split at h
    · exact ⟨.non, rfl, fun _ => .non⟩
    · cases of_decide_eq_true h
      exact ⟨.bl _, rfl, fun _ => .bl _⟩
    · cases of_decide_eq_true h
      exact ⟨.int _, ⟨_, rfl⟩, fun _ => .int _⟩
    · cases of_decide_eq_true h
      exact ⟨.str _, ⟨_, rfl⟩, fun _ => .str _⟩
    · rename_i a ds
      split at h
      · rename_i c od its m sl hk
        simp only [Bool.and_eq_true, decide_eq_true_eq] at h
        obtain ⟨h1, h2, h3, h4⟩ := h
        obtain ⟨us, rs, ps⟩ := rdAll (w := w) (ds := ds) ih (by simpa using h3) h4
        exact ⟨.ref a, rfl, fun G => .tup (.inr ⟨_, its, m, hk, congrArg Value.type h1, rfl, h2, rs⟩) (ps G)⟩
      · cases h
    · cases h
/-- a constant of the module -/
def cstB (x : Str) (d : D) (K : PySem.W.Frag) : Bool := match PySem.W.nsIn K mainGlobals x with
  | some (some v) => rdV K 6 v d
  | _ => false
theorem cstB_ok {K : PySem.W.Frag} {w : World} {h : Heap} {mg : Str → Option Value} (X : K.In h) (G : h.Ns mainGlobals mg) {x : Str} {d : D} (c : cstB x d K = true) : Cst K w mg x d := by
  unfold cstB at c
  split at c
  · rename_i v e
    obtain ⟨u, r, p⟩ := rdV_ok (w := w) c
    exact ⟨u, v, PySem.W.mg_of X G e, r, p⟩
  · cases c
/-- a dict of the module: its values -/
def dicB (x : Str) (ps : List (Str × D)) (K : PySem.W.Frag) : Bool := He.eqO (PySem.W.nsIn K mainGlobals x) (some (some (.ref (He.ga K x)))) && ps.all fun q => match PySem.W.nsIn K (He.ga K x) q.1 with
  | some (some v) => rdV K 6 v q.2
  | _ => false
theorem dicVals {K : PySem.W.Frag} {w : World} {a : Addr} : ∀ {ps : List (Str × D)}, (ps.all fun q => match PySem.W.nsIn K a q.1 with
  | some (some v) => rdV K 6 v q.2
  | _ => false) = true → ∃ kvs : List (Str × V), (∀ q ∈ kvs, ∃ u, PySem.W.nsIn K a q.1 = some (some u) ∧ RelV q.2 u) ∧ kvs.map (·.1) = ps.map (·.1) ∧ ∀ G, RpAll K w G (kvs.map (·.2)) (ps.map (·.2))
  | [], _ => ⟨[], by simp, rfl, fun _ => .nil⟩
  | (k, d) :: ps, h => by
    rw [List.all_cons, Bool.and_eq_true] at h
    obtain ⟨kvs, h1, h2, h3⟩ := dicVals (ps := ps) h.2
    have c := h.1
    split at c
    · rename_i v e
      obtain ⟨u, r, p⟩ := rdV_ok (w := w) c
      refine ⟨(k, u) :: kvs, fun q hq => ?_, by simp [h2], fun G => .cons (p G) (h3 G)⟩
      rcases List.mem_cons.mp hq with rfl | hq
      · exact ⟨v, e, r⟩
      · exact h1 q hq
    · cases c
def dicD (ps : List (Str × D)) : D := .dict (ps.map fun q => (PyData.str q.1, q.2))
theorem zip_map {ps : List (Str × D)} {kvs : List (Str × V)} (h : kvs.map (·.1) = ps.map (·.1)) : (kvs.map fun q => PyData.str q.1).zip (ps.map (·.2)) = ps.map fun q => (PyData.str q.1, q.2) := by
  have e : (kvs.map fun q => PyData.str q.1) = ps.map fun q => PyData.str q.1 := by
    have := congrArg (List.map PyData.str) h
    rw [List.map_map, List.map_map] at this
    exact this
  rw [e]
  clear e h
  induction ps with
  | nil => rfl
  | cons p ps ih => simp [ih]
theorem dicB_ok {K : PySem.W.Frag} {w : World} {h : Heap} {mg : Str → Option Value} (X : K.In h) (G : h.Ns mainGlobals mg) {x : Str} {ps : List (Str × D)} (c : dicB x ps K = true) (T : ∃ es n, L2.KDict K w (He.ga K x) es n) : Cst K w mg x (dicD ps) := by
  obtain ⟨c1, c2⟩ := Bool.and_eq_true_iff.mp c
  obtain ⟨kvs, h1, h2, h3⟩ := dicVals (w := w) c2
  obtain ⟨es, n, kd⟩ := T
  refine ⟨.ref (He.ga K x), _, PySem.W.mg_of X G (He.eqO_ok c1), rfl, fun G => ?_⟩
  have := Rp.dic (K := K) (w := w) (H := G) (a := He.ga K x) (kvs := kvs) (ds := ps.map (·.2)) ⟨es, n, kd, h1⟩ (h3 G)
  rw [zip_map h2] at this
  exact this
/-! ### a value by key -/
def dGet : List (D × D) → Str → Option D
  | (.str y, d) :: r, x => if y = x then some d else dGet r x
  | _, _ => none
def fDix : D → D → Option D
  | .dict ps, .str x => dGet ps x
  | _, _ => none
theorem dGet_zip {K : PySem.W.Frag} {w : World} {G : Hp} {x : Str} {d : D} : ∀ {kvs : List (Str × V)} {ds : List D}, RpAll K w G (kvs.map (·.2)) ds → dGet ((kvs.map fun q => PyData.str q.1).zip ds) x = some d → ∃ q ∈ kvs, q.1 = x ∧ Rp K w G q.2 d
  | [], _, _, e => by simp [dGet] at e
  | q :: kvs, _, .cons r rr, e => by
    rw [List.map_cons, List.zip_cons_cons, dGet] at e
    split at e
    · rename_i h
      cases e
      exact ⟨q, List.mem_cons_self .., h, r⟩
    · obtain ⟨p, h1, h2, h3⟩ := dGet_zip rr e
      exact ⟨p, List.mem_cons_of_mem _ h1, h2, h3⟩
section
variable {X : Cx} {W : WA} {a b : Expr} {da db : Bt → Res D} {pos : Pos}
theorem ok_dix : OkR2 X (rIxD X.K X.w) fDix := by
  intro x y d e v u G H Q s rv ru q
  cases ru with
  | str z =>
    cases rv with
    | scr hx rx => simp [fDix, dGet] at e
    | @dic p kvs ds hd rd =>
      obtain ⟨kv, h1, rfl, h3⟩ := dGet_zip rd (show dGet _ z = some d from e)
      obtain ⟨es, n, kd, hv⟩ := hd
      obtain ⟨u0, e1, e2⟩ := hv kv h1
      exact ⟨p, _, kv.2, rfl, rfl, ⟨es, n, u0, kd.at_, kd.lit, e1, e2⟩, q _ _ (Gr.refl s) _ h3⟩
    | _ => cases e
  | _ => cases rv <;> cases e
theorem rixd (ha : RE X W a da) (hb : RE X W b db) (hs : PlainIx b := by exact fun _ _ => rfl) : RE X W (.Subscript a b pos) (d2 fDix da db) := rix ix_kdict ok_dix ha hb hs
end
end DL

/-! DX1: an own exception whose __init__ says super().__init__('..') and stores its one argument: how it is made. -/
namespace PySem
namespace SupX
open PySem.W PySem.Calls PyProof.Rows PySem.HandSPX
def iA (x : Str) (p1 p2 : Pos) : Arguments := { posonlyargs := [], args := [{ arg := "self", annotation := none, pos := p1 }, { arg := x, annotation := none, pos := p2 }], vararg := none, kwonlyargs := [], kw_defaults := [], kwarg := none, defaults := [] }
def iB (x m : Str) (j : Nat) (a1 a2 a3 a4 a5 a6 q1 q2 q3 q4 : Pos) : List Stmt := [.Expr (.Call (.Attribute (.Call (.Name "super" a1) [] [] a2) "__init__" a3) [.Constant (.str m) j a4] [] a5) a6, .Assign [.Attribute (.Name "self" q1) x q2] (.Name x q3) q4]
def iS (x : Str) : Scope := { kind := .function, names := [(PySem.Str.ofString "self", .local), (x, .local), (PySem.Str.ofString "__class__", .free), (PySem.Str.ofString "super", .globalImplicit)], isGenerator := false, isCoroutine := false, more := [] }
/-- what is asked of the field's name: by decide -/
structure FName (x : Str) : Prop where
  l0 : (iS x).names.lookup ("self" : Str) = some .local
  l1 : (iS x).names.lookup x = some .local
  l2 : (iS x).names.lookup ("__class__" : Str) = some .free
  l3 : (iS x).names.lookup ("super" : Str) = some .globalImplicit
  ns : (x == ("self" : Str)) = false
  nd : (x == ("__debug__" : Str)) = false
  bd : ∀ (qual : Str) (bd : List Stmt) (doc pm : Value) (an : Option Addr) (cdv ct : Value) (cc : Addr) (p1 p2 : Pos) (a v : Value), bindArgs (ksFn "__init__" qual (iA x p1 p2) bd (iS x) .none .none doc pm an cdv ct cc) ⟨[a, v], []⟩ = pure [(("self" : Str), a), (x, v)]
  ev : ∀ (qual m : Str) (L f : Addr) (cdv : Value) (cc : Addr) (j : Nat) (a1 a2 a3 a4 a5 : Pos), (a3.endLine == a5.line) = true → ∃ pl, eval (.Call (.Attribute (.Call (.Name "super" a1) [] [] a2) "__init__" a3) [.Constant (.str m) j a4] [] a5) (ksEnv qual (iS x) L f cdv cc) = (do
      let ov ← attributeBase (.Call (.Name "super" a1) [] [] a2) "__init__" (ksEnv qual (iS x) L f cdv cc) (eval (.Call (.Name "super" a1) [] [] a2) (ksEnv qual (iS x) L f cdv cc))
      standAt a3.atName
      let (fu, first) ← holding [ov] (getMethod ov "__init__" pl)
      callWith a5 fu first (backTo a5 (starEach [.Constant (.str m) j a4] (ksEnv qual (iS x) L f cdv cc))) [])
theorem pos_ok {o : Expr} {env : Env} {a3 a5 : Pos} (h : (a3.endLine == a5.line) = true) : methodCallPos true o env a3 a5 = pure a5 := by
  unfold methodCallPos
  rw [h]
  rfl
theorem fname_name : FName "name" := ⟨by decide, by decide, by decide, by decide, by decide, by decide, by intros; rfl, fun qual m L f cdv cc j a1 a2 a3 a4 a5 h => by
  refine ⟨(do return (← importBound (.Call (.Name "super" a1) [] [] a2) (ksEnv qual (iS "name") L f cdv cc)).getD true), ?_⟩
  show (attributeBase _ _ _ _ >>= fun ov => standAt a3.atName >>= fun _ => (holding [ov] (getMethod ov "__init__" _) >>= fun fx => methodCallPos true (.Call (.Name "super" a1) [] [] a2) (ksEnv qual (iS "name") L f cdv cc) a3 a5 >>= fun cp => callWith cp fx.1 fx.2 _ _)) = _
  rw [pos_ok h]
  rfl⟩
theorem fname_line : FName "line" := ⟨by decide, by decide, by decide, by decide, by decide, by decide, by intros; rfl, fun qual m L f cdv cc j a1 a2 a3 a4 a5 h => by
  refine ⟨(do return (← importBound (.Call (.Name "super" a1) [] [] a2) (ksEnv qual (iS "line") L f cdv cc)).getD true), ?_⟩
  show (attributeBase _ _ _ _ >>= fun ov => standAt a3.atName >>= fun _ => (holding [ov] (getMethod ov "__init__" _) >>= fun fx => methodCallPos true (.Call (.Name "super" a1) [] [] a2) (ksEnv qual (iS "line") L f cdv cc) a3 a5 >>= fun cp => callWith cp fx.1 fx.2 _ _)) = _
  rw [pos_ok h]
  rfl⟩
/-- what the written part says of the class, at C, and of its __init__, at fI -/
structure SupTxt (prog : Program) (K : Frag) (mg : Str → Option Value) (n x m : Str) (C fI : Addr) : Prop where
  gC : mg n = some (.ref C)
  cls : ∃ nm q N bs bm sn sub ab col dd k0 k1 k2 k3 k5, K.lookup C = some (excClassObj nm q C N bs bm true sn sub ab col dd k0 k1 k2 k3 k5 "ValueError.__new__") ∧ refsVE bm = true
  sa : findIn K (.ref C) "__setattr__" = some (some (.builtin "object.__setattr__"))
  ga : findIn K (.ref C) "__getattribute__" = some (some (.builtin "BaseException.__getattribute__"))
  gg : findIn K (.ref C) "__getattr__" = some none
  noN : findIn K (.ref C) x = some none
  iC : findIn K (.ref C) "__init__" = some (some (.ref fI))
  tC : typeIn K (.ref fI) = some (.type "function")
  kC : keepIn K (.ref C) = true
  exC : subIn K (.ref C) (.type "BaseException") = some true
  exV : subIn K (.ref C) (.type "ValueError") = some true
  tyC : typeIn K (.ref C) = some (.type "type")
  hdC : hasDictIn K C = true
  sup : ks_superIn K C C "__init__" = some (some (.builtin "ValueError.__init__"))
  init : excInitIn K C veTail "ValueError.__new__" = true
  mro : mroIn K C (.ref C) = some true
  opq : nsIn K cStatics "thirdparty.any" = some none
  sg : mg "super" = none
  top : (prog.main.scope.names.lookup ("super" : Str)).isSome = false
  fn : ∃ (oc : Value) (od : Option Addr) (qual : Str) (doc pm : Value) (an : Option Addr) (cda cc : Addr) (ct : Value) (osl : Array (Option Value)) (p1 p2 : Pos) (j : Nat) (a1 a2 a3 a4 a5 a6 q1 q2 q3 q4 : Pos),
    K.lookup fI = some ⟨oc, od, .func (ksFn "__init__" qual (iA x p1 p2) (iB x m j a1 a2 a3 a4 a5 a6 q1 q2 q3 q4) (iS x) .none .none doc pm an (.ref cda) ct cc), osl⟩ ∧ (a3.endLine == a5.line) = true ∧ codeIn K (.ref cda) qual = true ∧
    (∃ (kc : Value) (kd : Option Addr) (vs : Array Value) (ks : Array (Option Value)) (file : Str) (tf : Tok), K.lookup cda = some ⟨kc, kd, .fields vs, ks⟩ ∧ vs[2]? = some (.str file tf) ∧ ((prog.main.file : Str) == file) = true) ∧
    ∃ (lc : Value) (ld : Option Addr) (ls : Array (Option Value)), K.lookup cc = some ⟨lc, ld, .cell (some (.ref C)), ls⟩
theorem look_self {x : Str} (F : FName x) (a v : Value) : (List.reverse [(("self" : Str), a), (x, v)]).lookup ("self" : Str) = some a := by
  have h : (("self" : Str) == x) = false := by
    cases e : (("self" : Str) == x) with
    | false => rfl
    | true => have := F.ns; rw [← beq_iff_eq.mp e] at this; simp at this
  simp [List.lookup, h]
theorem look_x {x : Str} (a v : Value) : (List.reverse [(("self" : Str), a), (x, v)]).lookup x = some v := by simp [List.lookup]
/-- what __init__ leaves of a fresh exception at e; h: the heap ahead of it -/
structure InitEnd (h h' : Heap) (e C dx t1 : Addr) (x : Str) (v : Value) : Prop where
  keep : ∀ b o, h.get? b = some o → h'.get? b = some o
  obj : h'.get? e = some { cls := .ref C, dict := some dx, data := .fields #[.ref t1, .none, .none, .none, .bool false, .none] }
  dbig : h.objs.size ≤ dx
  dne : dx ≠ e
  ns : h'.Ns1 dx (fun y => if y = x then some v else none)
/-- such an exception, made -/
structure Made (h h' : Heap) (e C d : Addr) (x : Str) (v : Value) : Prop where
  keep : ∀ b o, h.get? b = some o → h'.get? b = some o
  new : h.objs.size ≤ e
  obj : ∃ oe vs, h'.get? e = some oe ∧ oe.cls = .ref C ∧ oe.dict = some d ∧ oe.data = .fields vs ∧ vs[1]? = some .none
  dbig : h.objs.size ≤ d
  dne : d ≠ e
  ns : h'.Ns1 d (fun y => if y = x then some v else none)
section
variable {prog : Program} {w : World} {A : Around} {E : Value → Shared → Prop} {R : Result → Shared → Prop} {s : Shared} {K : Frag} {mg : Str → Option Value} {C fI : Addr} {n x m : Str}
theorem sup_init (F' : FName x) (T : SupTxt prog K mg n x m C fI) {h₀ : Heap} {e t0 : Addr} {v : Value} (X : K.In h₀) (G : h₀.Ns mainGlobals mg) (B : ∃ mb, h₀.Ns builtinsNs mb ∧ ∀ y : Str, y ≠ "__name__" → mb y = bootBuiltins y) (hlim : h₀.NoLimit)
    (k0 : ∀ b o, h₀.get? b = some o → s.heap.get? b = some o) (hn0 : h₀.get? e = none) (hsz : h₀.objs.size ≤ s.heap.objs.size) (hx : s.heap.get? e = some (excO C t0)) (hroom : A.depth < recursionLimit)
    (hq : ∀ h' tk dx t1, InitEnd h₀ h' e C dx t1 x v → R (.ok (.ret .none)) { s with heap := h', toks := tk }) :
    codeAny (model prog w) A (.call (.ref fI) ⟨[.ref e, v], []⟩) R s := by
  obtain ⟨oc, od, qual, doc, pm, an, cda, cc, ct, osl, p1, p2, j, a1, a2, a3, a4, a5, a6, q1, q2, q3, q4, ho, hline, hcd, ⟨kc, kd, vs, ks, file, tf, hcode, hvs, hfile⟩, lc, ld, ls, hcell⟩ := T.fn
  obtain ⟨nm, q, N, bs, bm, sn, sub, ab, col, dd, k0', k1, k2, k3, k5, hC, hbm⟩ := T.cls
  obtain ⟨mb, B1, B2⟩ := B
  have hcl : clsIn K C = some { name := nm, bases := bs, mro := .ref C :: bm, ns := N, qualname := q, hasDict := true, slotNames := sn, subclasses := sub, abstract := ab, collection := col, hasDel := false } := by unfold clsIn; rw [hC] <;> rfl
  have XS : K.In s.heap := X.keeps k0
  refine ks_codeAny_call_defAt (binds := [("self", .ref e), (x, v)]) hroom (XS _ _ ho) rfl (hlim.keeps k0) (codeRec_of XS hcd) rfl (BindsTo.of_eq (F'.bd _ _ _ _ _ _ _ _ _ _ _ _)) ?_ ?_ (fun h₁ hns k => ?_) rfl rfl rfl
  · intro y hy
    have hy' : y ∈ (iS x).names := hy
    simp only [iS, List.mem_cons, List.not_mem_nil, or_false] at hy'
    rcases hy' with rfl | rfl | rfl | rfl <;> exact fun z => nomatch z
  · intro y hy
    simp only [List.mem_cons, List.not_mem_nil, or_false] at hy
    rcases hy with rfl | rfl
    · exact F'.l0
    · exact F'.l1
  · have hx₁ := k _ _ hx
    obtain ⟨hp, g, dr, tk, os⟩ := s
    have kk : ∀ b o, h₀.get? b = some o → h₁.get? b = some o := fun b o z => k b o (k0 b o z)
    have X₁ : K.In h₁ := X.keeps kk
    have F1 : Fr h₀ hp.objs.size h₁ (fun y => (List.reverse [(("self" : Str), Value.ref e), (x, v)]).lookup y) := ⟨hns, kk, hsz⟩
    have N1 : News h₀ hp.objs.size h₁ [(e, excObj C t0 none .none)] := fun p hp' => by
      rcases List.mem_cons.mp hp' with rfl | z
      · exact ⟨hx₁, Nat.ne_of_lt (Heap.lt_size hx), hn0⟩
      · cases z
    obtain ⟨pl, hev⟩ := F'.ev qual m hp.objs.size fI (.ref cda) cc j a1 a2 a3 a4 a5 hline
    refine ks_wpAt_execs_cons (ks_wpAt_Expr_any (ks_wpAt_MethodCall (pl := pl) ?_ hev) rfl rfl)
    refine ks_wpAt_super_base (env := ksEnv qual (iS x) hp.objs.size fI (.ref cda) cc) F'.l3 F'.l2 rfl rfl (X₁ _ _ ho) rfl rfl rfl (X₁ _ _ hcode) rfl hvs hfile T.top ?_
    refine ks_loadName_global (env := ksEnv qual (iS x) hp.objs.size fI (.ref cda) cc) rfl F'.l3 (loadGlobal_builtin (env := ksEnv qual (iS x) hp.objs.size fI (.ref cda) cc) (G.keeps kk) T.sg (B1.keeps kk) ((B2 _ (by decide)).trans (by decide +kernel)) ⟨rfl, ?_⟩)
    refine wpAny_loadName_free (env := ksEnv qual (iS x) hp.objs.size fI (.ref cda) cc) rfl F'.l2 rfl ⟨_, X₁ _ _ hcell, rfl⟩ ?_
    refine wpAny_loadName_local (env := ksEnv qual (iS x) hp.objs.size fI (.ref cda) cc) rfl F'.l0 hns (look_self F' _ _) ?_
    refine ks_wpAny_isType_cls (X₁ _ _ hC) rfl ⟨rfl, ?_⟩
    refine ks_wpAny_call_super (X₁ _ _ hC) rfl hx₁ rfl (fun c z => nomatch z) (looks_mroIn X₁ T.mro) (fun h2 e2 k2 => ?_)
    obtain ⟨F2, N2, l2⟩ := ks_newsPush (s := ⟨h₁, g, dr, tk + 2, os⟩) F1 N1 rfl e2 k2
    have I2 : InstAt h2 e (excObj C t0 none .none) C none := ⟨k2 _ _ hx₁, rfl, rfl, trivial⟩
    refine kxs_method (m := fun y => (List.reverse [(("self" : Str), Value.ref e), (x, v)]).lookup y) kxs_ValueError F2 X N2 List.mem_cons_self I2 T.opq T.sup T.exV rfl (fun u h3 F3 N3 l3 => ?_)
    refine kxs_callWith1 (h₀ := h₀) (L := hp.objs.size) N3 List.mem_cons_self (spliced_more (wpAny_Constant_str (spliced_none ⟨kxs_at N3 List.mem_cons_self, ?_⟩)) rfl) rfl rfl
    have ne1 : u ≠ e := Nat.ne_of_gt (l3 (e, excObj C t0 none .none) (List.mem_cons_of_mem _ List.mem_cons_self))
    have ne2 : h₁.objs.size ≠ e := Nat.ne_of_gt (l2 (e, excObj C t0 none .none) List.mem_cons_self)
    refine kxs_call (h₀ := h₀) (L := hp.objs.size) (m := fun y => (List.reverse [(("self" : Str), Value.ref e), (x, v)]).lookup y) F3 X N3 F.excBase_ValueError T.init List.mem_cons_self (.tail ne1 (.tail ne2 (.head (fun _ z => nomatch z)))) (by rw [sizeLine_eq]; exact (by decide : 1 ≤ 16777216)) (fun t4 h4 F4 N4 l4 => ?_)
    have hx4 : h4.get? e = some (excO C t4) := (N4 (e, excObj C t4 none .none) (by simp)).1
    have X4 : K.In h4 := X.keeps F4.keep
    show _root_.PySem.wpAt _ _ _ (execs _ _) _ _ _
    refine wpAt_of_wpAny (wpAny_execs_cons (plainObj_wpAny_Assign_Attribute (wpAny_Name (wpAny_loadName_local (env := ksEnv qual (iS x) hp.objs.size fI (.ref cda) cc) rfl F'.l1 F4.ns (look_x _ _)
      (wpAny_Name (wpAny_loadName_local (env := ksEnv qual (iS x) hp.objs.size fI (.ref cda) cc) rfl F'.l0 F4.ns (look_self F' _ _) ?_) (by decide))) F'.nd) rfl))
    refine set_plain X4 (ox := excO C t4) (od := none) ⟨hx4, rfl, rfl, trivial⟩ T.sa ?_
    refine exc_osa X4 hx4 hcl (show refsVE (.ref C :: bm) = true from hbm) rfl T.noN (fun h5 tk5 dx k5 dn dne hx5 hn5 => ?_)
    show wpAny _ _ (execs _ _) _ _ _
    refine wpAny_execs_nil (hq h5 tk5 dx t4 ⟨fun b o hb => k5 b o (fun z => by rw [z, hn0] at hb; cases hb) (F4.keep b o hb), hx5, ?_, dne, hn5⟩)
    obtain ⟨oL, _, _, hL, _⟩ := F4.ns
    exact Nat.le_trans (Nat.le_trans hsz (Nat.le_of_lt (Heap.lt_size hL))) dn
theorem sup_made (F' : FName x) (T : SupTxt prog K mg n x m C fI) {v : Value} (X : K.In s.heap) (G : s.heap.Ns mainGlobals mg) (B : ∃ mb, s.heap.Ns builtinsNs mb ∧ ∀ y : Str, y ≠ "__name__" → mb y = bootBuiltins y) (hlim : s.heap.NoLimit) (hroom : A.depth + 1 < recursionLimit)
    (hq : ∀ h' tk e d, Made s.heap h' e C d x v → R (.ok (.ret (.ref e))) { s with heap := h', toks := tk }) :
    codeAny (model prog w) A (.call (.ref C) ⟨[v], []⟩) R s := by
  obtain ⟨nm, q, N, bs, bm, sn, sub, ab, col, dd, k0, k1, k2, k3, k5, hC, hbm⟩ := T.cls
  obtain ⟨hp, g, dr, tk, os⟩ := s
  have k : ∀ b o, hp.get? b = some o → ((hp.push (kdv_tup [v])).push (excO C hp.objs.size)).get? b = some o := fun b o z => Heap.get?_push_of_some _ (Heap.get?_push_of_some _ z)
  have hget : ((hp.push (kdv_tup [v])).push (excO C hp.objs.size)).get? (hp.objs.size + 1) = some (excO C hp.objs.size) := by heap_get
  have hn0 : hp.get? (hp.objs.size + 1) = none := by
    cases z : hp.get? (hp.objs.size + 1) with
    | none => rfl
    | some o => exact absurd (Nat.lt_of_succ_lt (Heap.lt_size z)) (Nat.lt_irrefl _)
  have hsz : hp.objs.size ≤ ((hp.push (kdv_tup [v])).push (excO C hp.objs.size)).objs.size := by
    rw [Heap.size_push, Heap.size_push]
    omega
  refine call_own F.excBase_ValueError (fun Y => refsVE_contains Y bm hbm) (X _ _ hC) (looks_findIn X T.iC) (fun self => bind_fn X self T.tC) (by rw [sizeLine_eq]; exact (by decide : 1 ≤ 16777216)) ?_
  refine sup_init (s := ⟨(hp.push (kdv_tup [v])).push (excO C hp.objs.size), g, dr, tk, os⟩) F' T X G B hlim k hn0 hsz hget ?_ fun h' tk' dx t1 ⟨k', hx, dn, dne, hns⟩ => ?_
  · show A.depth + 1 < recursionLimit
    exact hroom
  · exact ⟨rfl, hq h' tk' (hp.objs.size + 1) dx ⟨k', Nat.le_succ _, ⟨_, _, hx, rfl, rfl, rfl, rfl⟩, dn, dne, hns⟩⟩
end
end SupX
end PySem

namespace DL
open PySem PySem.Spec PyProof.Rows L2
theorem relO_one {x : Str} {v : V} {v' : Value} (r : RelV v v') (f : Str) : RelO (List.lookup f [(x, v)]) (if f = x then some v' else none) := by
  by_cases h : f = x
  · subst h
    rw [if_pos rfl, show List.lookup f [(f, v)] = some v by simp [List.lookup]]
    exact r
  · have q : (f == x) = false := by simpa using h
    rw [if_neg h, show List.lookup f [(x, v)] = none by simp [List.lookup, q]]
    trivial
/-- n(e), n an own exception that stores its one argument at x -/
def tMkS (C : Addr) (x : Str) (ta : TA) : L2.St → Hp → XK → Prop := fun σ H Q => ta σ H fun vs H1 => ∃ v, vs = [v] ∧ ∀ d, H1 d = none → Q (.ref C) (some d) (upd H1 d (.xd [(x, v)]))
theorem pmk_sup {X : Cx} {C fI : Addr} {n x m : Str} {a : Expr} {ta : TA} {p pos : Pos} {k : Nat} (F' : PySem.SupX.FName x) (T : PySem.SupX.SupTxt X.prog X.K X.mg n x m C fI) (hr : Room k X.A) (ha : PA X [a] ta) (hg : Gl X n) (hdb : (n == ("__debug__" : Str)) = false)
    (he : starEach (a :: []) X.env = (false, eval a X.env) :: starEach [] X.env := by rfl) (hpl : (backTo pos (starEach [] X.env)).any (·.1) = false := by rfl) :
    PMk X (.Call (.Name n p) [a] [] pos) (tMkS C x ta) := by
  intro pins s σ H Q I h
  refine wpAny_Call_Name_kw (ld_glob I hg T.gC ?_ hdb)
  refine PySem.W.callWith_K (h₀ := X.base) I.ok.mod.kin T.kC (thn (ha.run pos pins s σ H _ I h) fun us s1 hh => ?_) he hpl
  obtain ⟨vs, H1, I1, r1, v, ev, q1⟩ := hh
  subst ev
  refine ⟨I1.kIn, ?_⟩
  cases r1 with
  | cons rv rn =>
    rename_i v' us'
    cases rn
    show wpAny _ _ (call (.ref C) [v']) _ _ _
    have hlim := I1.nolimit
    have bk := I1.bk
    have GG := I1.mod.glob.keeps bk
    obtain ⟨mb, B1, B2⟩ := I1.mod.blt
    have BB := B1.keeps bk
    obtain ⟨hp, g, dr, tk, os⟩ := s1
    refine wpAny_call (PySem.SupX.sup_made F' T I1.kIn GG ⟨mb, BB, B2⟩ hlim (by have := hr.dp; omega) fun h' tk' e d M => ?_)
    show MkP X pins σ Q (.ref e) ⟨h', g, dr, tk', os⟩
    obtain ⟨oe, fv, hoe, hc, hd, hdat, h1⟩ := M.obj
    have hns := M.ns
    obtain ⟨G', g1, g2⟩ := restrict h' fun b => decide (b ≠ e)
    have gk : ∀ b, b ≠ e → G'.get? b = h'.get? b := fun b hb => g1 b (decide_eq_true hb)
    have ge : G'.get? e = none := g2 e (by simp)
    have old : ∀ b o, hp.get? b = some o → G'.get? b = some o := fun b o q => (gk b (Nat.ne_of_lt (Nat.lt_of_lt_of_le (Heap.lt_size q) M.new))).trans (M.keep b o q)
    have ob : ObjOk X.prog X.w (upd H1 d (.xd [(x, v)])) G' d (.xd [(x, v)]) := ⟨_, hns.at (fun o q => (gk d M.dne).trans q), fun f => relO_one rv f⟩
    have J : Inv X pins σ (upd H1 d (.xd [(x, v)])) ⟨G', g, dr, tk', os⟩ := I1.laid (t' := tk') old M.dbig ob
    refine ⟨e, oe, fv, ⟨G', g, dr, tk', os⟩, _, .ref C, some d, rfl, J, fun b o q => ?_, ge, hoe, ⟨hc, hd⟩, hdat, h1, ?_, rfl, I1.bare, raises_own T.exC T.tyC, q1 d (I1.hok.fresh M.dbig)⟩
    · by_cases hb : b = e
      · have q' : G'.get? b = some o := q
        rw [hb, ge] at q'; cases q'
      · exact (gk b hb).symm.trans q
    · rw [upd_ne (Ne.symm M.dne)]
      exact I1.hok.fresh M.new
end DL

/-! DX2: try with any number of clauses, each with or without a name. -/
namespace DL
open PySem PySem.Spec PyProof.Rows L2
/-- an exception on our ground, the state behind it -/
structure Cgt (Y : Cx) (pp : List (Addr × Obj)) (B : Heap) (sI sA : Shared) (a : Addr) (σ : L2.St) (H : Hp) (cls : Value) (d : Option Addr) (h : Heap) : Prop where
  J : Inv Y pp σ H sI
  nb : ∀ b o, sI.heap.get? b = some o → b ∉ frs Y.stack → B.get? b = some o
  up : sI.heap.UpToSlots h
  os : sA.os = sI.os
  ag : AllBare sA.gens
  na : H a = none
  fl : HandSPX.FlyingZ B (Y.env :: Y.outer) a (Zc cls d) h
section
variable {Y : Cx} {pp : List (Addr × Obj)} {B : Heap} {sI sA : Shared} {a : Addr} {σ : L2.St} {H : Hp} {cls : Value} {d : Option Addr} {h : Heap}
theorem Cgt.inv (c : Cgt Y pp B sI sA a σ H cls d h) : Inv Y pp σ H { sA with heap := h } := c.J.landed c.nb c.fl.1 c.up c.os c.ag
theorem Cgt.suite (c : Cgt Y pp B sI sA a σ H cls d h) (hf : Y.env.frame = some Y.env.locals) :
    ∃ oe, h.get? a = some oe ∧ Zc cls d oe ∧ (∃ us, oe.data = .fields us) ∧ Inv (Y.suite a ((a, oe) :: (Y.pn ++ pp))) [] σ H { sA with heap := h } := by
  obtain ⟨oe, us, e1, e2, e3⟩ := c.fl.there
  have apart : a ∉ frs (Y.env :: Y.outer) := fun z => by
    obtain ⟨_, o', e', n'⟩ := c.fl.2.2.1.mem z
    rw [e1] at e'
    cases e'
    exact n' _ e3
  refine ⟨oe, e1, e2, ⟨us, e3⟩, c.inv.suite e1 e3 c.na (fun z => apart (List.mem_filterMap.mpr ⟨Y.env, List.mem_cons_self, by rw [hf, z]⟩)) fun z => ?_⟩
  obtain ⟨e, he, q⟩ := List.mem_filterMap.mp z
  exact apart (List.mem_filterMap.mpr ⟨e, List.mem_cons_of_mem _ he, q⟩)
theorem Cgt.move (c : Cgt Y pp B sI sA a σ H cls d h) {h2 : Heap} (fl : HandSPX.FlyingZ B (Y.env :: Y.outer) a (Zc cls d) h2) (up : h.UpToSlots h2) : Cgt Y pp B sI sA a σ H cls d h2 := ⟨c.J, c.nb, c.up.trans up, c.os, c.ag, c.na, fl⟩
end
/-- a clause: its class, its name's slot, its suite's reading -/
abbrev Cl := Value × Option Nat × (Addr → Value → Option Addr → TS)
def endsAt (i : Nat) (D : Ends) : Ends := { nx := fun σ' H' => D.nx (σ'.set i none) H', rt := D.rt, bk := fun σ' H' => D.bk (σ'.set i none) H', ct := fun σ' H' => D.ct (σ'.set i none) H' }
def clRun (D : Ends) (c : Cl) (cls : Value) (d : Option Addr) (σ : L2.St) (H : Hp) : Prop := ∀ a, H a = none → match c.2.1 with
  | none => c.2.2 a cls d D σ H
  | some i => c.2.2 a cls d (endsAt i D) (σ.set i (some (.ref a))) H
def wAny (K : PySem.W.Frag) (Wout : WX) (D : Ends) : List Cl → WX
  | [] => Wout
  | c :: r => fun cls d σ H => ∃ b, PySem.W.exmOne K cls c.1 = some b ∧ (b = true → clRun D c cls d σ H) ∧ (b = false → wAny K Wout D r cls d σ H)
inductive ClOk (Y : Cx) : List ExceptHandler → List Cl → Prop
  | nil : ClOk Y [] []
  | cons {x : Str} {n : Option Str} {c : Cl} {b0 : Stmt} {su : List Stmt} {np p' : Pos} {hds : List ExceptHandler} {l : List Cl} (hc : Names Y x c.1) (hn : (n = none ∧ c.2.1 = none) ∨ ∃ y i, n = some y ∧ c.2.1 = some i ∧ Y.N[i]? = some y ∧ Y.env.kindOf y = some .local)
      (hsu : ∀ (a : Addr) (oe : Obj) (cls : Value) (d : Option Addr) (pn : List (Addr × Obj)), Zc cls d oe → (∃ us, oe.data = .fields us) → PSs (Y.suite a ((a, oe) :: pn)) (b0 :: su) (c.2.2 a cls d)) (r : ClOk Y hds l) :
      ClOk Y (.ExceptHandler (some (.Name x np)) n (b0 :: su) p' :: hds) (c :: l)
section
variable {Y : Cx} {pp : List (Addr × Obj)} {B : Heap} {sI sA : Shared} {a : Addr} {σ : L2.St} {H : Hp} {cls : Value} {d : Option Addr}
theorem handled_any (hs : Y.stack = Y.env :: Y.outer) (hf : Y.env.frame = some Y.env.locals) (hN : Y.N.Nodup) {Wout : WX} (tk : Takes Y Wout) {D : Ends} {hds : List ExceptHandler} {l : List Cl} (ok : ClOk Y hds l) :
    ∀ {h : Heap}, Cgt Y pp B sI sA a σ H cls d h → wAny Y.K Wout D l cls d σ H → wpAny (model Y.prog Y.w) Y.A (handleBy (.ref a) Y.env hds) (SP Y pp D) Y.xe { sA with heap := h } := by
  induction ok with
  | nil =>
    intro h c w
    refine wpAny_handleBy_nil ?_
    obtain ⟨f1, f2, f3, oe, us, T, oT, ts', e1, e2, e3, e4, e5⟩ := id c.fl
    unfold PySem.passOn
    refine wpAny_bind (wpAny_field e1 e3 e4 ?_)
    rw [if_neg (show ¬((Value.ref T == Value.none) = true) by simp)]
    have out : wpAny (model Y.prog Y.w) Y.A (setFlight (.ref a) Y.env.frame) (fun _ z => wpAny (model Y.prog Y.w) Y.A (throw (.ref a) : Sem Flow) (SP Y pp D) Y.xe z) Y.xe { sA with heap := h } := by
      rw [hf]
      exact HandSPX.setFlight_upZ c.fl fun h4 held up4 => wpAny_throw (tk _ _ ⟨a, B, sI, pp, σ, H, cls, d, rfl, c.J, c.nb, c.up.trans up4, .inr (.inr (by rw [hs]; exact held)), c.na, c.os, c.ag, w⟩)
    first
      | exact wpAny_bind (wpAny_pure (wpAny_bind out))
      | exact wpAny_bind out
  | @cons x n cl b0 su np p' hds2 l2 hc hn hsu r ih =>
    intro h c w
    obtain ⟨b, hb1, yes, no⟩ := w
    refine wpAny_handleBy_cons (codeAny_handlers_test ?_) (by intro q; cases q)
    obtain ⟨oe, e1, e2, e3, S0⟩ := c.suite hf
    have isT : PySem.W.Looks (model Y.prog Y.w) h (typeOf (.ref a)) cls := fun A Q E z k q => wpAny_typeOf_ref (k _ _ e1) (by rw [e2.1]; exact q)
    have fits := PySem.W.exm_one (M := model Y.prog Y.w) c.inv.kIn isT hb1
    have named : ∀ {Q E : Value → Shared → Prop}, Q cl.1 { sA with heap := h } → wpAny (model Y.prog Y.w) (Y.A.mark (some (.ref a))) (eval (.Name x np) Y.env) Q E { sA with heap := h } := fun {Q E} q => by
      obtain ⟨g1, g2, g3 | ⟨g3, g4, g5⟩⟩ := hc
      · exact ld_glob (X := Y.suite a ((a, oe) :: (Y.pn ++ pp))) S0 g1 g3 q g2
      · exact ld_blt (X := Y.suite a ((a, oe) :: (Y.pn ++ pp))) S0 g1 g3 g4 q g5 g2
    refine named (fits.here ?_)
    cases b with
    | false =>
      show wpAny _ Y.A (handleBy (.ref a) Y.env hds2) _ _ _
      exact ih c (no rfl)
    | true =>
      have go := yes rfl a c.na
      rcases hn with ⟨rfl, e⟩ | ⟨y, i, rfl, e, hi, hl⟩
      · rw [e] at go
        refine codeAny_handlers_suite (HandSPX.lands_againZ c.fl fun h4 fl4 up4 => ?_)
        have c4 := c.move fl4 up4
        obtain ⟨oe4, a1, a2, a3, S4⟩ := c4.suite hf
        refine wpAny_mono ((hsu a oe4 cls d (Y.pn ++ pp) a2 a3).run [] _ _ H _ S4 go) (fun f z q => ?_) fun _ _ z => False.elim z
        cases f with
        | next => obtain ⟨σ6, H6, T6, q6⟩ := q; exact ⟨_, _, T6.unsuite c.J.ok, q6⟩
        | brk => obtain ⟨σ6, H6, T6, q6⟩ := q; exact ⟨_, _, T6.unsuite c.J.ok, q6⟩
        | cont => obtain ⟨σ6, H6, T6, q6⟩ := q; exact ⟨_, _, T6.unsuite c.J.ok, q6⟩
        | ret u => obtain ⟨v6, σ6, H6, T6, r6, q6⟩ := q; exact ⟨_, _, _, T6.unsuite c.J.ok, r6, q6⟩
      · rw [e] at go
        refine codeAny_handlers_suite_as (HandSPX.lands_againZ c.fl fun h4 fl4 up4 => ?_)
        have c4 := c.move fl4 up4
        obtain ⟨oe4, a1, a2, a3, S4⟩ := c4.suite hf
        refine store_ok (X := Y.suite a ((a, oe4) :: (Y.pn ++ pp))) (v := .ref a) S4 hN hi (.inl hl) rfl (fun s5 S5 => ?_) (.inr hl)
        refine wpAny_mono ((hsu a oe4 cls d (Y.pn ++ pp) a2 a3).run [] s5 _ H _ S5 go) (fun f z q => ?_) fun _ _ z => False.elim z
        have gone : ∀ {σ6 : L2.St} {H6 : Hp} {Q : Shared → Prop}, Inv (Y.suite a ((a, oe4) :: (Y.pn ++ pp))) [] σ6 H6 z → (∀ z7, Inv Y pp (σ6.set i none) H6 z7 → Q z7) →
            wpAny (model Y.prog Y.w) Y.A (do bindName Y.env y .none; unbindBehindTheSuite Y.env y p') (fun _ z7 => Q z7) Y.xe z := fun {σ6 H6 Q} T6 hq => gone_ok (T6.unsuite c.J.ok) hN hi hl hq
        cases f with
        | next => obtain ⟨σ6, H6, T6, q6⟩ := q; exact gone T6 fun z7 J7 => ⟨_, _, J7, q6⟩
        | brk => obtain ⟨σ6, H6, T6, q6⟩ := q; exact gone T6 fun z7 J7 => ⟨_, _, J7, q6⟩
        | cont => obtain ⟨σ6, H6, T6, q6⟩ := q; exact gone T6 fun z7 J7 => ⟨_, _, J7, q6⟩
        | ret u => obtain ⟨v6, σ6, H6, T6, r6, q6⟩ := q; exact gone T6 fun z7 J7 => ⟨_, _, _, J7, r6, q6⟩
end
theorem ps_try_any {Y : Cx} {body : List Stmt} {h0 : ExceptHandler} {hds : List ExceptHandler} {l : List Cl} {pos : Pos} {tb : WX → TS} {Wout : WX} (hs : Y.stack = Y.env :: Y.outer) (hf : Y.env.frame = some Y.env.locals) (hN : Y.N.Nodup) (tk : Takes Y Wout)
    (hb : ∀ (W : WX) (pn : List (Addr × Obj)) (xe : Value → Shared → Prop), Takes (Y.tr pn xe) W → PassesOwn (model Y.prog Y.w) Y.A Y.env xe → PSs (Y.tr pn xe) body (tb W)) (hh : ClOk Y (h0 :: hds) l) :
    PS Y (.Try body (h0 :: hds) [] [] pos) (fun D σ H => tb (wAny Y.K Wout D l) D σ H) := by
  refine ⟨fun pp s σ H D I q => ?_⟩
  have ok := I.ok
  have fr : Y.A.frames = some (Y.env :: Y.outer) := by rw [ok.frames, hs]
  refine wpAny_Try_except (wpAny_mono ((hb (wAny Y.K Wout D l) (Y.pn ++ pp) (fun e z1 => wpAny (model Y.prog Y.w) Y.A (noteFrame e Y.env) (fun _ z2 => wpAny (model Y.prog Y.w) Y.A (setFlight e none) (fun _ z3 =>
    wpAny (model Y.prog Y.w) Y.A (handleBy e Y.env (h0 :: hds)) (SP Y pp D) Y.xe z3) Y.xe z2) Y.xe z1) (fun u sA xx => ?_) PassesOwn.looking).run [] s σ H D (I.toTry _) q) (fun f z q => ?_) fun e z q => q)
  · obtain ⟨a, B, sI, pins', σ', H', cls, d, rfl, J', nb, up, sky, na, os, ag, w⟩ := xx
    have sk : Sky B (Y.env :: Y.outer) a (Zc cls d) Y.env.locals sA.heap := by rw [← hs]; exact sky
    show wpAny _ _ (noteFrame (.ref a) Y.env) _ _ _
    exact Sky.land Zc.steady fr hf sk fun h3 fl3 up3 => handled_any hs hf hN tk hh ⟨J'.ofTry ok, nb, up.trans up3, os, ag, na, fl3⟩ w
  · cases f with
    | next => obtain ⟨σ', H', J', q⟩ := q; exact wpAny_execs_nil ⟨σ', H', J'.ofTry ok, q⟩
    | brk => obtain ⟨σ', H', J', q⟩ := q; exact ⟨σ', H', J'.ofTry ok, q⟩
    | cont => obtain ⟨σ', H', J', q⟩ := q; exact ⟨σ', H', J'.ofTry ok, q⟩
    | ret u => obtain ⟨v, σ', H', J', r, q⟩ := q; exact ⟨v, σ', H', J'.ofTry ok, r, q⟩
end DL

/-! DX3: raise, try .. except, the caught exception's field and classes. -/
namespace DL
open PySem PySem.Spec PyProof.Rows L2
/-- the exception classes: each with its ancestors among them, itself included -/
abbrev ExTab := List (Str × List Str)
structure ExT (K : PySem.W.Frag) (mg : Str → Option Value) (T : ExTab) : Prop where
  cls : ∀ q ∈ T, ∃ C, mg q.1 = some (.ref C)
  exm : ∀ q ∈ T, ∀ r ∈ T, ∀ C D, mg q.1 = some (.ref C) → mg r.1 = some (.ref D) → PySem.W.exmOne K (.ref C) (.ref D) = some (q.2.contains r.1) ∧ PySem.W.kitOne K (.ref C) (.ref D) = some (q.2.contains r.1)
  ve : ∀ q ∈ T, ∀ C, mg q.1 = some (.ref C) → PySem.W.kitOne K (.ref C) (.type "ValueError") = some true
  own : ∀ q ∈ T, ∀ C, mg q.1 = some (.ref C) → ExcC K C
/-- classes whose instances have a field -/
abbrev FdTab := List (Str × Str)
structure FdT (K : PySem.W.Frag) (mg : Str → Option Value) (F : FdTab) : Prop where
  fd : ∀ q ∈ F, ∀ C, mg q.1 = some (.ref C) → XfC K C ∧ PySem.W.findIn K (.ref C) q.2 = some none
/-- a class without __init__ of its own -/
def Ex0 (K : PySem.W.Frag) (mg : Str → Option Value) (x : Str) : Prop := ∃ C, mg x = some (.ref C) ∧ PySem.W.excIn K C He.veBase "ValueError.__new__" = true ∧ PySem.W.keepIn K (.ref C) = true ∧ PySem.W.subIn K (.ref C) (.type "BaseException") = some true ∧ PySem.W.typeIn K (.ref C) = some (.type "type")
/-- a class whose __init__ stores its one argument -/
def Ex1 (P : Program) (K : PySem.W.Frag) (mg : Str → Option Value) (x f : Str) : Prop := PySem.SupX.FName f ∧ ∃ m C fI, PySem.SupX.SupTxt P K mg x f m C fI
section
variable {X : Cx} {W : WA} {x f m : Str} {j : Nat} {p p2 pos pos2 : Pos}
/-! ### raise -/
theorem rsraise0 (E : Ex0 X.K X.mg x) (tk : Takes X W.x) (hc : X.calm = true := by rfl) (hg : Gl X x := by rfl) (hdb : (x == ("__debug__" : Str)) = false := by decide) :
    RS X W (.Raise (some (.Call (.Name x p) [.Constant (.str m) j p2] [] pos)) none pos2) (fun α => .er ⟨x, none⟩ α) := by
  obtain ⟨C, gC, q, kC, h1, h2⟩ := E
  exact PS.imp (ps_raise hc tk (pmk_own PySem.F.excBase_ValueError q gC kC (raises_own h1 h2) hg hdb)) fun D0 σ H ⟨G0, H0, G, α, S, o⟩ => o (.ref C) none σ G H (Same.refl _) S ⟨C, gC, rfl, rfl⟩
def sRaise (x f : Str) (d : At → Res D) : At → Out := fun α => ofR (d α) α fun v => .er ⟨x, some (f, v)⟩ α
theorem rsraise1 {a : Expr} {d : At → Res D} {k : Nat} (E : Ex1 X.prog X.K X.mg x f) (hr : Room k X.A) (tk : Takes X W.x) (ha : SE X W a d) (hc : X.calm = true := by rfl) (hg : Gl X x := by rfl) (hdb : (x == ("__debug__" : Str)) = false := by decide)
    (he : starEach (a :: []) X.env = (false, eval a X.env) :: starEach [] X.env := by rfl) (hpl : (backTo pos (starEach [] X.env)).any (·.1) = false := by rfl) :
    RS X W (.Raise (some (.Call (.Name x p) [a] [] pos)) none pos2) (sRaise x f d) := by
  obtain ⟨F', m', C, fI, T⟩ := E
  exact PS.imp (ps_raise hc tk (pmk_sup F' T hr (pa_cons ha pa_nil he) hg hdb he hpl)) fun D0 σ H ⟨G0, H0, G, α, S, o⟩ =>
    ⟨G0, H0, G, α, S, ofR_run S o fun v ev G' H' g S' o' u ru => ⟨u, rfl, fun dd hd => by
      have g2 : Gr G' H' G' (upd H' dd (.xd [(f, u)])) := (Gr.refl S'.gr.s).put hd (S'.gr.s.free hd)
      exact o' (.ref C) (some dd) σ G' _ (Same.refl _) (S'.grow g2) ⟨C, T.gC, rfl, dd, u, rfl, S'.gr.h.free hd, upd_same, ru⟩⟩⟩
end
/-! ### a suite's ambient: the exception -/
def ExA (K : PySem.W.Frag) (w : World) (mg : Str → Option Value) (cls : Value) (d : Option Addr) (er : Er) (G : Hp) : Prop := ∃ C, mg er.cls = some (.ref C) ∧ cls = .ref C ∧ match er.arg with
  | none => d = none
  | some (f, x) => ∃ dd v, d = some dd ∧ G dd = some (.xd [(f, v)]) ∧ Rp K w G v x
theorem ExA.mono {K : PySem.W.Frag} {w : World} {mg : Str → Option Value} {cls : Value} {d : Option Addr} {er : Er} {G G' : Hp} (s : Same G G') (h : ExA K w mg cls d er G) : ExA K w mg cls d er G' := by
  obtain ⟨C, h1, h2, h3⟩ := h
  refine ⟨C, h1, h2, ?_⟩
  split at h3
  · exact h3
  · obtain ⟨dd, v, q1, q2, q3⟩ := h3
    exact ⟨dd, v, q1, s _ _ q2, q3.mono s⟩
/-- with the exception at a in slot i -/
def suW (K : PySem.W.Frag) (w : World) (mg : Str → Option Value) (W : WA) (i : Nat) (a : Addr) (cls : Value) (d : Option Addr) (er : Er) : WA :=
  ⟨fun _ _ _ _ => False, fun G σ => W.am G σ ∧ σ[i]? = some (some (.ref a)) ∧ ExA K w mg cls d er G, fun G G' σ s h => ⟨W.mono _ _ _ s h.1, h.2.1, h.2.2.mono s⟩, fun j => W.ok j && decide (j ≠ i), fun j v G σ h q => by
    obtain ⟨h1, h2⟩ := Bool.and_eq_true_iff.mp h
    exact ⟨W.set _ _ _ _ h1 q.1, by rw [List.getElem?_set_ne (of_decide_eq_true h2)]; exact q.2.1, q.2.2⟩⟩
/-- without a name -/
def suW0 (W : WA) : WA := ⟨fun _ _ _ _ => False, W.am, W.mono, W.ok, W.set⟩
def WA.to (W : WA) (x : WX) : WA := ⟨x, W.am, W.mono, W.ok, W.set⟩
theorem Sv.cast {K : PySem.W.Frag} {w : World} {W W' : WA} {G0 H0 G H : Hp} {σ : L2.St} {α : At} (S : Sv K w W G0 H0 G H σ α) (h : W'.am G σ) : Sv K w W' G0 H0 G H σ α := ⟨S.gr, S.len, S.dat, S.own, S.sep, h⟩
theorem Sv.forget {K : PySem.W.Frag} {w : World} {W : WA} {G0 H0 G H : Hp} {σ : L2.St} {α : At} (S : Sv K w W G0 H0 G H σ α) (i : Nat) (y : Option V) (hw : W.ok i = true) : Sv K w W G0 H0 G H (σ.set i y) (α.set i .un) := by
  have at_ : ∀ (j : Nat) (a : AV), a ≠ .un → (α.set i .un)[j]? = some a → j ≠ i ∧ α[j]? = some a := fun j a na e => by
    by_cases q : j = i
    · subst q
      by_cases hl : j < α.length
      · rw [List.getElem?_set_self hl] at e
        cases e
        exact absurd rfl na
      · rw [List.getElem?_eq_none (by simpa using hl)] at e
        cases e
    · rw [List.getElem?_set_ne (Ne.symm q)] at e
      exact ⟨q, e⟩
  refine ⟨S.gr, by simpa using S.len, fun j x e => ?_, fun j ds e => ?_, fun j k ds es p ne e1 e2 e3 e4 => ?_, W.set _ _ _ _ hw S.am⟩
  · obtain ⟨n, e⟩ := at_ j (.dat x) (by intro z; cases z) e
    rw [List.getElem?_set_ne (Ne.symm n)]
    exact S.dat j x e
  · obtain ⟨n, e⟩ := at_ j (.own ds) (by intro z; cases z) e
    rw [List.getElem?_set_ne (Ne.symm n)]
    exact S.own j ds e
  · obtain ⟨n1, e1⟩ := at_ j (.own ds) (by intro z; cases z) e1
    obtain ⟨n2, e2⟩ := at_ k (.own es) (by intro z; cases z) e2
    rw [List.getElem?_set_ne (Ne.symm n1)] at e3
    rw [List.getElem?_set_ne (Ne.symm n2)] at e4
    exact S.sep j k ds es p ne e1 e2 e3 e4
/-- the exception's dict is read from here on -/
theorem Sv.addX {K : PySem.W.Frag} {w : World} {mg : Str → Option Value} {W : WA} {G0 H0 G H : Hp} {σ : L2.St} {α : At} {er : Er} {cls : Value} {d : Option Addr} (S : Sv K w W G0 H0 G H σ α) (z : ErR K w mg er cls d H0 G H) :
    ∃ G', Same G G' ∧ Sv K w W G0 H0 G' H σ α ∧ ExA K w mg cls d er G' := by
  obtain ⟨C, h1, h2, h3⟩ := z
  unfold ExA
  cases q : er.arg with
  | none =>
    rw [q] at h3
    exact ⟨G, Same.refl _, S, C, h1, h2, h3⟩
  | some fx =>
    obtain ⟨f, x⟩ := fx
    rw [q] at h3
    obtain ⟨a, v, q1, q2, q3, q4⟩ := h3
    show ∃ G', Same G G' ∧ Sv K w W G0 H0 G' H σ α ∧ ∃ C, mg er.cls = some (.ref C) ∧ cls = .ref C ∧ ∃ dd v, d = some dd ∧ G' dd = some (.xd [(f, v)]) ∧ Rp K w G' v x
    by_cases hg : G a = none
    · have s : Same G (upd G a (.xd [(f, v)])) := same_upd hg
      refine ⟨upd G a (.xd [(f, v)]), s, ⟨⟨S.gr.g.trans s, fun c o e => ?_, S.gr.h, fun c n1 n2 => ?_⟩, S.len, fun i y e => ?_, fun i ds e => ?_, S.sep, W.mono _ _ _ s S.am⟩, C, h1, h2, a, v, q1, upd_same, q4.mono s⟩
      · by_cases hc : c = a
        · subst hc; rw [upd_same] at e; cases e; exact q3
        · rw [upd_ne hc] at e; exact S.gr.s c o e
      · rw [upd_ne (fun e => by rw [e] at n1; exact n1 q2)]
        exact S.gr.o c n1 n2
      · obtain ⟨u, e1, e2⟩ := S.dat i y e
        exact ⟨u, e1, e2.mono s⟩
      · obtain ⟨p, vs, b1, b2, b3, b4, b5⟩ := S.own i ds e
        have ne : p ≠ a := fun e => by rw [e, q3] at b4; cases b4
        exact ⟨p, vs, b1, b2, by rw [upd_ne ne]; exact b3, b4, RpAll.mono s b5⟩
    · cases e : G a with
      | none => exact absurd e hg
      | some o =>
        have e' := S.gr.s _ _ e
        rw [q3] at e'
        cases e'
        exact ⟨G, Same.refl _, S, C, h1, h2, a, v, q1, e, q4⟩
/-! ### try -/
structure Hd where
  c : Str
  i : Option Nat
  su : Er → At → Out
def unset (i : Nat) : Out → Out
  | .nx α => .nx (α.set i .un)
  | .bk α => .bk (α.set i .un)
  | .ct α => .ct (α.set i .un)
  | .rt d => .rt d
  | _ => .no
def calmO : Out → Out
  | .er _ _ => .no
  | o => o
def hdRun (h : Hd) (e : Er) (α : At) : Out := match h.i with
  | none => calmO (h.su e α)
  | some i => if i < α.length then unset i (h.su e (α.set i .un)) else .no
def sHs (T : ExTab) : List Hd → Er → At → Out
  | [], e, α => .er e α
  | h :: r, e, α => match T.lookup e.cls with
    | none => .no
    | some l => if l.contains h.c = true then hdRun h e α else sHs T r e α
def sTry (T : ExTab) (body : At → Out) (hs : List Hd) : At → Out := fun α => match body α with
  | .er e α' => sHs T hs e α'
  | o => o
theorem lookup_memT {T : ExTab} {x : Str} {l : List Str} (h : T.lookup x = some l) : (x, l) ∈ T := by
  induction T with
  | nil => cases h
  | cons q r ih =>
    obtain ⟨y, k⟩ := q
    by_cases e : x = y
    · subst e
      simp [List.lookup] at h
      subst h
      exact List.mem_cons_self
    · have e' : (x == y) = false := by simpa using e
      simp only [List.lookup, e'] at h
      exact List.mem_cons_of_mem _ (ih h)
section
variable {X : Cx} {W : WA}
theorem PSs.ex {X : Cx} {ι : Type} {st : List Stmt} {t : ι → TS} (h : ∀ i, PSs X st (t i)) : PSs X st (fun D σ H => ∃ i, t i D σ H) := ⟨fun pins s σ H D I ⟨i, q⟩ => (h i).run pins s σ H D I q⟩
theorem takesF {X : Cx} : Takes X (fun _ _ _ _ => False) := fun _ _ ⟨_, _, _, _, _, _, _, _, _, _, _, _, _, _, _, _, q⟩ => q.elim
/-- a clause's reading -/
def hdCl (X : Cx) (W : WA) (h : Hd) : Cl := ((X.mg h.c).getD .none, h.i, fun a cls d D σ H => ∃ er : Er, match h.i with
  | none => TSs X (suW0 W) (h.su er) D σ H
  | some i => TSs X (suW X.K X.w X.mg W i a cls d er) (h.su er) D σ H)
inductive HdOk (X : Cx) (W : WA) (T : ExTab) : List ExceptHandler → List Hd → Prop
  | nil : HdOk X W T [] []
  | named {x n : Str} {i : Nat} {su : Er → At → Out} {b0 : Stmt} {ss : List Stmt} {np p' : Pos} {hds : List ExceptHandler} {l : List Hd} (hT : T.any (fun q => decide (q.1 = x)) = true) (hg : Gl X x) (hdb : (x == ("__debug__" : Str)) = false) (hi : X.N[i]? = some n) (hl : X.env.kindOf n = some .local) (hw : W.ok i = true)
      (hsu : ∀ (a : Addr) (oe : Obj) (cls : Value) (d : Option Addr) (pn : List (Addr × Obj)) (er : Er), Zc cls d oe → (∃ us, oe.data = .fields us) → RSs (X.suite a ((a, oe) :: pn)) (suW X.K X.w X.mg W i a cls d er) (b0 :: ss) (su er)) (r : HdOk X W T hds l) :
      HdOk X W T (.ExceptHandler (some (.Name x np)) (some n) (b0 :: ss) p' :: hds) (⟨x, some i, su⟩ :: l)
  | plain {x : Str} {su : Er → At → Out} {b0 : Stmt} {ss : List Stmt} {np p' : Pos} {hds : List ExceptHandler} {l : List Hd} (hT : T.any (fun q => decide (q.1 = x)) = true) (hg : Gl X x) (hdb : (x == ("__debug__" : Str)) = false)
      (hsu : ∀ (a : Addr) (oe : Obj) (pn : List (Addr × Obj)) (er : Er), RSs (X.suite a ((a, oe) :: pn)) (suW0 W) (b0 :: ss) (su er)) (r : HdOk X W T hds l) :
      HdOk X W T (.ExceptHandler (some (.Name x np)) none (b0 :: ss) p' :: hds) (⟨x, none, su⟩ :: l)
theorem HdOk.cl {T : ExTab} (E : ExT X.K X.mg T) {hds : List ExceptHandler} {l : List Hd} (h : HdOk X W T hds l) : ClOk X hds (l.map (hdCl X W)) := by
  induction h with
  | nil => exact .nil
  | @named x n i su b0 ss np p' hds2 l2 hT hg hdb hi hl hw hsu r ih =>
    obtain ⟨q, hq, e⟩ := List.any_eq_true.mp hT
    obtain ⟨C, hC⟩ := E.cls q hq
    rw [of_decide_eq_true e] at hC
    refine .cons ⟨hg, hdb, .inl ?_⟩ (.inr ⟨n, i, rfl, rfl, hi, hl⟩) (fun a oe cls d pn hz hf => PSs.ex fun er => hsu a oe cls d pn er hz hf) ih
    show X.mg x = some ((X.mg x).getD .none)
    rw [hC]; rfl
  | @plain x su b0 ss np p' hds2 l2 hT hg hdb hsu r ih =>
    obtain ⟨q, hq, e⟩ := List.any_eq_true.mp hT
    obtain ⟨C, hC⟩ := E.cls q hq
    rw [of_decide_eq_true e] at hC
    refine .cons ⟨hg, hdb, .inl ?_⟩ (.inl ⟨rfl, rfl⟩) (fun a oe cls d pn hz hf => PSs.ex fun er => hsu a oe pn er) ih
    show X.mg x = some ((X.mg x).getD .none)
    rw [hC]; rfl
theorem OutP.cast {K : PySem.W.Frag} {w : World} {mg : Str → Option Value} {W W' : WA} {D D' : Ends} {G0 H0 G : Hp} {o : Out} (h : OutP K w mg W D G0 H0 G o) (ha : ∀ G σ, W'.am G σ → W.am G σ) (hx : ∀ e α, o = .er e α → False)
    (e1 : D'.nx = D.nx) (e2 : D'.bk = D.bk) (e3 : D'.ct = D.ct) (e4 : D'.rt = D.rt) : OutP K w mg W' D' G0 H0 G o := by
  cases o with
  | nx α => exact fun σ' G' H' s S => by rw [e1]; exact h σ' G' H' s (S.cast (ha _ _ S.am))
  | bk α => exact fun σ' G' H' s S => by rw [e2]; exact h σ' G' H' s (S.cast (ha _ _ S.am))
  | ct α => exact fun σ' G' H' s S => by rw [e3]; exact h σ' G' H' s (S.cast (ha _ _ S.am))
  | rt d => exact fun G' H' s g v r => by rw [e4]; exact h G' H' s g v r
  | er e α => exact (hx e α rfl).elim
  | no => exact h
theorem OutP.un {K : PySem.W.Frag} {w : World} {mg : Str → Option Value} {W W' : WA} {D : Ends} {G0 H0 G : Hp} {i : Nat} {o : Out} (h : OutP K w mg W D G0 H0 G (unset i o)) (hw : W.ok i = true) (ha : ∀ G σ, W'.am G σ → W.am G σ) : OutP K w mg W' (endsAt i D) G0 H0 G o := by
  cases o with
  | nx α => exact fun σ' G' H' s S => h _ G' H' s (((S.cast (ha _ _ S.am)).forget i none hw))
  | bk α => exact fun σ' G' H' s S => h _ G' H' s (((S.cast (ha _ _ S.am)).forget i none hw))
  | ct α => exact fun σ' G' H' s S => h _ G' H' s (((S.cast (ha _ _ S.am)).forget i none hw))
  | rt d => exact h
  | er e α => exact h.elim
  | no => exact h.elim
theorem hs_run {T : ExTab} (E : ExT X.K X.mg T) {D : Ends} {G0 H0 : Hp} {er : Er} {α : At} : ∀ {hds : List ExceptHandler} {l : List Hd}, HdOk X W T hds l → ∀ {G : Hp}, OutP X.K X.w X.mg W D G0 H0 G (sHs T l er α) →
    ∀ (cls : Value) (dd : Option Addr) (σ : L2.St) (G' H' : Hp), Same G G' → Sv X.K X.w W G0 H0 G' H' σ α → ErR X.K X.w X.mg er cls dd H0 G' H' → wAny X.K W.x D (l.map (hdCl X W)) cls dd σ H' := by
  intro hds l h
  have step : ∀ (x : Str) (i : Option Nat) (su : Er → At → Out) (l2 : List Hd), T.any (fun q => decide (q.1 = x)) = true → (∀ {G : Hp}, OutP X.K X.w X.mg W D G0 H0 G (sHs T l2 er α) →
      ∀ (cls : Value) (dd : Option Addr) (σ : L2.St) (G' H' : Hp), Same G G' → Sv X.K X.w W G0 H0 G' H' σ α → ErR X.K X.w X.mg er cls dd H0 G' H' → wAny X.K W.x D (l2.map (hdCl X W)) cls dd σ H') → (∀ j, i = some j → W.ok j = true) →
      ∀ {G : Hp}, OutP X.K X.w X.mg W D G0 H0 G (sHs T (⟨x, i, su⟩ :: l2) er α) → ∀ (cls : Value) (dd : Option Addr) (σ : L2.St) (G' H' : Hp), Same G G' → Sv X.K X.w W G0 H0 G' H' σ α → ErR X.K X.w X.mg er cls dd H0 G' H' → wAny X.K W.x D ((⟨x, i, su⟩ :: l2 : List Hd).map (hdCl X W)) cls dd σ H' := by
    intro x i su l2 hT ih hok G q cls dd σ G' H' s S z
    obtain ⟨r, hr, e⟩ := List.any_eq_true.mp hT
    have e := of_decide_eq_true e
    obtain ⟨Dc, hD⟩ := E.cls r hr
    obtain ⟨C, z1, z2, z3⟩ := id z
    unfold sHs at q
    cases hl : T.lookup er.cls with
    | none => rw [hl] at q; exact q.elim
    | some anc =>
      rw [hl] at q
      have q : OutP X.K X.w X.mg W D G0 H0 G (if anc.contains x = true then hdRun ⟨x, i, su⟩ er α else sHs T l2 er α) := q
      have hx := (E.exm _ (lookup_memT hl) r hr C Dc z1 hD).1
      rw [e] at hx hD
      refine ⟨anc.contains x, ?_, fun hb => ?_, fun hb => ?_⟩
      · show PySem.W.exmOne X.K cls ((X.mg x).getD .none) = _
        rw [hD, z2]
        exact hx
      · rw [if_pos hb] at q
        unfold hdRun at q
        intro a na
        cases i with
        | none =>
          show ∃ er : Er, TSs X (suW0 W) (su er) D σ H'
          refine ⟨er, G0, H0, G', α, S.cast S.am, ?_⟩
          have q : OutP X.K X.w X.mg W D G0 H0 G (calmO (su er α)) := q
          have q' := q.mono s
          cases ho : su er α with
          | er e' α' => rw [ho] at q'; exact q'.elim
          | nx α' => rw [ho] at q'; exact OutP.cast (W' := suW0 W) (show OutP X.K X.w X.mg W D G0 H0 G' (.nx α') from q') (fun _ _ h => h) (fun _ _ z => nomatch z) rfl rfl rfl rfl
          | bk α' => rw [ho] at q'; exact OutP.cast (W' := suW0 W) (show OutP X.K X.w X.mg W D G0 H0 G' (.bk α') from q') (fun _ _ h => h) (fun _ _ z => nomatch z) rfl rfl rfl rfl
          | ct α' => rw [ho] at q'; exact OutP.cast (W' := suW0 W) (show OutP X.K X.w X.mg W D G0 H0 G' (.ct α') from q') (fun _ _ h => h) (fun _ _ z => nomatch z) rfl rfl rfl rfl
          | rt d' => rw [ho] at q'; exact q'
          | no => rw [ho] at q'; exact q'.elim
        | some i =>
          show ∃ er : Er, TSs X (suW X.K X.w X.mg W i a cls dd er) (su er) (endsAt i D) (σ.set i (some (.ref a))) H'
          have q : OutP X.K X.w X.mg W D G0 H0 G (if i < α.length then unset i (su er (α.set i .un)) else .no) := q
          have hw := hok i rfl
          obtain ⟨G2, s2, S2, ex⟩ := S.addX z
          by_cases hi' : i < α.length
          · rw [if_pos hi'] at q
            have hi : i < σ.length := Nat.lt_of_lt_of_le hi' S.len
            exact ⟨er, G0, H0, G2, _, (S2.forget i (some (.ref a)) hw).cast ⟨(S2.forget i (some (.ref a)) hw).am, List.getElem?_set_self hi, ex⟩, OutP.un (q.mono (s.trans s2)) hw fun _ _ h => h.1⟩
          · rw [if_neg hi'] at q
            exact q.elim
      · rw [if_neg (by rw [hb]; decide)] at q
        exact ih q cls dd σ G' H' s S z
  induction h with
  | nil => exact fun q cls dd σ G' H' s S z => q cls dd σ G' H' s S z
  | @named x n i su b0 ss np p' hds2 l2 hT hg hdb hi hl hw hsu r ih => exact step x (some i) su l2 hT (fun q => ih q) fun j ej => by cases ej; exact hw
  | @plain x su b0 ss np p' hds2 l2 hT hg hdb hsu r ih => exact step x none su l2 hT (fun q => ih q) fun j ej => nomatch ej
end
end DL

/-! DX4: the rule of try; the caught exception's field and classes. -/
namespace DL
open PySem PySem.Spec PyProof.Rows L2
section
variable {X : Cx} {W : WA}
theorem rstry {T : ExTab} (E : ExT X.K X.mg T) {body : List Stmt} {h0 : ExceptHandler} {hds : List ExceptHandler} {hs : List Hd} {db : At → Out} {pos : Pos} (hst : X.stack = X.env :: X.outer) (hfr : X.env.frame = some X.env.locals) (hN : X.N.Nodup) (tk : Takes X W.x)
    (hb : ∀ (W' : WX) (pn : List (Addr × Obj)) (xe : Value → Shared → Prop), Takes (X.tr pn xe) W' → PassesOwn (model X.prog X.w) X.A X.env xe → RSs (X.tr pn xe) (W.to W') body db) (hh : HdOk X W T (h0 :: hds) hs) :
    RS X W (.Try body (h0 :: hds) [] [] pos) (sTry T db hs) :=
  PS.imp (ps_try_any (tb := fun W' => TSs X (W.to W') db) hst hfr hN tk (fun W' pn xe t p => hb W' pn xe t p) (hh.cl E)) fun D σ H ⟨G0, H0, G, α, S, q⟩ => by
    refine ⟨G0, H0, G, α, S.cast S.am, ?_⟩
    unfold sTry at q
    cases ho : db α with
    | er e α' =>
      rw [ho] at q
      exact fun cls dd σ' G' H' s S' z => hs_run E hh q cls dd σ' G' H' s (S'.cast S'.am) z
    | nx α' => rw [ho] at q; exact fun σ' G' H' s S' => q σ' G' H' s (S'.cast S'.am)
    | bk α' => rw [ho] at q; exact fun σ' G' H' s S' => q σ' G' H' s (S'.cast S'.am)
    | ct α' => rw [ho] at q; exact fun σ' G' H' s S' => q σ' G' H' s (S'.cast S'.am)
    | rt d => rw [ho] at q; exact q
    | no => rw [ho] at q; exact q
/-! ### in a suite -/
def dEr (F : FdTab) (er : Er) (f : Str) : Bt → Res D := fun _ => match er.arg with
  | some (g, x) => if g = f ∧ F.contains (er.cls, f) = true then .ok x else .no
  | none => .no
def dIsX (T : ExTab) (er : Er) (c : Str) : Bt → Res D := fun _ => match T.lookup er.cls with
  | some l => .ok (.bool (l.contains c))
  | none => .no
def dIsV (T : ExTab) (er : Er) : Bt → Res D := fun _ => match T.lookup er.cls with
  | some l => .ok (.bool true)
  | none => .no
section
variable {a : Addr} {oe : Obj} {cls : Value} {d : Option Addr} {pn : List (Addr × Obj)} {er : Er} {i : Nat} {n f c : Str} {p p1 p2 pos : Pos}
/-- e.f -/
theorem refx {F : FdTab} (T : FdT X.K X.mg F) (hz : Zc cls d oe) (hf : ∃ vs, oe.data = .fields vs) (hi : X.N[i]? = some n := by rfl) (hv : Vis X.env.scope n := by first | exact Or.inl rfl | exact Or.inr (Or.inl rfl) | exact Or.inr (Or.inr rfl)) (hd : (n == ("__debug__" : Str)) = false := by decide)
    (hcd : (n == ("__classdict__" : Str)) = false := by decide) (hb : attributeBase (.Name n p) f X.env (eval (.Name n p) X.env) = eval (.Name n p) X.env := by rfl) :
    RE (X.suite a ((a, oe) :: pn)) (suW X.K X.w X.mg W i a cls d er) (.Attribute (.Name n p) f pos) (dEr F er f) := by
  refine ⟨fun pins s σ H Q I h => ?_⟩
  obtain ⟨G, β, sm, ev, rp⟩ := h
  obtain ⟨_, hs, C, gC, ec, ha⟩ := ev.2.2
  unfold dEr at rp
  cases q : er.arg with
  | none => rw [q] at rp; exact rp.elim
  | some gx =>
    obtain ⟨g, x⟩ := gx
    rw [q] at rp ha
    obtain ⟨dd, v, e1, e2, e3⟩ := ha
    have rp2 : RP X.K X.w X.mg (suW X.K X.w X.mg W i a cls d er) σ G H (fun d G' H' => ∀ v, Rp X.K X.w G' v d → Q v H') (if g = f ∧ F.contains (er.cls, f) = true then .ok x else .no) := rp
    by_cases hc : g = f ∧ F.contains (er.cls, f) = true
    · rw [if_pos hc] at rp2
      obtain ⟨rfl, hm⟩ := hc
      obtain ⟨TX, hno⟩ := T.fd _ (by simpa using hm) C gC
      subst ec
      exact (pe_xf (X := X) TX hno hz hf (pe_var (X := X.suite a ((a, oe) :: pn)) hi hv hd hcd) hb).run pins s σ H Q I ⟨.ref a, hs, rfl, rfl, dd, _, v, e1, sm _ _ e2, by simp [List.lookup], rp2.here (Gr.refl sm) v e3⟩
    · rw [if_neg hc] at rp2
      exact rp2.elim
def rIsX (K : PySem.W.Frag) (D a : Addr) (d : Option Addr) : List V → Hp → VK → Prop := fun xs H Q => ∃ (c : V) (cv : Value) (b : Bool), xs = [.ref a, c] ∧ (∀ u, RelV c u → u = cv) ∧ PySem.W.kitOne K (.ref D) cv = some b ∧ (match d with
  | none => True
  | some dd => ∃ fs, H dd = some (.xd fs)) ∧ Q (.bl b) H
theorem call_isX {D : Addr} (C : ExcC X.K D) (hz : Zc (.ref D) d oe) (hf : ∃ vs, oe.data = .fields vs) : CallR (X.suite a ((a, oe) :: pn)) (.builtin "isinstance") (rIsX X.K D a d) := by
  intro pins s σ H xs us Q I r h
  obtain ⟨c, cv, b, rfl, hcv, e, hx, q⟩ := h
  match us, r with
  | [_, _], .cons rx (.cons rt .nil) =>
    cases rx
    have ec := hcv _ rt
    subst ec
    obtain ⟨hget, _⟩ := I.pin (a, oe) (List.mem_append.mpr (.inl List.mem_cons_self))
    obtain ⟨vs, hv⟩ := hf
    have nc : PySem.W.notCls oe = true := by unfold PySem.W.notCls; rw [hv]
    obtain ⟨od, J⟩ : ∃ od, PySem.W.InstAt s.heap a oe D od := by
      cases d with
      | none => exact ⟨none, hget, hz.1, nc, by rw [hz.2]; trivial⟩
      | some dd =>
        obtain ⟨fs, hd⟩ := hx
        have ok : ObjOk X.prog X.w H s.heap dd (.xd fs) := I.hok dd _ hd
        obtain ⟨mA, hns, hr⟩ := ok
        obtain ⟨od, ho, hl⟩ := lookIn_ns hns
        exact ⟨some od, hget, hz.1, nc, by rw [hz.2]; exact ho⟩
    obtain ⟨cd, hcd, _⟩ := PySem.W.any_some C.hd
    exact PySem.W.kia_one (PySem.W.kitx_exc (by rw [hcd]; rfl) C.hg C.hk C.hs C.ha C.hn C.ht C.hm) I.kIn J e (fun z => nomatch z) fun tk => ⟨.bl b, H, I.kept (t' := tk) fun _ _ z => z, rfl, q⟩
/-- isinstance(e, c) -/
theorem risx {T : ExTab} (E : ExT X.K X.mg T) (hm : X.mg "isinstance" = none) (hz : Zc cls d oe) (hf : ∃ vs, oe.data = .fields vs) (hT : T.any (fun q => decide (q.1 = c)) = true := by decide) (hi : X.N[i]? = some n := by rfl) (hv : Vis X.env.scope n := by first | exact Or.inl rfl | exact Or.inr (Or.inl rfl) | exact Or.inr (Or.inr rfl)) (hd : (n == ("__debug__" : Str)) = false := by decide)
    (hcd : (n == ("__classdict__" : Str)) = false := by decide) (hg : Gl X "isinstance" := by rfl) (hg2 : Gl X c := by rfl) (hdc : (c == ("__debug__" : Str)) = false := by decide) (hvb : bootBuiltins "isinstance" = some (.builtin "isinstance") := by decide +kernel)
    (he : starEach [.Name n p1, .Name c p2] X.env = (false, eval (.Name n p1) X.env) :: starEach [.Name c p2] X.env := by rfl) (he2 : starEach [.Name c p2] X.env = (false, eval (.Name c p2) X.env) :: starEach [] X.env := by rfl) (hpl : (backTo pos (starEach [.Name c p2] X.env)).any (·.1) = false := by rfl) :
    RE (X.suite a ((a, oe) :: pn)) (suW X.K X.w X.mg W i a cls d er) (.Call (.Name "isinstance" p) [.Name n p1, .Name c p2] [] pos) (dIsX T er c) := by
  refine ⟨fun pins s σ H Q I h => ?_⟩
  obtain ⟨G, β, sm, ev, rp⟩ := h
  obtain ⟨_, hs, C, gC, ec, ha⟩ := ev.2.2
  subst ec
  unfold dIsX at rp
  cases q : T.lookup er.cls with
  | none => rw [q] at rp; exact rp.elim
  | some l =>
    rw [q] at rp
    obtain ⟨r, hr, e⟩ := List.any_eq_true.mp hT
    have e := of_decide_eq_true e
    obtain ⟨Dc, hD⟩ := E.cls r hr
    have k := (E.exm _ (lookup_memT q) r hr C Dc gC hD).2
    rw [e] at hD k
    have ow := E.own _ (lookup_memT q) C gC
    refine (pe_callB (X := X.suite a ((a, oe) :: pn)) (call_isX ow hz hf) hg hm hvb (pa_cons (X := X.suite a ((a, oe) :: pn)) (pe_var (X := X.suite a ((a, oe) :: pn)) hi hv hd hcd) (pa_cons (pe_glob (X := X.suite a ((a, oe) :: pn)) (v := .ref Dc) hg2 hD rfl hdc) pa_nil he2) he) (by decide) (by decide) he hpl).run pins s σ H Q I ?_
    refine ⟨.ref a, hs, .ref Dc, .ref Dc, l.contains c, rfl, fun u hu => hu, k, ?_, rp.here (Gr.refl sm) _ (.bl _)⟩
    cases qa : er.arg with
    | none => rw [qa] at ha; subst ha; trivial
    | some gx =>
      rw [qa] at ha
      obtain ⟨dd, v, e1, e2, e3⟩ := ha
      subst e1
      exact ⟨_, sm _ _ e2⟩
end
end
end DL

/-! DX5: what the head tells of exception classes. -/
namespace DL
open PySem PySem.Spec PyProof.Rows L2
/-! ### a hook that sees the statics too -/
abbrev AlE : Type := He.AlT × Bool
def obsE (as : List Addr) (fa : List He.Fa) (fn : List He.DefD) (ts : List He.Tab) (ex : PySem.W.Frag → Bool) (g : Addr → Option Obj) : AlE := (He.obsT fa fn ts (He.frG g as), ex (He.frG g as))
structure SaysEx (fa : List He.Fa) (fn : List He.DefD) (ts : List He.Tab) (ex : PySem.W.Frag → Bool) (w : World) (K : PySem.W.Frag) : Prop where
  t : He.SaysT fa fn ts w K
  more : ex K = true
def hookE (as : List Addr) (fa : List He.Fa) (fn : List He.DefD) (ts : List He.Tab) (ex : PySem.W.Frag → Bool) : PySem.W.Hook where
  α := AlE
  obs := fun s => obsE as fa fn ts ex s.heap.get?
  val := fun w => (He.valT fn ts w, true)
  says := fun w h => ∃ K : PySem.W.Frag, K.In h ∧ SaysEx fa fn ts ex w K
  of := fun _ _ e => ⟨_, He.frG_in, ⟨congrArg (fun z : AlE => z.1) e, congrArg (fun z : AlE => z.2) e⟩⟩
  keeps := fun _ _ _ ⟨K, hK, c⟩ k => ⟨K, PySem.W.Frag.In.keeps hK k, c⟩
theorem obsE_eq {as : List Addr} {fa : List He.Fa} {fn : List He.DefD} {ts : List He.Tab} {ex : PySem.W.Frag → Bool} {g : Addr → Option Obj} {s : Shared} (h : ∀ a, g a = s.heap.get? a) : obsE as fa fn ts ex g = (hookE as fa fn ts ex).obs s := by
  have e : g = s.heap.get? := funext h
  rw [e]
  rfl
/-- the world with one of its texts told -/
def wf (w : World) (b : Bool) : World := { w with params := { w.params with followText := fun r => if r = "special-get-raises" then b else w.params.followText r } }
theorem wf_eq (w : World) : wf w (w.params.followText "special-get-raises") = w := by
  have e : (fun r => if r = "special-get-raises" then w.params.followText "special-get-raises" else w.params.followText r) = w.params.followText := funext fun r => by
    by_cases h : r = "special-get-raises"
    · rw [if_pos h, h]
    · rw [if_neg h]
  unfold wf
  rw [e]
theorem run_of {P : World → Prop} (h1 : ∀ w, P (wf w true)) (h2 : ∀ w, P (wf w false)) (w : World) : P w := by
  rw [← wf_eq w]
  cases w.params.followText "special-get-raises" with
  | true => exact h1 w
  | false => exact h2 w
/-! ### classes -/
def mgB (K : PySem.W.Frag) (x : Str) : Bool := He.eqO (PySem.W.nsIn K mainGlobals x) (some (some (.ref (He.ga K x))))
def exOwnB (K : PySem.W.Frag) (C : Addr) : Bool := decide (PySem.W.findIn K (.ref C) "__getattribute__" = some (some (.builtin "BaseException.__getattribute__"))) && (decide (PySem.W.findIn K (.ref C) "__getattr__" = some none) && (decide (PySem.W.subIn K (.ref C) (.type "BaseException") = some true) && (PySem.W.hasDictIn K C &&
  (decide (PySem.W.findIn K (.ref C) "__class__" = some (some (.builtin "object.__class__"))) && (decide (PySem.W.specialIn K (.builtin "object.__class__") "__get__" = some (some (.builtin "getset_descriptor.__get__"))) && (decide (PySem.W.takesIn K (.builtin "object.__class__") = some true) && decide (PySem.W.mroIn K C (.type "object") = some true)))))))
def exTB (T : ExTab) (K : PySem.W.Frag) : Bool := T.all fun q => mgB K q.1 && (exOwnB K (He.ga K q.1) && (decide (PySem.W.kitOne K (.ref (He.ga K q.1)) (.type "ValueError") = some true) && T.all fun r => decide (PySem.W.exmOne K (.ref (He.ga K q.1)) (.ref (He.ga K r.1)) = some (q.2.contains r.1)) && decide (PySem.W.kitOne K (.ref (He.ga K q.1)) (.ref (He.ga K r.1)) = some (q.2.contains r.1))))
def fdTB (F : FdTab) (K : PySem.W.Frag) : Bool := F.all fun q => mgB K q.1 && (xfB K (He.ga K q.1) && decide (PySem.W.findIn K (.ref (He.ga K q.1)) q.2 = some none))
def ex0B (x : Str) (K : PySem.W.Frag) : Bool := mgB K x && (He.Fa.exc x).ok K
section
variable {K : PySem.W.Frag} {h : Heap} {mg : Str → Option Value}
theorem mgB_ok (X : K.In h) (G : h.Ns mainGlobals mg) {x : Str} (c : mgB K x = true) : mg x = some (.ref (He.ga K x)) := PySem.W.mg_of X G (He.eqO_ok c)
theorem mgB_eq (X : K.In h) (G : h.Ns mainGlobals mg) {x : Str} {C : Addr} (c : mgB K x = true) (e : mg x = some (.ref C)) : C = He.ga K x := by
  rw [mgB_ok X G c] at e
  cases e
  rfl
theorem exTB_ok (X : K.In h) (G : h.Ns mainGlobals mg) {T : ExTab} (c : exTB T K = true) : ExT K mg T := by
  have k : ∀ q ∈ T, mgB K q.1 = true ∧ exOwnB K (He.ga K q.1) = true ∧ PySem.W.kitOne K (.ref (He.ga K q.1)) (.type "ValueError") = some true ∧ ∀ r ∈ T, PySem.W.exmOne K (.ref (He.ga K q.1)) (.ref (He.ga K r.1)) = some (q.2.contains r.1) ∧ PySem.W.kitOne K (.ref (He.ga K q.1)) (.ref (He.ga K r.1)) = some (q.2.contains r.1) := fun q hq => by
    have z := List.all_eq_true.mp c q hq
    obtain ⟨z1, z⟩ := He.ba z
    obtain ⟨z2, z⟩ := He.ba z
    obtain ⟨z3, z4⟩ := He.ba z
    refine ⟨z1, z2, of_decide_eq_true z3, fun r hr => ?_⟩
    obtain ⟨y1, y2⟩ := He.ba (List.all_eq_true.mp z4 r hr)
    exact ⟨of_decide_eq_true y1, of_decide_eq_true y2⟩
  refine ⟨fun q hq => ⟨_, mgB_ok X G (k q hq).1⟩, fun q hq r hr C D e1 e2 => ?_, fun q hq C e => ?_, fun q hq C e => ?_⟩
  · rw [mgB_eq X G (k q hq).1 e1, mgB_eq X G (k r hr).1 e2]
    exact (k q hq).2.2.2 r hr
  · rw [mgB_eq X G (k q hq).1 e]
    exact (k q hq).2.2.1
  · rw [mgB_eq X G (k q hq).1 e]
    have z := (k q hq).2.1
    unfold exOwnB at z
    simp only [Bool.and_eq_true, decide_eq_true_eq] at z
    obtain ⟨a1, a2, a3, a4, a5, a6, a7, a8⟩ := z
    exact ⟨a1, a2, a3, a4, a5, a6, a7, a8⟩
theorem fdTB_ok (X : K.In h) (G : h.Ns mainGlobals mg) {F : FdTab} (c : fdTB F K = true) : FdT K mg F := ⟨fun q hq C e => by
  obtain ⟨z1, z⟩ := He.ba (List.all_eq_true.mp c q hq)
  obtain ⟨z2, z3⟩ := He.ba z
  rw [mgB_eq X G z1 e]
  exact ⟨xfB_ok z2, of_decide_eq_true z3⟩⟩
theorem ex0B_ok (X : K.In h) (G : h.Ns mainGlobals mg) {x : Str} (c : ex0B x K = true) : Ex0 K mg x := by
  obtain ⟨z1, z2⟩ := He.ba c
  obtain ⟨y1, y2, y3, y4⟩ := He.exc_ok z2
  exact ⟨_, mgB_ok X G z1, y1, y2, y3, y4⟩
end
/-! ### the class with super().__init__ -/
def clsVB (K : PySem.W.Frag) (C : Addr) : Bool := match K.lookup C with
  | some ⟨.type t, _, .cls cd, sl⟩ => decide (t = "type") && (match cd.mro, sl.toList with
    | .ref C' :: bm, [_, _, _, _, some (.builtin n), _] => decide (C' = C) && (decide (n = "ValueError.__new__") && (cd.hasDict && (!cd.hasDel && PySem.HandSPX.refsVE bm)))
    | _, _ => false)
  | _ => false
theorem clsVB_ok {K : PySem.W.Frag} {C : Addr} (h : clsVB K C = true) : ∃ nm q N bs bm sn sub ab col dd k0 k1 k2 k3 k5, K.lookup C = some (excClassObj nm q C N bs bm true sn sub ab col dd k0 k1 k2 k3 k5 "ValueError.__new__") ∧ PySem.HandSPX.refsVE bm = true := by
  unfold clsVB at h
  split at h
  · rename_i t dd cd sl ho
    obtain ⟨h1, h2⟩ := He.ba h
    have h1 := of_decide_eq_true h1
    subst h1
    split at h2
    · rename_i C' bm k0 k1 k2 k3 n k5 hm hs
      simp only [Bool.and_eq_true, decide_eq_true_eq, Bool.not_eq_true'] at h2
      obtain ⟨rfl, rfl, h4, h5, h6⟩ := h2
      obtain ⟨nm, bs, mro, ns, qn, hd, sn, sub, ab, col, del⟩ := cd
      dsimp only at hm h4 h5
      subst hm h4 h5
      obtain ⟨l⟩ := sl
      dsimp only at hs
      subst hs
      exact ⟨nm, qn, ns, bs, bm, sn, sub, ab, col, dd, k0, k1, k2, k3, k5, ho, h6⟩
    · cases h2
  · cases h
def fileB (P : Program) (K : PySem.W.Frag) (a : Addr) : Bool := match K.lookup a with
  | some ⟨_, _, .fields vs, _⟩ => (match (vs[2]? : Option Value) with
    | some (.str file _) => ((P.main.file : Str) == file)
    | _ => false)
  | _ => false
def cellB (K : PySem.W.Frag) (a C : Addr) : Bool := match K.lookup a with
  | some ⟨_, _, .cell (some (.ref D)), _⟩ => decide (D = C)
  | _ => false
def supFnB (P : Program) (K : PySem.W.Frag) (C fI : Addr) (x : Str) : Bool := match K.lookup fI with
  | some ⟨_, _, .func ⟨nm, qual, ⟨[], [⟨s1, none, _⟩, ⟨s2, none, _⟩], none, [], [], none, []⟩, .stmts [.Expr (.Call (.Attribute (.Call (.Name s3 _) [] [] _) s4 a3) [.Constant (.str _) _ _] [] a5) _, .Assign [.Attribute (.Name s5 _) s6 _] (.Name s7 _) _], ⟨.function, names, false, false, []⟩, gl, [(s8, cc)], .none, .none, _, _, _, .ref cda, _, bl⟩, _⟩ =>
    decide (nm = "__init__") && (decide (s1 = "self") && (decide (s2 = x) && (decide (s3 = "super") && (decide (s4 = "__init__") && (decide (s5 = "self") && (decide (s6 = x) && (decide (s7 = x) && (decide (s8 = "__class__") && (decide (names = (PySem.SupX.iS x).names) && (decide (gl = mainGlobals) && (decide (bl = builtinsNs) && ((a3.endLine == a5.line) &&
      (PySem.W.codeIn K (.ref cda) qual && (fileB P K cda && cellB K cc C))))))))))))))
  | _ => false
theorem supFnB_ok {P : Program} {K : PySem.W.Frag} {C fI : Addr} {x : Str} (h : supFnB P K C fI x = true) : ∃ m, ∃ (oc : Value) (od : Option Addr) (qual : Str) (doc pm : Value) (an : Option Addr) (cda cc : Addr) (ct : Value) (osl : Array (Option Value)) (p1 p2 : Pos) (j : Nat) (a1 a2 a3 a4 a5 a6 q1 q2 q3 q4 : Pos),
    K.lookup fI = some ⟨oc, od, .func (PySem.W.ksFn "__init__" qual (PySem.SupX.iA x p1 p2) (PySem.SupX.iB x m j a1 a2 a3 a4 a5 a6 q1 q2 q3 q4) (PySem.SupX.iS x) .none .none doc pm an (.ref cda) ct cc), osl⟩ ∧ (a3.endLine == a5.line) = true ∧ PySem.W.codeIn K (.ref cda) qual = true ∧
    (∃ (kc : Value) (kd : Option Addr) (vs : Array Value) (ks : Array (Option Value)) (file : Str) (tf : Tok), K.lookup cda = some ⟨kc, kd, .fields vs, ks⟩ ∧ vs[2]? = some (.str file tf) ∧ ((P.main.file : Str) == file) = true) ∧
    ∃ (lc : Value) (ld : Option Addr) (ls : Array (Option Value)), K.lookup cc = some ⟨lc, ld, .cell (some (.ref C)), ls⟩ := by
  unfold supFnB at h
  split at h
  · rename_i ho
    simp only [Bool.and_eq_true, decide_eq_true_eq] at h
    obtain ⟨rfl, rfl, rfl, rfl, rfl, rfl, rfl, rfl, rfl, rfl, rfl, rfl, hl, h1, h2, h3⟩ := h
    refine ⟨_, _, _, _, _, _, _, _, _, _, _, _, _, _, _, _, _, _, _, _, _, _, _, _, ho, hl, h1, ?_, ?_⟩
    · unfold fileB at h2
      split at h2
      · rename_i vs ks hk
        split at h2
        · rename_i file tf hv
          exact ⟨_, _, _, _, _, _, hk, hv, h2⟩
        · cases h2
      · cases h2
    · unfold cellB at h3
      split at h3
      · rename_i hk
        rw [of_decide_eq_true h3] at hk
        exact ⟨_, _, _, hk⟩
      · cases h3
  · cases h
def supB (P : Program) (n x : Str) (K : PySem.W.Frag) : Bool := mgB K n && (clsVB K (He.ga K n) && (decide (PySem.W.findIn K (.ref (He.ga K n)) "__setattr__" = some (some (.builtin "object.__setattr__"))) && (xfB K (He.ga K n) && (decide (PySem.W.findIn K (.ref (He.ga K n)) x = some none) &&
  (decide (PySem.W.findIn K (.ref (He.ga K n)) "__init__" = some (some (.ref (He.ma K (He.ga K n) "__init__")))) && (decide (PySem.W.typeIn K (.ref (He.ma K (He.ga K n) "__init__")) = some (.type "function")) && (PySem.W.keepIn K (.ref (He.ga K n)) && (decide (PySem.W.subIn K (.ref (He.ga K n)) (.type "ValueError") = some true) &&
  (decide (PySem.W.typeIn K (.ref (He.ga K n)) = some (.type "type")) && (decide (PySem.W.ks_superIn K (He.ga K n) (He.ga K n) "__init__" = some (some (.builtin "ValueError.__init__"))) && (PySem.W.excInitIn K (He.ga K n) PySem.HandSPX.veTail "ValueError.__new__" && (decide (PySem.W.mroIn K (He.ga K n) (.ref (He.ga K n)) = some true) &&
  (decide (PySem.W.nsIn K cStatics "thirdparty.any" = some none) && (decide (PySem.W.nsIn K mainGlobals "super" = some none) && (decide ((P.main.scope.names.lookup ("super" : Str)).isSome = false) && supFnB P K (He.ga K n) (He.ma K (He.ga K n) "__init__") x)))))))))))))))
theorem supB_ok {P : Program} {K : PySem.W.Frag} {h : Heap} {mg : Str → Option Value} (X : K.In h) (G : h.Ns mainGlobals mg) {n x : Str} (F : PySem.SupX.FName x) (c : supB P n x K = true) : Ex1 P K mg n x := by
  unfold supB at c
  simp only [Bool.and_eq_true, decide_eq_true_eq] at c
  obtain ⟨c1, c2, c3, c4, c5, c6, c7, c8, c9, c10, c11, c12, c13, c14, c15, c16, c17⟩ := c
  obtain ⟨m, fn⟩ := supFnB_ok c17
  have xf := xfB_ok c4
  exact ⟨F, m, _, _, ⟨mgB_ok X G c1, clsVB_ok c2, c3, xf.ga, xf.gg, c5, c6, c7, c8, xf.exC, c9, c10, xf.hdC, c11, c12, c13, c14, PySem.W.mg_none_of X G c15, c16, fn⟩⟩
end DL

namespace Cm
open PySem PySem.Spec PyProof.Rows L2 DL
def b__law_kinds : At → Out :=
 (sSeq (sSet 0 (sD (dLst (aCons (dC (.str "bolt")) (aCons (dC (.str "claim")) (aCons (dC (.str "class")) (aCons (dC (.str "cloth")) (aCons (dC (.str "day")) (aCons (dC (.str "grant")) (aCons (dC (.str "hand")) (aCons (dC (.str "master")) (aCons (dC (.str "measurer")) (aCons (dC (.str "order")) aNil)))))))))))))
 (sRet (sD (d2 fAdd (dV 0) (dLst (aCons (dC (.str "panel")) (aCons (dC (.str "reef")) (aCons (dC (.str "repair")) (aCons (dC (.str "revoke")) (aCons (dC (.str "rig")) (aCons (dC (.str "sail")) (aCons (dC (.str "seen")) (aCons (dC (.str "share")) (aCons (dC (.str "table")) (aCons (dC (.str "wind")) aNil)))))))))))))))
def f__law_kinds : List D → Res D := fD 0 1 b__law_kinds
def b__law_before : At → Out :=
 (sRet (sD (dOr (d2 fLt (d2 fIx (dV 0) (dC (.int (0)))) (d2 fIx (dV 1) (dC (.int (0))))) (dAnd (d2 fEq (d2 fIx (dV 0) (dC (.int (0)))) (d2 fIx (dV 1) (dC (.int (0))))) (d2 fLt (d2 fIx (dV 0) (dC (.int (1)))) (d2 fIx (dV 1) (dC (.int (1)))))))))
def f__law_before : List D → Res D := fD 2 2 b__law_before
def b__law_placed : At → Out :=
 (sSeq (sLay 2 (sD (dLc (iSeq (dV 0)) (.nm 4) (tV (dCall f__law_before (aCons (dV 4) (aCons (dV 1) aNil)))) (dV 4) [4])))
 (sSeq (sLay 3 (sD (dLc (iSeq (dV 0)) (.nm 4) (tV (dCall f__law_before (aCons (dV 1) (aCons (dV 4) aNil)))) (dV 4) [4])))
 (sRet (sD (d2 fAdd (d2 fAdd (dV 2) (dLst (aCons (dV 1) aNil))) (dV 3))))))
def f__law_placed : List D → Res D := fD 2 5 b__law_placed
def b__law_lowest : At → Out :=
 (sSeq (sSet 2 (sD (dN fAbs (aCons (dV 0) aNil))))
 (sSeq (sSet 3 (sD (dV 1)))
 (sSeq (sFor (iRange1 (dC (.int (200)))) (.nm 4)
 (sIf (sD (tV (d2 fNe (dV 3) (dC (.int (0))))))
 (sSeq (sSet 5 (sD (d2 fMod (dN fInt (aCons (dV 2) aNil)) (dV 3))))
 (sSeq (sSet 2 (sD (dV 3)))
 (sSet 3 (sD (dV 5)))))
 sNil))
 (sRet (sD (dTup (aCons (d2 fDiv (dV 0) (dV 2)) (aCons (d2 fDiv (dV 1) (dV 2)) aNil))))))))
def f__law_lowest : List D → Res D := fD 2 6 b__law_lowest
def b__law_grain : At → Out :=
 (sSeq (sIf (sD (tV (d2 fEq (dV 0) (dC (.int (0))))))
 (sRet (sD (dTup (aCons (dC (.int (0))) (aCons (dC (.int (1))) aNil)))))
 sNil)
 (sRet (sD (d1 fRevA (dCall f__law_lowest (aCons (dV 1) (aCons (dV 0) aNil)))))))
def f__law_grain : List D → Res D := fD 2 2 b__law_grain
def b__law_line : At → Out :=
 (sSeq (sIf (sD (tV (d2 fEq (d2 fMod (dV 1) (dC (.int (2)))) (dC (.int (0))))))
 (sRet (sD (dTup (aCons (d2 fIx (dV 0) (dC (.int (0)))) (aCons (d2 fIx (dV 0) (d2 fAdd (dC (.int (1))) (d2 fMod (d2 fDiv (dV 1) (dC (.int (2)))) (dC (.int (2)))))) aNil)))))
 sNil)
 (sRet (sD (dTup (aCons (d2 fIx (dV 0) (dC (.int (2)))) (aCons (d2 fIx (dV 0) (d2 fMod (d2 fDiv (dV 1) (dC (.int (2)))) (dC (.int (2))))) aNil))))))
def f__law_line : List D → Res D := fD 2 2 b__law_line
def b__law_piece : At → Out :=
 (sSeq (sSet 2 (sD (dCall f__law_lowest (aCons (d2 fSub (d2 fMod (d2 fIx (dV 0) (dC (.int (0)))) (dC (.int (41)))) (dC (.int (20)))) (aCons (d2 fAdd (dC (.int (1))) (d2 fMod (d2 fIx (dV 0) (dC (.int (1)))) (dC (.int (6))))) aNil)))))
 (sSeq (sSet 3 (sD (dCall f__law_lowest (aCons (d2 fSub (d2 fMod (d2 fIx (dV 0) (dC (.int (2)))) (dC (.int (41)))) (dC (.int (20)))) (aCons (d2 fAdd (dC (.int (1))) (d2 fMod (d2 fIx (dV 0) (dC (.int (3)))) (dC (.int (6))))) aNil)))))
 (sSeq (sSet 4 (sD (dCall f__law_lowest (aCons (d2 fAdd (d2 fIx (dV 2) (dC (.int (0)))) (d2 fMul (d2 fAdd (dC (.int (1))) (d2 fMod (d2 fIx (dV 0) (dC (.int (4)))) (dC (.int (9))))) (d2 fIx (dV 2) (dC (.int (1)))))) (aCons (d2 fIx (dV 2) (dC (.int (1)))) aNil)))))
 (sSeq (sSet 5 (sD (dCall f__law_lowest (aCons (d2 fAdd (d2 fIx (dV 3) (dC (.int (0)))) (d2 fMul (d2 fAdd (dC (.int (1))) (d2 fMod (d2 fIx (dV 0) (dC (.int (5)))) (dC (.int (9))))) (d2 fIx (dV 3) (dC (.int (1)))))) (aCons (d2 fIx (dV 3) (dC (.int (1)))) aNil)))))
 (sSeq (sIf (sD (tOr (tV (d2 fEq (d2 fMod (d2 fIx (dV 0) (dC (.int (6)))) (dC (.int (2)))) (dC (.int (0))))) (tV (d2 fLt (dV 1) (dC (.int (4)))))))
 (sRet (sD (dTup (aCons (dTup (aCons (dV 2) (aCons (dV 3) aNil))) (aCons (dTup (aCons (dV 4) (aCons (dV 3) aNil))) (aCons (dTup (aCons (dV 2) (aCons (dV 5) aNil))) aNil))))))
 sNil)
 (sRet (sD (dTup (aCons (dTup (aCons (dV 2) (aCons (dV 3) aNil))) (aCons (dTup (aCons (dV 4) (aCons (dV 3) aNil))) (aCons (dTup (aCons (dV 4) (aCons (dV 5) aNil))) (aCons (dTup (aCons (dV 2) (aCons (dV 5) aNil))) aNil))))))))))))
def f__law_piece : List D → Res D := fD 2 6 b__law_piece
def b__law_shape_row : At → Out :=
 (sSeq (sSet 4 (sD (d2 fMod (d2 fIx (dV 3) (dC (.int (5)))) (dC (.int (100))))))
 (sSeq (sSet 5 (sD (dCall f__law_lowest (aCons (d2 fMod (d2 fIx (dV 3) (dC (.int (7)))) (dC (.int (8)))) (aCons (dC (.int (7))) aNil)))))
 (sSeq (sSet 6 (sD (dCall f__law_lowest (aCons (d2 fAdd (dC (.int (1))) (d2 fMod (d2 fIx (dV 3) (dC (.int (7)))) (dC (.int (30))))) (aCons (d2 fAdd (dC (.int (1))) (d2 fMod (d2 fIx (dV 3) (dC (.int (8)))) (dC (.int (7))))) aNil)))))
 (sSeq (sIf (sD (tV (d2 fEq (dV 0) (dC (.str "panel")))))
 (sSeq (sSet 7 (sD (dCall f__law_grain (aCons (d2 fMod (d2 fIx (dV 3) (dC (.int (7)))) (dC (.int (9)))) (aCons (d2 fSub (d2 fMod (d2 fIx (dV 3) (dC (.int (8)))) (dC (.int (19)))) (dC (.int (9)))) aNil)))))
 (sRet (sD (dTup (aCons (dV 0) (aCons (dV 1) (aCons (d2 fIx (dV 2) (dC (.int (0)))) (aCons (dCall f__law_piece (aCons (dV 3) (aCons (dC (.int (4))) aNil))) (aCons (dV 7) (aCons (d2 fIx (dLst (aCons (dC (.str "flips")) (aCons (dC (.str "plain")) aNil))) (d2 fMod (d2 fIx (dV 3) (dC (.int (9)))) (dC (.int (2))))) aNil))))))))))
 sNil)
 (sSeq (sIf (sD (tV (d2 fEq (dV 0) (dC (.str "reef")))))
 (sRet (sD (dTup (aCons (dV 0) (aCons (dV 1) (aCons (dCall f__law_line (aCons (dCall f__law_piece (aCons (dV 3) (aCons (dC (.int (3))) aNil))) (aCons (d2 fIx (dV 3) (dC (.int (9)))) aNil))) aNil))))))
 sNil)
 (sSeq (sIf (sD (tV (d2 fEq (dV 0) (dC (.str "repair")))))
 (sRet (sD (dTup (aCons (dV 0) (aCons (dV 1) (aCons (d2 fIx (dV 2) (dC (.int (0)))) (aCons (d2 fMod (d2 fIx (dV 3) (dC (.int (0)))) (dC (.int (4)))) (aCons (d2 fAdd (dC (.int (1))) (d2 fMod (d2 fIx (dV 3) (dC (.int (1)))) (dC (.int (6))))) (aCons (d2 fMod (d2 fIx (dV 3) (dC (.int (2)))) (dC (.int (1001)))) aNil)))))))))
 sNil)
 (sSeq (sIf (sD (tV (d2 fEq (dV 0) (dC (.str "revoke")))))
 (sRet (sD (dTup (aCons (dV 0) (aCons (dV 1) (aCons (d2 fIx (dV 2) (dC (.int (0)))) (aCons (d2 fIx (dV 2) (dC (.int (1)))) (aCons (d2 fIx (dV 2) (dC (.int (2)))) (aCons (dV 4) aNil)))))))))
 sNil)
 (sSeq (sIf (sD (tV (d2 fEq (dV 0) (dC (.str "rig")))))
 (sRet (sD (dTup (aCons (dV 0) (aCons (dV 1) (aCons (dN fTuple (aCons (dN fSorted (aCons (dSl (dV 2) pNone (pSome (d2 fAdd (dC (.int (1))) (d2 fMod (d2 fIx (dV 3) (dC (.int (0)))) (dC (.int (4))))))) aNil)) aNil)) aNil))))))
 sNil)
 (sSeq (sIf (sD (tV (d2 fEq (dV 0) (dC (.str "sail")))))
 (sSeq (sSet 8 (sD (dCall f__law_piece (aCons (dV 3) (aCons (dC (.int (6))) aNil)))))
 (sSeq (sSet 9 (sD (d2 fMod (d2 fIx (dV 3) (dC (.int (7)))) (dC (.int (3))))))
 (sSeq (sSet 10 (sD (dLst (aCons (dV 6) (aCons (dCall f__law_lowest (aCons (d2 fMul (dC (.int (2))) (d2 fIx (dV 6) (dC (.int (0))))) (aCons (d2 fIx (dV 6) (dC (.int (1)))) aNil))) (aCons (dCall f__law_lowest (aCons (d2 fMul (dC (.int (5))) (d2 fIx (dV 6) (dC (.int (0))))) (aCons (d2 fIx (dV 6) (dC (.int (1)))) aNil))) aNil))))))
 (sSeq (sSet 11 (sD (dTup (aCons (dV 0) (aCons (dV 1) (aCons (dV 8) (aCons (dV 9) (aCons (d2 fMod (d2 fAdd (d2 fAdd (dV 9) (dC (.int (1)))) (d2 fMod (d2 fIx (dV 3) (dC (.int (8)))) (dC (.int (2))))) (dC (.int (3)))) (aCons (d2 fIx (dV 2) (dC (.int (0)))) (aCons (d2 fIx (dV 2) (dC (.int (1)))) (aCons (dN fTuple (aCons (dSl (dV 10) pNone (pSome (d2 fAdd (dC (.int (1))) (d2 fMod (d2 fIx (dV 3) (dC (.int (9)))) (dC (.int (3))))))) aNil)) aNil)))))))))))
 (sRet (sD (d2 fAdd (dV 11) (dTup (aCons (dN fTuple (aCons (dSl (dV 2) (pSome (dC (.int (2)))) (pSome (d2 fAdd (dC (.int (3))) (d2 fMod (d2 fIx (dV 3) (dC (.int (6)))) (dC (.int (4))))))) aNil)) (aCons (dN fTuple (aCons (dSl (dV 2) pNone (pSome (d2 fMod (d2 fIx (dV 3) (dC (.int (5)))) (dC (.int (4)))))) aNil)) aNil))))))))))
 sNil)
 (sSeq (sIf (sD (tV (d2 fEq (dV 0) (dC (.str "seen")))))
 (sRet (sD (dTup (aCons (dV 0) (aCons (dV 1) (aCons (dN fTuple (aCons (dFz (dLc (iRange1 (d2 fAdd (dC (.int (1))) (d2 fMod (d2 fIx (dV 3) (dC (.int (9)))) (dC (.int (4)))))) (.nm 12) yesT (dTup (aCons (d2 fMod (d2 fIx (dV 3) (dV 12)) (dC (.int (4)))) (aCons (d2 fAdd (d2 fMod (d2 fIx (dV 3) (dV 12)) (dC (.int (4)))) (d2 fMod (d2 fIx (dV 3) (d2 fAdd (dV 12) (dC (.int (4))))) (dC (.int (3))))) aNil))) [12])) aNil)) aNil))))))
 sNil)
 (sSeq (sIf (sD (tV (d2 fEq (dV 0) (dC (.str "share")))))
 (sRet (sD (dTup (aCons (dV 0) (aCons (dV 1) (aCons (d2 fIx (dV 2) (dC (.int (0)))) (aCons (d2 fIx (dV 2) (dC (.int (1)))) (aCons (d2 fIx (dV 2) (dC (.int (2)))) (aCons (dV 5) aNil)))))))))
 sNil)
 (sRet (sD (dTup (aCons (dV 0) (aCons (dV 1) (aCons (dTup (aCons (d2 fSub (d2 fMod (d2 fIx (dV 3) (dC (.int (0)))) (dC (.int (201)))) (dC (.int (100)))) (aCons (d2 fAdd (dC (.int (1))) (d2 fMod (d2 fIx (dV 3) (dC (.int (1)))) (dC (.int (100))))) aNil))) (aCons (d2 fMod (d2 fIx (dV 3) (dC (.int (2)))) (dC (.int (1001)))) aNil))))))))))))))))))
def f__law_shape_row : List D → Res D := fD 4 13 b__law_shape_row
def b__law_row : At → Out :=
 (sSeq (sSet 4 (sD (d2 fMod (d2 fIx (dV 3) (dC (.int (5)))) (dC (.int (100))))))
 (sSeq (sSet 5 (sD (d2 fMod (d2 fIx (dV 3) (dC (.int (6)))) (dC (.int (10))))))
 (sSeq (sSet 6 (sD (dCall f__law_lowest (aCons (d2 fAdd (dC (.int (1))) (d2 fMod (d2 fIx (dV 3) (dC (.int (7)))) (dC (.int (90))))) (aCons (d2 fAdd (dC (.int (1))) (d2 fMod (d2 fIx (dV 3) (dC (.int (8)))) (dC (.int (7))))) aNil)))))
 (sSeq (sIf (sD (tV (d2 fEq (dV 0) (dC (.str "bolt")))))
 (sRet (sD (dTup (aCons (dV 0) (aCons (dV 1) (aCons (d2 fIx (dV 2) (dC (.int (0)))) (aCons (dV 6) (aCons (d2 fMod (d2 fIx (dV 3) (dC (.int (0)))) (dC (.int (1001)))) (aCons (dCall f__law_lowest (aCons (d2 fMul (d2 fIx (dV 6) (dC (.int (0)))) (d2 fMod (d2 fIx (dV 3) (dC (.int (1)))) (dC (.int (4))))) (aCons (d2 fMul (d2 fIx (dV 6) (dC (.int (1)))) (dC (.int (3)))) aNil))) aNil)))))))))
 sNil)
 (sSeq (sIf (sD (tV (d2 fEq (dV 0) (dC (.str "claim")))))
 (sRet (sD (dTup (aCons (dV 0) (aCons (dV 1) (aCons (d2 fIx (dV 2) (dC (.int (0)))) (aCons (d2 fIx (dV 2) (dC (.int (1)))) (aCons (dV 6) (aCons (dV 4) aNil)))))))))
 sNil)
 (sSeq (sIf (sD (tV (d2 fEq (dV 0) (dC (.str "class")))))
 (sSeq (sSet 7 (sD (dCall f__law_lowest (aCons (d2 fMod (d2 fIx (dV 3) (dC (.int (0)))) (dC (.int (50)))) (aCons (d2 fAdd (dC (.int (1))) (d2 fMod (d2 fIx (dV 3) (dC (.int (1)))) (dC (.int (4))))) aNil)))))
 (sSeq (sSet 8 (sD (dCall f__law_lowest (aCons (d2 fAdd (d2 fMul (d2 fIx (dV 7) (dC (.int (0)))) (d2 fIx (dV 6) (dC (.int (1))))) (d2 fMul (d2 fMul (d2 fIx (dV 6) (dC (.int (0)))) (d2 fMod (d2 fIx (dV 3) (dC (.int (2)))) (dC (.int (3))))) (d2 fIx (dV 7) (dC (.int (1)))))) (aCons (d2 fMul (d2 fIx (dV 7) (dC (.int (1)))) (d2 fIx (dV 6) (dC (.int (1))))) aNil)))))
 (sSeq (sSet 9 (sD (dN fTuple (aCons (dN fSorted (aCons (dSl (dV 2) pNone (pSome (d2 fMod (d2 fIx (dV 3) (dC (.int (3)))) (dC (.int (5)))))) aNil)) aNil))))
 (sRet (sD (dTup (aCons (dV 0) (aCons (dV 1) (aCons (dV 7) (aCons (dV 8) (aCons (d2 fAdd (dC (.int (1))) (d2 fMod (d2 fIx (dV 3) (dC (.int (4)))) (dC (.int (4))))) (aCons (dV 9) (aCons (dN fTuple (aCons (dSl (dV 2) (pSome (d2 fMod (d2 fIx (dV 3) (dC (.int (9)))) (dC (.int (3))))) pNone) aNil)) aNil)))))))))))))
 sNil)
 (sSeq (sIf (sD (tV (d2 fEq (dV 0) (dC (.str "cloth")))))
 (sSeq (sSet 10 (sD (d2 fAdd (dC (.int (1))) (d2 fMod (d2 fIx (dV 3) (dC (.int (0)))) (dC (.int (1000)))))))
 (sSeq (sSet 11 (sD (d2 fAdd (dC (.int (1))) (d2 fMod (d2 fIx (dV 3) (dC (.int (1)))) (dC (.int (1000)))))))
 (sRet (sD (dTup (aCons (dV 0) (aCons (dV 1) (aCons (dV 10) (aCons (dV 11) (aCons (d2 fMod (d2 fIx (dV 3) (dC (.int (2)))) (d2 fAdd (dN fMin2 (aCons (dV 10) (aCons (dV 11) aNil))) (dC (.int (1))))) (aCons (d2 fAdd (dC (.int (1))) (d2 fMod (d2 fIx (dV 3) (dC (.int (3)))) (dC (.int (100))))) (aCons (d2 fMod (d2 fIx (dV 3) (dC (.int (4)))) (dC (.int (1001)))) aNil))))))))))))
 sNil)
 (sSeq (sIf (sD (tV (d2 fEq (dV 0) (dC (.str "day")))))
 (sRet (sD (dTup (aCons (dV 0) (aCons (dV 1) (aCons (d2 fIx (dV 2) (dC (.int (0)))) (aCons (dV 4) (aCons (d2 fMod (d2 fIx (dV 3) (dC (.int (0)))) (dC (.int (4)))) (aCons (dN fTuple (aCons (dSl (dV 2) (pSome (dC (.int (1)))) (pSome (d2 fAdd (dC (.int (2))) (d2 fMod (d2 fIx (dV 3) (dC (.int (1)))) (dC (.int (3))))))) aNil)) aNil)))))))))
 sNil)
 (sSeq (sIf (sD (tV (d2 fEq (dV 0) (dC (.str "grant")))))
 (sRet (sD (dTup (aCons (dV 0) (aCons (dV 1) (aCons (d2 fIx (dV 2) (dC (.int (0)))) (aCons (d2 fIx (dV 2) (dC (.int (1)))) (aCons (d2 fIx (dV 2) (dC (.int (2)))) (aCons (d2 fIx (dLst (aCons (dC (.str "onward")) (aCons (dC (.str "only")) aNil))) (d2 fMod (d2 fIx (dV 3) (dC (.int (0)))) (dC (.int (2))))) (aCons (dV 4) (aCons (d2 fMod (d2 fIx (dV 3) (dC (.int (1)))) (dC (.int (100)))) aNil)))))))))))
 sNil)
 (sSeq (sIf (sD (tOr (tV (d2 fEq (dV 0) (dC (.str "hand")))) (tV (d2 fEq (dV 0) (dC (.str "table"))))))
 (sRet (sD (dTup (aCons (dV 0) (aCons (dV 1) (aCons (dV 5) (aCons (d2 fMod (d2 fIx (dV 3) (dC (.int (0)))) (dC (.int (7)))) aNil)))))))
 sNil)
 (sSeq (sIf (sD (tV (d2 fEq (dV 0) (dC (.str "master")))))
 (sRet (sD (dTup (aCons (dV 0) (aCons (dV 1) aNil)))))
 sNil)
 (sSeq (sIf (sD (tV (d2 fEq (dV 0) (dC (.str "measurer")))))
 (sRet (sD (dTup (aCons (dV 0) (aCons (dV 1) (aCons (dCall f__law_lowest (aCons (d2 fMod (d2 fIx (dV 3) (dC (.int (0)))) (dC (.int (7)))) (aCons (d2 fAdd (dC (.int (7))) (d2 fMod (d2 fIx (dV 3) (dC (.int (1)))) (dC (.int (5))))) aNil))) aNil))))))
 sNil)
 (sSeq (sIf (sD (tV (d2 fEq (dV 0) (dC (.str "order")))))
 (sSeq (sSet 12 (sD (d2 fIx (dLst (aCons (dC (.str "new")) (aCons (dC (.str "mend")) aNil))) (d2 fMod (d2 fIx (dV 3) (dC (.int (0)))) (dC (.int (2)))))))
 (sRet (sD (dTup (aCons (dV 0) (aCons (dV 1) (aCons (dV 4) (aCons (dV 12) (aCons (d2 fIx (dV 2) (dC (.int (0)))) (aCons (d2 fIx (dV 2) (dC (.int (1)))) (aCons (dV 5) (aCons (d2 fMod (d2 fIx (dV 3) (dC (.int (1)))) (dC (.int (10)))) (aCons (d2 fMod (d2 fIx (dV 3) (dC (.int (2)))) (dC (.int (10)))) (aCons (d2 fIx (dV 2) (dC (.int (2)))) aNil))))))))))))))
 sNil)
 (sRet (sD (dCall f__law_shape_row (aCons (dV 0) (aCons (dV 1) (aCons (dV 2) (aCons (dV 3) aNil))))))))))))))))))))
def f__law_row : List D → Res D := fD 4 13 b__law_row
def b__law_book : At → Out :=
 (sSeq (sSet 5 (sD (dLst aNil)))
 (sSeq (sSet 6 (sD (dCall f__law_kinds aNil)))
 (sSeq (sFor (iRange1 (dV 2)) (.nm 7)
 (sSeq (sLay 8 (sD (dLc (iRange1 (dC (.int (10)))) (.nm 10) yesT (d2 fIx (dV 0) (d2 fMod (d2 fAdd (d2 fAdd (dV 1) (d2 fMul (dC (.int (5))) (dV 7))) (dV 10)) (dN fLen (aCons (dV 0) aNil)))) [10])))
 (sSeq (sSet 9 (sD (d2 fIx (dV 6) (d2 fMod (d2 fIx (dV 4) (d2 fMod (d2 fIx (dV 8) (dC (.int (0)))) (dN fLen (aCons (dV 4) aNil)))) (dC (.int (20)))))))
 (sSet 5 (sD (dCall f__law_placed (aCons (dV 5) (aCons (dCall f__law_row (aCons (dV 9) (aCons (d2 fIx (dV 3) (d2 fMod (d2 fIx (dV 8) (dC (.int (1)))) (dN fLen (aCons (dV 3) aNil)))) (aCons (dV 3) (aCons (d2 fAdd (dSl (dV 8) (pSome (dC (.int (2)))) pNone) (dSl (dV 8) pNone (pSome (dC (.int (2)))))) aNil))))) aNil))))))))
 (sRet (sD (dV 5))))))
def f__law_book : List D → Res D := fD 5 11 b__law_book
def b__law_same (f__law_same : List D → Res D) : At → Out :=
 (sSeq (sIf (sD (tV (dIsi "tuple" (dV 1))))
 (sSeq (sIf (sD (tOr (tNot (tV (dIsi "tuple" (dV 0)))) (tV (d2 fNe (dN fLen (aCons (dV 0) aNil)) (dN fLen (aCons (dV 1) aNil))))))
 (sRet (sD (dC (.bool false))))
 sNil)
 (sRet (sD (d2 fEq (dN fLen (aCons (dFz (dLc (iRange1 (dN fLen (aCons (dV 1) aNil))) (.nm 2) (tNot (tV (dCall f__law_same (aCons (d2 fIx (dV 0) (dV 2)) (aCons (d2 fIx (dV 1) (dV 2)) aNil))))) (dV 2) [2])) aNil)) (dC (.int (0)))))))
 sNil)
 (sSeq (sIf (sD (tOr (tV (dIsi "bool" (dV 1))) (tV (dIsi "bool" (dV 0)))))
 (sRet (sD (dAnd (dIsi "bool" (dV 0)) (dAnd (dIsi "bool" (dV 1)) (d2 fEq (dV 0) (dV 1))))))
 sNil)
 (sSeq (sIf (sD (tV (dIsi "str" (dV 1))))
 (sRet (sD (dAnd (dIsi "str" (dV 0)) (d2 fEq (dV 0) (dV 1)))))
 sNil)
 (sSeq (sIf (sD (tV (d2 fIs (dV 1) (dC .none))))
 (sRet (sD (d2 fIs (dV 0) (dC .none))))
 sNil)
 (sRet (sD (dAnd (dIsi "int" (dV 0)) (d2 fEq (dV 0) (dV 1)))))))))
def F__law_same : Nat → List D → Res D
  | 0 => fun _ => .no
  | n + 1 => fD 2 3 (b__law_same (F__law_same n))
def f__law_same : List D → Res D := F__law_same 12
def b_row_key : At → Out :=
 (sRet (sD (dTup (aCons (d2 fIx (dV 0) (dC (.int (0)))) (aCons (d2 fIx (dV 0) (dC (.int (1)))) aNil)))))
def f_row_key : List D → Res D := fD 1 1 b_row_key
def b_find_row : At → Out :=
 (sSeq (sFor (iSeq (dV 0)) (.nm 3)
 (sIf (sD (tAnd (tV (d2 fEq (d2 fIx (dV 3) (dC (.int (0)))) (dV 1))) (tV (d2 fEq (d2 fIx (dV 3) (dC (.int (1)))) (dV 2)))))
 (sRet (sD (dV 3)))
 sNil))
 (fun _ => .no))
def f_find_row : List D → Res D := fD 3 4 b_find_row
def b_has_row : At → Out :=
 (sSeq (sFor (iSeq (dV 0)) (.nm 3)
 (sIf (sD (tAnd (tV (d2 fEq (d2 fIx (dV 3) (dC (.int (0)))) (dV 1))) (tV (d2 fEq (d2 fIx (dV 3) (dC (.int (1)))) (dV 2)))))
 (sRet (sD (dC (.bool true))))
 sNil))
 (sRet (sD (dC (.bool false)))))
def f_has_row : List D → Res D := fD 3 4 b_has_row
def b_kind_rows : At → Out :=
 (sRet (sD (dN fTuple (aCons (dFz (dLc (iSeq (dV 0)) (.nm 2) (tV (d2 fEq (d2 fIx (dV 2) (dC (.int (0)))) (dV 1))) (dV 2) [2])) aNil))))
def f_kind_rows : List D → Res D := fD 2 3 b_kind_rows
def b__law_name : At → Out :=
 (sSeq (sSet 1 (sD (dC (.str "abcdefghijklmnopqrstuvwxyz"))))
 (sRet (sD (d2 fAdd (d2 fIx (dV 1) (d2 fMod (dV 0) (dC (.int (26))))) (d2 fIx (dLst (aCons (dC (.str "")) (aCons (dC (.str "x")) (aCons (dC (.str "7")) (aCons (dC (.str "q0")) aNil))))) (d2 fMod (d2 fDiv (dV 0) (dC (.int (26)))) (dC (.int (4)))))))))
def f__law_name : List D → Res D := fD 1 2 b__law_name
def b__law_names : At → Out :=
 (sRet (sD (dFz (dLc (iRange1 (dC (.int (6)))) (.nm 1) yesT (d2 fAdd (dCall f__law_name (aCons (d2 fIx (dV 0) (dV 1)) aNil)) (d2 fIx (dC (.str "pqrstu")) (dV 1))) [1]))))
def f__law_names : List D → Res D := fD 1 2 b__law_names
def b__law_numbers : At → Out :=
 (sSeq (sOwn 2 (sD (dLc (iSeq (dSl (dV 0) pNone (pSome (dC (.int (63)))))) (.nm 9) yesT (dN fInt (aCons (dV 9) aNil)) [9])))
 (sSeq (sIf (sBt (tV (d2 fEq (dN fLen (aCons (dV 2) aNil)) (dC (.int (0))))))
 (sOwn 2 (sD (fLst (aCons (dC (.int (0))) aNil))))
 sNil)
 (sSeq (sSet 3 (sB (dN fLen (aCons (dV 2) aNil))))
 (sSeq (sLay 4 (sBf (dLc (iSeq (dV 2)) (.nm 9) yesT (d2 fGe (dV 9) (d2 fPow (dC (.int (10))) (dC (.int (18))))) [9])))
 (sSeq (sOwn 5 (sD (fLst aNil)))
 (sSeq (sFor (iRange1 (dV 1)) (.nm 6)
 (sSeq (sSet 7 (sD (d2 fMod (dV 6) (dV 3))))
 (sIf (sBt (tAnd (tV (d2 fIx (dV 4) (dV 7))) (tV (d2 fGt (d2 fIx (dV 2) (dV 7)) (dC (.int (0)))))))
 (sSeq (sApp 5 (sB (d2 fMod (dN fInt (aCons (d2 fIx (dV 2) (dV 7)) aNil)) (dC (.int (5040))))))
 (sSetI 2 (sD (dV 7)) (sB (d2 fDiv (d2 fIx (dV 2) (dV 7)) (dC (.int (5040)))))))
 (sSeq (sSet 8 (sB (d2 fMod (d2 fMul (d2 fAdd (d2 fAdd (d2 fMod (dN fInt (aCons (d2 fIx (dV 2) (dV 7)) aNil)) (dC (.int (1000003)))) (d2 fMul (dC (.int (17))) (dV 6))) (dC (.int (1)))) (dC (.int (48271)))) (dC (.int (2147483647))))))
 (sSeq (sSet 8 (sD (d2 fMod (d2 fMul (dN fInt (aCons (d2 fAdd (d2 fAdd (dV 8) (d2 fMul (d2 fMul (dV 6) (dV 6)) (dC (.int (7))))) (dC (.int (3)))) aNil)) (dC (.int (69621)))) (dC (.int (1000003))))))
 (sApp 5 (sD (d2 fMod (d2 fDiv (dV 8) (dC (.int (7)))) (dC (.int (5040)))))))))))
 (fun α => (sRet (sD (dV 5))) (frzA 5 α))))))))
def f__law_numbers : List D → Res D := fD 2 10 b__law_numbers
end Cm

/-! PL1: how the readings answer: the rules by which they are reckoned. -/
namespace DL
open PySem PySem.Spec PyProof.Rows L2
section
variable (β : Bt) (α : At) (f : D → D → Option D) (a b : Bt → Res D) (i : Nat) (d : D)
@[simp] theorem dC_ap : dC d β = .ok d := nr rfl
theorem dV_ap : dV i β = match β[i]? with | some (some d) => .ok d | _ => .no := rfl
@[simp] theorem dV_z (x : D) : dV 0 (some x :: β) = .ok x := nr rfl
@[simp] theorem dV_s (x : Option D) (i : Nat) : dV (i + 1) (x :: β) = dV i β := nr rfl
@[simp] theorem d2_ap : d2 f a b β = (a β).bind fun x => (b β).bind fun y => Res.of (f x y) := nr rfl
@[simp] theorem d1_ap (f : D → Option D) : d1 f a β = (a β).bind fun x => Res.of (f x) := nr rfl
@[simp] theorem aNil_ap : aNil β = .ok [] := nr rfl
@[simp] theorem aCons_ap (r : Bt → Res (List D)) : aCons a r β = (a β).bind fun x => (r β).bind fun xs => .ok (x :: xs) := nr rfl
@[simp] theorem dN_ap (f : List D → Option D) (r : Bt → Res (List D)) : dN f r β = (r β).bind fun xs => Res.of (f xs) := nr rfl
@[simp] theorem dTup_ap (r : Bt → Res (List D)) : dTup r β = (r β).bind fun xs => if xs.length ≤ sizeLine then .ok (.tuple xs) else .no := nr rfl
@[simp] theorem dLst_ap (r : Bt → Res (List D)) : dLst r β = (r β).bind fun xs => if xs.length ≤ sizeLine then .ok (.list xs) else .no := nr rfl
@[simp] theorem fLst_ap (r : Bt → Res (List D)) : fLst r β = (r β).bind fun xs => if xs.length ≤ sizeLine then .ok xs else .no := nr rfl
@[simp] theorem dCall_ap (g : List D → Res D) (r : Bt → Res (List D)) : dCall g r β = (r β).bind g := nr rfl
@[simp] theorem tV_ap : tV a β = (a β).bind fun x => Res.of (asB x) := nr rfl
@[simp] theorem tNot_ap (a : Bt → Res Bool) : tNot a β = (a β).bind fun x => .ok (!x) := nr rfl
@[simp] theorem tAnd_ap (a b : Bt → Res Bool) : tAnd a b β = (a β).bind fun x => if x = true then b β else .ok false := nr rfl
@[simp] theorem tOr_ap (a b : Bt → Res Bool) : tOr a b β = (a β).bind fun x => if x = true then .ok true else b β := nr rfl
@[simp] theorem dNot_ap : dNot a β = (a β).bind fun x => (Res.of (asB x)).bind fun x => .ok (.bool !x) := nr rfl
@[simp] theorem dAnd_ap : dAnd a b β = (a β).bind fun x => (Res.of (asB x)).bind fun x => if x = true then b β else .ok (.bool false) := nr rfl
@[simp] theorem dOr_ap : dOr a b β = (a β).bind fun x => (Res.of (asB x)).bind fun x => if x = true then .ok (.bool true) else b β := nr rfl
@[simp] theorem dIf_ap (t : Bt → Res Bool) : dIf t a b β = (t β).bind fun x => if x = true then a β else b β := nr rfl
@[simp] theorem asB_ap (x : Bool) : asB (.bool x) = some x := nr rfl
@[simp] theorem pNone_ap : pNone β = .ok none := nr rfl
@[simp] theorem pSome_ap : pSome a β = (a β).bind fun x => (Res.of (asI x)).bind fun i => .ok (some i) := nr rfl
@[simp] theorem asI_ap (x : Int) : asI (.int x) = some x := nr rfl
@[simp] theorem dSl_ap (l h : Bt → Res (Option Int)) : dSl a l h β = (a β).bind fun x => (l β).bind fun lo => (h β).bind fun hi => Res.of (fSl x lo hi) := nr rfl
@[simp] theorem iSeq_ap : iSeq a β = (a β).bind fun x => Res.of (itemsOf x) := nr rfl
@[simp] theorem iSq_list (xs : List D) (h : a β = .ok (.list xs)) : iSq a β = .ok xs := by unfold iSq; rw [h]; rfl
@[simp] theorem items_l (xs : List D) : itemsOf (.list xs) = some xs := nr rfl
@[simp] theorem items_t (xs : List D) : itemsOf (.tuple xs) = some xs := nr rfl
@[simp] theorem dFz_ap (r : Bt → Res (List D)) : dFz r β = (r β).bind fun ds => .ok (.list ds) := nr rfl
@[simp] theorem dLc_ap (it : Bt → Res (List D)) (tg : Tgt) (t : Bt → Res Bool) (e : Bt → Res D) (vs : List Nat) : dLc it tg t e vs β = (it β).bind fun ds => if ds.length ≤ sizeLine then lcD (cmD tg t e (wipeB β vs)) ds else .no := nr rfl
@[simp] theorem yesT_ap : yesT β = .ok true := nr rfl
@[simp] theorem Res.of_ite {α : Type} (c : Prop) [Decidable c] (x y : Option α) : Res.of (if c then x else y) = if c then Res.of x else Res.of y := by split <;> rfl
@[simp] theorem dats_nil : dats [] = [] := nr rfl
@[simp] theorem dats_cons (v : AV) : dats (v :: α) = v.dt :: dats α := nr rfl
@[simp] theorem view_nil : view [] = [] := nr rfl
@[simp] theorem view_cons (v : AV) : view (v :: α) = v.vw :: view α := nr rfl
@[simp] theorem dt_d : (AV.dat d).dt = some d := nr rfl
@[simp] theorem dt_u : AV.un.dt = none := nr rfl
@[simp] theorem dt_o (ds : List D) : (AV.own ds).dt = none := nr rfl
@[simp] theorem vw_d : (AV.dat d).vw = some d := nr rfl
@[simp] theorem vw_u : AV.un.vw = none := nr rfl
@[simp] theorem vw_o (ds : List D) : (AV.own ds).vw = some (.list ds) := nr rfl
@[simp] theorem sD_ap {γ : Type} (x : Bt → Res γ) : sD x α = x (dats α) := nr rfl
@[simp] theorem sB_ap : sB a α = bor noL (a (view α)) := nr rfl
@[simp] theorem sBt_ap (a : Bt → Res Bool) : sBt a α = bor (fun _ => true) (a (view α)) := nr rfl
@[simp] theorem sBf_ap (a : Bt → Res (List D)) : sBf a α = bor noLs (a (view α)) := nr rfl
@[simp] theorem bor_ok {γ : Type} (k : γ → Bool) (x : γ) : bor k (.ok x) = if k x = true then .ok x else .no := nr rfl
@[simp] theorem noL_int (x : Int) : noL (.int x) = true := nr rfl
@[simp] theorem noL_bool (x : Bool) : noL (.bool x) = true := nr rfl
@[simp] theorem noL_str (x : Str) : noL (.str x) = true := nr rfl
@[simp] theorem noL_none : noL .none = true := nr rfl
@[simp] theorem noL_tup (xs : List D) : noL (.tuple xs) = noLs xs := nr rfl
@[simp] theorem noLs_nil : noLs [] = true := nr rfl
@[simp] theorem noLs_cons (x : D) (xs : List D) : noLs (x :: xs) = (noL x && noLs xs) := nr rfl
@[simp] theorem ofR_ok {γ : Type} (x : γ) (k : γ → Out) : ofR (.ok x) α k = k x := nr rfl
@[simp] theorem sSet_ap (x : At → Res D) : sSet i x α = ofR (x α) α fun x => .nx (α.set i (.dat x)) := nr rfl
@[simp] theorem sOwn_ap (x : At → Res (List D)) : sOwn i x α = ofR (x α) α fun x => .nx (α.set i (.own x)) := nr rfl
@[simp] theorem sLay_ap (x : At → Res (List D)) : sLay i x α = ofR (x α) α fun x => .nx (α.set i (.dat (.list x))) := nr rfl
@[simp] theorem sRet_ap (x : At → Res D) : sRet x α = ofR (x α) α fun x => .rt x := nr rfl
@[simp] theorem sDrop_ap (x : At → Res D) : sDrop x α = ofR (x α) α fun x => .nx α := nr rfl
@[simp] theorem sNil_ap : sNil α = .nx α := nr rfl
theorem sIf_ap (t : At → Res Bool) (x y : At → Out) : sIf t x y α = ofR (t α) α fun c => if c = true then x α else y α := rfl
theorem sFor_ap (it : Bt → Res (List D)) (tg : Tgt) (x : At → Out) : sFor it tg x α = ofR (it (dats α)) α fun ds => forD tg x ds α := rfl
@[simp] theorem sApp_ap (x : At → Res D) : sApp i x α = ownAt i α fun ds => ofR (x α) α fun x => if ds.length < sizeLine then .nx (α.set i (.own (ds ++ [x]))) else .no := nr rfl
@[simp] theorem ownAt_z (ds : List D) (k : List D → Out) : ownAt 0 (.own ds :: α) k = k ds := nr rfl
@[simp] theorem ownAt_s (v : AV) (k : List D → Out) : ownAt (i + 1) (v :: α) k = ownAt i α k := nr rfl
end
/-- one after the other -/
def Out.andThen (o : Out) (b : At → Out) : Out := match o with
  | .nx α => b α
  | o => o
theorem sSeq_ap (a b : At → Out) (α : At) : sSeq a b α = (a α).andThen b := rfl
@[simp] theorem then_nx (b : At → Out) (α : At) : (Out.nx α).andThen b = b α := nr rfl
@[simp] theorem then_rt (b : At → Out) (d : D) : (Out.rt d).andThen b = .rt d := nr rfl
@[simp] theorem then_no (b : At → Out) : Out.no.andThen b = .no := nr rfl
@[simp] theorem then_bk (b : At → Out) (α : At) : (Out.bk α).andThen b = .bk α := nr rfl
@[simp] theorem then_ct (b : At → Out) (α : At) : (Out.ct α).andThen b = .ct α := nr rfl
@[simp] theorem then_er (b : At → Out) (e : Er) (α : At) : (Out.er e α).andThen b = .er e α := nr rfl
def Out.fin : Out → Res D
  | .rt d => .ok d
  | .nx _ => .ok .none
  | .er e _ => .er e
  | _ => .no
@[simp] theorem fin_rt (d : D) : (Out.rt d).fin = .ok d := nr rfl
@[simp] theorem fin_nx (α : At) : (Out.nx α).fin = .ok .none := nr rfl
@[simp] theorem fin_er (e : Er) (α : At) : (Out.er e α).fin = .er e := nr rfl
theorem fD_ap {n N : Nat} {b : At → Out} {ds : List D} (h : ds.length = n) : fD n N b ds = (b (ds.map AV.dat ++ List.replicate (N - n) AV.un)).fin := by
  unfold fD
  rw [if_pos h]
  rfl
@[simp] theorem forD_nil (tg : Tgt) (b : At → Out) (α : At) : forD tg b [] α = .nx α := nr rfl
@[simp] theorem setTA_nm (i : Nat) (d : D) (α : At) : setTA (.nm i) d α = some (α.set i (.dat d)) := nr rfl
@[simp] theorem setT_nm (i : Nat) (d : D) (β : Bt) : setT (.nm i) d β = some (β.set i (some d)) := nr rfl
theorem forD_nx {tg : Tgt} {b : At → Out} {d : D} {ds : List D} {α α1 α2 : At} (h1 : setTA tg d α = some α1) (h2 : b α1 = .nx α2) : forD tg b (d :: ds) α = forD tg b ds α2 := by
  rw [forD, h1]
  simp only [h2]
theorem forD_rt {tg : Tgt} {b : At → Out} {d x : D} {ds : List D} {α α1 : At} (h1 : setTA tg d α = some α1) (h2 : b α1 = .rt x) : forD tg b (d :: ds) α = .rt x := by
  rw [forD, h1]
  simp only [h2]
/-- a loop with an invariant that runs through -/
theorem forD_inv {tg : Tgt} {b : At → Out} (I : List D → At → Prop) (step : ∀ d ds α, I (d :: ds) α → ∃ α1, setTA tg d α = some α1 ∧ ∃ α2, b α1 = .nx α2 ∧ I ds α2) : ∀ ds α, I ds α → ∃ α', forD tg b ds α = .nx α' ∧ I [] α'
  | [], α, h => ⟨α, rfl, h⟩
  | d :: ds, α, h => by
    obtain ⟨α1, h1, α2, h2, h3⟩ := step d ds α h
    rw [forD_nx h1 h2]
    exact forD_inv I step ds α2 h3
/-- a comprehension over what each item gives -/
theorem lcD_map {f : D → Res (Option D)} {g : D → Option D} : ∀ {ds : List D}, (∀ d ∈ ds, f d = .ok (g d)) → lcD f ds = .ok (ds.filterMap g)
  | [], _ => rfl
  | d :: ds, h => by
    unfold lcD
    rw [h d (List.mem_cons_self ..), lcD_map fun x hx => h x (List.mem_cons_of_mem _ hx)]
    cases e : g d <;> simp [e]
theorem lcD_enc {γ : Type} {f : D → Res (Option D)} (enc : γ → D) (g : γ → Option D) : ∀ {xs : List γ}, (∀ x ∈ xs, f (enc x) = .ok (g x)) → lcD f (xs.map enc) = .ok (xs.filterMap g)
  | [], _ => rfl
  | x :: xs, h => by
    rw [List.map_cons]
    unfold lcD
    rw [h x (List.mem_cons_self ..), lcD_enc enc g fun y hy => h y (List.mem_cons_of_mem _ hy)]
    cases e : g x <;> simp [e]
/-- .. when each gives one -/
theorem lcD_all {γ : Type} {f : D → Res (Option D)} (enc : γ → D) (g : γ → D) {xs : List γ} (h : ∀ x ∈ xs, f (enc x) = .ok (some (g x))) : lcD f (xs.map enc) = .ok (xs.map g) := by
  rw [lcD_enc enc (fun x => some (g x)) h]
  congr 1
  induction xs with
  | nil => rfl
  | cons x xs ih => simp
/-- .. when it sieves -/
theorem lcD_sieve {f : D → Res (Option D)} (p : D → Bool) {ds : List D} (h : ∀ d ∈ ds, f d = .ok (if p d = true then some d else none)) : lcD f ds = .ok (ds.filter p) := by
  rw [lcD_map h]
  congr 1
  induction ds with
  | nil => rfl
  | cons x xs ih =>
    have ih := ih fun d hd => h d (List.mem_cons_of_mem _ hd)
    by_cases q : p x = true <;> simp_all
theorem cmD_nm {i : Nat} {t : Bt → Res Bool} {e : Bt → Res D} {β : Bt} {d : D} {c : Bool} (h : t (β.set i (some d)) = .ok c) : cmD (.nm i) t e β d = if c = true then noEr ((e (β.set i (some d))).bind fun y => .ok (some y)) else .ok none := by
  unfold cmD
  simp only [setT_nm, h, Res.bind_ok]
  cases c <;> rfl
@[simp] theorem noEr_ok {α : Type} (x : α) : noEr (.ok x) = .ok x := nr rfl
@[simp] theorem wipeB_nil (β : Bt) : wipeB β [] = β := nr rfl
@[simp] theorem wipeB_cons (β : Bt) (v : Nat) (vs : List Nat) : wipeB β (v :: vs) = (wipeB β vs).set v none := nr rfl
theorem rangeL_eq (n : Nat) : rangeL 0 n = (List.range n).map fun i : Nat => PyData.int i := by
  unfold rangeL
  simp
theorem inR_small {i : Int} (h1 : -4611686018427387904 ≤ i) (h2 : i < 4611686018427387904) : inR i = true := by
  unfold inR
  simp only [Bool.and_eq_true, decide_eq_true_eq]
  omega
@[simp] theorem le_size {n : Nat} (h : n < 16777217) : (n ≤ sizeLine) = True := eq_true (by rw [PySem.sizeLine_eq]; omega)
@[simp] theorem lt_size {n : Nat} (h : n < 16777216) : (n < sizeLine) = True := eq_true (by rw [PySem.sizeLine_eq]; omega)
/-! ### what holds behind a statement -/
inductive ON (P : At → Prop) (R : D → Prop) : Out → Prop
  | nx (α : At) (h : P α) : ON P R (.nx α)
  | rt (d : D) (h : R d) : ON P R (.rt d)
def Sat (P : D → Prop) (r : Res D) : Prop := ∃ d, r = .ok d ∧ P d
section
variable {P : At → Prop} {R : D → Prop} {α : At}
@[simp] theorem ON_nx : ON P R (.nx α) = P α := propext ⟨fun h => by cases h; assumption, .nx α⟩
@[simp] theorem ON_rt (d : D) : ON P R (.rt d) = R d := propext ⟨fun h => by cases h; assumption, .rt d⟩
theorem ON.imp {P' : At → Prop} {R' : D → Prop} {o : Out} (h : ON P R o) (i : ∀ α, P α → P' α) (j : ∀ d, R d → R' d) : ON P' R' o := by
  cases h with
  | nx α h => exact .nx _ (i _ h)
  | rt d h => exact .rt _ (j _ h)
theorem ON.seq {a b : At → Out} (h : ON (fun α' => ON P R (b α')) R (a α)) : ON P R (sSeq a b α) := by
  rw [sSeq_ap]
  generalize a α = o at h
  cases h with
  | nx α' h => exact h
  | rt d h => exact .rt _ h
theorem ON.iff {t : At → Res Bool} {a b : At → Out} {c : Bool} (h : t α = .ok c) (h1 : c = true → ON P R (a α)) (h2 : c = false → ON P R (b α)) : ON P R (sIf t a b α) := by
  rw [sIf_ap, h, ofR_ok]
  cases c with
  | true => exact h1 rfl
  | false => exact h2 rfl
theorem ON.for_ {it : Bt → Res (List D)} {tg : Tgt} {b : At → Out} {ds : List D} (I : List D → At → Prop) (hi : it (dats α) = .ok ds) (h0 : I ds α) (step : ∀ d ds α, I (d :: ds) α → ∃ α1, setTA tg d α = some α1 ∧ ON (I ds) R (b α1)) (hd : ∀ α, I [] α → P α) : ON P R (sFor it tg b α) := by
  rw [sFor_ap, hi, ofR_ok]
  clear hi
  induction ds generalizing α with
  | nil => exact .nx _ (hd _ h0)
  | cons d ds ih =>
    obtain ⟨α1, h1, h2⟩ := step d ds α h0
    generalize e : b α1 = o at h2
    cases h2 with
    | nx α2 h =>
      rw [forD_nx h1 e]
      exact ih h
    | rt x h =>
      rw [forD_rt h1 e]
      exact .rt _ h
theorem Sat.eq {r : Res D} {v : D} (h : Sat (fun d => d = v) r) : r = .ok v := by
  obtain ⟨d, rfl, rfl⟩ := h
  rfl
theorem Sat.fD {n N : Nat} {b : At → Out} {ds : List D} (h : ds.length = n) (k : ON (fun _ => R .none) R (b (ds.map AV.dat ++ List.replicate (N - n) AV.un))) : Sat R (DL.fD n N b ds) := by
  rw [fD_ap h]
  generalize b (ds.map AV.dat ++ List.replicate (N - n) AV.un) = o at k
  cases k with
  | nx α k => exact ⟨_, rfl, k⟩
  | rt d k => exact ⟨_, rfl, k⟩
end
theorem atI_lt {α : Type} (xs : List α) (i : Nat) (h : i < xs.length) : atI xs (i : Int) = some xs[i] := L2.atI_nat (List.getElem?_eq_getElem h)
theorem atI_int {α : Type} (xs : List α) {i : Int} (h0 : 0 ≤ i) (h : i < xs.length) : atI xs i = some (xs[i.toNat]'(by omega)) := by
  have e : ((i.toNat : Nat) : Int) = i := by omega
  have := atI_lt xs i.toNat (by omega)
  rw [e] at this
  exact this
theorem atI_map {γ : Type} (f : γ → D) (xs : List γ) {i : Int} (h0 : 0 ≤ i) (h : i < xs.length) : atI (xs.map f) i = some (f (xs[i.toNat]'(by omega))) := by
  rw [atI_int (xs.map f) h0 (by simpa using h), List.getElem_map]
@[simp] theorem sSetI_ap (i : Nat) (dk d : At → Res D) (α : At) : sSetI i dk d α = ofR (d α) α fun v => ownAt i α fun _ => ofR (dk α) α fun k => ownAt i α fun ds => (match k with
  | .int k => (match ixN ds.length k with
    | some j => .nx (α.set i (.own (ds.set j v)))
    | none => .no)
  | _ => .no) := nr rfl
theorem ixN_int {n : Nat} {i : Int} (h0 : 0 ≤ i) (h : i < n) : ixN n i = some i.toNat := by
  unfold ixN
  rw [if_pos h0, if_pos h]
end DL

/-! PL2: numbers: operators, numbers in lowest terms. -/
namespace DL
open PySem L2
theorem fMod_pos {i k : Int} (h : 0 < k) : fMod (.int i) (.int k) = some (.int (i % k)) := by
  rw [← Int.fmod_eq_emod_of_nonneg _ (by omega)]
  exact if_pos (by omega)
theorem fDiv_pos {i k : Int} (h : 0 < k) (h2 : k < 1073741824) : fDiv (.int i) (.int k) = some (.int (i / k)) := by
  rw [← Int.fdiv_eq_ediv_of_nonneg _ (by omega)]
  refine if_pos ?_
  unfold divOk
  simp only [Bool.or_eq_true, Bool.and_eq_true, decide_eq_true_eq]
  left
  omega
theorem fMul_sm {i k : Int} (h : -18446744073709551616 < k) (h2 : k < 18446744073709551616) : fMul (.int i) (.int k) = some (.int (i * k)) := by
  unfold fMul mulOk small64
  have e : (decide (-(2 ^ 64) < k) && decide (k < 2 ^ 64)) = true := by
    simp only [Bool.and_eq_true, decide_eq_true_eq]
    omega
  simp only [e, Bool.true_or, Bool.or_true, if_pos]
theorem fMul_sm' {i k : Int} (h : -18446744073709551616 < i) (h2 : i < 18446744073709551616) : fMul (.int i) (.int k) = some (.int (i * k)) := by
  unfold fMul mulOk small64
  have e : (decide (-(2 ^ 64) < i) && decide (i < 2 ^ 64)) = true := by
    simp only [Bool.and_eq_true, decide_eq_true_eq]
    omega
  simp only [e, Bool.true_or, if_pos]
@[simp] theorem fAdd_int (i j : Int) : fAdd (.int i) (.int j) = some (.int (i + j)) := nr rfl
@[simp] theorem fSub_int (i j : Int) : fSub (.int i) (.int j) = some (.int (i - j)) := nr rfl
@[simp] theorem fNeg_int (i : Int) : fNeg (.int i) = some (.int (-i)) := nr rfl
@[simp] theorem fEq_int (i j : Int) : fEq (.int i) (.int j) = some (.bool (i == j)) := nr rfl
@[simp] theorem fNe_int (i j : Int) : fNe (.int i) (.int j) = some (.bool !(i == j)) := nr rfl
@[simp] theorem fEq_str (i j : Str) : fEq (.str i) (.str j) = some (.bool (i == j)) := nr rfl
@[simp] theorem fNe_str (i j : Str) : fNe (.str i) (.str j) = some (.bool !(i == j)) := nr rfl
@[simp] theorem fEq_bool (i j : Bool) : fEq (.bool i) (.bool j) = some (.bool (i == j)) := nr rfl
@[simp] theorem fLt_int (i j : Int) : fLt (.int i) (.int j) = some (.bool (decide (i < j))) := nr rfl
def sl (a b : Str) : Bool := decide (a.cps.toList < b.cps.toList)
@[simp] theorem fLt_str (i j : Str) : fLt (.str i) (.str j) = some (.bool (sl i j)) := nr rfl
@[simp] theorem fLe_int (f : Int → Int → Bool) (i j : Int) : fCmp f (.int i) (.int j) = some (.bool (f i j)) := nr rfl
@[simp] theorem fAbs_int (i : Int) : fAbs [.int i] = some (.int (if i < 0 then -i else i)) := nr rfl
@[simp] theorem fInt_int (i : Int) : fInt [.int i] = some (.int i) := nr rfl
@[simp] theorem fInt_bool (k : Bool) : fInt [.bool k] = some (.int (if k then 1 else 0)) := nr rfl
@[simp] theorem fLen_l (xs : List D) : fLen [.list xs] = some (.int xs.length) := nr rfl
@[simp] theorem fLen_t (xs : List D) : fLen [.tuple xs] = some (.int xs.length) := nr rfl
@[simp] theorem fTuple_l (xs : List D) : fTuple [.list xs] = some (.tuple xs) := nr rfl
@[simp] theorem fTuple_t (xs : List D) : fTuple [.tuple xs] = some (.tuple xs) := nr rfl
@[simp] theorem fMin2_int (i j : Int) : fMin2 [.int i, .int j] = some (.int (if j < i then j else i)) := nr rfl
@[simp] theorem fMax2_int (i j : Int) : fMax2 [.int i, .int j] = some (.int (if j > i then j else i)) := nr rfl
@[simp] theorem fRevA_l (xs : List D) : fRevA (.list xs) = some (.list xs.reverse) := nr rfl
@[simp] theorem fRevA_t (xs : List D) : fRevA (.tuple xs) = some (.tuple xs.reverse) := nr rfl
theorem fAdd_l (xs ys : List D) (h : xs.length + ys.length ≤ sizeLine) : fAdd (.list xs) (.list ys) = some (.list (xs ++ ys)) := if_pos h
theorem fAdd_t (xs ys : List D) (h : xs.length + ys.length ≤ sizeLine) : fAdd (.tuple xs) (.tuple ys) = some (.tuple (xs ++ ys)) := if_pos h
theorem fAdd_s (x y : Str) (h : x.length + y.length ≤ sizeLine) : fAdd (.str x) (.str y) = some (.str (x ++ y)) := if_pos h
@[simp] theorem fIx_l (xs : List D) (i : Int) : fIx (.list xs) (.int i) = atI xs i := nr rfl
@[simp] theorem fIx_t (xs : List D) (i : Int) : fIx (.tuple xs) (.int i) = atI xs i := nr rfl
@[simp] theorem atI_z (x : D) (xs : List D) : atI (x :: xs) 0 = some x := by
  have := L2.atI_nat (xs := x :: xs) (j := 0) (v := x) rfl
  simpa using this
/-- places told by a number that is written -/
theorem atI_lit {α : Type} (xs : List α) (i : Nat) (x : α) (h : xs[i]? = some x) : atI xs (OfNat.ofNat i : Int) = some x := L2.atI_nat h
theorem iRange1_ap {a : Bt → Res D} {β : Bt} {n : Int} (h : a β = .ok (.int n)) (h1 : -4611686018427387904 ≤ n) (h2 : n < 4611686018427387904) : iRange1 a β = .ok (rangeL 0 n.toNat) := by
  unfold iRange1
  rw [h]
  exact if_pos (inR_small h1 h2)
end DL
namespace Cm
open PySem L2 DL
def euc : Nat → Nat → Nat → Nat × Nat
  | 0, a, b => (a, b)
  | n + 1, a, b => if b ≠ 0 then euc n b (a % b) else euc n a b
theorem euc_z : ∀ (n a : Nat), euc n a 0 = (a, 0)
  | 0, _ => rfl
  | n + 1, a => by simp [euc, euc_z n a]
theorem euc_gcd : ∀ (n a b : Nat), (b < 2 ^ (n / 2)) → euc n a b = (Nat.gcd a b, 0)
  | 0, a, b, h => by
    have : b = 0 := by simp at h; omega
    subst this
    simp [euc]
  | 1, a, b, h => by
    have : b = 0 := by simp at h; omega
    subst this
    simp [euc]
  | n + 2, a, b, h => by
    by_cases hb : b = 0
    · subst hb
      rw [euc_z]; simp
    · rw [euc, if_pos hb, euc]
      by_cases hc : a % b = 0
      · rw [if_neg (by simpa using hc), hc, euc_z, ← Nat.gcd_comm, Nat.gcd_rec, hc]; simp
      · rw [if_pos hc, euc_gcd n (a % b) (b % (a % b)) ?_]
        · rw [Nat.gcd_comm (a % b), ← Nat.gcd_rec, ← Nat.gcd_rec, Nat.gcd_comm]
        · have h1 : a % b < b := Nat.mod_lt _ (by omega)
          have h2 : b % (a % b) < a % b := Nat.mod_lt _ (by omega)
          have h3 : b = (a % b) * (b / (a % b)) + b % (a % b) := (Nat.div_add_mod _ _).symm
          have h4 : 0 < b / (a % b) := Nat.div_pos (by omega) (by omega)
          have h5 : a % b ≤ (a % b) * (b / (a % b)) := Nat.le_mul_of_pos_right _ h4
          have e : (n + 2) / 2 = n / 2 + 1 := by omega
          rw [e, Nat.pow_succ] at h
          omega
theorem low_loop : ∀ (ds : List D) (n d : D) (a b : Nat) (u v : AV), ∃ u' v', forD (.nm 4)
 (sIf (sD (tV (d2 fNe (dV 3) (dC (.int (0))))))
 (sSeq (sSet 5 (sD (d2 fMod (dN fInt (aCons (dV 2) aNil)) (dV 3))))
 (sSeq (sSet 2 (sD (dV 3)))
 (sSet 3 (sD (dV 5)))))
 sNil) ds [.dat n, .dat d, .dat (.int a), .dat (.int b), u, v] = .nx [.dat n, .dat d, .dat (.int (euc ds.length a b).1), .dat (.int (euc ds.length a b).2), u', v']
  | [], n, d, a, b, u, v => ⟨u, v, rfl⟩
  | x :: ds, n, d, a, b, u, v => by
    by_cases hb : b = 0
    · subst hb
      obtain ⟨u', v', h⟩ := low_loop ds n d a 0 (.dat x) v
      refine ⟨u', v', ?_⟩
      rw [forD_nx (α2 := [.dat n, .dat d, .dat (.int a), .dat (.int (0 : Nat)), .dat x, v]) rfl (by simp [sIf_ap, sSeq_ap]), h]
      simp [euc]
    · obtain ⟨u', v', h⟩ := low_loop ds n d b (a % b) (.dat x) (.dat (.int (a % b : Nat)))
      refine ⟨u', v', ?_⟩
      rw [forD_nx (α2 := [.dat n, .dat d, .dat (.int b), .dat (.int (a % b : Nat)), .dat x, .dat (.int (a % b : Nat))]) rfl (by
        have h0 : (b : Int) ≠ 0 := by omega
        have h1 : fMod (.int a) (.int b) = some (.int ((a % b : Nat) : Int)) := by rw [fMod_pos (by omega)]; rfl
        simp [h0, h1, hb, sIf_ap, sSeq_ap]), h]
      simp [euc, hb]
theorem low_eq {n d : Int} (h : 0 < d) (h2 : d < 1073741824) : f__law_lowest [.int n, .int d] = .ok (.tuple [.int (n / (Int.gcd n d : Nat)), .int (d / (Int.gcd n d : Nat))]) := by
  unfold f__law_lowest
  rw [fD_ap (by rfl)]
  obtain ⟨u', v', hl⟩ := low_loop (rangeL 0 200) (.int n) (.int d) n.natAbs d.natAbs .un .un
  have e1 : (if n < 0 then -n else n) = (n.natAbs : Int) := by omega
  have e2 : d = (d.natAbs : Int) := by omega
  have e3 : euc (rangeL 0 200).length n.natAbs d.natAbs = (Int.gcd n d, 0) := by
    rw [euc_gcd _ _ _ (by
      rw [rangeL_length]
      have : d.natAbs < 1073741824 := by omega
      exact Nat.lt_trans this (by decide))]
    rfl
  rw [e3] at hl
  have g0 : 0 < Int.gcd n d := Int.gcd_pos_of_ne_zero_right _ (by omega)
  have g1 : (Int.gcd n d : Int) ≤ d := by
    have := Nat.le_of_dvd (by omega) (Int.gcd_dvd_natAbs_right n d)
    omega
  rw [← e2] at hl
  have r : DL.inR 200 = true := inR_small (by decide) (by decide)
  unfold b__law_lowest
  simp [sSeq_ap, sFor_ap, iRange1, e1, r, hl, fDiv_pos (i := n) (k := (Int.gcd n d : Nat)) (by omega) (by omega), fDiv_pos (i := d) (k := (Int.gcd n d : Nat)) (by omega) (by omega)]
theorem iRangeL {a : Bt → Res D} {β : Bt} {n : Int} (h : a β = .ok (.int n)) (h1 : -4611686018427387904 ≤ n) (h2 : n < 4611686018427387904) : iRange1 a β = .ok ((List.range n.toNat).map fun i : Nat => PyData.int i) := by
  rw [iRange1_ap h h1 h2, rangeL_eq]
theorem pow18 : fPow (.int 10) (.int 18) = some (.int 1000000000000000000) := by
  unfold fPow
  simp
def NI (sc : D) (c : Nat) (L : List Bool) (rs : List Int) (z : Int) (ds : List D) (α : At) : Prop := (∀ d ∈ ds, ∃ k : Int, d = .int k ∧ 0 ≤ k ∧ k < 1000000) ∧ ∃ (xs rs' : List Int) (u v w x : AV), xs.length + ds.length = c ∧ (∀ x ∈ xs, 0 ≤ x ∧ x < 5040) ∧ rs'.length = rs.length ∧
      α = [AV.dat sc, .dat (.int c), .own (rs'.map PyData.int), .dat (.int z), .dat (.list (L.map .bool)), .own (xs.map PyData.int), u, v, w, x]
theorem numbers_loop (sc : D) (c : Nat) (hc : c < 1000000) (L : List Bool) (rs : List Int) (hL : L.length = rs.length) (h0 : 0 < rs.length) (z : Int) (hz : z = rs.length) : ON (fun _ => False) (fun d => ∃ xs : List Int, d = .list (xs.map PyData.int) ∧ xs.length = c ∧ ∀ x ∈ xs, 0 ≤ x ∧ x < 5040)
 ((sSeq (sFor (iRange1 (dV 1)) (.nm 6)
 (sSeq (sSet 7 (sD (d2 fMod (dV 6) (dV 3))))
 (sIf (sBt (tAnd (tV (d2 fIx (dV 4) (dV 7))) (tV (d2 fGt (d2 fIx (dV 2) (dV 7)) (dC (.int (0)))))))
 (sSeq (sApp 5 (sB (d2 fMod (dN fInt (aCons (d2 fIx (dV 2) (dV 7)) aNil)) (dC (.int (5040))))))
 (sSetI 2 (sD (dV 7)) (sB (d2 fDiv (d2 fIx (dV 2) (dV 7)) (dC (.int (5040)))))))
 (sSeq (sSet 8 (sB (d2 fMod (d2 fMul (d2 fAdd (d2 fAdd (d2 fMod (dN fInt (aCons (d2 fIx (dV 2) (dV 7)) aNil)) (dC (.int (1000003)))) (d2 fMul (dC (.int (17))) (dV 6))) (dC (.int (1)))) (dC (.int (48271)))) (dC (.int (2147483647))))))
 (sSeq (sSet 8 (sD (d2 fMod (d2 fMul (dN fInt (aCons (d2 fAdd (d2 fAdd (dV 8) (d2 fMul (d2 fMul (dV 6) (dV 6)) (dC (.int (7))))) (dC (.int (3)))) aNil)) (dC (.int (69621)))) (dC (.int (1000003))))))
 (sApp 5 (sD (d2 fMod (d2 fDiv (dV 8) (dC (.int (7)))) (dC (.int (5040)))))))))))
 (fun α => (sRet (sD (dV 5))) (frzA 5 α))) [AV.dat sc, .dat (.int c), .own (rs.map PyData.int), .dat (.int z), .dat (.list (L.map .bool)), .own [], .un, .un, .un, .un]) := by
  refine ON.seq (ON.imp (P := fun α => ∃ xs : List Int, xs.length = c ∧ (∀ x ∈ xs, 0 ≤ x ∧ x < 5040) ∧ α[5]? = some (.own (xs.map PyData.int))) (R := fun _ => False) ?_ ?_ (fun _ h => h.elim))
  · refine ON.for_ (NI sc c L rs z)
      (iRangeL (n := c) (by simp) (by omega) (by omega)) ?_ ?_ ?_
    · refine ⟨fun d hd => ?_, [], rs, .un, .un, .un, .un, by simp, by simp, rfl, rfl⟩
      obtain ⟨k, hk, rfl⟩ := List.mem_map.mp hd
      exact ⟨k, rfl, by omega, by simp at hk; omega⟩
    · rintro d ds α ⟨hk, xs, rs', u, v, w, x, hl, hx, hr, rfl⟩
      obtain ⟨k, rfl, hk0, hk1⟩ := hk d (List.mem_cons_self ..)
      refine ⟨_, rfl, ON.seq ?_⟩
      have m1 : fMod (.int k) (.int z) = some (.int (k % z)) := fMod_pos (by omega)
      have ht0 : 0 ≤ k % z := Int.emod_nonneg _ (by omega)
      have ht : k % z < z := Int.emod_lt_of_pos _ (by omega)
      have hk' : ∀ d ∈ ds, ∃ k : Int, d = .int k ∧ 0 ≤ k ∧ k < 1000000 := fun d hd => hk d (List.mem_cons_of_mem _ hd)
      clear hk
      simp only [List.length_cons] at hl
      simp only [sSet_ap, sD_ap, d2_ap, dats_cons, dt_d, dt_o, dt_u, dV_s, dV_z, Res.bind_ok, Res.of_some, ofR_ok, List.set, m1, ON_nx]
      generalize k % z = t at ht ht0
      have q1 : atI (L.map PyData.bool) t = some (.bool (L[t.toNat]'(by omega))) := atI_map _ _ ht0 (by omega)
      have q2 : atI (rs'.map PyData.int) t = some (.int (rs'[t.toNat]'(by omega))) := atI_map _ _ ht0 (by omega)
      have lx : xs.length < 16777216 := by omega
      refine ON.iff (c := L[t.toNat]'(by omega) && decide (0 < rs'[t.toNat]'(by omega))) ?_ (fun hc => ?_) (fun hc => ?_)
      · cases e : L[t.toNat]'(by omega) <;> simp [q1, q2, e]
      · refine ON.seq ?_
        simp [q2, fMod_pos, lx]
        have i1 : ixN rs'.length t = some t.toNat := ixN_int (by omega) (by omega)
        simp [q2, fDiv_pos, i1]
        refine ⟨hk', xs ++ [rs'[t.toNat]'(by omega) % 5040], rs'.set t.toNat (rs'[t.toNat]'(by omega) / 5040), _, _, _, _, by simp; omega, ?_, by simpa using hr, by simp; exact ⟨rfl, rfl, rfl, rfl⟩⟩
        intro x hx'
        rcases List.mem_append.mp hx' with h | h
        · exact hx x h
        · simp at h
          omega
      · have b1 : True := trivial
        refine ON.seq (ON.imp (P := fun α => ∃ m : Int, α = [AV.dat sc, .dat (.int c), .own (rs'.map PyData.int), .dat (.int z), .dat (.list (L.map .bool)), .own (xs.map PyData.int), .dat (.int k), .dat (.int t), .dat (.int m), x]) (R := fun _ => False) ?_ ?_ (fun _ h => h.elim))
        · simp [q2, fMod_pos, fMul_sm, fMul_sm']
        rintro α ⟨m, rfl⟩
        have w1 : fMul (.int k) (.int k) = some (.int (k * k)) := fMul_sm' (by omega) (by omega)
        refine ON.seq (ON.imp (P := fun α => ∃ m : Int, α = [AV.dat sc, .dat (.int c), .own (rs'.map PyData.int), .dat (.int z), .dat (.list (L.map .bool)), .own (xs.map PyData.int), .dat (.int k), .dat (.int t), .dat (.int m), x]) (R := fun _ => False) ?_ ?_ (fun _ h => h.elim))
        · have w2 : fMul (.int (k * k)) (.int 7) = some (.int (k * k * 7)) := fMul_sm (by decide) (by decide)
          have w3 : fMul (.int (m + k * k * 7 + 3)) (.int 69621) = some (.int ((m + k * k * 7 + 3) * 69621)) := fMul_sm (by decide) (by decide)
          have w4 : fMod (.int ((m + k * k * 7 + 3) * 69621)) (.int 1000003) = some (.int ((m + k * k * 7 + 3) * 69621 % 1000003)) := fMod_pos (by decide)
          generalize (m + k * k * 7 + 3) * 69621 % 1000003 = m2 at w4
          simp only [sSet_ap, sD_ap, d2_ap, dN_ap, aCons_ap, aNil_ap, dC_ap, dats_cons, dt_d, dt_o, dV_s, dV_z, Res.bind_ok, Res.of_some, w1, w2, w3, w4, fAdd_int, fInt_int, ofR_ok, List.set, ON_nx]
          exact ⟨m2, rfl⟩
        rintro α ⟨m, rfl⟩
        simp [fMod_pos, fDiv_pos, lx]
        refine ⟨hk', xs ++ [_ ], rs', _, _, _, _, by simp; omega, ?_, hr, by simp; exact ⟨rfl, rfl, rfl, rfl, rfl⟩⟩
        intro x hx'
        rcases List.mem_append.mp hx' with h | h
        · exact hx x h
        · simp at h
          omega
    · rintro α ⟨_, xs, rs', u, v, w, x, hl, hx, hr, rfl⟩
      exact ⟨xs, by simpa using hl, hx, rfl⟩
  · rintro α ⟨xs, hl, hx, ha⟩
    have e : frzA 5 α = α.set 5 (.dat (.list (xs.map PyData.int))) := by unfold DL.frzA; rw [ha]
    have l5 : 5 < α.length := (List.getElem?_eq_some_iff.mp ha).1
    have v : dV 5 (dats (frzA 5 α)) = .ok (.list (xs.map PyData.int)) := by
      unfold dV dats
      rw [e, List.getElem?_map, List.getElem?_set_self l5]
      rfl
    show ON _ _ (ofR (dV 5 (dats (frzA 5 α))) (frzA 5 α) fun x => Out.rt x)
    rw [v, ofR_ok]
    exact .rt _ ⟨xs, rfl, hl, hx⟩
theorem numbers_ok (ns : List Int) (hn : ns.length < 16777217) (c : Nat) (hc : c < 1000000) : Sat (fun d => ∃ xs : List Int, d = .list (xs.map PyData.int) ∧ xs.length = c ∧ ∀ x ∈ xs, 0 ≤ x ∧ x < 5040) (f__law_numbers [.dict [(.none, .list (ns.map PyData.int))], .int c]) := by
  refine Sat.fD rfl ?_
  unfold b__law_numbers
  have e1 : fSl (.dict [(.none, .list (ns.map PyData.int))]) none (some 63) = some (.list ((cutD ns none (some 63)).map PyData.int)) := by
    simp [fSl, cutD, List.map_take, List.map_drop]
  have l1 : (cutD ns none (some 63)).length < 16777217 := by
    simp [cutD]; omega
  generalize cutD ns none (some 63) = cs at e1 l1
  have e2 : lcD (cmD (.nm 9) yesT (dN fInt (aCons (dV 9) aNil)) [some (.dict [(.none, .list (ns.map PyData.int))]), some (.int c), none, none, none, none, none, none, none, none]) (cs.map PyData.int) = .ok (cs.map PyData.int) := lcD_all _ _ fun x _ => rfl
  refine ON.seq ?_
  simp [e1, l1, List.set, e2]
  -- an empty script stands as [0]
  refine ON.seq (ON.imp (P := fun α => ∃ rs : List Int, 0 < rs.length ∧ rs.length < 16777217 ∧ α = [AV.dat (.dict [(.none, .list (ns.map PyData.int))]), .dat (.int c), .own (rs.map PyData.int), .un, .un, .un, .un, .un, .un, .un]) (R := fun _ => False) ?_ ?_ (fun _ h => h.elim))
  · refine ON.iff (c := ((cs.length : Int) == 0)) (by simp) (fun h => ?_) (fun h => ?_)
    · simp
      exact ⟨[0], by decide, by decide, rfl⟩
    · simp
      refine ⟨cs, ?_, l1, rfl⟩
      cases cs with
      | nil => simp at h
      | cons => simp
  clear e2 e1
  rintro α ⟨rs, h0, h1, rfl⟩
  refine ON.seq ?_
  simp
  refine ON.seq ?_
  have e3 : ∃ L : List Bool, L.length = rs.length ∧ lcD (cmD (.nm 9) yesT (d2 fGe (dV 9) (d2 fPow (dC (.int 10)) (dC (.int 18)))) [some (.dict [(.none, .list (ns.map PyData.int))]), some (.int c), some (.list (rs.map PyData.int)), some (.int rs.length), none, none, none, none, none, none]) (rs.map PyData.int) = .ok (L.map .bool) :=
    ⟨rs.map fun x => decide (1000000000000000000 ≤ x), by simp, by rw [List.map_map]; exact lcD_all _ _ fun x _ => by simp [cmD, pow18]⟩
  obtain ⟨L, hL, e3⟩ := e3
  have n3 : noLs (L.map .bool) = true := by
    clear e3 hL
    induction L with
    | nil => rfl
    | cons x rs ih => exact ih
  simp [h1, e3, n3]
  refine ON.seq ?_
  simp
  exact numbers_loop _ c hc L rs hL h0 _ rfl
end Cm

/-! PL3: rows in order: keys, lists that rise by their keys. -/
namespace DL
open PySem L2
theorem sx {a b : Str} (h : a.cps.toList = b.cps.toList) : a = b := by
  obtain ⟨⟨x⟩⟩ := a
  obtain ⟨⟨y⟩⟩ := b
  exact congrArg (fun z => Str.mk ⟨z⟩) h
theorem sl_irr (a : Str) : sl a a = false := decide_eq_false (List.lt_irrefl _)
theorem sl_tr {a b c : Str} (h : sl a b = true) (k : sl b c = true) : sl a c = true := decide_eq_true (List.lt_trans (of_decide_eq_true h) (of_decide_eq_true k))
theorem sl_tri {a b : Str} (h : sl a b = false) (k : sl b a = false) : a = b :=
  sx (List.le_antisymm (List.not_lt.mp (of_decide_eq_false k)) (List.not_lt.mp (of_decide_eq_false h)))
abbrev Ky := Str × Str
def kl (a b : Ky) : Bool := sl a.1 b.1 || (decide (a.1 = b.1) && sl a.2 b.2)
theorem kl_irr (a : Ky) : kl a a = false := by simp [kl, sl_irr]
theorem kl_tr {a b c : Ky} (h : kl a b = true) (k : kl b c = true) : kl a c = true := by
  simp only [kl, Bool.or_eq_true, Bool.and_eq_true, decide_eq_true_eq] at *
  rcases h with h | ⟨e, h⟩ <;> rcases k with k | ⟨e2, k⟩
  · exact .inl (sl_tr h k)
  · exact .inl (e2 ▸ h)
  · exact .inl (e ▸ k)
  · exact .inr ⟨e.trans e2, sl_tr h k⟩
theorem kl_tri {a b : Ky} (h : kl a b = false) (k : kl b a = false) : a = b := by
  simp only [kl, Bool.or_eq_false_iff, Bool.and_eq_false_iff, decide_eq_false_iff_not] at *
  have e := sl_tri h.1 k.1
  have h2 := h.2.resolve_left fun z => z e
  have k2 := k.2.resolve_left fun z => z e.symm
  exact Prod.ext e (sl_tri h2 k2)
/-! ### rising lists -/
section
variable {γ : Type} {key : γ → Ky}
def Ris (key : γ → Ky) (l : List γ) : Prop := l.Pairwise fun a b => kl (key a) (key b) = true
theorem Ris.cons {x : γ} {l : List γ} : Ris key (x :: l) ↔ (∀ y ∈ l, kl (key x) (key y) = true) ∧ Ris key l := List.pairwise_cons
theorem Ris.not_mem {x : γ} {l : List γ} (h : Ris key (x :: l)) : x ∉ l := fun z => by
  have := (Ris.cons.mp h).1 x z
  rw [kl_irr] at this
  cases this
/-- rising lists with like members are like -/
theorem Ris.ext : ∀ {l m : List γ}, Ris key l → Ris key m → (∀ x, x ∈ l ↔ x ∈ m) → l = m
  | [], [], _, _, _ => rfl
  | [], y :: m, _, _, h => absurd ((h y).mpr (List.mem_cons_self ..)) (by simp)
  | x :: l, [], _, _, h => absurd ((h x).mp (List.mem_cons_self ..)) (by simp)
  | x :: l, y :: m, h1, h2, h => by
    have a := Ris.cons.mp h1
    have b := Ris.cons.mp h2
    have e : x = y := by
      by_cases e : x = y
      · exact e
      · have q1 : x ∈ m := ((List.mem_cons.mp ((h x).mp (List.mem_cons_self ..))).resolve_left e)
        have q2 : y ∈ l := ((List.mem_cons.mp ((h y).mpr (List.mem_cons_self ..))).resolve_left fun z => e z.symm)
        have z := kl_tr (a.1 y q2) (b.1 x q1)
        rw [kl_irr] at z
        cases z
    subst e
    refine congrArg (x :: ·) (Ris.ext a.2 b.2 fun z => ⟨fun hz => ?_, fun hz => ?_⟩)
    · exact (List.mem_cons.mp ((h z).mp (List.mem_cons_of_mem _ hz))).resolve_left fun e => h1.not_mem (e ▸ hz)
    · exact (List.mem_cons.mp ((h z).mpr (List.mem_cons_of_mem _ hz))).resolve_left fun e => h2.not_mem (e ▸ hz)
/-- like keys, like rows -/
theorem Ris.inj : ∀ {l : List γ}, Ris key l → ∀ {x y : γ}, x ∈ l → y ∈ l → key x = key y → x = y
  | [], _, _, _, h, _, _ => by cases h
  | z :: l, h, x, y, hx, hy, e => by
    have a := Ris.cons.mp h
    rcases List.mem_cons.mp hx with rfl | hx' <;> rcases List.mem_cons.mp hy with rfl | hy'
    · rfl
    · have q := a.1 y hy'
      rw [e, kl_irr] at q
      cases q
    · have q := a.1 x hx'
      rw [e, kl_irr] at q
      cases q
    · exact Ris.inj a.2 hx' hy' e
/-- x put at its place -/
def put (key : γ → Ky) (l : List γ) (x : γ) : List γ := (l.filter fun y => kl (key y) (key x)) ++ [x] ++ l.filter fun y => kl (key x) (key y)
theorem put_mem {l : List γ} {x y : γ} : y ∈ put key l x ↔ y = x ∨ (y ∈ l ∧ key y ≠ key x) := by
  simp only [put, List.mem_append, List.mem_filter, List.mem_singleton]
  constructor
  · rintro ((⟨h, k⟩ | h) | ⟨h, k⟩)
    · exact .inr ⟨h, fun e => by rw [e, kl_irr] at k; cases k⟩
    · exact .inl h
    · exact .inr ⟨h, fun e => by rw [e, kl_irr] at k; cases k⟩
  · rintro (h | ⟨h, k⟩)
    · exact .inl (.inr h)
    · cases q : kl (key y) (key x) with
      | true => exact .inl (.inl ⟨h, rfl⟩)
      | false =>
        cases q2 : kl (key x) (key y) with
        | true => exact .inr ⟨h, rfl⟩
        | false => exact absurd (kl_tri q q2) k
theorem put_ris {l : List γ} {x : γ} (h : Ris key l) : Ris key (put key l x) := by
  unfold put Ris
  rw [List.append_assoc, List.pairwise_append]
  refine ⟨h.filter _, ?_, fun a ha b hb => ?_⟩
  · rw [List.singleton_append, List.pairwise_cons]
    exact ⟨fun a ha => (List.mem_filter.mp ha).2, h.filter _⟩
  · have q := (List.mem_filter.mp ha).2
    rcases List.mem_append.mp hb with hb | hb
    · rw [List.mem_singleton.mp hb]; exact q
    · exact kl_tr q (List.mem_filter.mp hb).2
theorem two_sieves {l : List γ} {p q : γ → Bool} (h : ∀ x, p x = true → q x = false) : (l.filter p).length + (l.filter q).length ≤ l.length := by
  induction l with
  | nil => simp
  | cons x l ih =>
    simp only [List.filter_cons]
    cases e : p x with
    | true =>
      rw [h x e]
      simp
      omega
    | false =>
      cases q x <;> simp <;> omega
theorem put_len {l : List γ} {x : γ} : (put key l x).length ≤ l.length + 1 := by
  have := two_sieves (l := l) (p := fun y => kl (key y) (key x)) (q := fun y => kl (key x) (key y)) fun y h => by
    cases e : kl (key x) (key y) with
    | false => rfl
    | true =>
      have z := kl_tr h e
      rw [kl_irr] at z
      cases z
  simp only [put, List.length_append, List.length_singleton]
  omega
def cut (key : γ → Ky) (l : List γ) (k : Ky) : List γ := l.filter fun y => decide (key y ≠ k)
theorem cut_mem {l : List γ} {k : Ky} {y : γ} : y ∈ cut key l k ↔ y ∈ l ∧ key y ≠ k := by
  simp [cut]
theorem cut_ris {l : List γ} {k : Ky} (h : Ris key l) : Ris key (cut key l k) := h.filter _
theorem put_self {l : List γ} {x : γ} (h : Ris key l) (hx : x ∈ l) : put key l x = l :=
  Ris.ext (put_ris h) h fun y => by
    rw [put_mem]
    exact ⟨fun z => z.elim (fun e => e ▸ hx) fun z => z.1, fun z => by
      by_cases e : key y = key x
      · exact .inl (h.inj z hx e)
      · exact .inr ⟨z, e⟩⟩
/-! ### edits -/
inductive Ed (γ : Type) where
  | put (x : γ)
  | drop (k : Ky)
def Ed.ky (ke : γ → Ky) : Ed γ → Ky
  | .put x => ke x
  | .drop k => k
def app (key : γ → Ky) (l : List γ) : Ed γ → List γ
  | .put x => DL.put key l x
  | .drop k => DL.cut key l k
theorem app_ris {l : List γ} {e : Ed γ} (h : Ris key l) : Ris key (app key l e) := by
  cases e with
  | put x => exact put_ris h
  | drop k => exact cut_ris h
/-- what puts and drops of different keys make -/
theorem drops_mem {ks : List Ky} : ∀ {l : List γ} {y : γ}, y ∈ (ks.map Ed.drop).foldl (app key) l ↔ y ∈ l ∧ key y ∉ ks := by
  induction ks with
  | nil => intro l y; simp
  | cons k ks ih =>
    intro l y
    rw [List.map_cons, List.foldl_cons, ih]
    show y ∈ DL.cut key l k ∧ _ ↔ _
    rw [cut_mem, List.mem_cons, not_or, and_assoc]
theorem puts_mem {xs : List γ} : ∀ {l : List γ} {y : γ}, Ris key xs → (y ∈ (xs.map Ed.put).foldl (app key) l ↔ y ∈ xs ∨ (y ∈ l ∧ ∀ x ∈ xs, key y ≠ key x)) := by
  induction xs with
  | nil => intro l y _; simp
  | cons x xs ih =>
    intro l y h
    have h' := Ris.cons.mp h
    rw [List.map_cons, List.foldl_cons, ih h'.2]
    show y ∈ xs ∨ (y ∈ DL.put key l x ∧ _) ↔ _
    rw [put_mem]
    simp only [List.mem_cons]
    constructor
    · rintro (h1 | ⟨rfl | ⟨h1, h2⟩, h3⟩)
      · exact .inl (.inr h1)
      · exact .inl (.inl rfl)
      · exact .inr ⟨h1, fun z hz => hz.elim (fun e => e ▸ h2) (h3 z)⟩
    · rintro ((rfl | h1) | ⟨h1, h2⟩)
      · exact .inr ⟨.inl rfl, fun z hz e => by
          have q := h'.1 z hz
          rw [e, kl_irr] at q
          cases q⟩
      · exact .inl h1
      · exact .inr ⟨.inr ⟨h1, h2 x (.inl rfl)⟩, fun z hz => h2 z (.inr hz)⟩
theorem fold_ris {es : List (Ed γ)} : ∀ {l : List γ}, Ris key l → Ris key (es.foldl (app key) l) := by
  induction es with
  | nil => intro l h; exact h
  | cons e es ih => intro l h; exact ih (app_ris h)
theorem app_len {l : List γ} {e : Ed γ} : (app key l e).length ≤ l.length + 1 := by
  cases e with
  | put x => exact put_len
  | drop k => exact Nat.le_succ_of_le (List.length_filter_le ..)
open Classical in
/-- what differs -/
noncomputable def diff (key : γ → Ky) (b r : List γ) : List (Ed γ) := ((b.filter fun x => decide (key x ∉ r.map key)).map key).map Ed.drop ++ (r.filter fun x => decide (x ∉ b)).map Ed.put
theorem diff_app {b r : List γ} (hb : Ris key b) (hr : Ris key r) : (diff key b r).foldl (app key) b = r := by
  classical
  refine Ris.ext (fold_ris hb) hr fun y => ?_
  unfold diff
  rw [List.foldl_append, puts_mem (hr.filter _), drops_mem]
  simp only [List.mem_filter, decide_eq_true_eq, List.mem_map, not_exists, not_and]
  constructor
  · rintro (⟨h, _⟩ | ⟨⟨h1, h2⟩, h3⟩)
    · exact h
    · by_cases q : ∃ x ∈ r, key x = key y
      · obtain ⟨x, hx, e⟩ := q
        by_cases hb' : x ∈ b
        · rw [← hb.inj hb' h1 e]; exact hx
        · exact absurd e.symm (h3 x ⟨hx, hb'⟩)
      · exact absurd rfl (h2 y ⟨h1, fun x hx e => q ⟨x, hx, e⟩⟩)
  · intro h
    by_cases hy : y ∈ b
    · refine .inr ⟨⟨hy, fun x hx e => ?_⟩, fun x hx e => ?_⟩
      · exact hx.2 y h e.symm
      · have := hr.inj h hx.1 e
        exact hx.2 (this ▸ hy)
    · exact .inl ⟨h, hy⟩
/-- the undoing of an edit -/
def undo (key : γ → Ky) (l : List γ) (e : Ed γ) : Ed γ := match l.find? fun y => decide (key y = e.ky key) with
  | some r => .put r
  | none => .drop (e.ky key)
theorem find_key {l : List γ} {k : Ky} {r : γ} (h : l.find? (fun y => decide (key y = k)) = some r) : r ∈ l ∧ key r = k := ⟨List.mem_of_find?_eq_some h, by simpa using List.find?_some h⟩
theorem find_no {l : List γ} {k : Ky} (h : l.find? (fun y => decide (key y = k)) = none) : ∀ y ∈ l, key y ≠ k := fun y hy => by simpa using List.find?_eq_none.mp h y hy
theorem undo_app {l : List γ} {e : Ed γ} (h : Ris key l) : app key (app key l e) (undo key l e) = l := by
  refine Ris.ext (app_ris (app_ris h)) h fun y => ?_
  unfold undo
  cases q : l.find? fun y => decide (key y = e.ky key) with
  | some r =>
    obtain ⟨h1, h2⟩ := find_key q
    show y ∈ DL.put key _ r ↔ _
    rw [put_mem]
    cases e with
    | put x =>
      show y = r ∨ (y ∈ DL.put key l x ∧ _) ↔ _
      rw [put_mem]
      have h2 : key r = key x := h2
      constructor
      · rintro (rfl | ⟨rfl | ⟨z, _⟩, w⟩)
        · exact h1
        · exact absurd h2.symm w
        · exact z
      · intro z
        by_cases e : key y = key r
        · exact .inl (h.inj z h1 e)
        · exact .inr ⟨.inr ⟨z, fun e2 => e (e2.trans h2.symm)⟩, e⟩
    | drop k =>
      show y = r ∨ (y ∈ DL.cut key l k ∧ _) ↔ _
      rw [cut_mem]
      have h2 : key r = k := h2
      constructor
      · rintro (rfl | ⟨⟨z, _⟩, w⟩)
        · exact h1
        · exact z
      · intro z
        by_cases e : key y = key r
        · exact .inl (h.inj z h1 e)
        · exact .inr ⟨⟨z, fun e2 => e (e2.trans h2.symm)⟩, e⟩
  | none =>
    have no := find_no q
    show y ∈ DL.cut key _ _ ↔ _
    rw [cut_mem]
    cases e with
    | put x =>
      show (y ∈ DL.put key l x ∧ _) ↔ _
      rw [put_mem]
      constructor
      · rintro ⟨rfl | ⟨z, _⟩, w⟩
        · exact absurd rfl w
        · exact z
      · intro z
        exact ⟨.inr ⟨z, no y z⟩, no y z⟩
    | drop k =>
      show (y ∈ DL.cut key l k ∧ _) ↔ _
      rw [cut_mem]
      exact ⟨fun z => z.1.1, fun z => ⟨⟨z, no y z⟩, no y z⟩⟩
def undos (key : γ → Ky) : List γ → List (Ed γ) → List (Ed γ)
  | _, [] => []
  | l, e :: es => undo key l e :: undos key (app key l e) es
theorem undos_app : ∀ {es : List (Ed γ)} {l : List γ}, Ris key l → (undos key l es).reverse.foldl (app key) (es.foldl (app key) l) = l
  | [], _, _ => rfl
  | e :: es, l, h => by
    rw [undos, List.reverse_cons, List.foldl_append, List.foldl_cons (a := e), undos_app (app_ris h)]
    exact undo_app h
def Ed.may (ke : γ → Ky) (ok : γ → Prop) (l : List γ) : Ed γ → Prop
  | .put x => ok x
  | .drop k => ∃ x ∈ l, ke x = k
/-- edits that may be made: what is dropped is there, what is put is as it ought to be -/
def Val (key : γ → Ky) (ok : γ → Prop) : List γ → List (Ed γ) → Prop
  | _, [] => True
  | l, e :: es => e.may key ok l ∧ Val key ok (app key l e) es
theorem val_append {ok : γ → Prop} : ∀ {es fs : List (Ed γ)} {l : List γ}, Val key ok l (es ++ fs) ↔ Val key ok l es ∧ Val key ok (es.foldl (app key) l) fs
  | [], _, _ => by simp [Val]
  | e :: es, fs, l => by
    rw [List.cons_append, Val, Val, val_append, List.foldl_cons, and_assoc]
theorem val_puts {ok : γ → Prop} : ∀ {xs : List γ} {l : List γ}, (∀ x ∈ xs, ok x) → Val key ok l (xs.map Ed.put)
  | [], _, _ => trivial
  | x :: xs, l, h => ⟨h x (List.mem_cons_self ..), val_puts fun y hy => h y (List.mem_cons_of_mem _ hy)⟩
theorem val_drops {ok : γ → Prop} : ∀ {xs l : List γ}, Ris key xs → (∀ x ∈ xs, x ∈ l) → Val key ok l ((xs.map key).map Ed.drop)
  | [], _, _, _ => trivial
  | x :: xs, l, h, k => ⟨⟨x, k x (List.mem_cons_self ..), rfl⟩, val_drops (Ris.cons.mp h).2 fun y hy => cut_mem.mpr ⟨k y (List.mem_cons_of_mem _ hy), fun e => by
      have q := (Ris.cons.mp h).1 y hy
      rw [e, kl_irr] at q
      cases q⟩⟩
theorem val_diff {ok : γ → Prop} {b r : List γ} (hb : Ris key b) (hr : ∀ x ∈ r, ok x) : Val key ok b (diff key b r) := by
  unfold diff
  rw [val_append]
  exact ⟨val_drops (hb.filter _) fun x hx => (List.mem_filter.mp hx).1, val_puts fun x hx => hr x (List.mem_filter.mp hx).1⟩
theorem app_ok {ok : γ → Prop} {l : List γ} {e : Ed γ} (h : ∀ x ∈ l, ok x) (v : e.may key ok l) : ∀ x ∈ app key l e, ok x := by
  cases e with
  | put y =>
    intro x hx
    rcases put_mem.mp hx with rfl | hx
    · exact v
    · exact h x hx.1
  | drop k => exact fun x hx => h x (cut_mem.mp hx).1
theorem val_undos {ok : γ → Prop} : ∀ {es : List (Ed γ)} {l : List γ}, Ris key l → (∀ x ∈ l, ok x) → Val key ok l es → Val key ok (es.foldl (app key) l) (undos key l es).reverse
  | [], _, _, _, _ => trivial
  | e :: es, l, h, hl, v => by
    obtain ⟨v1, v2⟩ := v
    rw [undos, List.reverse_cons, val_append, List.foldl_cons]
    refine ⟨val_undos (app_ris h) (app_ok hl v1) v2, ?_⟩
    rw [undos_app (app_ris h)]
    refine ⟨?_, trivial⟩
    unfold undo
    cases q : l.find? fun y => decide (key y = e.ky key) with
    | some r => exact hl r (find_key q).1
    | none =>
      have no := find_no q
      cases e with
      | put x => exact ⟨x, put_mem.mpr (.inl rfl), rfl⟩
      | drop k =>
        obtain ⟨x, hx, hk⟩ := v1
        exact absurd hk (no x hx)
theorem undos_len : ∀ {es : List (Ed γ)} {l : List γ}, (undos key l es).length = es.length
  | [], _ => rfl
  | e :: es, l => congrArg Nat.succ undos_len
end
end DL

/-! PL4: plain data; when two are the same. -/
namespace DL
open PySem L2
def Pl : Nat → D → Bool
  | _, .int _ => true
  | _, .str s => PyData.strOk s
  | n + 1, .tuple ds => decide (ds.length < 1000) && ds.all (Pl n)
  | _, _ => false
theorem Pl.up : ∀ {n : Nat} {d : D}, Pl n d = true → Pl (n + 1) d = true
  | n, .int _, _ => by cases n <;> rfl
  | n, .str _, h => by cases n <;> exact h
  | n + 1, .tuple ds, h => by
    simp only [Pl, Bool.and_eq_true, List.all_eq_true] at h ⊢
    exact ⟨h.1, fun x hx => Pl.up (h.2 x hx)⟩
  | 0, .tuple _, h => by simp [Pl] at h
  | 0, .none, h => by simp [Pl] at h
  | 0, .bool _, h => by simp [Pl] at h
  | 0, .list _, h => by simp [Pl] at h
  | 0, .dict _, h => by simp [Pl] at h
  | n + 1, .none, h => by simp [Pl] at h
  | n + 1, .bool _, h => by simp [Pl] at h
  | n + 1, .list _, h => by simp [Pl] at h
  | n + 1, .dict _, h => by simp [Pl] at h
theorem Pl.mono {n m : Nat} {d : D} (h : Pl n d = true) (hm : n ≤ m) : Pl m d = true := by
  induction hm with
  | refl => exact h
  | step _ ih => exact Pl.up ih
/-- the kinds of plain data -/
theorem Pl.inv {n : Nat} {d : D} (h : Pl n d = true) : (∃ i, d = .int i) ∨ (∃ s, d = .str s ∧ PyData.strOk s = true) ∨ ∃ m ds, n = m + 1 ∧ d = .tuple ds ∧ ds.length < 1000 ∧ ∀ x ∈ ds, Pl m x = true := by
  cases d with
  | int i => exact .inl ⟨i, rfl⟩
  | str s => exact .inr (.inl ⟨s, rfl, by cases n <;> exact h⟩)
  | tuple ds =>
    cases n with
    | zero => simp [Pl] at h
    | succ m =>
      simp only [Pl, Bool.and_eq_true, List.all_eq_true, decide_eq_true_eq] at h
      exact .inr (.inr ⟨m, ds, rfl, rfl, h.1, h.2⟩)
  | none => cases n <;> simp [Pl] at h
  | bool _ => cases n <;> simp [Pl] at h
  | list _ => cases n <;> simp [Pl] at h
  | dict _ => cases n <;> simp [Pl] at h
theorem layAll {n : Nat} (ih : ∀ {d : D}, Pl n d = true → d.canLay0 = true) {ds : List D} (q : ∀ x ∈ ds, Pl n x = true) : PyData.canLayAll0 ds = true := by
  induction ds with
  | nil => rfl
  | cons x xs ih2 =>
    rw [PyData.canLayAll0, Bool.and_eq_true]
    exact ⟨ih (q x (List.mem_cons_self ..)), ih2 fun y hy => q y (List.mem_cons_of_mem _ hy)⟩
theorem depAll {n : Nat} (ih : ∀ {d : D}, Pl n d = true → d.depth ≤ n) {ds : List D} (q : ∀ x ∈ ds, Pl n x = true) : PyData.depthAll ds ≤ n := by
  induction ds with
  | nil => simp [PyData.depthAll]
  | cons x xs ih2 =>
    have h1 := ih (q x (List.mem_cons_self ..))
    have h2 := ih2 fun y hy => q y (List.mem_cons_of_mem _ hy)
    rw [PyData.depthAll]
    omega
theorem Pl.lay {n : Nat} : ∀ {d : D}, Pl n d = true → d.canLay0 = true := by
  induction n with
  | zero =>
    intro d h
    rcases Pl.inv h with ⟨i, rfl⟩ | ⟨s, rfl, q⟩ | ⟨m, ds, e, _⟩
    · simp [PyData.canLay0]
    · simpa only [PyData.canLay0] using q
    · cases e
  | succ n ih =>
    intro d h
    rcases Pl.inv h with ⟨i, rfl⟩ | ⟨s, rfl, q⟩ | ⟨m, ds, e, rfl, _, q⟩
    · simp [PyData.canLay0]
    · simpa only [PyData.canLay0] using q
    · cases e
      rw [PyData.canLay0]
      exact layAll ih q
theorem Pl.dep {n : Nat} : ∀ {d : D}, Pl n d = true → d.depth ≤ n := by
  induction n with
  | zero =>
    intro d h
    rcases Pl.inv h with ⟨i, rfl⟩ | ⟨s, rfl, q⟩ | ⟨m, ds, e, _⟩
    · simp [PyData.depth]
    · simp [PyData.depth]
    · cases e
  | succ n ih =>
    intro d h
    rcases Pl.inv h with ⟨i, rfl⟩ | ⟨s, rfl, q⟩ | ⟨m, ds, e, rfl, _, q⟩
    · simp [PyData.depth]
    · simp [PyData.depth]
    · cases e
      rw [PyData.depth]
      have := depAll ih q
      omega
theorem Pl.shaped {n : Nat} {d : D} (h : Pl n d = true) (hn : n ≤ 60) : SeqAt.shaped d = true := by
  have := Pl.dep h
  exact Bool.and_eq_true_iff.mpr ⟨Pl.lay h, decide_eq_true (by omega)⟩
theorem shapedL {n : Nat} {ds : List D} (h : ∀ d ∈ ds, Pl n d = true) (hn : n ≤ 60) : SeqAt.shaped (.list ds) = true ∧ SeqAt.shaped (.tuple ds) = true := by
  have a := layAll (fun {d} => Pl.lay (n := n) (d := d)) h
  have b := depAll (fun {d} => Pl.dep (n := n) (d := d)) h
  constructor
  · refine Bool.and_eq_true_iff.mpr ⟨by rw [PyData.canLay0]; exact a, decide_eq_true ?_⟩
    rw [PyData.depth]
    omega
  · refine Bool.and_eq_true_iff.mpr ⟨by rw [PyData.canLay0]; exact a, decide_eq_true ?_⟩
    rw [PyData.depth]
    omega
/-- == of plain data is equality -/
theorem Pl.eqv : ∀ {n : Nat} {x y : D}, Pl n x = true → Pl n y = true → (PyData.eqv x y = true ↔ x = y) := by
  intro n
  induction n with
  | zero =>
    intro x y hx hy
    rcases Pl.inv hx with ⟨i, rfl⟩ | ⟨s, rfl, _⟩ | ⟨m, ds, e, _⟩
    · rcases Pl.inv hy with ⟨j, rfl⟩ | ⟨t, rfl, _⟩ | ⟨m, ds, e, _⟩
      · simp [PyData.eqv]
      · simp [PyData.eqv]
      · cases e
    · rcases Pl.inv hy with ⟨j, rfl⟩ | ⟨t, rfl, _⟩ | ⟨m, ds, e, _⟩
      · simp [PyData.eqv]
      · simp [PyData.eqv]
      · cases e
    · cases e
  | succ n ih =>
    have all : ∀ xs ys : List D, (∀ x ∈ xs, Pl n x = true) → (∀ y ∈ ys, Pl n y = true) → (PyData.eqvAll xs ys = true ↔ xs = ys) := by
      intro xs
      induction xs with
      | nil =>
        intro ys _ _
        cases ys <;> simp [PyData.eqvAll]
      | cons x xs ih2 =>
        intro ys h1 h2
        cases ys with
        | nil => simp [PyData.eqvAll]
        | cons y ys =>
          rw [PyData.eqvAll, Bool.and_eq_true, ih (h1 x (List.mem_cons_self ..)) (h2 y (List.mem_cons_self ..)), ih2 ys (fun z hz => h1 z (List.mem_cons_of_mem _ hz)) fun z hz => h2 z (List.mem_cons_of_mem _ hz), List.cons.injEq]
    intro x y hx hy
    rcases Pl.inv hx with ⟨i, rfl⟩ | ⟨s, rfl, _⟩ | ⟨m, ds, e, rfl, _, q⟩
    · rcases Pl.inv hy with ⟨j, rfl⟩ | ⟨t, rfl, _⟩ | ⟨m, ds, e, rfl, _⟩ <;> simp [PyData.eqv]
    · rcases Pl.inv hy with ⟨j, rfl⟩ | ⟨t, rfl, _⟩ | ⟨m, ds, e, rfl, _⟩ <;> simp [PyData.eqv]
    · rcases Pl.inv hy with ⟨j, rfl⟩ | ⟨t, rfl, _⟩ | ⟨m', es, e', rfl, _, q'⟩
      · simp [PyData.eqv]
      · simp [PyData.eqv]
      · cases e
        cases e'
        rw [PyData.eqv, all ds es q q', PyData.tuple.injEq]
end DL

/-! PL5: the shared defs of the laws over rows: sameness, order, search. -/
namespace DL
open PySem L2
@[simp] theorem isi_int (T : String) (a : Bt → Res D) (β : Bt) (i : Int) (h : a β = .ok (.int i)) : dIsi T a β = .ok (.bool (subB "int" T)) := by unfold dIsi; rw [h]; rfl
theorem isi_str (T : String) (a : Bt → Res D) (β : Bt) (i : Str) (h : a β = .ok (.str i)) : dIsi T a β = .ok (.bool (subB "str" T)) := by unfold dIsi; rw [h]; rfl
theorem isi_tup (T : String) (a : Bt → Res D) (β : Bt) (i : List D) (h : a β = .ok (.tuple i)) : dIsi T a β = .ok (.bool (subB "tuple" T)) := by unfold dIsi; rw [h]; rfl
theorem beqI (i j : Int) (q : Decidable (i = j)) : (i == j) = @decide (i = j) q := by by_cases h : i = j <;> simp [h]
theorem beqS (i j : Str) (q : Decidable (i = j)) : (i == j) = @decide (i = j) q := by by_cases h : i = j <;> simp [h]
theorem lcD_none {γ : Type} (f : γ → Option D) (xs : List γ) : ((xs.filterMap f).length = 0) ↔ ∀ x ∈ xs, f x = none := by
  rw [List.length_eq_zero_iff, List.filterMap_eq_nil_iff]
end DL
namespace Cm
open PySem L2 DL
theorem len_int (n : Nat) : ∃ z : Int, z = (n : Int) := ⟨_, rfl⟩
open Classical in
theorem same_ok : ∀ (n m : Nat), n < m → ∀ x y : D, Pl n x = true → Pl n y = true → F__law_same m [x, y] = .ok (.bool (decide (x = y))) := by
  intro n
  induction n with
  | zero =>
    intro m hm x y hx hy
    obtain ⟨m, rfl⟩ : ∃ k, m = k + 1 := ⟨m - 1, by omega⟩
    rw [F__law_same, fD_ap (by rfl)]
    rcases Pl.inv hy with ⟨j, rfl⟩ | ⟨t, rfl, _⟩ | ⟨_, _, e, _⟩
    · rcases Pl.inv hx with ⟨i, rfl⟩ | ⟨s, rfl, _⟩ | ⟨_, _, e, _⟩
      · simp [b__law_same, sSeq_ap, sIf_ap, isi_int, isi_str, isi_tup, subB, fIs, isN, beqI, beqS]
      · simp [b__law_same, sSeq_ap, sIf_ap, isi_int, isi_str, isi_tup, subB, fIs, isN, beqI, beqS]
      · cases e
    · rcases Pl.inv hx with ⟨i, rfl⟩ | ⟨s, rfl, _⟩ | ⟨_, _, e, _⟩
      · simp [b__law_same, sSeq_ap, sIf_ap, isi_int, isi_str, isi_tup, subB, fIs, isN, beqI, beqS]
      · simp [b__law_same, sSeq_ap, sIf_ap, isi_int, isi_str, isi_tup, subB, fIs, isN, beqI, beqS]
      · cases e
    · cases e
  | succ n ih =>
    intro m hm x y hx hy
    obtain ⟨m, rfl⟩ : ∃ k, m = k + 1 := ⟨m - 1, by omega⟩
    rw [F__law_same, fD_ap (by rfl)]
    rcases Pl.inv hy with ⟨j, rfl⟩ | ⟨t, rfl, _⟩ | ⟨_, ys, e, rfl, ly, qy⟩
    · rcases Pl.inv hx with ⟨i, rfl⟩ | ⟨s, rfl, _⟩ | ⟨_, xs, e, rfl, lx, qx⟩
      · simp [b__law_same, sSeq_ap, sIf_ap, isi_int, isi_str, isi_tup, subB, fIs, isN, beqI, beqS]
      · simp [b__law_same, sSeq_ap, sIf_ap, isi_int, isi_str, isi_tup, subB, fIs, isN, beqI, beqS]
      · simp [b__law_same, sSeq_ap, sIf_ap, isi_int, isi_str, isi_tup, subB, fIs, isN, beqI, beqS]
    · rcases Pl.inv hx with ⟨i, rfl⟩ | ⟨s, rfl, _⟩ | ⟨_, xs, e, rfl, lx, qx⟩
      · simp [b__law_same, sSeq_ap, sIf_ap, isi_int, isi_str, isi_tup, subB, fIs, isN, beqI, beqS]
      · simp [b__law_same, sSeq_ap, sIf_ap, isi_int, isi_str, isi_tup, subB, fIs, isN, beqI, beqS]
      · simp [b__law_same, sSeq_ap, sIf_ap, isi_int, isi_str, isi_tup, subB, fIs, isN, beqI, beqS]
    · rcases Pl.inv hx with ⟨i, rfl⟩ | ⟨s, rfl, _⟩ | ⟨_, xs, e', rfl, lx, qx⟩
      · simp [b__law_same, sSeq_ap, sIf_ap, isi_int, isi_str, isi_tup, subB, fIs, isN, beqI, beqS]
      · simp [b__law_same, sSeq_ap, sIf_ap, isi_int, isi_str, isi_tup, subB, fIs, isN, beqI, beqS]
      · cases e
        cases e'
        by_cases hl : xs.length = ys.length
        · have e1 : iRange1 (dN fLen (aCons (dV 1) aNil)) [some (.tuple xs), some (.tuple ys), none] = .ok ((List.range ys.length).map fun i : Nat => PyData.int i) :=
            iRangeL (n := ys.length) (by simp) (by omega) (by omega)
          have e2 := lcD_enc (f := cmD (.nm 2) (tNot (tV (dCall (F__law_same m) (aCons (d2 fIx (dV 0) (dV 2)) (aCons (d2 fIx (dV 1) (dV 2)) aNil))))) (dV 2) [some (.tuple xs), some (.tuple ys), none]) (fun i : Nat => PyData.int i)
            (fun i => if xs[i]? = ys[i]? then none else some (.int i)) (xs := List.range ys.length) (fun i hi => by
              have h1 : i < ys.length := by simpa using hi
              have h2 : i < xs.length := by omega
              have a1 : atI xs (i : Int) = some xs[i] := atI_lt _ _ h2
              have a2 : atI ys (i : Int) = some ys[i] := atI_lt _ _ h1
              have a3 := ih m (by omega) xs[i] ys[i] (qx _ (List.getElem_mem ..)) (qy _ (List.getElem_mem ..))
              simp [cmD, a1, a2, a3, List.getElem?_eq_getElem h1, List.getElem?_eq_getElem h2]
              by_cases e : xs[i] = ys[i] <;> simp [e])
          have e3 : ((List.range ys.length).filterMap (fun i : Nat => if xs[i]? = ys[i]? then none else some (PyData.int (i : Int)))).length = 0 ↔ xs = ys := by
            rw [lcD_none]
            constructor
            · intro h
              refine List.ext_getElem? fun i => ?_
              by_cases hi : i < ys.length
              · have := h i (by simpa using hi)
                by_cases q : xs[i]? = ys[i]?
                · exact q
                · rw [if_neg q] at this; cases this
              · rw [List.getElem?_eq_none (by omega), List.getElem?_eq_none (by omega)]
            · rintro rfl i _
              simp
          generalize hg : (List.range ys.length).filterMap (fun i : Nat => if xs[i]? = ys[i]? then none else some (PyData.int i)) = zs at e2 e3
          have lz : (List.range ys.length).length < 16777217 := by simp; omega
          simp [b__law_same, sSeq_ap, sIf_ap, isi_int, isi_str, isi_tup, subB, fIs, isN, hl, e1, le_size (n := ys.length) (by omega), e2]
          by_cases q : xs = ys
          · rw [e3.mpr q]; simp [q]
          · have : zs.length ≠ 0 := fun z => q (e3.mp z)
            rw [beqI _ _ inferInstance]
            simp [q]
            intro z
            exact this (by simp [z])
        · have hl' : ((xs.length : Int) == (ys.length : Int)) = false := by simp; omega
          have hne : xs ≠ ys := fun e => hl (congrArg List.length e)
          simp [b__law_same, sSeq_ap, sIf_ap, isi_int, isi_str, isi_tup, subB, fIs, isN, hl', hne]
end Cm
namespace DL
open PySem L2
/-! ### rows -/
def kd : D → Str
  | .tuple (.str k :: _) => k
  | _ => ⟨#[]⟩
def nm : D → Str
  | .tuple (_ :: .str n :: _) => n
  | _ => ⟨#[]⟩
def ky (d : D) : Ky := (kd d, nm d)
def Rw (d : D) : Prop := ∃ k n rest, d = .tuple (.str k :: .str n :: rest) ∧ rest.length < 900 ∧ (∀ x ∈ rest, Pl 3 x = true) ∧ PyData.strOk k = true ∧ PyData.strOk n = true
theorem Rw.pl {d : D} (h : Rw d) : Pl 4 d = true := by
  obtain ⟨k, n, rest, rfl, h1, h2, h3, h4⟩ := h
  simp only [Pl, Bool.and_eq_true, List.all_eq_true, decide_eq_true_eq]
  refine ⟨by simp; omega, fun x hx => ?_⟩
  rcases List.mem_cons.mp hx with rfl | hx
  · exact h3
  · rcases List.mem_cons.mp hx with rfl | hx
    · exact h4
    · exact h2 x hx
theorem Rw.ix0 {d : D} (h : Rw d) : fIx d (.int 0) = some (.str (kd d)) := by
  obtain ⟨k, n, rest, rfl, h1, h2, h3, h4⟩ := h
  simp [kd]
theorem Rw.ix1 {d : D} (h : Rw d) : fIx d (.int 1) = some (.str (nm d)) := by
  obtain ⟨k, n, rest, rfl, h1, h2, h3, h4⟩ := h
  simp [nm]
  exact atI_lit _ 1 _ rfl
theorem beqK (a b c d : Str) : (a == b && c == d) = decide ((a, c) = (b, d)) := by
  by_cases h : a = b <;> by_cases q : c = d <;> simp [h, q]
end DL
namespace Cm
open PySem L2 DL
theorem row_key_ok {d : D} (h : Rw d) : f_row_key [d] = .ok (.tuple [.str (kd d), .str (nm d)]) := by
  rw [f_row_key, fD_ap (by rfl)]
  simp [b_row_key, h.ix0, h.ix1]
theorem before_ok {d e : D} (h : Rw d) (k : Rw e) : f__law_before [d, e] = .ok (.bool (kl (ky d) (ky e))) := by
  rw [f__law_before, fD_ap (by rfl)]
  cases q : sl (kd d) (kd e) with
  | true => simp [b__law_before, h.ix0, h.ix1, k.ix0, k.ix1, q, kl, ky]
  | false =>
    by_cases q2 : kd d = kd e
    · rw [q2] at q
      simp [b__law_before, h.ix0, h.ix1, k.ix0, k.ix1, q, kl, ky, q2]
    · simp [b__law_before, h.ix0, h.ix1, k.ix0, k.ix1, q, kl, ky, q2]
theorem placed_ok {rs : List D} {d : D} (h : ∀ x ∈ rs, Rw x) (k : Rw d) (hl : rs.length < 100000) : f__law_placed [.list rs, d] = .ok (.list (DL.put ky rs d)) := by
  rw [f__law_placed, fD_ap (by rfl)]
  have e1 := lcD_sieve (f := cmD (.nm 4) (tV (dCall f__law_before (aCons (dV 4) (aCons (dV 1) aNil)))) (dV 4) [some (.list rs), some d, none, none, none]) (fun x => kl (ky x) (ky d)) (ds := rs) fun x hx => by
    simp [cmD, before_ok (h x hx) k]
    cases kl (ky x) (ky d) <;> simp
  have e2 := lcD_sieve (f := cmD (.nm 4) (tV (dCall f__law_before (aCons (dV 1) (aCons (dV 4) aNil)))) (dV 4) [some (.list rs), some d, some (.list (rs.filter fun x => kl (ky x) (ky d))), none, none]) (fun x => kl (ky d) (ky x)) (ds := rs) fun x hx => by
    simp [cmD, before_ok k (h x hx)]
    cases kl (ky d) (ky x) <;> simp
  have l1 := List.length_filter_le (fun x => kl (ky x) (ky d)) rs
  have l2 := List.length_filter_le (fun x => kl (ky d) (ky x)) rs
  simp [b__law_placed, sSeq_ap, e1, le_size (n := rs.length) (by omega), e2]
  rw [fAdd_l _ _ (by rw [PySem.sizeLine_eq]; simp; omega)]
  simp
  rw [fAdd_l _ _ (by rw [PySem.sizeLine_eq]; simp; omega)]
  simp [DL.put]
theorem key_test {k n : Str} {x : D} (hr : Rw x) (β : Bt) (h0 : β[3]? = some (some x)) (h1 : β[1]? = some (some (.str k))) (h2 : β[2]? = some (some (.str n))) :
    DL.tAnd (tV (d2 fEq (d2 fIx (dV 3) (dC (.int (0)))) (dV 1))) (tV (d2 fEq (d2 fIx (dV 3) (dC (.int (1)))) (dV 2))) β = .ok (decide (ky x = (k, n))) := by
  have e0 : dV 3 β = .ok x := by rw [dV_ap, h0]
  have e1 : dV 1 β = .ok (.str k) := by rw [dV_ap, h1]
  have e2 : dV 2 β = .ok (.str n) := by rw [dV_ap, h2]
  by_cases q1 : kd x = k <;> by_cases q2 : nm x = n <;> simp [e0, e1, e2, hr.ix0, hr.ix1, ky, q1, q2]
theorem has_row_ok {rs : List D} {k n : Str} (h : ∀ x ∈ rs, Rw x) : f_has_row [.tuple rs, .str k, .str n] = .ok (.bool (rs.any fun x => decide (ky x = (k, n)))) := by
  refine Sat.eq (Sat.fD rfl (ON.seq ?_))
  refine ON.for_ (ds := rs) (fun ds α => (∀ x ∈ ds, Rw x) ∧ (rs.any fun x => decide (ky x = (k, n))) = (ds.any fun x => decide (ky x = (k, n))) ∧ ∃ u, α = [AV.dat (.tuple rs), .dat (.str k), .dat (.str n), u]) (by simp) ⟨h, rfl, .un, rfl⟩ ?_ ?_
  · rintro x ds α ⟨hx, e, u, rfl⟩
    refine ⟨_, rfl, ON.iff (c := decide (ky x = (k, n))) (key_test (hx x (List.mem_cons_self ..)) _ rfl rfl rfl) (fun hc => ?_) (fun hc => ?_)⟩
    · simp [e, hc]
    · exact .nx _ ⟨fun y hy => hx y (List.mem_cons_of_mem _ hy), by rw [e, List.any_cons, hc]; rfl, _, rfl⟩
  · rintro α ⟨_, e, u, rfl⟩
    simp [e]
theorem find_row_ok {rs : List D} {k n : Str} {r : D} (h : ∀ x ∈ rs, Rw x) (q : rs.find? (fun x => decide (ky x = (k, n))) = some r) : f_find_row [.tuple rs, .str k, .str n] = .ok r := by
  refine Sat.eq (Sat.fD rfl (ON.seq ?_))
  refine ON.for_ (ds := rs) (fun ds α => (∀ x ∈ ds, Rw x) ∧ (ds.find? fun x => decide (ky x = (k, n))) = some r ∧ ∃ u, α = [AV.dat (.tuple rs), .dat (.str k), .dat (.str n), u]) (by simp) ⟨h, q, .un, rfl⟩ ?_ ?_
  · rintro x ds α ⟨hx, e, u, rfl⟩
    refine ⟨_, rfl, ON.iff (c := decide (ky x = (k, n))) (key_test (hx x (List.mem_cons_self ..)) _ rfl rfl rfl) (fun hc => ?_) (fun hc => ?_)⟩
    · rw [List.find?_cons, hc] at e
      cases e
      simp
    · rw [List.find?_cons, hc] at e
      exact .nx _ ⟨fun y hy => hx y (List.mem_cons_of_mem _ hy), e, _, rfl⟩
  · rintro α ⟨_, e, u, rfl⟩
    cases e
theorem kind_rows_ok {rs : List D} {k : Str} (h : ∀ x ∈ rs, Rw x) (hl : rs.length < 100000) : f_kind_rows [.tuple rs, .str k] = .ok (.tuple (rs.filter fun x => decide (kd x = k))) := by
  rw [f_kind_rows, fD_ap (by rfl)]
  have e1 := lcD_sieve (f := cmD (.nm 2) (tV (d2 fEq (d2 fIx (dV 2) (dC (.int (0)))) (dV 1))) (dV 2) [some (.tuple rs), some (.str k), none]) (fun x => decide (kd x = k)) (ds := rs) fun x hx => by
    by_cases q : kd x = k <;> simp [cmD, (h x hx).ix0, q]
  simp [b_kind_rows, e1, le_size (n := rs.length) (by omega)]
end Cm

/-! PL6: the drawn rows. -/
namespace DL
open PySem L2
theorem ON.guard {P : At → Prop} {R : D → Prop} {α : At} {t : At → Res Bool} {a b : At → Out} {c : Bool} (h : t α = .ok c) (h1 : ON (fun _ => False) R (a α)) (h2 : ON P R (b α)) : ON P R (sSeq (sIf t a sNil) b α) :=
  ON.seq (ON.iff h (fun _ => h1.imp (fun _ z => z.elim) fun _ z => z) fun _ => .nx _ h2)
theorem ON.retS {R : D → Prop} {P : At → Prop} {α : At} {e : Bt → Res D} (h : Sat R (e (dats α))) : ON P R (sRet (sD e) α) := by
  obtain ⟨d, e1, h⟩ := h
  rw [sRet_ap, sD_ap, e1, ofR_ok]
  exact .rt _ h
theorem cut_strs (ss : List Str) (lo hi : Option Int) : ∃ ts : List Str, cutD (ss.map PyData.str) lo hi = ts.map PyData.str ∧ ts.length ≤ ss.length ∧ ∀ t ∈ ts, t ∈ ss := by
  refine ⟨cutD ss lo hi, by simp [cutD, List.map_take, List.map_drop], by simp [cutD]; omega, fun t ht => ?_⟩
  unfold cutD at ht
  exact List.mem_of_mem_drop (List.mem_of_mem_take ht)
theorem strsOf_map : ∀ ss : List Str, strsOf (ss.map PyData.str) = some ss
  | [] => rfl
  | s :: ss => by rw [List.map_cons, strsOf, strsOf_map ss]; rfl
theorem sorted_strs (ss : List Str) (h : ss.length < 64) : fSorted [.list (ss.map PyData.str)] = some (.list ((sortBy ltT ss).map PyData.str)) := by
  unfold fSorted
  simp only [strsOf_map, if_pos h]
@[simp] theorem fSl_l (xs : List D) (lo hi : Option Int) : fSl (.list xs) lo hi = some (.list (cutD xs lo hi)) := nr rfl
@[simp] theorem fSl_t (xs : List D) (lo hi : Option Int) : fSl (.tuple xs) lo hi = some (.tuple (cutD xs lo hi)) := nr rfl
theorem atI_in {α : Type} (xs : List α) {i : Int} (h0 : 0 ≤ i) (h : i < xs.length) : ∃ x, atI xs i = some x ∧ x ∈ xs := ⟨_, atI_int xs h0 h, List.getElem_mem ..⟩
theorem lcD_ex {f : D → Res (Option D)} {P : D → Prop} : ∀ {ds : List D}, (∀ d ∈ ds, ∃ y, f d = .ok (some y) ∧ P y) → ∃ ys, lcD f ds = .ok ys ∧ ys.length = ds.length ∧ ∀ y ∈ ys, P y
  | [], _ => ⟨[], rfl, rfl, by simp⟩
  | d :: ds, h => by
    obtain ⟨y, e, p⟩ := h d (List.mem_cons_self ..)
    obtain ⟨ys, e2, l, q⟩ := lcD_ex fun x hx => h x (List.mem_cons_of_mem _ hx)
    refine ⟨y :: ys, by rw [lcD, e, e2]; rfl, by simp [l], fun z hz => ?_⟩
    rcases List.mem_cons.mp hz with rfl | hz
    · exact p
    · exact q z hz
theorem Pl.strs {ss ts : List Str} (h : ∀ s ∈ ss, PyData.strOk s = true) (hs : ∀ t ∈ ts, t ∈ ss) (hl : ts.length < 1000) : Pl 3 (.tuple (ts.map PyData.str)) = true := by
  simp only [Pl, Bool.and_eq_true, List.all_eq_true, decide_eq_true_eq]
  refine ⟨by simpa using hl, fun x hx => ?_⟩
  obtain ⟨t, ht, rfl⟩ := List.mem_map.mp hx
  exact h t (hs t ht)
@[simp] theorem Pl_int (n : Nat) (i : Int) : Pl n (.int i) = true := by cases n <;> exact nr rfl
@[simp] theorem Pl_tup (n : Nat) (ds : List D) : Pl (n + 1) (.tuple ds) = (decide (ds.length < 1000) && ds.all (Pl n)) := nr rfl
theorem Pl_str (n : Nat) (s : Str) : Pl n (.str s) = PyData.strOk s := by cases n <;> rfl
end DL
namespace Cm
open PySem L2 DL
theorem low_sat (n d : Int) (h : 0 < d) (h2 : d < 1073741824) : ∃ x y : Int, f__law_lowest [.int n, .int d] = .ok (.tuple [.int x, .int y]) ∧ -(n.natAbs : Int) ≤ x ∧ x ≤ n.natAbs ∧ 1 ≤ y ∧ y ≤ d := by
  have g0 : 0 < Int.gcd n d := Int.gcd_pos_of_ne_zero_right _ (by omega)
  have g1 : (Int.gcd n d : Int) ≤ d := by
    have := Nat.le_of_dvd (by omega) (Int.gcd_dvd_natAbs_right n d)
    omega
  refine ⟨_, _, low_eq h h2, ?_, ?_, ?_, ?_⟩ <;> generalize hg : (Int.gcd n d : Int) = g at *
  · have g2 : 1 ≤ g := by omega
    have m := Int.ediv_mul_le (-(n.natAbs : Int)) (b := g) (by omega)
    refine (Int.le_ediv_iff_mul_le (by omega)).mpr ?_
    have : -(n.natAbs : Int) * g ≤ -(n.natAbs : Int) * 1 := Int.mul_le_mul_of_nonpos_left (by omega) g2
    omega
  · refine Int.le_trans (Int.ediv_le_ediv (by omega) (show n ≤ n.natAbs by omega)) (Int.ediv_le_self _ (by omega))
  · exact (Int.le_ediv_iff_mul_le (by omega)).mpr (by omega)
  · exact Int.ediv_le_self _ (by omega)
theorem at1 {x0 x1 : D} {r : List D} : atI (x0 :: x1 :: r) 1 = some x1 := atI_lit _ 1 x1 rfl
theorem at2 {x0 x1 x2 : D} {r : List D} : atI (x0 :: x1 :: x2 :: r) 2 = some x2 := atI_lit _ 2 x2 rfl
theorem at3 {x0 x1 x2 x3 : D} {r : List D} : atI (x0 :: x1 :: x2 :: x3 :: r) 3 = some x3 := atI_lit _ 3 x3 rfl
theorem at4 {x0 x1 x2 x3 x4 : D} {r : List D} : atI (x0 :: x1 :: x2 :: x3 :: x4 :: r) 4 = some x4 := atI_lit _ 4 x4 rfl
theorem at5 {x0 x1 x2 x3 x4 x5 : D} {r : List D} : atI (x0 :: x1 :: x2 :: x3 :: x4 :: x5 :: r) 5 = some x5 := atI_lit _ 5 x5 rfl
theorem at6 {x0 x1 x2 x3 x4 x5 x6 : D} {r : List D} : atI (x0 :: x1 :: x2 :: x3 :: x4 :: x5 :: x6 :: r) 6 = some x6 := atI_lit _ 6 x6 rfl
theorem at7 {x0 x1 x2 x3 x4 x5 x6 x7 : D} {r : List D} : atI (x0 :: x1 :: x2 :: x3 :: x4 :: x5 :: x6 :: x7 :: r) 7 = some x7 := atI_lit _ 7 x7 rfl
theorem at8 {x0 x1 x2 x3 x4 x5 x6 x7 x8 : D} {r : List D} : atI (x0 :: x1 :: x2 :: x3 :: x4 :: x5 :: x6 :: x7 :: x8 :: r) 8 = some x8 := atI_lit _ 8 x8 rfl
theorem at9 {x0 x1 x2 x3 x4 x5 x6 x7 x8 x9 : D} {r : List D} : atI (x0 :: x1 :: x2 :: x3 :: x4 :: x5 :: x6 :: x7 :: x8 :: x9 :: r) 9 = some x9 := atI_lit _ 9 x9 rfl
theorem grain_sat (x y : Int) (h : 0 ≤ x) (h2 : x < 1073741824) : ∃ a b : Int, f__law_grain [.int x, .int y] = .ok (.tuple [.int a, .int b]) := by
  suffices h : Sat (fun d => ∃ a b : Int, d = .tuple [.int a, .int b]) (f__law_grain [.int x, .int y]) by
    obtain ⟨_, e, a, b, rfl⟩ := h
    exact ⟨a, b, e⟩
  refine Sat.fD rfl (ON.seq (ON.iff (c := x == 0) (by simp) (fun c => ?_) (fun c => ?_)))
  · simp
  · obtain ⟨a, b, e, _⟩ := low_sat y x (by simp at c; omega) h2
    simp [e]
/-- a row of this kind and name -/
def RowIs (kind name : Str) (d : D) : Prop := ∃ rest, d = .tuple (.str kind :: .str name :: rest) ∧ rest.length < 900 ∧ ∀ x ∈ rest, Pl 3 x = true
def num (x : Int) : Prop := 0 ≤ x ∧ x < 5040
section
variable {kind name s0 s1 s2 s3 s4 s5 : Str} {n0 n1 n2 n3 n4 n5 n6 n7 n8 n9 : Int}
theorem piece_sat (m : Int) (h0 : num n0) (h1 : num n1) (h2 : num n2) (h3 : num n3) (h4 : num n4) (h5 : num n5) (h6 : num n6) : ∃ (p0 p1 p2 : D) (r : List D), f__law_piece [.list [.int n0, .int n1, .int n2, .int n3, .int n4, .int n5, .int n6, .int n7, .int n8, .int n9], .int m] = .ok (.tuple (p0 :: p1 :: p2 :: r)) ∧ r.length < 900 ∧ ∀ p ∈ p0 :: p1 :: p2 :: r, Pl 2 p = true := by
  suffices h : Sat (fun d => ∃ (p0 p1 p2 : D) (r : List D), d = .tuple (p0 :: p1 :: p2 :: r) ∧ r.length < 900 ∧ ∀ p ∈ p0 :: p1 :: p2 :: r, Pl 2 p = true) (f__law_piece [.list [.int n0, .int n1, .int n2, .int n3, .int n4, .int n5, .int n6, .int n7, .int n8, .int n9], .int m]) by
    obtain ⟨_, e, p0, p1, p2, r, rfl, h⟩ := h
    exact ⟨p0, p1, p2, r, e, h⟩
  refine Sat.fD rfl ?_
  unfold num at *
  obtain ⟨ax, ay, ea, a1, a2, a3, a4⟩ := low_sat (n0 % 41 - 20) (1 + n1 % 6) (by omega) (by omega)
  obtain ⟨bx, b_y, eb, b1, b2, b3, b4⟩ := low_sat (n2 % 41 - 20) (1 + n3 % 6) (by omega) (by omega)
  obtain ⟨cx, cy, ec, c1, c2, c3, c4⟩ := low_sat (ax + (1 + n4 % 9) * ay) ay (by omega) (by omega)
  obtain ⟨dx, dy, ed, d1, d2, d3, d4⟩ := low_sat (bx + (1 + n5 % 9) * b_y) b_y (by omega) (by omega)
  refine ON.seq ?_
  simp [at1, fMod_pos, ea]
  refine ON.seq ?_
  simp [at2, at3, fMod_pos, eb]
  refine ON.seq ?_
  simp [at1, at4, fMod_pos, fMul_sm (i := 1 + n4 % 9) (k := ay) (by omega) (by omega), ec]
  refine ON.seq ?_
  simp [at1, at5, fMod_pos, fMul_sm (i := 1 + n5 % 9) (k := b_y) (by omega) (by omega), ed]
  refine ON.guard (c := n6 % 2 == 0 || decide (m < 4)) ?_ (ON.retS ?_) (ON.retS ?_)
  · by_cases q : n6 % 2 = 0 <;> simp [at6, fMod_pos, q]
  · simp
    exact ⟨_, rfl, _, _, _, _, rfl, by simp, by simp⟩
  · simp
    exact ⟨_, rfl, _, _, _, _, rfl, by simp, by simp⟩
theorem line_sat {p0 p1 p2 : D} {r : List D} (k : Int) (h : ∀ p ∈ p0 :: p1 :: p2 :: r, Pl 2 p = true) : ∃ x y : D, f__law_line [.tuple (p0 :: p1 :: p2 :: r), .int k] = .ok (.tuple [x, y]) ∧ Pl 2 x = true ∧ Pl 2 y = true := by
  suffices h : Sat (fun d => ∃ x y : D, d = .tuple [x, y] ∧ Pl 2 x = true ∧ Pl 2 y = true) (f__law_line [.tuple (p0 :: p1 :: p2 :: r), .int k]) by
    obtain ⟨_, e, x, y, rfl, h⟩ := h
    exact ⟨x, y, e, h⟩
  refine Sat.fD rfl ?_
  obtain ⟨x1, e1, m1⟩ := atI_in (p0 :: p1 :: p2 :: r) (i := 1 + k / 2 % 2) (by omega) (by simp; omega)
  obtain ⟨x2, e2, m2⟩ := atI_in (p0 :: p1 :: p2 :: r) (i := k / 2 % 2) (by omega) (by simp; omega)
  refine ON.guard (c := k % 2 == 0) (by simp [fMod_pos]) (ON.retS ?_) (ON.retS ?_)
  · simp [fMod_pos, fDiv_pos, e1]
    exact ⟨_, rfl, _, _, rfl, h _ (List.mem_cons_self ..), h _ m1⟩
  · simp [fMod_pos, fDiv_pos, e2, at2]
    exact ⟨_, rfl, _, _, rfl, h _ (by simp), h _ m2⟩
theorem shape_sat (hs : ∀ s ∈ [s0, s1, s2, s3, s4, s5], PyData.strOk s = true) (h0 : num n0) (h1 : num n1) (h2 : num n2) (h3 : num n3) (h4 : num n4) (h5 : num n5) (h6 : num n6) (h7 : num n7) (h8 : num n8) (h9 : num n9) :
    Sat (RowIs kind name) (f__law_shape_row [.str kind, .str name, .list [.str s0, .str s1, .str s2, .str s3, .str s4, .str s5], .list [.int n0, .int n1, .int n2, .int n3, .int n4, .int n5, .int n6, .int n7, .int n8, .int n9]]) := by
  refine Sat.fD rfl ?_
  obtain ⟨p0, p1, p2, r, ep, lp, hp⟩ := piece_sat (n7 := n7) (n8 := n8) (n9 := n9) 4 h0 h1 h2 h3 h4 h5 h6
  obtain ⟨q0, q1, q2, r2, eq, lq, hq⟩ := piece_sat (n7 := n7) (n8 := n8) (n9 := n9) 3 h0 h1 h2 h3 h4 h5 h6
  obtain ⟨u0, u1, u2, r3, eu, lu, hu⟩ := piece_sat (n7 := n7) (n8 := n8) (n9 := n9) 6 h0 h1 h2 h3 h4 h5 h6
  unfold num at *
  obtain ⟨ax, ay, ea, a1, a2, a3, a4⟩ := low_sat (n7 % 8) 7 (by omega) (by omega)
  obtain ⟨bx, b_y, eb, b1, b2, b3, b4⟩ := low_sat (1 + n7 % 30) (1 + n8 % 7) (by omega) (by omega)
  refine ON.seq ?_
  simp [at5, fMod_pos]
  refine ON.seq ?_
  simp [at7, fMod_pos, ea]
  refine ON.seq ?_
  simp [at7, at8, fMod_pos, eb]
  -- panel
  refine ON.guard (by simp; rfl) (ON.seq ?_) ?_
  · obtain ⟨gx, gy, eg⟩ := grain_sat (n7 % 9) (n8 % 19 - 9) (by omega) (by omega)
    obtain ⟨w, ew, mw⟩ := atI_in [PyData.str "flips", PyData.str "plain"] (i := n9 % 2) (by omega) (by simp; omega)
    simp [at7, at8, at9, fMod_pos, eg, ep, ew]
    refine ⟨_, rfl, by simp, ?_⟩
    have hw : Pl 3 w = true := by
      simp at mw
      rcases mw with rfl | rfl <;> decide +kernel
    simp [Pl_str, hs, hw]
    exact ⟨by omega, by simpa using hp⟩
  -- reef
  refine ON.guard (by simp; rfl) (ON.retS ?_) ?_
  · obtain ⟨x, y, el, l1, l2⟩ := line_sat n9 hq
    simp [at9, eq, el]
    exact ⟨_, rfl, _, rfl, by simp, by simp [l1, l2]⟩
  -- repair
  refine ON.guard (by simp; rfl) (ON.retS ?_) ?_
  · simp [at1, at2, fMod_pos]
    exact ⟨_, rfl, _, rfl, by simp, by simp [Pl_str, hs]⟩
  -- revoke
  refine ON.guard (by simp; rfl) (ON.retS ?_) ?_
  · simp [at1, at2, fMod_pos]
    exact ⟨_, rfl, _, rfl, by simp, by simp [Pl_str, hs]⟩
  -- rig
  refine ON.guard (by simp; rfl) (ON.retS ?_) ?_
  · obtain ⟨ts, et, lt, mt⟩ := cut_strs [s0, s1, s2, s3, s4, s5] none (some (1 + n0 % 4))
    have et : cutD [PyData.str s0, .str s1, .str s2, .str s3, .str s4, .str s5] none (some (1 + n0 % 4)) = ts.map .str := et
    simp at lt
    have es := sorted_strs ts (by omega)
    simp [fMod_pos, et, es]
    refine ⟨_, rfl, _, rfl, by simp, ?_⟩
    rintro x hx
    rw [List.mem_singleton.mp hx]
    exact Pl.strs hs (fun t ht => mt t ((sortBy_perm ts).mem_iff.mp ht)) (by have := (sortBy_perm (lt := ltT) ts).length_eq; omega)
  -- sail
  refine ON.guard (by simp; rfl) (ON.seq ?_) ?_
  · simp [eu]
    refine ON.seq ?_
    simp [at7, fMod_pos]
    refine ON.seq ?_
    obtain ⟨cx, cy, ec, c1, c2, c3, c4⟩ := low_sat (2 * bx) b_y (by omega) (by omega)
    obtain ⟨dx, dy, ed, d1, d2, d3, d4⟩ := low_sat (5 * bx) b_y (by omega) (by omega)
    simp [at1, fMul_sm', ec, ed]
    refine ON.seq ?_
    have hcut : ∀ lo hi, (cutD [PyData.tuple [.int bx, .int b_y], .tuple [.int cx, .int cy], .tuple [.int dx, .int dy]] lo hi).length < 1000 ∧ ∀ x ∈ cutD [PyData.tuple [.int bx, .int b_y], .tuple [.int cx, .int cy], .tuple [.int dx, .int dy]] lo hi, Pl 2 x = true := by
      intro lo hi
      refine ⟨by simp [cutD]; omega, fun x hx => ?_⟩
      unfold cutD at hx
      have := List.mem_of_mem_drop (List.mem_of_mem_take hx)
      simp at this
      rcases this with rfl | rfl | rfl <;> simp
    obtain ⟨h1', h2'⟩ := hcut none (some (1 + n9 % 3))
    obtain ⟨ts, et, lt, mt⟩ := cut_strs [s0, s1, s2, s3, s4, s5] (some 2) (some (3 + n6 % 4))
    have et : cutD [PyData.str s0, .str s1, .str s2, .str s3, .str s4, .str s5] (some 2) (some (3 + n6 % 4)) = ts.map .str := et
    obtain ⟨ts2, et2, lt2, mt2⟩ := cut_strs [s0, s1, s2, s3, s4, s5] none (some (n5 % 4))
    have et2 : cutD [PyData.str s0, .str s1, .str s2, .str s3, .str s4, .str s5] none (some (n5 % 4)) = ts2.map .str := et2
    simp at lt lt2
    simp [at1, at8, at9, at5, at6, fMod_pos, et, et2]
    rw [fAdd_t _ _ (by rw [PySem.sizeLine_eq]; simp)]
    simp
    refine ⟨_, rfl, by simp, ?_⟩
    have q1 := Pl.strs hs mt (by omega)
    have q2 := Pl.strs hs mt2 (by omega)
    simp only [Pl_tup] at q1 q2
    simp [Pl_str, hs, q1, q2]
    exact ⟨⟨by omega, by simpa using hu⟩, ⟨h1', h2'⟩, ⟨by omega, fun x hx => hs x (mt x hx)⟩, by omega, fun x hx => hs x (mt2 x hx)⟩
  -- seen
  refine ON.guard (by simp; rfl) (ON.retS ?_) ?_
  · have hx : ∀ x ∈ [n0, n1, n2, n3, n4, n5, n6, n7, n8, n9], num x := by simp [num]; omega
    have q : ∀ i : Int, 0 ≤ i → i < 10 → ∃ j : Int, atI [PyData.int n0, .int n1, .int n2, .int n3, .int n4, .int n5, .int n6, .int n7, .int n8, .int n9] i = some (.int j) := fun i g1 g2 => by
      obtain ⟨x, e, m⟩ := atI_in [PyData.int n0, .int n1, .int n2, .int n3, .int n4, .int n5, .int n6, .int n7, .int n8, .int n9] g1 (by simp; omega)
      simp at m
      rcases m with rfl | rfl | rfl | rfl | rfl | rfl | rfl | rfl | rfl | rfl <;> exact ⟨_, e⟩
    have e1 := iRangeL (a := d2 fAdd (dC (.int (1))) (d2 fMod (d2 fIx (dV 3) (dC (.int (9)))) (dC (.int (4))))) (n := 1 + n9 % 4) (β := [some (PyData.str kind), some (.str name), some (.list [.str s0, .str s1, .str s2, .str s3, .str s4, .str s5]), some (.list [.int n0, .int n1, .int n2, .int n3, .int n4, .int n5, .int n6, .int n7, .int n8, .int n9]), some (.int (n5 % 100)), some (.tuple [.int ax, .int ay]), some (.tuple [.int bx, .int b_y]), none, none, none, none, none, none]) (by simp [at9, fMod_pos]) (by omega) (by omega)
    obtain ⟨ys, e2, l2, p2⟩ := lcD_ex (f := cmD (.nm 12) yesT (dTup (aCons (d2 fMod (d2 fIx (dV 3) (dV 12)) (dC (.int (4)))) (aCons (d2 fAdd (d2 fMod (d2 fIx (dV 3) (dV 12)) (dC (.int (4)))) (d2 fMod (d2 fIx (dV 3) (d2 fAdd (dV 12) (dC (.int (4))))) (dC (.int (3))))) aNil))) [some (PyData.str kind), some (.str name), some (.list [.str s0, .str s1, .str s2, .str s3, .str s4, .str s5]), some (.list [.int n0, .int n1, .int n2, .int n3, .int n4, .int n5, .int n6, .int n7, .int n8, .int n9]), some (.int (n5 % 100)), some (.tuple [.int ax, .int ay]), some (.tuple [.int bx, .int b_y]), none, none, none, none, none, none]) (P := fun d => Pl 2 d = true)
      (ds := (List.range (1 + n9 % 4).toNat).map fun i : Nat => PyData.int i) (fun d hd => by
        obtain ⟨i, hi, rfl⟩ := List.mem_map.mp hd
        obtain ⟨z, hz⟩ : ∃ z : Int, z = (i : Int) := ⟨_, rfl⟩
        have hi : i < (1 + n9 % 4).toNat := by simpa using hi
        rw [← hz]
        obtain ⟨j1, w1⟩ := q z (by omega) (by omega)
        obtain ⟨j2, w2⟩ := q (z + 4) (by omega) (by omega)
        refine ⟨.tuple [.int (j1 % 4), .int (j1 % 4 + j2 % 3)], ?_, by simp⟩
        simp [cmD, w1, w2, fMod_pos])
    have lr : ((List.range (1 + n9 % 4).toNat).map fun i : Nat => PyData.int i).length < 16777217 := by simp; omega
    simp only [dTup_ap, aCons_ap, dN_ap, dFz_ap, dLc_ap, aNil_ap, dats_cons, dats_nil, dt_d, dt_u, dV_s, dV_z, Res.bind_ok, e1, le_size lr, if_true, wipeB_cons, wipeB_nil, List.set, e2, fTuple_l, Res.of_some]
    refine ⟨_, if_pos (by rw [PySem.sizeLine_eq]; simp), _, rfl, by simp, fun x hx => ?_⟩
    rw [List.mem_singleton.mp hx, Pl_tup, Bool.and_eq_true, List.all_eq_true]
    exact ⟨decide_eq_true (by rw [l2]; simp; omega), p2⟩
  -- share
  refine ON.guard (by simp; rfl) (ON.retS ?_) ?_
  · simp [at1, at2]
    exact ⟨_, rfl, _, rfl, by simp, by simp [Pl_str, hs]⟩
  refine ON.retS ?_
  simp [at1, at2, fMod_pos]
  exact ⟨_, rfl, _, rfl, by simp, by simp⟩
theorem row_sat (hs : ∀ s ∈ [s0, s1, s2, s3, s4, s5], PyData.strOk s = true) (h0 : num n0) (h1 : num n1) (h2 : num n2) (h3 : num n3) (h4 : num n4) (h5 : num n5) (h6 : num n6) (h7 : num n7) (h8 : num n8) (h9 : num n9) :
    Sat (RowIs kind name) (f__law_row [.str kind, .str name, .list [.str s0, .str s1, .str s2, .str s3, .str s4, .str s5], .list [.int n0, .int n1, .int n2, .int n3, .int n4, .int n5, .int n6, .int n7, .int n8, .int n9]]) := by
  refine Sat.fD rfl ?_
  unfold num at *
  obtain ⟨ax, ay, ea, a1, a2, a3, a4⟩ := low_sat (1 + n7 % 90) (1 + n8 % 7) (by omega) (by omega)
  refine ON.seq ?_
  simp [at5, fMod_pos]
  refine ON.seq ?_
  simp [at6, fMod_pos]
  refine ON.seq ?_
  simp [at7, at8, fMod_pos, ea]
  -- bolt
  refine ON.guard (by simp; rfl) (ON.retS ?_) ?_
  · obtain ⟨x, y, e, b1, b2, b3, b4⟩ := low_sat (ax * (n1 % 4)) (ay * 3) (by omega) (by omega)
    simp [at1, fMod_pos, fMul_sm, fMul_sm (i := ax) (k := n1 % 4) (by omega) (by omega), e]
    exact ⟨_, rfl, _, rfl, by simp, by simp [Pl_str, hs]⟩
  -- claim
  refine ON.guard (by simp; rfl) (ON.retS ?_) ?_
  · simp [at1]
    exact ⟨_, rfl, _, rfl, by simp, by simp [Pl_str, hs]⟩
  -- class
  refine ON.guard (by simp; rfl) (ON.seq ?_) ?_
  · obtain ⟨lx, ly, el, l1, l2, l3, l4⟩ := low_sat (n0 % 50) (1 + n1 % 4) (by omega) (by omega)
    have hq : 1 ≤ ly * ay := by have := Int.mul_le_mul l3 a3 (by omega) (by omega); omega
    have hq2 : ly * ay ≤ 4 * 7 := Int.mul_le_mul (by omega) (by omega) (by omega) (by omega)
    obtain ⟨mx, my, em, m1, m2, m3, m4⟩ := low_sat (lx * ay + ax * (n2 % 3) * ly) (ly * ay) (by omega) (by omega)
    simp [at1, fMod_pos, el]
    refine ON.seq ?_
    simp [at1, at2, fMod_pos, fMul_sm (i := lx) (k := ay) (by omega) (by omega), fMul_sm (i := ax) (k := n2 % 3) (by omega) (by omega), fMul_sm (i := ax * (n2 % 3)) (k := ly) (by omega) (by omega), fMul_sm (i := ly) (k := ay) (by omega) (by omega), em]
    refine ON.seq ?_
    obtain ⟨ts, et, lt, mt⟩ := cut_strs [s0, s1, s2, s3, s4, s5] none (some (n3 % 5))
    have et : cutD [PyData.str s0, .str s1, .str s2, .str s3, .str s4, .str s5] none (some (n3 % 5)) = ts.map .str := et
    obtain ⟨ts2, et2, lt2, mt2⟩ := cut_strs [s0, s1, s2, s3, s4, s5] (some (n9 % 3)) none
    have et2 : cutD [PyData.str s0, .str s1, .str s2, .str s3, .str s4, .str s5] (some (n9 % 3)) none = ts2.map .str := et2
    simp at lt lt2
    have es := sorted_strs ts (by omega)
    simp [at3, fMod_pos, et, es]
    simp [at4, at9, fMod_pos, et2]
    have ml := (sortBy_perm (lt := ltT) ts).length_eq
    refine ⟨_, rfl, by simp, ?_⟩
    simp [Pl_str, hs]
    exact ⟨⟨by omega, fun x hx => hs x (mt x ((sortBy_perm ts).mem_iff.mp hx))⟩, by omega, fun x hx => hs x (mt2 x hx)⟩
  -- cloth
  refine ON.guard (by simp; rfl) (ON.seq ?_) ?_
  · simp [fMod_pos]
    refine ON.seq ?_
    simp [at1, fMod_pos]
    have hm : 0 < (if n1 % 1000 < n0 % 1000 then 1 + n1 % 1000 else 1 + n0 % 1000) + 1 := by split <;> omega
    simp [at2, at3, at4, fMod_pos, fMod_pos hm]
    exact ⟨_, rfl, by simp, by simp⟩
  -- day
  refine ON.guard (by simp; rfl) (ON.retS ?_) ?_
  · obtain ⟨ts, et, lt, mt⟩ := cut_strs [s0, s1, s2, s3, s4, s5] (some 1) (some (2 + n1 % 3))
    have et : cutD [PyData.str s0, .str s1, .str s2, .str s3, .str s4, .str s5] (some 1) (some (2 + n1 % 3)) = ts.map .str := et
    simp at lt
    simp [at1, fMod_pos, et]
    refine ⟨_, rfl, _, rfl, by simp, ?_⟩
    simp [Pl_str, hs]
    exact ⟨by omega, fun x hx => hs x (mt x hx)⟩
  -- grant
  refine ON.guard (by simp; rfl) (ON.retS ?_) ?_
  · obtain ⟨w, ew, mw⟩ := atI_in [PyData.str "onward", PyData.str "only"] (i := n0 % 2) (by omega) (by simp; omega)
    have hw : Pl 3 w = true := by
      simp at mw
      rcases mw with rfl | rfl <;> decide +kernel
    simp [at1, at2, fMod_pos, ew]
    exact ⟨_, rfl, _, rfl, by simp, by simp [Pl_str, hs, hw]⟩
  -- hand, table
  refine ON.guard (c := kind == "hand" || kind == "table") (by by_cases q : kind = "hand" <;> simp [q]) (ON.retS ?_) ?_
  · simp [fMod_pos]
    exact ⟨_, rfl, _, rfl, by simp, by simp⟩
  -- master
  refine ON.guard (by simp; rfl) (ON.retS ?_) ?_
  · simp
    exact ⟨_, rfl, _, rfl, by simp, by simp⟩
  -- measurer
  refine ON.guard (by simp; rfl) (ON.retS ?_) ?_
  · obtain ⟨x, y, e, _⟩ := low_sat (n0 % 7) (7 + n1 % 5) (by omega) (by omega)
    simp [at1, fMod_pos, e]
    exact ⟨_, rfl, _, rfl, by simp, by simp⟩
  -- order
  refine ON.guard (by simp; rfl) (ON.seq ?_) ?_
  · obtain ⟨w, ew, mw⟩ := atI_in [PyData.str "new", PyData.str "mend"] (i := n0 % 2) (by omega) (by simp; omega)
    have hw : Pl 3 w = true := by
      simp at mw
      rcases mw with rfl | rfl <;> decide +kernel
    simp [fMod_pos, ew]
    simp [at1, at2, fMod_pos]
    exact ⟨_, rfl, by simp, by simp [Pl_str, hs, hw]⟩
  have sh := shape_sat (kind := kind) (name := name) hs h0 h1 h2 h3 h4 h5 h6 h7 h8 h9
  refine ON.retS ?_
  simp
  exact sh
end
end Cm

/-! PL7: the drawn names and books. -/
namespace DL
open PySem L2
theorem fIx_str {z : Str} {i : Int} (h : z.cps.size < 16777217) : fIx (.str z) (.int i) = (atI z.cps.toList i).map fun c => .str ⟨#[c]⟩ := if_pos (by
  have e : z.length = z.cps.size := rfl
  rw [e, PySem.sizeLine_eq]
  omega)
theorem ok_one {c : Nat} (h : c < 1114112) : PyData.strOk ⟨#[c]⟩ = true := by
  unfold PyData.strOk
  simp
  omega
theorem ok_app {a b : Str} (h : PyData.strOk a = true) (k : PyData.strOk b = true) : PyData.strOk (a ++ b) = true := by
  have e : (a ++ b : Str) = ⟨a.cps ++ b.cps⟩ := rfl
  unfold PyData.strOk at *
  rw [e, Array.all_append, h, k]
  rfl
theorem app_cps (a b : Str) : (a ++ b : Str).cps = a.cps ++ b.cps := rfl
theorem fAdd_str {a b : Str} (h : a.cps.size + b.cps.size < 16777217) : fAdd (.str a) (.str b) = some (.str (a ++ b)) := fAdd_s a b (by
  have e : a.length = a.cps.size := rfl
  have e2 : b.length = b.cps.size := rfl
  rw [e, e2, PySem.sizeLine_eq]
  omega)
end DL
namespace Cm
open PySem L2 DL
theorem abc_cps : ("abcdefghijklmnopqrstuvwxyz" : Str).cps.toList = (List.range 26).map (97 + ·) := by decide +kernel
theorem abc_size : ("abcdefghijklmnopqrstuvwxyz" : Str).cps.size = 26 := by decide +kernel
theorem pqr_cps : ("pqrstu" : Str).cps.toList = (List.range 6).map (112 + ·) := by decide +kernel
theorem pqr_size : ("pqrstu" : Str).cps.size = 6 := by decide +kernel
def ends : List Str := ["", "x", "7", "q0"]
theorem ends_ok : ∀ s ∈ ends, s.cps.size ≤ 2 ∧ PyData.strOk s = true := by decide +kernel
theorem name_ok (n : Int) : ∃ s : Str, f__law_name [.int n] = .ok (.str s) ∧ s.cps.size ≤ 3 ∧ PyData.strOk s = true := by
  suffices h : Sat (fun d => ∃ s : Str, d = .str s ∧ s.cps.size ≤ 3 ∧ PyData.strOk s = true) (f__law_name [.int n]) by
    obtain ⟨_, e, s, rfl, h⟩ := h
    exact ⟨s, e, h⟩
  refine Sat.fD rfl (ON.seq ?_)
  obtain ⟨c, ec, mc⟩ := atI_in ("abcdefghijklmnopqrstuvwxyz" : Str).cps.toList (i := n % 26) (by omega) (by rw [abc_cps]; simp; omega)
  have hc : c < 1114112 := by
    rw [abc_cps] at mc
    simp at mc
    omega
  obtain ⟨w, ew, mw⟩ := atI_in (ends.map PyData.str) (i := n / 26 % 4) (by omega) (by simp [ends]; omega)
  obtain ⟨t, mt, rfl⟩ := List.mem_map.mp mw
  obtain ⟨t1, t2⟩ := ends_ok t mt
  have ew' : atI [PyData.str "", .str "x", .str "7", .str "q0"] (n / 26 % 4) = some (.str t) := ew
  have ex : fIx (.str "abcdefghijklmnopqrstuvwxyz") (.int (n % 26)) = some (.str ⟨#[c]⟩) := by
    rw [fIx_str (by rw [abc_size]; decide), ec]
    rfl
  have ea : fAdd (.str ⟨#[c]⟩) (.str t) = some (.str (⟨#[c]⟩ ++ t)) := fAdd_str (by simp; omega)
  simp [fMod_pos, fDiv_pos, ex, ew', ea]
  refine ⟨?_, ok_app (ok_one hc) t2⟩
  rw [app_cps]
  simp
  omega
theorem names_ok (xs : List Int) (h : 6 ≤ xs.length) : ∃ s0 s1 s2 s3 s4 s5 : Str, f__law_names [.list (xs.map PyData.int)] = .ok (.list [.str s0, .str s1, .str s2, .str s3, .str s4, .str s5]) ∧ (∀ s ∈ [s0, s1, s2, s3, s4, s5], PyData.strOk s = true) ∧ [s0, s1, s2, s3, s4, s5].Nodup := by
  have each : ∀ k : Nat, k < 6 → ∃ s : Str, cmD (.nm 1) yesT (d2 fAdd (dCall f__law_name (aCons (d2 fIx (dV 0) (dV 1)) aNil)) (d2 fIx (dC (.str "pqrstu")) (dV 1))) [some (.list (xs.map PyData.int)), none] (.int k) = .ok (some (.str s)) ∧ PyData.strOk s = true ∧ s.cps.toList.getLast? = some (112 + k) := fun k hk => by
    obtain ⟨s, es, s1, s2⟩ := name_ok (xs[k]'(by omega))
    have e1 : atI (xs.map PyData.int) (k : Int) = some (.int (xs[k]'(by omega))) := by rw [atI_lt _ k (by simp; omega), List.getElem_map]
    have e2 : fIx (.str "pqrstu") (.int (k : Int)) = some (.str ⟨#[112 + k]⟩) := by
      rw [fIx_str (by rw [pqr_size]; decide), pqr_cps, atI_lt _ k (by simp; omega)]
      simp
    have ea : fAdd (.str s) (.str ⟨#[112 + k]⟩) = some (.str (s ++ ⟨#[112 + k]⟩)) := fAdd_str (by simp; omega)
    refine ⟨s ++ ⟨#[112 + k]⟩, ?_, ok_app s2 (ok_one (by omega)), ?_⟩
    · simp [cmD, e1, e2, es, ea]
    · rw [app_cps]
      simp
  obtain ⟨s0, a0, b0, c0⟩ := each 0 (by decide)
  obtain ⟨s1, a1, b1, c1⟩ := each 1 (by decide)
  obtain ⟨s2, a2, b2, c2⟩ := each 2 (by decide)
  obtain ⟨s3, a3, b3, c3⟩ := each 3 (by decide)
  obtain ⟨s4, a4, b4, c4⟩ := each 4 (by decide)
  obtain ⟨s5, a5, b5, c5⟩ := each 5 (by decide)
  clear each
  refine ⟨s0, s1, s2, s3, s4, s5, ?_, by simp [*], ?_⟩
  · rw [f__law_names, fD_ap (by rfl)]
    have er := iRangeL (a := dC (.int 6)) (β := [some (.list (xs.map PyData.int)), none]) (n := 6) rfl (by decide) (by decide)
    have el : (List.range (6 : Int).toNat).map (fun i : Nat => PyData.int i) = [.int (0 : Nat), .int (1 : Nat), .int (2 : Nat), .int (3 : Nat), .int (4 : Nat), .int (5 : Nat)] := rfl
    rw [el] at er
    have ec : lcD (cmD (.nm 1) yesT (d2 fAdd (dCall f__law_name (aCons (d2 fIx (dV 0) (dV 1)) aNil)) (d2 fIx (dC (.str "pqrstu")) (dV 1))) [some (.list (xs.map PyData.int)), none]) [.int (0 : Nat), .int (1 : Nat), .int (2 : Nat), .int (3 : Nat), .int (4 : Nat), .int (5 : Nat)] = .ok [.str s0, .str s1, .str s2, .str s3, .str s4, .str s5] := by
      rw [lcD, a0, lcD, a1, lcD, a2, lcD, a3, lcD, a4, lcD, a5]
      rfl
    simp only [b__law_names, sRet_ap, sD_ap, dFz_ap, dLc_ap, List.map_cons, List.map_nil, List.cons_append, List.nil_append, List.replicate, dats_cons, dats_nil, dt_d, dt_u, er, Res.bind_ok, wipeB_cons, wipeB_nil, List.set, ec, Nat.reduceSub]
    simp
  · have ne : ∀ {a b : Str} {i j : Nat}, a.cps.toList.getLast? = some (112 + i) → b.cps.toList.getLast? = some (112 + j) → i ≠ j → a ≠ b := fun h1 h2 h3 e => by
      rw [e, h2] at h1
      simp at h1
      omega
    simp only [List.nodup_cons, List.mem_cons, not_or, List.not_mem_nil, not_false_eq_true, List.nodup_nil, and_true]
    refine ⟨⟨ne c0 c1 (by decide), ne c0 c2 (by decide), ne c0 c3 (by decide), ne c0 c4 (by decide), ne c0 c5 (by decide)⟩, ⟨ne c1 c2 (by decide), ne c1 c3 (by decide), ne c1 c4 (by decide), ne c1 c5 (by decide)⟩, ⟨ne c2 c3 (by decide), ne c2 c4 (by decide), ne c2 c5 (by decide)⟩, ⟨ne c3 c4 (by decide), ne c3 c5 (by decide)⟩, ne c4 c5 (by decide)⟩
/-! ### kinds, books -/
def kinds : List Str := ["bolt", "claim", "class", "cloth", "day", "grant", "hand", "master", "measurer", "order", "panel", "reef", "repair", "revoke", "rig", "sail", "seen", "share", "table", "wind"]
theorem kinds_strs : ∀ k ∈ kinds, PyData.strOk k = true := by decide +kernel
theorem kinds_ok : f__law_kinds [] = .ok (.list (kinds.map PyData.str)) := by
  rw [f__law_kinds, fD_ap (by rfl)]
  simp [b__law_kinds, sSeq_ap]
  rw [fAdd_l _ _ (by rw [PySem.sizeLine_eq]; simp)]
  simp [kinds]
/-- a row of a book with these names -/
def RwN (ss : List Str) (d : D) : Prop := Rw d ∧ nm d ∈ ss
theorem RowIs.rwN {ss : List Str} {k n : Str} {d : D} (h : RowIs k n d) (hk : PyData.strOk k = true) (hn : n ∈ ss) (hs : ∀ s ∈ ss, PyData.strOk s = true) : RwN ss d := by
  obtain ⟨rest, rfl, h1, h2⟩ := h
  exact ⟨⟨k, n, rest, rfl, h1, h2, hk, hs n hn⟩, hn⟩
def Bk (ss : List Str) (m : Nat) (rs : List D) : Prop := Ris ky rs ∧ (∀ r ∈ rs, RwN ss r) ∧ rs.length ≤ m
theorem Bk.put {ss : List Str} {m : Nat} {rs : List D} {r : D} (h : Bk ss m rs) (hr : RwN ss r) : Bk ss (m + 1) (DL.put ky rs r) := by
  obtain ⟨h1, h2, h3⟩ := h
  refine ⟨put_ris h1, fun x hx => ?_, Nat.le_trans put_len (by omega)⟩
  rcases put_mem.mp hx with rfl | hx
  · exact hr
  · exact h2 x hx.1
theorem atI_num {xs : List Int} (h : ∀ x ∈ xs, num x) {i : Int} (h0 : 0 ≤ i) (h1 : i < xs.length) : ∃ j, atI (xs.map PyData.int) i = some (.int j) ∧ num j :=
  ⟨_, atI_map PyData.int xs h0 h1, h _ (List.getElem_mem ..)⟩
theorem ten {ys : List D} (l : ys.length = 10) (h : ∀ y ∈ ys, ∃ j, y = .int j ∧ num j) : ∃ n0 n1 n2 n3 n4 n5 n6 n7 n8 n9 : Int, ys = [.int n0, .int n1, .int n2, .int n3, .int n4, .int n5, .int n6, .int n7, .int n8, .int n9] ∧ num n0 ∧ num n1 ∧ num n2 ∧ num n3 ∧ num n4 ∧ num n5 ∧ num n6 ∧ num n7 ∧ num n8 ∧ num n9 := by
  match ys, l with
  | [y0, y1, y2, y3, y4, y5, y6, y7, y8, y9], _ =>
    obtain ⟨n0, rfl, h0⟩ := h y0 (by simp)
    obtain ⟨n1, rfl, h1⟩ := h y1 (by simp)
    obtain ⟨n2, rfl, h2⟩ := h y2 (by simp)
    obtain ⟨n3, rfl, h3⟩ := h y3 (by simp)
    obtain ⟨n4, rfl, h4⟩ := h y4 (by simp)
    obtain ⟨n5, rfl, h5⟩ := h y5 (by simp)
    obtain ⟨n6, rfl, h6⟩ := h y6 (by simp)
    obtain ⟨n7, rfl, h7⟩ := h y7 (by simp)
    obtain ⟨n8, rfl, h8⟩ := h y8 (by simp)
    obtain ⟨n9, rfl, h9⟩ := h y9 (by simp)
    exact ⟨n0, n1, n2, n3, n4, n5, n6, n7, n8, n9, rfl, h0, h1, h2, h3, h4, h5, h6, h7, h8, h9⟩
section
variable {s0 s1 s2 s3 s4 s5 : Str} {xs : List Int} {p0 p1 p2 p3 p4 : Int}
def BI (s0 s1 s2 s3 s4 s5 : Str) (xs : List Int) (start count : Int) (ps : List D) (ds : List D) (α : At) : Prop := (∀ d ∈ ds, ∃ k : Int, d = .int k ∧ 0 ≤ k ∧ k < 1000) ∧ ∃ (rs : List D) (u7 u8 u9 u10 : AV), Bk [s0, s1, s2, s3, s4, s5] (count.toNat - ds.length) rs ∧ ds.length ≤ count.toNat ∧
  α = [AV.dat (.list (xs.map PyData.int)), .dat (.int start), .dat (.int count), .dat (.list [.str s0, .str s1, .str s2, .str s3, .str s4, .str s5]), .dat (.list ps), .dat (.list rs), .dat (.list (kinds.map PyData.str)), u7, u8, u9, u10]
theorem book_ok (hs : ∀ s ∈ [s0, s1, s2, s3, s4, s5], PyData.strOk s = true) (hx : ∀ x ∈ xs, num x) (h0 : 0 < xs.length) (hm : xs.length < 1000) (start count : Int) (t0 : 0 ≤ start) (t1 : start < 1000) (c0 : 0 ≤ count) (c1 : count < 1000) :
    ∃ rs, f__law_book [.list (xs.map PyData.int), .int start, .int count, .list [.str s0, .str s1, .str s2, .str s3, .str s4, .str s5], .list [.int p0, .int p1, .int p2, .int p3, .int p4]] = .ok (.list rs) ∧ Bk [s0, s1, s2, s3, s4, s5] count.toNat rs := by
  suffices h : Sat (fun d => ∃ rs, d = .list rs ∧ Bk [s0, s1, s2, s3, s4, s5] count.toNat rs) (f__law_book [.list (xs.map PyData.int), .int start, .int count, .list [.str s0, .str s1, .str s2, .str s3, .str s4, .str s5], .list [.int p0, .int p1, .int p2, .int p3, .int p4]]) by
    obtain ⟨_, e, rs, rfl, h⟩ := h
    exact ⟨rs, e, h⟩
  obtain ⟨z, hz⟩ : ∃ z : Int, z = xs.length := ⟨_, rfl⟩
  refine Sat.fD rfl (ON.seq ?_)
  simp
  refine ON.seq ?_
  simp [kinds_ok]
  refine ON.seq (ON.for_ (BI s0 s1 s2 s3 s4 s5 xs start count [.int p0, .int p1, .int p2, .int p3, .int p4]) (iRangeL (n := count) (by simp) (by omega) (by omega)) ?_ ?_ ?_)
  · refine ⟨fun d hd => ?_, [], .un, .un, .un, .un, ⟨List.Pairwise.nil, by simp, by simp⟩, by simp, rfl⟩
    obtain ⟨k, hk, rfl⟩ := List.mem_map.mp hd
    exact ⟨k, rfl, by omega, by simp at hk; omega⟩
  · rintro d ds α ⟨hk, rs, u7, u8, u9, u10, hb, hl, rfl⟩
    obtain ⟨k, rfl, k0, k1⟩ := hk d (List.mem_cons_self ..)
    refine ⟨_, rfl, ON.seq ?_⟩
    obtain ⟨ys, ey, ly, py⟩ := lcD_ex (f := cmD (.nm 10) yesT (d2 fIx (dV 0) (d2 fMod (d2 fAdd (d2 fAdd (dV 1) (d2 fMul (dC (.int (5))) (dV 7))) (dV 10)) (dN fLen (aCons (dV 0) aNil))))
        [some (.list (xs.map PyData.int)), some (.int start), some (.int count), some (.list [.str s0, .str s1, .str s2, .str s3, .str s4, .str s5]), some (.list [.int p0, .int p1, .int p2, .int p3, .int p4]), some (.list rs), some (.list (kinds.map PyData.str)), some (.int k), u8.dt, u9.dt, none])
      (P := fun d => ∃ j, d = .int j ∧ num j) (ds := (List.range 10).map fun i : Nat => PyData.int i) (fun d hd => by
        obtain ⟨i, hi, rfl⟩ := List.mem_map.mp hd
        obtain ⟨y, hy⟩ : ∃ y : Int, y = (i : Int) := ⟨_, rfl⟩
        have hi : i < 10 := by simpa using hi
        rw [← hy]
        obtain ⟨j, q, hj⟩ := atI_num hx (i := (start + 5 * k + y) % z) (Int.emod_nonneg _ (by omega)) (by have := Int.emod_lt_of_pos (start + 5 * k + y) (show 0 < z by omega); omega)
        refine ⟨.int j, ?_, j, rfl, hj⟩
        simp only [cmD, setT_nm, List.set, yesT_ap, Res.bind_ok, d2_ap, dN_ap, aCons_ap, aNil_ap, dC_ap, dV_s, dV_z, fMul_sm' (i := 5) (k := k) (by decide) (by decide), Res.of_some, fAdd_int, fLen_l, List.length_map, ← hz, fMod_pos (i := start + 5 * k + y) (k := z) (by omega), fIx_l, q, if_true, noEr_ok])
    obtain ⟨n0, n1, n2, n3, n4, n5, n6, n7, n8, n9, rfl, hn0, hn1, hn2, hn3, hn4, hn5, hn6, hn7, hn8, hn9⟩ := ten (by simpa using ly) py
    have er := iRangeL (a := dC (.int 10)) (β := [some (.list (xs.map PyData.int)), some (.int start), some (.int count), some (.list [.str s0, .str s1, .str s2, .str s3, .str s4, .str s5]), some (.list [.int p0, .int p1, .int p2, .int p3, .int p4]), some (.list rs), some (.list (kinds.map PyData.str)), some (.int k), u8.dt, u9.dt, u10.dt]) (n := 10) rfl (by decide) (by decide)
    simp only [sLay_ap, sD_ap, dLc_ap, dats_cons, dats_nil, dt_d, List.set, er, Res.bind_ok, show (10 : Int).toNat = 10 from rfl, le_size (n := ((List.range 10).map fun i : Nat => PyData.int i).length) (by decide), if_true, wipeB_cons, wipeB_nil, ey, ofR_ok, ON_nx]
    refine ON.seq ?_
    obtain ⟨w, ew, mw⟩ := atI_in [PyData.int p0, .int p1, .int p2, .int p3, .int p4] (i := n0 % 5) (by omega) (by simp; omega)
    obtain ⟨p, rfl⟩ : ∃ p, w = .int p := by
      simp at mw
      rcases mw with rfl | rfl | rfl | rfl | rfl <;> exact ⟨_, rfl⟩
    obtain ⟨v, ev, mv⟩ := atI_in (kinds.map PyData.str) (i := p % 20) (by omega) (by simp [kinds]; omega)
    obtain ⟨kd', hkd, rfl⟩ := List.mem_map.mp mv
    simp [fMod_pos, ew, ev]
    obtain ⟨v2, ev2, mv2⟩ := atI_in [PyData.str s0, .str s1, .str s2, .str s3, .str s4, .str s5] (i := n1 % 6) (by omega) (by simp; omega)
    obtain ⟨n', rfl, hn'⟩ : ∃ n' : Str, v2 = .str n' ∧ n' ∈ [s0, s1, s2, s3, s4, s5] := by
      simp at mv2
      rcases mv2 with rfl | rfl | rfl | rfl | rfl | rfl <;> exact ⟨_, rfl, by simp⟩
    obtain ⟨row, erow, hrow⟩ := row_sat (kind := kd') (name := n') hs hn2 hn3 hn4 hn5 hn6 hn7 hn8 hn9 hn0 hn1
    have hr := RowIs.rwN hrow (kinds_strs _ hkd) hn' hs
    have e1 : cutD [PyData.int n0, .int n1, .int n2, .int n3, .int n4, .int n5, .int n6, .int n7, .int n8, .int n9] (some 2) none = [.int n2, .int n3, .int n4, .int n5, .int n6, .int n7, .int n8, .int n9] := rfl
    have e2 : cutD [PyData.int n0, .int n1, .int n2, .int n3, .int n4, .int n5, .int n6, .int n7, .int n8, .int n9] none (some 2) = [.int n0, .int n1] := rfl
    have e3 : fAdd (.list [PyData.int n2, .int n3, .int n4, .int n5, .int n6, .int n7, .int n8, .int n9]) (.list [.int n0, .int n1]) = some (.list [.int n2, .int n3, .int n4, .int n5, .int n6, .int n7, .int n8, .int n9, .int n0, .int n1]) := fAdd_l _ _ (by rw [PySem.sizeLine_eq]; simp)
    have e4 := placed_ok (rs := rs) (d := row) (fun x hx => (hb.2.1 x hx).1) hr.1 (by have := hb.2.2; omega)
    simp [at1, fMod_pos, ev2, e1, e2, e3, erow, e4]
    refine ⟨fun d hd => hk d (List.mem_cons_of_mem _ hd), DL.put ky rs row, _, _, _, _, ?_, by simp at hl; omega, rfl⟩
    have := hb.put hr
    simp only [List.length_cons] at this hl
    rwa [show count.toNat - (ds.length + 1) + 1 = count.toNat - ds.length by omega] at this
  · rintro α ⟨_, rs, u7, u8, u9, u10, hb, _, rfl⟩
    simp
    exact hb
end
end Cm

/-! PL8: keys as tuples, rows in books, edits. -/
namespace DL
open PySem L2 Cm
theorem lcD_pick {f : D → Res (Option D)} (p : D → Bool) (g : D → D) {ds : List D} (h : ∀ d ∈ ds, f d = .ok (if p d = true then some (g d) else none)) : lcD f ds = .ok ((ds.filter p).map g) := by
  rw [lcD_map h]
  congr 1
  induction ds with
  | nil => rfl
  | cons x xs ih =>
    have ih := ih fun d hd => h d (List.mem_cons_of_mem _ hd)
    by_cases q : p x = true <;> simp_all
theorem bk_kind {ss : List Str} {m : Nat} {rs : List D} (h : Bk ss m rs) (k : Str) : (rs.filter fun x => decide (kd x = k)).length ≤ ss.length := by
  obtain ⟨h1, h2, h3⟩ := h
  rw [← List.length_map (f := nm)]
  refine List.Nodup.length_le_of_subset ?_ fun x hx => ?_
  · unfold List.Nodup
    rw [List.pairwise_map]
    refine List.Pairwise.imp_of_mem ?_ (h1.filter _)
    intro a b ha hb hab e
    have ka : kd a = k := by simpa using (List.mem_filter.mp ha).2
    have kb : kd b = k := by simpa using (List.mem_filter.mp hb).2
    have : ky a = ky b := Prod.ext (ka.trans kb.symm) e
    rw [this, kl_irr] at hab
    cases hab
  · obtain ⟨y, hy, rfl⟩ := List.mem_map.mp hx
    exact (h2 y (List.mem_filter.mp hy).1).2
theorem Rw.oks {d : D} (h : Rw d) : PyData.strOk (kd d) = true ∧ PyData.strOk (nm d) = true := by
  obtain ⟨k, n, rest, rfl, h1, h2, h3, h4⟩ := h
  exact ⟨h3, h4⟩
def keyD (k : Ky) : D := .tuple [.str k.1, .str k.2]
def okK (k : Ky) : Prop := PyData.strOk k.1 = true ∧ PyData.strOk k.2 = true
theorem key_pl {k : Ky} (h : okK k) : Pl 1 (keyD k) = true := by
  simp [keyD, Pl_str, h.1, h.2]
theorem keyD_inj {a b : Ky} : keyD a = keyD b ↔ a = b := by
  simp [keyD, Prod.ext_iff]
theorem eqv_dec {n : Nat} {x y : D} (hx : Pl n x = true) (hy : Pl n y = true) (q : Decidable (x = y)) : PyData.eqv x y = @decide (x = y) q := by
  have := Pl.eqv hx hy
  by_cases e : x = y <;> cases h : PyData.eqv x y <;> simp_all
theorem fNe_key {a b : Ky} (h1 : okK a) (h2 : okK b) : fNe (keyD a) (keyD b) = some (.bool (decide (a ≠ b))) := by
  have p1 := key_pl h1
  have p2 := key_pl h2
  have e : eqD (keyD a) (keyD b) = some (PyData.eqv (keyD a) (keyD b)) := if_pos ⟨Pl.shaped p1 (by decide), Pl.shaped p2 (by decide)⟩
  have w := Pl.eqv p1 p2
  rw [keyD_inj] at w
  unfold fNe
  rw [e]
  by_cases q : a = b
  · rw [w.mpr q]
    simp [q]
  · have : PyData.eqv (keyD a) (keyD b) = false := by
      cases z : PyData.eqv (keyD a) (keyD b) with
      | false => rfl
      | true => exact absurd (w.mp z) q
    simp [this, q]
theorem fLt_key (a b : Ky) : fLt (keyD a) (keyD b) = some (.bool (kl a b)) := by
  have e : kinAll [PyData.str a.1, .str a.2] [.str b.1, .str b.2] = true := rfl
  have e2 : lexB [PyData.str a.1, .str a.2] [.str b.1, .str b.2] = kl a b := by
    simp only [lexB, eqS, ltB, kl]
    by_cases q : a.1 = b.1
    · rw [q]
      have i := sl_irr b.1
      unfold sl at i ⊢
      by_cases q2 : a.2 = b.2
      · have i2 := sl_irr b.2
        unfold sl at i2
        simp [q2] at i2 ⊢
        try simp [i, i2]
      · simp [q2, sl]
        intro z
        exact absurd z (by simpa using i)
    · simp [q, sl]
  unfold fLt keyD
  simp only [e, if_true, e2]
theorem notin_rows {d : D} {rs : List D} (h : Rw d) (k : ∀ x ∈ rs, Rw x) (t : Bool) (q : Decidable (d ∈ rs)) : fNotIn d (if t then .tuple rs else .list rs) = some (.bool !(@decide (d ∈ rs) q)) := by
  have s := shapedL (n := 4) (ds := rs) (fun x hx => (k x hx).pl) (by decide)
  have e : inD d (if t then .tuple rs else .list rs) = some (rs.any fun z => PyData.eqv z d) := by
    cases t with
    | true => exact if_pos ⟨Pl.shaped h.pl (by decide), s.2⟩
    | false => exact if_pos ⟨Pl.shaped h.pl (by decide), s.1⟩
  unfold fNotIn
  rw [e]
  have w : (rs.any fun z => PyData.eqv z d) = @decide (d ∈ rs) q := by
    by_cases m : d ∈ rs
    · have : (rs.any fun z => PyData.eqv z d) = true := List.any_eq_true.mpr ⟨d, m, (Pl.eqv h.pl h.pl).mpr rfl⟩
      simp [this, m]
    · have : (rs.any fun z => PyData.eqv z d) = false := by
        rw [List.any_eq_false]
        intro z hz e
        exact m ((Pl.eqv (k z hz).pl h.pl).mp e ▸ hz)
      simp [this, m]
  rw [Option.map_some, w]
theorem any_key {rs : List D} {k : Ky} : (rs.any fun x => decide (ky x = k)) = decide (k ∈ rs.map ky) := by
  by_cases m : k ∈ rs.map ky
  · obtain ⟨x, hx, e⟩ := List.mem_map.mp m
    have : (rs.any fun x => decide (ky x = k)) = true := List.any_eq_true.mpr ⟨x, hx, by simpa using e⟩
    simp [this, m]
  · have : (rs.any fun x => decide (ky x = k)) = false := by
      rw [List.any_eq_false]
      intro z hz e
      exact m (List.mem_map.mpr ⟨z, hz, by simpa using e⟩)
    rw [this]
    simp [m]
end DL

namespace Cr
open PySem PySem.Spec PyProof.Rows L2 DL Cm
def k_DIGITS : D := .str "0123456789"
def k_FEWEST_CORNERS : D := .int (3)
def p_FIELDS : List (Str × D) := [("bolt", .tuple [.tuple [.str "N"], .tuple [.str "A"], .tuple [.str "W", .int (0), .int (1000)], .tuple [.str "Q", .int (0), .int (100000)]]), ("claim", .tuple [.tuple [.str "N"], .tuple [.str "N"], .tuple [.str "A"], .tuple [.str "W", .int (0), .int (99)]]), ("class", .tuple [.tuple [.str "Q", .int (0), .int (100000)], .tuple [.str "Q", .int (0), .int (100000)], .tuple [.str "W", .int (1), .int (4)], .tuple [.str "S", .int (0), .int (12)], .tuple [.str "L", .int (0), .int (6)]]), ("cloth", .tuple [.tuple [.str "W", .int (1), .int (1000)], .tuple [.str "W", .int (1), .int (1000)], .tuple [.str "W", .int (0), .int (1000)], .tuple [.str "W", .int (1), .int (100)], .tuple [.str "W", .int (0), .int (1000)]]), ("day", .tuple [.tuple [.str "N"], .tuple [.str "W", .int (0), .int (99)], .tuple [.str "W", .int (0), .int (3)], .tuple [.str "L", .int (1), .int (3)]]), ("grant", .tuple [.tuple [.str "N"], .tuple [.str "N"], .tuple [.str "N"], .tuple [.str "X", .str "onward", .str "only"], .tuple [.str "W", .int (0), .int (99)], .tuple [.str "W", .int (0), .int (99)]]), ("hand", .tuple [.tuple [.str "W", .int (0), .int (9)], .tuple [.str "W", .int (0), .int (6)]]), ("master", .tuple []), ("measurer", .tuple [.tuple [.str "Q", .int (0), .int (1)]]), ("order", .tuple [.tuple [.str "W", .int (0), .int (99)], .tuple [.str "X", .str "new", .str "mend"], .tuple [.str "N"], .tuple [.str "N"], .tuple [.str "W", .int (0), .int (9)], .tuple [.str "W", .int (0), .int (9)], .tuple [.str "W", .int (0), .int (9)], .tuple [.str "N"]]), ("panel", .tuple [.tuple [.str "N"], .tuple [.str "P", .int (4)], .tuple [.str "G"], .tuple [.str "X", .str "flips", .str "plain"]]), ("reef", .tuple [.tuple [.str "E"]]), ("repair", .tuple [.tuple [.str "N"], .tuple [.str "W", .int (0), .int (3)], .tuple [.str "W", .int (1), .int (6)], .tuple [.str "W", .int (0), .int (1000)]]), ("revoke", .tuple [.tuple [.str "N"], .tuple [.str "N"], .tuple [.str "N"], .tuple [.str "W", .int (0), .int (99)]]), ("rig", .tuple [.tuple [.str "S", .int (1), .int (4)]]), ("sail", .tuple [.tuple [.str "P", .int (6)], .tuple [.str "W", .int (0), .int (5)], .tuple [.str "W", .int (0), .int (5)], .tuple [.str "N"], .tuple [.str "N"], .tuple [.str "R"], .tuple [.str "L", .int (1), .int (4)], .tuple [.str "L", .int (0), .int (3)]]), ("seen", .tuple [.tuple [.str "Z"]]), ("share", .tuple [.tuple [.str "N"], .tuple [.str "N"], .tuple [.str "N"], .tuple [.str "Q", .int (0), .int (1)]]), ("table", .tuple [.tuple [.str "W", .int (0), .int (9)], .tuple [.str "W", .int (0), .int (9)]]), ("wind", .tuple [.tuple [.str "V"], .tuple [.str "W", .int (0), .int (1000)]])]
def k_FIELDS : D := dicD p_FIELDS
def k_KIND_NAMES : D := .tuple [.str "bolt", .str "claim", .str "class", .str "cloth", .str "day", .str "grant", .str "hand", .str "master", .str "measurer", .str "order", .str "panel", .str "reef", .str "repair", .str "revoke", .str "rig", .str "sail", .str "seen", .str "share", .str "table", .str "wind"]
def k_LETTERS : D := .str "abcdefghijklmnopqrstuvwxyz"
def k_MOST_BELOW : D := .int (100)
def k_MOST_CORNERS : D := .int (8)
def k_MOST_GRAIN : D := .int (100)
def k_MOST_NAME : D := .int (12)
def k_MOST_NUMBER : D := .int (999999999)
def k_MOST_PLACE : D := .int (1000)
def k_MOST_PULL : D := .int (100)
def k_MOST_RATIO : D := .int (100000)
def k_MOST_RULE : D := .int (3)
def k_MOST_SPANS : D := .int (4)
def k_MOST_STRAIN : D := .int (1000)
def k_MOST_WORN : D := .int (6)
def k_ONE : D := .tuple [.int (1), .int (1)]
def k_ZERO : D := .tuple [.int (0), .int (1)]
def b_is_name : At → Out :=
 (sSeq (sIf (sD (tNot (tV (dIsi "str" (dV 0)))))
 (sRet (sD (dC (.bool false))))
 sNil)
 (sSeq (sIf (sD (tOr (tV (d2 fEq (dV 0) (dC (.str "")))) (tV (d2 fGt (dN fLen (aCons (dV 0) aNil)) (dC k_MOST_NAME)))))
 (sRet (sD (dC (.bool false))))
 sNil)
 (sSeq (sIf (sD (tV (d2 fNotIn (d2 fIx (dV 0) (dC (.int (0)))) (dC k_LETTERS))))
 (sRet (sD (dC (.bool false))))
 sNil)
 (sSeq (sFor (iSeq (dV 0)) (.nm 1)
 (sIf (sD (tAnd (tV (d2 fNotIn (dV 1) (dC k_LETTERS))) (tV (d2 fNotIn (dV 1) (dC k_DIGITS)))))
 (sRet (sD (dC (.bool false))))
 sNil))
 (sRet (sD (dC (.bool true))))))))
def f_is_name : List D → Res D := fD 1 2 b_is_name
def b_ascending_names : At → Out :=
 (sSeq (sIf (sD (tNot (tV (dIsi "tuple" (dV 0)))))
 (sRet (sD (dC (.bool false))))
 sNil)
 (sSeq (sSet 1 (sD (dC (.str ""))))
 (sSeq (sFor (iSeq (dV 0)) (.nm 2)
 (sSeq (sIf (sD (tOr (tNot (tV (dCall f_is_name (aCons (dV 2) aNil)))) (tNot (tV (d2 fLt (dV 1) (dV 2))))))
 (sRet (sD (dC (.bool false))))
 sNil)
 (sSet 1 (sD (dV 2)))))
 (sRet (sD (dC (.bool true)))))))
def f_ascending_names : List D → Res D := fD 1 3 b_ascending_names
def b_is_string : At → Out :=
 (sRet (sD (dIsi "str" (dV 0))))
def f_is_string : List D → Res D := fD 1 1 b_is_string
def b_is_whole : At → Out :=
 (sRet (sD (dAnd (dIsi "int" (dV 0)) (dNot (dIsi "bool" (dV 0))))))
def f_is_whole : List D → Res D := fD 1 1 b_is_whole
def b_is_within : At → Out :=
 (sRet (sD (dAnd (dCall f_is_whole (aCons (dV 2) aNil)) (dChain fLe fLe (dV 0) (dV 2) (dV 1)))))
def f_is_within : List D → Res D := fD 3 3 b_is_within
def b_names_field : At → Out :=
 (sSeq (sIf (sD (tOr (tNot (tV (dIsi "tuple" (dV 2)))) (tNot (tV (dChain fLe fLe (dV 0) (dN fLen (aCons (dV 2) aNil)) (dV 1))))))
 (sRet (sD (dC (.bool false))))
 sNil)
 (sSeq (sFor (iEnumD (dV 2)) (.tup [3, 4])
 (sIf (sD (tOr (tNot (tV (dCall f_is_name (aCons (dV 4) aNil)))) (tV (d2 fIn (dV 4) (dSl (dV 2) pNone (pSome (dV 3)))))))
 (sRet (sD (dC (.bool false))))
 sNil))
 (sRet (sD (dC (.bool true))))))
def f_names_field : List D → Res D := fD 3 5 b_names_field
def b_compare_ratios : At → Out :=
 (sSeq (sSet 2 (sD (d2 fMul (d2 fIx (dV 0) (dC (.int (0)))) (d2 fIx (dV 1) (dC (.int (1)))))))
 (sSeq (sSet 3 (sD (d2 fMul (d2 fIx (dV 1) (dC (.int (0)))) (d2 fIx (dV 0) (dC (.int (1)))))))
 (sSeq (sIf (sD (tV (d2 fLt (dV 2) (dV 3))))
 (sRet (sD (d1 fNeg (dC (.int (1))))))
 sNil)
 (sSeq (sIf (sD (tV (d2 fGt (dV 2) (dV 3))))
 (sRet (sD (dC (.int (1)))))
 sNil)
 (sRet (sD (dC (.int (0)))))))))
def f_compare_ratios : List D → Res D := fD 2 4 b_compare_ratios
def b_common_divisor : At → Out :=
 (sSeq (sSet 0 (sD (dN fAbs (aCons (dV 0) aNil))))
 (sSeq (sSet 1 (sD (dN fAbs (aCons (dV 1) aNil))))
 (sSeq (whileD (sD (tV (d2 fNe (dV 1) (dC (.int (0))))))
 (sPar 0 1 (sD (aCons (dV 1) (aCons (d2 fMod (dN fInt (aCons (dV 0) aNil)) (dV 1)) aNil)))) 100000)
 (sRet (sD (dV 0))))))
def f_common_divisor : List D → Res D := fD 2 2 b_common_divisor
def b_is_row : At → Out :=
 (sRet (sD (dAnd (dIsi "tuple" (dV 1)) (d2 fEq (dN fLen (aCons (dV 1) aNil)) (dV 0)))))
def f_is_row : List D → Res D := fD 2 2 b_is_row
def b_is_ratio : At → Out :=
 (sSeq (sIf (sD (tNot (tV (dCall f_is_row (aCons (dC (.int (2))) (aCons (dV 0) aNil))))))
 (sRet (sD (dC (.bool false))))
 sNil)
 (sSeq (sSetT (.tup [1, 2]) (sD (dV 0)))
 (sSeq (sIf (sD (tOr (tNot (tV (dCall f_is_whole (aCons (dV 1) aNil)))) (tNot (tV (dCall f_is_whole (aCons (dV 2) aNil))))))
 (sRet (sD (dC (.bool false))))
 sNil)
 (sRet (sD (dAnd (d2 fGt (dV 2) (dC (.int (0)))) (d2 fEq (dCall f_common_divisor (aCons (dV 1) (aCons (dV 2) aNil))) (dC (.int (1))))))))))
def f_is_ratio : List D → Res D := fD 1 3 b_is_ratio
def b_short_ratio : At → Out :=
 (sRet (sD (dAnd (dCall f_is_ratio (aCons (dV 0) aNil)) (dAnd (dCall f_is_within (aCons (d1 fNeg (dC k_MOST_NUMBER)) (aCons (dC k_MOST_NUMBER) (aCons (d2 fIx (dV 0) (dC (.int (0)))) aNil)))) (d2 fLe (d2 fIx (dV 0) (dC (.int (1)))) (dC k_MOST_NUMBER))))))
def f_short_ratio : List D → Res D := fD 1 1 b_short_ratio
def b_whole_ratio : At → Out :=
 (sRet (sD (dTup (aCons (dV 0) (aCons (dC (.int (1))) aNil)))))
def f_whole_ratio : List D → Res D := fD 1 1 b_whole_ratio
def b_ratio_within : At → Out :=
 (sSeq (sIf (sD (tNot (tV (dCall f_short_ratio (aCons (dV 2) aNil)))))
 (sRet (sD (dC (.bool false))))
 sNil)
 (sRet (sD (dAnd (d2 fLe (dCall f_compare_ratios (aCons (dCall f_whole_ratio (aCons (dV 0) aNil)) (aCons (dV 2) aNil))) (dC (.int (0)))) (d2 fLe (dCall f_compare_ratios (aCons (dV 2) (aCons (dCall f_whole_ratio (aCons (dV 1) aNil)) aNil))) (dC (.int (0))))))))
def f_ratio_within : List D → Res D := fD 3 3 b_ratio_within
def b_is_rule : At → Out :=
 (sSeq (sIf (sD (tOr (tNot (tV (dIsi "tuple" (dV 0)))) (tOr (tV (d2 fLt (dN fLen (aCons (dV 0) aNil)) (dC (.int (1))))) (tV (d2 fGt (dN fLen (aCons (dV 0) aNil)) (dC k_MOST_RULE))))))
 (sRet (sD (dC (.bool false))))
 sNil)
 (sSeq (sSet 1 (sD (dC k_ZERO)))
 (sSeq (sFor (iSeq (dV 0)) (.nm 2)
 (sSeq (sIf (sD (tOr (tNot (tV (dCall f_is_ratio (aCons (dV 2) aNil)))) (tV (d2 fLe (dCall f_compare_ratios (aCons (dV 2) (aCons (dV 1) aNil))) (dC (.int (0)))))))
 (sRet (sD (dC (.bool false))))
 sNil)
 (sSet 1 (sD (dV 2)))))
 (sRet (sD (dC (.bool true)))))))
def f_is_rule : List D → Res D := fD 1 3 b_is_rule
def b_rule_field : At → Out :=
 (sSeq (sIf (sD (tNot (tV (dCall f_is_rule (aCons (dV 0) aNil)))))
 (sRet (sD (dC (.bool false))))
 sNil)
 (sSeq (sFor (iSeq (dV 0)) (.nm 1)
 (sIf (sD (tNot (tV (dCall f_ratio_within (aCons (dC (.int (0))) (aCons (dC k_MOST_STRAIN) (aCons (dV 1) aNil)))))))
 (sRet (sD (dC (.bool false))))
 sNil))
 (sRet (sD (dC (.bool true))))))
def f_rule_field : List D → Res D := fD 1 2 b_rule_field
def b_is_grain : At → Out :=
 (sSeq (sIf (sD (tNot (tV (dCall f_is_row (aCons (dC (.int (2))) (aCons (dV 0) aNil))))))
 (sRet (sD (dC (.bool false))))
 sNil)
 (sSeq (sSetT (.tup [1, 2]) (sD (dV 0)))
 (sSeq (sIf (sD (tOr (tNot (tV (dCall f_is_whole (aCons (dV 1) aNil)))) (tNot (tV (dCall f_is_whole (aCons (dV 2) aNil))))))
 (sRet (sD (dC (.bool false))))
 sNil)
 (sSeq (sIf (sD (tV (d2 fEq (dV 1) (dC (.int (0))))))
 (sRet (sD (d2 fEq (dV 2) (dC (.int (1))))))
 sNil)
 (sRet (sD (dAnd (d2 fGt (dV 1) (dC (.int (0)))) (d2 fEq (dCall f_common_divisor (aCons (dV 1) (aCons (dV 2) aNil))) (dC (.int (1)))))))))))
def f_is_grain : List D → Res D := fD 1 3 b_is_grain
def b_grain_field : At → Out :=
 (sSeq (sIf (sD (tNot (tV (dCall f_is_grain (aCons (dV 0) aNil)))))
 (sRet (sD (dC (.bool false))))
 sNil)
 (sRet (sD (dAnd (dCall f_is_within (aCons (d1 fNeg (dC k_MOST_GRAIN)) (aCons (dC k_MOST_GRAIN) (aCons (d2 fIx (dV 0) (dC (.int (0)))) aNil)))) (dCall f_is_within (aCons (d1 fNeg (dC k_MOST_GRAIN)) (aCons (dC k_MOST_GRAIN) (aCons (d2 fIx (dV 0) (dC (.int (1)))) aNil))))))))
def f_grain_field : List D → Res D := fD 1 1 b_grain_field
def b_is_pull : At → Out :=
 (sSeq (sIf (sD (tNot (tV (dCall f_is_row (aCons (dC (.int (2))) (aCons (dV 0) aNil))))))
 (sRet (sD (dC (.bool false))))
 sNil)
 (sSeq (sSetT (.tup [1, 2]) (sD (dV 0)))
 (sSeq (sIf (sD (tOr (tNot (tV (dCall f_is_within (aCons (d1 fNeg (dC k_MOST_PULL)) (aCons (dC k_MOST_PULL) (aCons (dV 1) aNil)))))) (tNot (tV (dCall f_is_within (aCons (d1 fNeg (dC k_MOST_PULL)) (aCons (dC k_MOST_PULL) (aCons (dV 2) aNil))))))))
 (sRet (sD (dC (.bool false))))
 sNil)
 (sRet (sD (dOr (d2 fNe (dV 1) (dC (.int (0)))) (d2 fNe (dV 2) (dC (.int (0))))))))))
def f_is_pull : List D → Res D := fD 1 3 b_is_pull
def b_is_point : At → Out :=
 (sRet (sD (dAnd (dCall f_is_row (aCons (dC (.int (2))) (aCons (dV 0) aNil))) (dAnd (dCall f_is_ratio (aCons (d2 fIx (dV 0) (dC (.int (0)))) aNil)) (dCall f_is_ratio (aCons (d2 fIx (dV 0) (dC (.int (1)))) aNil))))))
def f_is_point : List D → Res D := fD 1 1 b_is_point
def b_is_spot : At → Out :=
 (sSeq (sIf (sD (tNot (tV (dCall f_is_point (aCons (dV 0) aNil)))))
 (sRet (sD (dC (.bool false))))
 sNil)
 (sSeq (sFor (iSeq (dV 0)) (.nm 1)
 (sIf (sD (tOr (tNot (tV (dCall f_ratio_within (aCons (d1 fNeg (dC k_MOST_PLACE)) (aCons (dC k_MOST_PLACE) (aCons (dV 1) aNil)))))) (tV (d2 fGt (d2 fIx (dV 1) (dC (.int (1)))) (dC k_MOST_BELOW)))))
 (sRet (sD (dC (.bool false))))
 sNil))
 (sRet (sD (dC (.bool true))))))
def f_is_spot : List D → Res D := fD 1 2 b_is_spot
def b_line_field : At → Out :=
 (sSeq (sIf (sD (tOr (tNot (tV (dCall f_is_row (aCons (dC (.int (2))) (aCons (dV 0) aNil))))) (tOr (tNot (tV (dCall f_is_spot (aCons (d2 fIx (dV 0) (dC (.int (0)))) aNil)))) (tNot (tV (dCall f_is_spot (aCons (d2 fIx (dV 0) (dC (.int (1)))) aNil)))))))
 (sRet (sD (dC (.bool false))))
 sNil)
 (sRet (sD (d2 fNe (d2 fIx (dV 0) (dC (.int (0)))) (d2 fIx (dV 0) (dC (.int (1))))))))
def f_line_field : List D → Res D := fD 1 1 b_line_field
def b_all_points : At → Out :=
 (sSeq (sIf (sD (tNot (tV (dIsi "tuple" (dV 0)))))
 (sRet (sD (dC (.bool false))))
 sNil)
 (sSeq (sFor (iSeq (dV 0)) (.nm 1)
 (sIf (sD (tNot (tV (dCall f_is_point (aCons (dV 1) aNil)))))
 (sRet (sD (dC (.bool false))))
 sNil))
 (sRet (sD (dC (.bool true))))))
def f_all_points : List D → Res D := fD 1 2 b_all_points
def b_make_ratio : At → Out :=
 (sSeq (sIf (sD (tV (d2 fEq (dV 1) (dC (.int (0))))))
 (fun _ => .no)
 sNil)
 (sSeq (sSet 2 (sD (dCall f_common_divisor (aCons (dV 0) (aCons (dV 1) aNil)))))
 (sSeq (sIf (sD (tV (d2 fLt (dV 1) (dC (.int (0))))))
 (sSet 2 (sD (d1 fNeg (dV 2))))
 sNil)
 (sRet (sD (dTup (aCons (d2 fDiv (dV 0) (dV 2)) (aCons (d2 fDiv (dV 1) (dV 2)) aNil))))))))
def f_make_ratio : List D → Res D := fD 2 3 b_make_ratio
def b_add_ratios : At → Out :=
 (sRet (sD (dCall f_make_ratio (aCons (d2 fAdd (d2 fMul (d2 fIx (dV 0) (dC (.int (0)))) (d2 fIx (dV 1) (dC (.int (1))))) (d2 fMul (d2 fIx (dV 1) (dC (.int (0)))) (d2 fIx (dV 0) (dC (.int (1)))))) (aCons (d2 fMul (d2 fIx (dV 0) (dC (.int (1)))) (d2 fIx (dV 1) (dC (.int (1))))) aNil)))))
def f_add_ratios : List D → Res D := fD 2 2 b_add_ratios
def b_take_ratios : At → Out :=
 (sRet (sD (dCall f_make_ratio (aCons (d2 fSub (d2 fMul (d2 fIx (dV 0) (dC (.int (0)))) (d2 fIx (dV 1) (dC (.int (1))))) (d2 fMul (d2 fIx (dV 1) (dC (.int (0)))) (d2 fIx (dV 0) (dC (.int (1)))))) (aCons (d2 fMul (d2 fIx (dV 0) (dC (.int (1)))) (d2 fIx (dV 1) (dC (.int (1))))) aNil)))))
def f_take_ratios : List D → Res D := fD 2 2 b_take_ratios
def b_times_ratios : At → Out :=
 (sRet (sD (dCall f_make_ratio (aCons (d2 fMul (d2 fIx (dV 0) (dC (.int (0)))) (d2 fIx (dV 1) (dC (.int (0))))) (aCons (d2 fMul (d2 fIx (dV 0) (dC (.int (1)))) (d2 fIx (dV 1) (dC (.int (1))))) aNil)))))
def f_times_ratios : List D → Res D := fD 2 2 b_times_ratios
def b_cross_product : At → Out :=
 (sRet (sD (dCall f_take_ratios (aCons (dCall f_times_ratios (aCons (d2 fIx (dV 0) (dC (.int (0)))) (aCons (d2 fIx (dV 1) (dC (.int (1)))) aNil))) (aCons (dCall f_times_ratios (aCons (d2 fIx (dV 0) (dC (.int (1)))) (aCons (d2 fIx (dV 1) (dC (.int (0)))) aNil))) aNil)))))
def f_cross_product : List D → Res D := fD 2 2 b_cross_product
def b_double_area : At → Out :=
 (sSeq (sSet 1 (sD (dC k_ZERO)))
 (sSeq (sFor (iRange1 (dN fLen (aCons (dV 0) aNil))) (.nm 2)
 (sSet 1 (sD (dCall f_add_ratios (aCons (dV 1) (aCons (dCall f_cross_product (aCons (d2 fIx (dV 0) (d2 fSub (dV 2) (dC (.int (1))))) (aCons (d2 fIx (dV 0) (dV 2)) aNil))) aNil))))))
 (sRet (sD (dV 1)))))
def f_double_area : List D → Res D := fD 1 3 b_double_area
def b_compare_points : At → Out :=
 (sSeq (sSet 2 (sD (dCall f_compare_ratios (aCons (d2 fIx (dV 0) (dC (.int (0)))) (aCons (d2 fIx (dV 1) (dC (.int (0)))) aNil)))))
 (sSeq (sIf (sD (tV (d2 fNe (dV 2) (dC (.int (0))))))
 (sRet (sD (dV 2)))
 sNil)
 (sRet (sD (dCall f_compare_ratios (aCons (d2 fIx (dV 0) (dC (.int (1)))) (aCons (d2 fIx (dV 1) (dC (.int (1)))) aNil)))))))
def f_compare_points : List D → Res D := fD 2 3 b_compare_points
def b_from_least : At → Out :=
 (sSeq (sSet 1 (sD (dC (.int (0)))))
 (sSeq (sFor (iRange2 (dC (.int (1))) (dN fLen (aCons (dV 0) aNil))) (.nm 2)
 (sIf (sD (tV (d2 fLt (dCall f_compare_points (aCons (d2 fIx (dV 0) (dV 2)) (aCons (d2 fIx (dV 0) (dV 1)) aNil))) (dC (.int (0))))))
 (sSet 1 (sD (dV 2)))
 sNil))
 (sRet (sD (d2 fAdd (dSl (dV 0) (pSome (dV 1)) pNone) (dSl (dV 0) pNone (pSome (dV 1))))))))
def f_from_least : List D → Res D := fD 1 3 b_from_least
def b_sign_ratio : At → Out :=
 (sSeq (sIf (sD (tV (d2 fGt (d2 fIx (dV 0) (dC (.int (0)))) (dC (.int (0))))))
 (sRet (sD (dC (.int (1)))))
 sNil)
 (sSeq (sIf (sD (tV (d2 fLt (d2 fIx (dV 0) (dC (.int (0)))) (dC (.int (0))))))
 (sRet (sD (d1 fNeg (dC (.int (1))))))
 sNil)
 (sRet (sD (dC (.int (0)))))))
def f_sign_ratio : List D → Res D := fD 1 1 b_sign_ratio
def b_take_points : At → Out :=
 (sRet (sD (dTup (aCons (dCall f_take_ratios (aCons (d2 fIx (dV 0) (dC (.int (0)))) (aCons (d2 fIx (dV 1) (dC (.int (0)))) aNil))) (aCons (dCall f_take_ratios (aCons (d2 fIx (dV 0) (dC (.int (1)))) (aCons (d2 fIx (dV 1) (dC (.int (1)))) aNil))) aNil)))))
def f_take_points : List D → Res D := fD 2 2 b_take_points
def b_turn_sign : At → Out :=
 (sRet (sD (dCall f_sign_ratio (aCons (dCall f_cross_product (aCons (dCall f_take_points (aCons (dV 1) (aCons (dV 0) aNil))) (aCons (dCall f_take_points (aCons (dV 2) (aCons (dV 0) aNil))) aNil))) aNil))))
def f_turn_sign : List D → Res D := fD 3 3 b_turn_sign
def b_corners_turn : At → Out :=
 (sSeq (sSet 1 (sD (dN fLen (aCons (dV 0) aNil))))
 (sSeq (sFor (iRange1 (dV 1)) (.nm 2)
 (sIf (sD (tV (d2 fEq (dCall f_turn_sign (aCons (d2 fIx (dV 0) (d2 fSub (dV 2) (dC (.int (1))))) (aCons (d2 fIx (dV 0) (dV 2)) (aCons (d2 fIx (dV 0) (d2 fMod (d2 fAdd (dV 2) (dC (.int (1)))) (dV 1))) aNil)))) (dC (.int (0))))))
 (sRet (sD (dC (.bool false))))
 sNil))
 (sRet (sD (dC (.bool true))))))
def f_corners_turn : List D → Res D := fD 1 3 b_corners_turn
def b_row_sides : At → Out :=
 (sSeq (sSet 1 (sD (d2 fAdd (dSl (dV 0) (pSome (dC (.int (1)))) pNone) (dSl (dV 0) pNone (pSome (dC (.int (1))))))))
 (sRet (sD (dN fTuple (aCons (dFz (dLc (iZip (dV 0) (dV 1)) (.tup [2, 3]) yesT (dTup (aCons (dV 2) (aCons (dV 3) aNil))) [2, 3])) aNil)))))
def f_row_sides : List D → Res D := fD 1 4 b_row_sides
def b_lies_between : At → Out :=
 (sSeq (sIf (sD (tV (d2 fLe (dCall f_compare_ratios (aCons (dV 0) (aCons (dV 1) aNil))) (dC (.int (0))))))
 (sRet (sD (dAnd (d2 fLe (dCall f_compare_ratios (aCons (dV 0) (aCons (dV 2) aNil))) (dC (.int (0)))) (d2 fLe (dCall f_compare_ratios (aCons (dV 2) (aCons (dV 1) aNil))) (dC (.int (0)))))))
 sNil)
 (sRet (sD (dAnd (d2 fLe (dCall f_compare_ratios (aCons (dV 1) (aCons (dV 2) aNil))) (dC (.int (0)))) (d2 fLe (dCall f_compare_ratios (aCons (dV 2) (aCons (dV 0) aNil))) (dC (.int (0))))))))
def f_lies_between : List D → Res D := fD 3 3 b_lies_between
def b_on_segment : At → Out :=
 (sSeq (sIf (sD (tV (d2 fNe (dCall f_turn_sign (aCons (dV 0) (aCons (dV 1) (aCons (dV 2) aNil)))) (dC (.int (0))))))
 (sRet (sD (dC (.bool false))))
 sNil)
 (sRet (sD (dAnd (dCall f_lies_between (aCons (d2 fIx (dV 0) (dC (.int (0)))) (aCons (d2 fIx (dV 1) (dC (.int (0)))) (aCons (d2 fIx (dV 2) (dC (.int (0)))) aNil)))) (dCall f_lies_between (aCons (d2 fIx (dV 0) (dC (.int (1)))) (aCons (d2 fIx (dV 1) (dC (.int (1)))) (aCons (d2 fIx (dV 2) (dC (.int (1)))) aNil))))))))
def f_on_segment : List D → Res D := fD 3 3 b_on_segment
def b_sides_meet : At → Out :=
 (sSeq (sSetT (.tup [2, 3]) (sD (dV 0)))
 (sSeq (sSetT (.tup [4, 5]) (sD (dV 1)))
 (sSeq (sIf (sD (tOr (tV (dCall f_on_segment (aCons (dV 2) (aCons (dV 3) (aCons (dV 4) aNil))))) (tV (dCall f_on_segment (aCons (dV 2) (aCons (dV 3) (aCons (dV 5) aNil)))))))
 (sRet (sD (dC (.bool true))))
 sNil)
 (sSeq (sIf (sD (tOr (tV (dCall f_on_segment (aCons (dV 4) (aCons (dV 5) (aCons (dV 2) aNil))))) (tV (dCall f_on_segment (aCons (dV 4) (aCons (dV 5) (aCons (dV 3) aNil)))))))
 (sRet (sD (dC (.bool true))))
 sNil)
 (sSeq (sIf (sD (tV (d2 fGe (d2 fMul (dCall f_turn_sign (aCons (dV 2) (aCons (dV 3) (aCons (dV 4) aNil)))) (dCall f_turn_sign (aCons (dV 2) (aCons (dV 3) (aCons (dV 5) aNil))))) (dC (.int (0))))))
 (sRet (sD (dC (.bool false))))
 sNil)
 (sRet (sD (d2 fLt (d2 fMul (dCall f_turn_sign (aCons (dV 4) (aCons (dV 5) (aCons (dV 2) aNil)))) (dCall f_turn_sign (aCons (dV 4) (aCons (dV 5) (aCons (dV 3) aNil))))) (dC (.int (0)))))))))))
def f_sides_meet : List D → Res D := fD 2 6 b_sides_meet
def b_sides_part : At → Out :=
 (sSeq (sSet 1 (sD (dCall f_row_sides (aCons (dV 0) aNil))))
 (sSeq (sSet 2 (sD (d2 fSub (dN fLen (aCons (dV 1) aNil)) (dC (.int (1))))))
 (sSeq (sFor (iRange1 (dN fLen (aCons (dV 1) aNil))) (.nm 3)
 (sFor (iRange2 (d2 fAdd (dV 3) (dC (.int (2)))) (dN fLen (aCons (dV 1) aNil))) (.nm 4)
 (sSeq (sIf (sD (tAnd (tV (d2 fEq (dV 3) (dC (.int (0))))) (tV (d2 fEq (dV 4) (dV 2)))))
 (fun α => .ct α)
 sNil)
 (sIf (sD (tV (dCall f_sides_meet (aCons (d2 fIx (dV 1) (dV 3)) (aCons (d2 fIx (dV 1) (dV 4)) aNil)))))
 (sRet (sD (dC (.bool false))))
 sNil))))
 (sRet (sD (dC (.bool true)))))))
def f_sides_part : List D → Res D := fD 1 5 b_sides_part
def b_simple_row : At → Out :=
 (sSeq (sIf (sD (tNot (tV (dChain fLe fLe (dC k_FEWEST_CORNERS) (dN fLen (aCons (dV 0) aNil)) (dC k_MOST_CORNERS)))))
 (sRet (sD (dC (.bool false))))
 sNil)
 (sRet (sD (dAnd (dCall f_corners_turn (aCons (dV 0) aNil)) (dCall f_sides_part (aCons (dV 0) aNil))))))
def f_simple_row : List D → Res D := fD 1 1 b_simple_row
def b_is_piece : At → Out :=
 (sSeq (sIf (sD (tOr (tNot (tV (dCall f_all_points (aCons (dV 0) aNil)))) (tNot (tV (dCall f_simple_row (aCons (dV 0) aNil))))))
 (sRet (sD (dC (.bool false))))
 sNil)
 (sRet (sD (dAnd (d2 fGt (dCall f_sign_ratio (aCons (dCall f_double_area (aCons (dV 0) aNil)) aNil)) (dC (.int (0)))) (d2 fEq (dCall f_from_least (aCons (dV 0) aNil)) (dV 0))))))
def f_is_piece : List D → Res D := fD 1 1 b_is_piece
def b_piece_field : At → Out :=
 (sSeq (sIf (sD (tOr (tNot (tV (dCall f_is_piece (aCons (dV 1) aNil)))) (tV (d2 fGt (dN fLen (aCons (dV 1) aNil)) (dV 0)))))
 (sRet (sD (dC (.bool false))))
 sNil)
 (sSeq (sFor (iSeq (dV 1)) (.nm 2)
 (sIf (sD (tNot (tV (dCall f_is_spot (aCons (dV 2) aNil)))))
 (sRet (sD (dC (.bool false))))
 sNil))
 (sRet (sD (dC (.bool true))))))
def f_piece_field : List D → Res D := fD 2 3 b_piece_field
def b_shape_field : At → Out :=
 (sSeq (sIf (sD (tV (d2 fEq (d2 fIx (dV 0) (dC (.int (0)))) (dC (.str "P")))))
 (sRet (sD (dCall f_piece_field (aCons (d2 fIx (dV 0) (dC (.int (1)))) (aCons (dV 1) aNil)))))
 sNil)
 (sSeq (sIf (sD (tV (d2 fEq (d2 fIx (dV 0) (dC (.int (0)))) (dC (.str "E")))))
 (sRet (sD (dCall f_line_field (aCons (dV 1) aNil))))
 sNil)
 (sSeq (sIf (sD (tV (d2 fEq (d2 fIx (dV 0) (dC (.int (0)))) (dC (.str "G")))))
 (sRet (sD (dCall f_grain_field (aCons (dV 1) aNil))))
 sNil)
 (sRet (sD (dCall f_is_pull (aCons (dV 1) aNil)))))))
def f_shape_field : List D → Res D := fD 2 2 b_shape_field
def b_spans_field : At → Out :=
 (sSeq (sIf (sD (tOr (tNot (tV (dIsi "tuple" (dV 0)))) (tNot (tV (dChain fLe fLe (dC (.int (1))) (dN fLen (aCons (dV 0) aNil)) (dC k_MOST_SPANS))))))
 (sRet (sD (dC (.bool false))))
 sNil)
 (sSeq (sFor (iSeq (dV 0)) (.nm 1)
 (sSeq (sIf (sD (tOr (tNot (tV (dCall f_is_row (aCons (dC (.int (2))) (aCons (dV 1) aNil))))) (tNot (tV (dCall f_is_within (aCons (dC (.int (0))) (aCons (dC k_MOST_WORN) (aCons (d2 fIx (dV 1) (dC (.int (0)))) aNil))))))))
 (sRet (sD (dC (.bool false))))
 sNil)
 (sIf (sD (tNot (tV (dCall f_is_within (aCons (d2 fIx (dV 1) (dC (.int (0)))) (aCons (dC k_MOST_WORN) (aCons (d2 fIx (dV 1) (dC (.int (1)))) aNil)))))))
 (sRet (sD (dC (.bool false))))
 sNil)))
 (sRet (sD (dC (.bool true))))))
def f_spans_field : List D → Res D := fD 1 2 b_spans_field
def b_is_field : At → Out :=
 (sSeq (sSet 2 (sD (d2 fIx (dV 0) (dC (.int (0))))))
 (sSeq (sIf (sD (tV (d2 fEq (dV 2) (dC (.str "N")))))
 (sRet (sD (dCall f_is_name (aCons (dV 1) aNil))))
 sNil)
 (sSeq (sIf (sD (tV (d2 fEq (dV 2) (dC (.str "W")))))
 (sRet (sD (dCall f_is_within (aCons (d2 fIx (dV 0) (dC (.int (1)))) (aCons (d2 fIx (dV 0) (dC (.int (2)))) (aCons (dV 1) aNil))))))
 sNil)
 (sSeq (sIf (sD (tV (d2 fEq (dV 2) (dC (.str "Q")))))
 (sRet (sD (dCall f_ratio_within (aCons (d2 fIx (dV 0) (dC (.int (1)))) (aCons (d2 fIx (dV 0) (dC (.int (2)))) (aCons (dV 1) aNil))))))
 sNil)
 (sSeq (sIf (sD (tV (d2 fEq (dV 2) (dC (.str "A")))))
 (sRet (sD (dAnd (dCall f_ratio_within (aCons (dC (.int (0))) (aCons (dC k_MOST_RATIO) (aCons (dV 1) aNil)))) (d2 fNe (dV 1) (dC k_ZERO)))))
 sNil)
 (sSeq (sIf (sD (tV (d2 fEq (dV 2) (dC (.str "X")))))
 (sRet (sD (dAnd (dCall f_is_string (aCons (dV 1) aNil)) (d2 fIn (dV 1) (dSl (dV 0) (pSome (dC (.int (1)))) pNone)))))
 sNil)
 (sSeq (sIf (sD (tV (d2 fEq (dV 2) (dC (.str "L")))))
 (sRet (sD (dCall f_names_field (aCons (d2 fIx (dV 0) (dC (.int (1)))) (aCons (d2 fIx (dV 0) (dC (.int (2)))) (aCons (dV 1) aNil))))))
 sNil)
 (sSeq (sIf (sD (tV (d2 fEq (dV 2) (dC (.str "S")))))
 (sRet (sD (dAnd (dCall f_names_field (aCons (d2 fIx (dV 0) (dC (.int (1)))) (aCons (d2 fIx (dV 0) (dC (.int (2)))) (aCons (dV 1) aNil)))) (dCall f_ascending_names (aCons (dV 1) aNil)))))
 sNil)
 (sSeq (sIf (sD (tV (d2 fEq (dV 2) (dC (.str "R")))))
 (sRet (sD (dCall f_rule_field (aCons (dV 1) aNil))))
 sNil)
 (sSeq (sIf (sD (tV (d2 fEq (dV 2) (dC (.str "Z")))))
 (sRet (sD (dCall f_spans_field (aCons (dV 1) aNil))))
 sNil)
 (sRet (sD (dCall f_shape_field (aCons (dV 0) (aCons (dV 1) aNil)))))))))))))))
def f_is_field : List D → Res D := fD 2 3 b_is_field
def b_row_fits : At → Out :=
 (sSeq (sSet 1 (sD (d2 fIx (dV 0) (dC (.int (0))))))
 (sSeq (sIf (sD (tV (d2 fEq (dV 1) (dC (.str "bolt")))))
 (sRet (sD (d2 fLe (dCall f_compare_ratios (aCons (d2 fIx (dV 0) (dC (.int (5)))) (aCons (d2 fIx (dV 0) (dC (.int (3)))) aNil))) (dC (.int (0))))))
 sNil)
 (sSeq (sIf (sD (tV (d2 fEq (dV 1) (dC (.str "class")))))
 (sRet (sD (d2 fLe (dCall f_compare_ratios (aCons (d2 fIx (dV 0) (dC (.int (2)))) (aCons (d2 fIx (dV 0) (dC (.int (3)))) aNil))) (dC (.int (0))))))
 sNil)
 (sSeq (sIf (sD (tV (d2 fEq (dV 1) (dC (.str "cloth")))))
 (sRet (sD (dAnd (d2 fLe (d2 fIx (dV 0) (dC (.int (4)))) (d2 fIx (dV 0) (dC (.int (2))))) (d2 fLe (d2 fIx (dV 0) (dC (.int (4)))) (d2 fIx (dV 0) (dC (.int (3))))))))
 sNil)
 (sSeq (sIf (sD (tV (d2 fEq (dV 1) (dC (.str "measurer")))))
 (sRet (sD (d2 fLt (dCall f_compare_ratios (aCons (d2 fIx (dV 0) (dC (.int (2)))) (aCons (dC k_ONE) aNil))) (dC (.int (0))))))
 sNil)
 (sSeq (sIf (sD (tV (d2 fEq (dV 1) (dC (.str "sail")))))
 (sSeq (sSet 2 (sD (dN fLen (aCons (d2 fIx (dV 0) (dC (.int (2)))) aNil))))
 (sRet (sD (dAnd (d2 fLt (d2 fIx (dV 0) (dC (.int (3)))) (dV 2)) (dAnd (d2 fLt (d2 fIx (dV 0) (dC (.int (4)))) (dV 2)) (d2 fNe (d2 fIx (dV 0) (dC (.int (3)))) (d2 fIx (dV 0) (dC (.int (4))))))))))
 sNil)
 (sRet (sD (dC (.bool true))))))))))
def f_row_fits : List D → Res D := fD 1 3 b_row_fits
def b_is_book_row : At → Out :=
 (sSeq (sIf (sD (tOr (tNot (tV (dIsi "tuple" (dV 0)))) (tV (d2 fLt (dN fLen (aCons (dV 0) aNil)) (dC (.int (2)))))))
 (sRet (sD (dC (.bool false))))
 sNil)
 (sSeq (sIf (sD (tOr (tNot (tV (dCall f_is_string (aCons (d2 fIx (dV 0) (dC (.int (0)))) aNil)))) (tOr (tV (d2 fNotIn (d2 fIx (dV 0) (dC (.int (0)))) (dC k_KIND_NAMES))) (tNot (tV (dCall f_is_name (aCons (d2 fIx (dV 0) (dC (.int (1)))) aNil)))))))
 (sRet (sD (dC (.bool false))))
 sNil)
 (sSeq (sSet 1 (sD (d2 fDix (dC k_FIELDS) (d2 fIx (dV 0) (dC (.int (0)))))))
 (sSeq (sIf (sD (tV (d2 fNe (dN fLen (aCons (dV 0) aNil)) (d2 fAdd (dN fLen (aCons (dV 1) aNil)) (dC (.int (2)))))))
 (sRet (sD (dC (.bool false))))
 sNil)
 (sSeq (sFor (iZip (dV 1) (dSl (dV 0) (pSome (dC (.int (2)))) pNone)) (.tup [2, 3])
 (sIf (sD (tNot (tV (dCall f_is_field (aCons (dV 2) (aCons (dV 3) aNil))))))
 (sRet (sD (dC (.bool false))))
 sNil))
 (sRet (sD (dCall f_row_fits (aCons (dV 0) aNil)))))))))
def f_is_book_row : List D → Res D := fD 1 4 b_is_book_row
def b_is_edit : At → Out :=
 (sSeq (sIf (sD (tV (dCall f_is_row (aCons (dC (.int (2))) (aCons (dV 0) aNil)))))
 (sRet (sD (dAnd (d2 fEq (d2 fIx (dV 0) (dC (.int (0)))) (dC (.str "put"))) (dCall f_is_book_row (aCons (d2 fIx (dV 0) (dC (.int (1)))) aNil)))))
 sNil)
 (sSeq (sIf (sD (tOr (tNot (tV (dCall f_is_row (aCons (dC (.int (3))) (aCons (dV 0) aNil))))) (tV (d2 fNe (d2 fIx (dV 0) (dC (.int (0)))) (dC (.str "drop"))))))
 (sRet (sD (dC (.bool false))))
 sNil)
 (sRet (sD (dAnd (dCall f_is_string (aCons (d2 fIx (dV 0) (dC (.int (1)))) aNil)) (dAnd (d2 fIn (d2 fIx (dV 0) (dC (.int (1)))) (dC k_KIND_NAMES)) (dCall f_is_name (aCons (d2 fIx (dV 0) (dC (.int (2)))) aNil))))))))
def f_is_edit : List D → Res D := fD 1 1 b_is_edit
end Cr

/-! PR1: ratios: the greatest common divisor, sums, products, signs. -/
namespace DL
open PySem L2
def Sm (x : Int) : Prop := x.natAbs < 2 ^ 200
theorem Sm.of {x : Int} {m : Nat} (h : x.natAbs ≤ m) (hm : m < 2 ^ 200 := by decide) : Sm x := Nat.lt_of_le_of_lt h hm
theorem sm_log {x : Int} (h : Sm x) : x.natAbs.log2 < 200 := by
  by_cases e : x.natAbs = 0
  · rw [e]; decide
  · exact (Nat.log2_lt e).mpr h
theorem fMul_any {i j : Int} (hi : Sm i) (hj : Sm j) : fMul (.int i) (.int j) = some (.int (i * j)) := by
  have h1 := sm_log hi
  have h2 := sm_log hj
  refine if_pos ?_
  unfold mulOk
  rw [decide_eq_true (show i.natAbs.log2 + j.natAbs.log2 < 1000000 by omega)]
  simp
theorem fDiv_any {i j : Int} (h : 0 < j) (hj : Sm j) : fDiv (.int i) (.int j) = some (.int (i / j)) := by
  have h2 := sm_log hj
  rw [← Int.fdiv_eq_ediv_of_nonneg _ (by omega)]
  refine if_pos ?_
  unfold divOk
  rw [decide_eq_true h, decide_eq_true (show j.natAbs.log2 < 9000 by omega)]
  simp
@[simp] theorem sPar_ap (i j : Nat) (d : At → Res (List D)) (α : At) : sPar i j d α = ofR (d α) α fun xs => (match xs with
  | [x, y] => .nx ((α.set i (.dat x)).set j (.dat y))
  | _ => .no) := nr rfl
theorem while_step {t : At → Res Bool} {b : At → Out} {n : Nat} {α α2 : At} (h : t α = .ok true) (k : b α = .nx α2) : whileD t b (n + 1) α = whileD t b n α2 := by
  rw [whileD, h, ofR_ok, if_pos rfl, k]
theorem while_done {t : At → Res Bool} {b : At → Out} {n : Nat} {α : At} (h : t α = .ok false) : whileD t b (n + 1) α = .nx α := by
  rw [whileD, h, ofR_ok, if_neg (by decide)]
def rq (n d : Int) : D := .tuple [.int n, .int d]
@[simp] theorem rq_0 (n d : Int) : fIx (rq n d) (.int 0) = some (.int n) := by simp [rq]
@[simp] theorem rq_1 (n d : Int) : fIx (rq n d) (.int 1) = some (.int d) := by
  simp [rq]
  exact atI_lit _ 1 _ rfl
end DL
namespace Cr
open PySem L2 DL Cm
theorem gcd_mod (a b : Int) : Int.gcd b (a % b) = Int.gcd a b := by
  rw [Int.emod_def, Int.gcd_sub_mul_left_right, Int.gcd_comm]
theorem cd_loop : ∀ (n : Nat) (a b : Int), 0 ≤ a → 0 ≤ b → b.toNat < 2 ^ (n / 2) → ∃ g : Int, g = (Int.gcd a b : Nat) ∧ whileD (sD (tV (d2 fNe (dV 1) (dC (.int (0)))))) (sPar 0 1 (sD (aCons (dV 1) (aCons (d2 fMod (dN fInt (aCons (dV 0) aNil)) (dV 1)) aNil)))) (n + 1) [.dat (.int a), .dat (.int b)] = .nx [.dat (.int g), .dat (.int 0)] := by
  have z : ∀ (n : Nat) (a : Int), 0 ≤ a → whileD (sD (tV (d2 fNe (dV 1) (dC (.int (0)))))) (sPar 0 1 (sD (aCons (dV 1) (aCons (d2 fMod (dN fInt (aCons (dV 0) aNil)) (dV 1)) aNil)))) (n + 1) [.dat (.int a), .dat (.int 0)] = .nx [.dat (.int a), .dat (.int 0)] := fun n a ha => while_done (by simp)
  have st : ∀ (n : Nat) (a b : Int), 0 < b → whileD (sD (tV (d2 fNe (dV 1) (dC (.int (0)))))) (sPar 0 1 (sD (aCons (dV 1) (aCons (d2 fMod (dN fInt (aCons (dV 0) aNil)) (dV 1)) aNil)))) (n + 1) [.dat (.int a), .dat (.int b)] =
      whileD (sD (tV (d2 fNe (dV 1) (dC (.int (0)))))) (sPar 0 1 (sD (aCons (dV 1) (aCons (d2 fMod (dN fInt (aCons (dV 0) aNil)) (dV 1)) aNil)))) n [.dat (.int b), .dat (.int (a % b))] := fun n a b hb => by
    have nz : (b == 0) = false := by simp; omega
    refine while_step (by simp [nz]) ?_
    simp [fMod_pos hb]
  intro n
  induction n using Nat.strongRecOn with
  | _ n ih =>
    intro a b ha hb hn
    by_cases e : b = 0
    · subst e
      exact ⟨a, by rw [Int.gcd_zero_right]; omega, z n a ha⟩
    · match n, ih, hn with
      | 0, _, hn => simp at hn; omega
      | 1, _, hn => simp at hn; omega
      | n + 2, ih, hn =>
        have hb' : 0 < b := by omega
        rw [st (n + 2) a b hb']
        have g1 : Int.gcd b (a % b) = Int.gcd a b := gcd_mod _ _
        have r0 := Int.emod_nonneg a (show b ≠ 0 by omega)
        have r1 := Int.emod_lt_of_pos a hb'
        by_cases e2 : a % b = 0
        · rw [e2] at g1 ⊢
          exact ⟨b, by rw [← g1, Int.gcd_zero_right]; omega, z (n + 1) b hb⟩
        · have hc : 0 < a % b := by omega
          rw [st (n + 1) b (a % b) hc]
          have q0 := Int.emod_nonneg b (show a % b ≠ 0 by omega)
          have q1 := Int.emod_lt_of_pos b hc
          have g2 : Int.gcd (a % b) (b % (a % b)) = Int.gcd b (a % b) := gcd_mod _ _
          obtain ⟨g, eg, w⟩ := ih n (by omega) (a % b) (b % (a % b)) r0 q0 (by
            have d := Int.emod_add_mul_ediv b (a % b)
            have d1 : 1 ≤ b / (a % b) := (Int.le_ediv_iff_mul_le hc).mpr (by omega)
            have d2 : (a % b) * 1 ≤ (a % b) * (b / (a % b)) := Int.mul_le_mul_of_nonneg_left d1 (by omega)
            rw [show (n + 2) / 2 = n / 2 + 1 by omega, Nat.pow_succ] at hn
            omega)
          exact ⟨g, by rw [eg, g2, g1], w⟩
theorem cd_ok (a b : Int) (h : Sm b) : ∃ g : Int, g = (Int.gcd a b : Nat) ∧ f_common_divisor [.int a, .int b] = .ok (.int g) := by
  obtain ⟨g, eg, w⟩ := cd_loop 99999 (if a < 0 then -a else a) (if b < 0 then -b else b) (by split <;> omega) (by split <;> omega) (by
    have e : (if b < 0 then -b else b).toNat = b.natAbs := by split <;> omega
    rw [e]
    exact Nat.lt_of_lt_of_le h (Nat.pow_le_pow_right (by decide) (by decide)))
  refine ⟨g, ?_, ?_⟩
  · rw [eg]
    congr 1
    unfold Int.gcd
    congr 1 <;> split <;> omega
  · rw [f_common_divisor, fD_ap (by rfl)]
    simp [b_common_divisor, sSeq_ap, w]
theorem make_ok (n d : Int) (h : 0 < d) (hd : Sm d) : ∃ g : Int, g = (Int.gcd n d : Nat) ∧ 0 < g ∧ f_make_ratio [.int n, .int d] = .ok (rq (n / g) (d / g)) := by
  obtain ⟨g, eg, w⟩ := cd_ok n d hd
  have g0 : 0 < g := by
    have := Int.gcd_pos_of_ne_zero_right n (show d ≠ 0 by omega)
    omega
  have gd : g ≤ d := by
    have := Nat.le_of_dvd (by omega) (Int.gcd_dvd_natAbs_right n d)
    omega
  refine ⟨g, eg, g0, ?_⟩
  have nz : (d == 0) = false := by simp; omega
  have nn : ¬ d < 0 := by omega
  have sg : Sm g := by unfold Sm at *; omega
  rw [f_make_ratio, fD_ap (by rfl)]
  simp [b_make_ratio, sSeq_ap, sIf_ap, nz, nn, w, fDiv_any g0 sg, rq]
end Cr

/-! PR2: points on the lines of a rectangle, turns. -/
namespace Cr
open PySem L2 DL Cm
def sg (n : Int) : Int := if 0 < n then 1 else if n < 0 then -1 else 0
theorem sign_ok (n d : Int) : f_sign_ratio [rq n d] = .ok (.int (sg n)) := by
  rw [f_sign_ratio, fD_ap (by rfl)]
  unfold sg
  by_cases h : 0 < n
  · simp [b_sign_ratio, sSeq_ap, sIf_ap, fGt, h]
  · by_cases k : n < 0 <;> simp [b_sign_ratio, sSeq_ap, sIf_ap, fGt, h, k]
theorem sm_mul {i j : Int} {m n : Nat} (hi : i.natAbs ≤ m) (hj : j.natAbs ≤ n) (h : m * n < 2 ^ 200 := by decide) : Sm (i * j) :=
  Sm.of (m := m * n) (by rw [Int.natAbs_mul]; exact Nat.mul_le_mul hi hj) h
theorem compare_ok {n d m e : Int} (h1 : Sm n) (h2 : Sm d) (h3 : Sm m) (h4 : Sm e) : f_compare_ratios [rq n d, rq m e] = .ok (.int (sg (n * e - m * d))) := by
  rw [f_compare_ratios, fD_ap (by rfl)]
  unfold sg
  by_cases h : 0 < n * e - m * d
  · have a : ¬ n * e < m * d := by omega
    have b : m * d < n * e := by omega
    simp [b_compare_ratios, sSeq_ap, sIf_ap, fGt, fMul_any h1 h4, fMul_any h3 h2, h, a, b]
  · by_cases k : n * e - m * d < 0
    · have a : n * e < m * d := by omega
      simp [b_compare_ratios, sSeq_ap, sIf_ap, fGt, fMul_any h1 h4, fMul_any h3 h2, h, a, k, Int.le_of_lt a]
    · have a : ¬ n * e < m * d := by omega
      have b : ¬ m * d < n * e := by omega
      simp [b_compare_ratios, sSeq_ap, sIf_ap, fGt, fMul_any h1 h4, fMul_any h3 h2, h, a, b, k]
theorem make_mul (t c : Int) (h : 0 < c) (hc : Sm c) : f_make_ratio [.int (t * c), .int c] = .ok (rq t 1) := by
  obtain ⟨g, eg, g0, w⟩ := make_ok (t * c) c h hc
  have : g = c := by
    rw [eg, Int.gcd_mul_left_left]
    omega
  rw [w, this, Int.mul_ediv_cancel _ (by omega), Int.ediv_self (by omega)]
theorem take_same {n m d t : Int} (h0 : 0 < d) (hd : d.natAbs ≤ 1000) (hn : n.natAbs ≤ 1000000) (hm : m.natAbs ≤ 1000000) (e : n - m = t * d) : f_take_ratios [rq n d, rq m d] = .ok (rq t 1) := by
  have e2 : n * d - m * d = t * (d * d) := by rw [← Int.sub_mul, e, Int.mul_assoc]
  rw [f_take_ratios, fD_ap (by rfl)]
  simp [b_take_ratios, fMul_any (Sm.of hn) (Sm.of hd), fMul_any (Sm.of hm) (Sm.of hd), fMul_any (Sm.of hd) (Sm.of hd), e2, make_mul t (d * d) (Int.mul_pos h0 h0) (sm_mul hd hd)]
theorem times_int {s t : Int} (hs : s.natAbs ≤ 1000000) (ht : t.natAbs ≤ 1000000) : f_times_ratios [rq s 1, rq t 1] = .ok (rq (s * t) 1) := by
  have m := make_mul (s * t) 1 (by decide) (Sm.of (m := 1) (by decide))
  rw [Int.mul_one] at m
  rw [f_times_ratios, fD_ap (by rfl)]
  simp [b_times_ratios, fMul_any (Sm.of hs) (Sm.of ht), fMul_any (i := 1) (j := 1) (Sm.of (m := 1) (by decide)) (Sm.of (m := 1) (by decide)), m]
theorem take_int {s t : Int} (hs : s.natAbs ≤ 1000000) (ht : t.natAbs ≤ 1000000) : f_take_ratios [rq s 1, rq t 1] = .ok (rq (s - t) 1) :=
  take_same (by decide) (by decide) hs ht (by omega)
def pp (x y : D) : D := .tuple [x, y]
@[simp] theorem pp_0 (x y : D) : fIx (pp x y) (.int 0) = some x := by simp [pp]
@[simp] theorem pp_1 (x y : D) : fIx (pp x y) (.int 1) = some y := by
  simp [pp]
  exact atI_lit _ 1 _ rfl
theorem turn_ok {n1 n2 n3 m1 m2 m3 d e u v p q : Int} (d0 : 0 < d) (d1 : d.natAbs ≤ 1000) (e0 : 0 < e) (e1 : e.natAbs ≤ 1000) (a1 : n1.natAbs ≤ 1000000) (a2 : n2.natAbs ≤ 1000000) (a3 : n3.natAbs ≤ 1000000) (b1 : m1.natAbs ≤ 1000000) (b2 : m2.natAbs ≤ 1000000) (b3 : m3.natAbs ≤ 1000000)
    (hu : n2 - n1 = u * d) (hv : n3 - n1 = v * d) (hp : m2 - m1 = p * e) (hq : m3 - m1 = q * e) (su : u.natAbs ≤ 100) (sv : v.natAbs ≤ 100) (sp : p.natAbs ≤ 100) (sq : q.natAbs ≤ 100) :
    f_turn_sign [pp (rq n1 d) (rq m1 e), pp (rq n2 d) (rq m2 e), pp (rq n3 d) (rq m3 e)] = .ok (.int (sg (u * q - p * v))) := by
  have t1 : f_take_points [pp (rq n2 d) (rq m2 e), pp (rq n1 d) (rq m1 e)] = .ok (pp (rq u 1) (rq p 1)) := by
    rw [f_take_points, fD_ap (by rfl)]
    simp [b_take_points, take_same d0 d1 a2 a1 hu, take_same e0 e1 b2 b1 hp]
    rfl
  have t2 : f_take_points [pp (rq n3 d) (rq m3 e), pp (rq n1 d) (rq m1 e)] = .ok (pp (rq v 1) (rq q 1)) := by
    rw [f_take_points, fD_ap (by rfl)]
    simp [b_take_points, take_same d0 d1 a3 a1 hv, take_same e0 e1 b3 b1 hq]
    rfl
  have x1 : (u * q).natAbs ≤ 1000000 := by rw [Int.natAbs_mul]; exact Nat.le_trans (Nat.mul_le_mul su sq) (by decide)
  have x2 : (p * v).natAbs ≤ 1000000 := by rw [Int.natAbs_mul]; exact Nat.le_trans (Nat.mul_le_mul sp sv) (by decide)
  have t3 : f_cross_product [pp (rq u 1) (rq p 1), pp (rq v 1) (rq q 1)] = .ok (rq (u * q - p * v) 1) := by
    rw [f_cross_product, fD_ap (by rfl)]
    simp [b_cross_product, times_int (s := u) (t := q) (by omega) (by omega), times_int (s := p) (t := v) (by omega) (by omega), take_int x1 x2]
  rw [f_turn_sign, fD_ap (by rfl)]
  simp [b_turn_sign, t1, t2, t3, sign_ok]
end Cr

/-! PR3: rows of three and four corners. -/
namespace Cr
open PySem L2 DL Cm
theorem iRange2_ap {a b : Bt → Res D} {β : Bt} {m n : Int} (h : a β = .ok (.int m)) (k : b β = .ok (.int n)) (h1 : -4611686018427387904 ≤ m) (h2 : m < 4611686018427387904) (h3 : -4611686018427387904 ≤ n) (h4 : n < 4611686018427387904) : iRange2 a b β = .ok (rangeL m (n - m).toNat) := by
  unfold iRange2
  rw [h, k]
  exact if_pos ⟨inR_small h1 h2, inR_small h3 h4⟩
theorem forD_cons (tg : Tgt) (b : At → Out) (d : D) (ds : List D) (α : At) : forD tg b (d :: ds) α = match setTA tg d α with
  | none => .no
  | some α1 => (match b α1 with
    | .nx α2 => forD tg b ds α2
    | .ct α2 => forD tg b ds α2
    | .bk α2 => .nx α2
    | o => o) := by rw [forD] <;> rfl
section
variable {p0 p1 p2 p3 : D}
theorem corners4 {t0 t1 t2 t3 : Int} (h0 : f_turn_sign [p3, p0, p1] = .ok (.int t0)) (h1 : f_turn_sign [p0, p1, p2] = .ok (.int t1)) (h2 : f_turn_sign [p1, p2, p3] = .ok (.int t2)) (h3 : f_turn_sign [p2, p3, p0] = .ok (.int t3))
    (z0 : t0 ≠ 0) (z1 : t1 ≠ 0) (z2 : t2 ≠ 0) (z3 : t3 ≠ 0) : f_corners_turn [.tuple [p0, p1, p2, p3]] = .ok (.bool true) := by
  rw [f_corners_turn, fD_ap (by rfl)]
  have r : iRange1 (dV 1) [some (.tuple [p0, p1, p2, p3]), some (.int 4), none] = .ok [.int 0, .int 1, .int 2, .int 3] := by
    rw [iRange1_ap (n := 4) rfl (by decide) (by decide)]
    rfl
  have am : atI [p0, p1, p2, p3] (-1) = some p3 := rfl
  simp [b_corners_turn, sSeq_ap, sFor_ap, r, forD_cons, sIf_ap, am, at1, at2, at3, fMod_pos, h0, h1, h2, h3, z0, z1, z2, z3]
theorem corners3 {t0 t1 t2 : Int} (h0 : f_turn_sign [p2, p0, p1] = .ok (.int t0)) (h1 : f_turn_sign [p0, p1, p2] = .ok (.int t1)) (h2 : f_turn_sign [p1, p2, p0] = .ok (.int t2))
    (z0 : t0 ≠ 0) (z1 : t1 ≠ 0) (z2 : t2 ≠ 0) : f_corners_turn [.tuple [p0, p1, p2]] = .ok (.bool true) := by
  rw [f_corners_turn, fD_ap (by rfl)]
  have r : iRange1 (dV 1) [some (.tuple [p0, p1, p2]), some (.int 3), none] = .ok [.int 0, .int 1, .int 2] := by
    rw [iRange1_ap (n := 3) rfl (by decide) (by decide)]
    rfl
  have am : atI [p0, p1, p2] (-1) = some p2 := rfl
  simp [b_corners_turn, sSeq_ap, sFor_ap, r, forD_cons, sIf_ap, am, at1, at2, fMod_pos, h0, h1, h2, z0, z1, z2]
theorem off_ok {t : Int} (h : f_turn_sign [p0, p1, p2] = .ok (.int t)) (z : t ≠ 0) : f_on_segment [p0, p1, p2] = .ok (.bool false) := by
  rw [f_on_segment, fD_ap (by rfl)]
  simp [b_on_segment, sSeq_ap, sIf_ap, h, z]
/-- two sides that stand apart: each end of the one on one side of the other -/
theorem apart_ok {t1 t2 t3 t4 : Int} (h1 : f_turn_sign [p0, p1, p2] = .ok (.int t1)) (h2 : f_turn_sign [p0, p1, p3] = .ok (.int t2)) (h3 : f_turn_sign [p2, p3, p0] = .ok (.int t3)) (h4 : f_turn_sign [p2, p3, p1] = .ok (.int t4))
    (z1 : t1 ≠ 0) (z2 : t2 ≠ 0) (z3 : t3 ≠ 0) (z4 : t4 ≠ 0) (s1 : Sm t1) (s2 : Sm t2) (pos : 0 ≤ t1 * t2) : f_sides_meet [.tuple [p0, p1], .tuple [p2, p3]] = .ok (.bool false) := by
  rw [f_sides_meet, fD_ap (by rfl)]
  have st : ∀ (is : List Nat) (ds : List D) (α : At), setTA (.tup is) (.tuple ds) α = setAllA is ds α := fun _ _ _ => rfl
  simp [b_sides_meet, sSeq_ap, sIf_ap, sSetT, st, setAllA, off_ok h1 z1, off_ok h2 z2, off_ok h3 z3, off_ok h4 z4, h1, h2, fMul_any s1 s2, fGe, pos]
end
end Cr

/-! PR4: sides that part, simple rows; areas. -/
namespace Cr
open PySem L2 DL Cm
section
variable {p0 p1 p2 p3 : D}
theorem sides4_ok : f_row_sides [.tuple [p0, p1, p2, p3]] = .ok (.tuple [.tuple [p0, p1], .tuple [p1, p2], .tuple [p2, p3], .tuple [p3, p0]]) := by
  rw [f_row_sides, fD_ap (by rfl)]
  have c1 : cutD [p0, p1, p2, p3] (some 1) none = [p1, p2, p3] := rfl
  have c2 : cutD [p0, p1, p2, p3] none (some 1) = [p0] := rfl
  have ea : fAdd (.tuple [p1, p2, p3]) (.tuple [p0]) = some (.tuple [p1, p2, p3, p0]) := fAdd_t _ _ (by rw [PySem.sizeLine_eq]; simp)
  have z : iZip (dV 0) (dV 1) [some (.tuple [p0, p1, p2, p3]), some (.tuple [p1, p2, p3, p0]), none, none] = .ok [.tuple [p0, p1], .tuple [p1, p2], .tuple [p2, p3], .tuple [p3, p0]] := rfl
  have e : lcD (cmD (.tup [2, 3]) yesT (dTup (aCons (dV 2) (aCons (dV 3) aNil))) [some (.tuple [p0, p1, p2, p3]), some (.tuple [p1, p2, p3, p0]), none, none]) [.tuple [p0, p1], .tuple [p1, p2], .tuple [p2, p3], .tuple [p3, p0]] = .ok [.tuple [p0, p1], .tuple [p1, p2], .tuple [p2, p3], .tuple [p3, p0]] := by
    have one : ∀ x y : D, cmD (.tup [2, 3]) yesT (dTup (aCons (dV 2) (aCons (dV 3) aNil))) [some (.tuple [p0, p1, p2, p3]), some (.tuple [p1, p2, p3, p0]), none, none] (.tuple [x, y]) = .ok (some (.tuple [x, y])) := fun x y => by
      simp [cmD, setT, setAll]
    simp [lcD, one]
  simp [b_row_sides, sSeq_ap, c1, c2, ea, z, e]
theorem sides3_ok : f_row_sides [.tuple [p0, p1, p2]] = .ok (.tuple [.tuple [p0, p1], .tuple [p1, p2], .tuple [p2, p0]]) := by
  rw [f_row_sides, fD_ap (by rfl)]
  have c1 : cutD [p0, p1, p2] (some 1) none = [p1, p2] := rfl
  have c2 : cutD [p0, p1, p2] none (some 1) = [p0] := rfl
  have ea : fAdd (.tuple [p1, p2]) (.tuple [p0]) = some (.tuple [p1, p2, p0]) := fAdd_t _ _ (by rw [PySem.sizeLine_eq]; simp)
  have z : iZip (dV 0) (dV 1) [some (.tuple [p0, p1, p2]), some (.tuple [p1, p2, p0]), none, none] = .ok [.tuple [p0, p1], .tuple [p1, p2], .tuple [p2, p0]] := rfl
  have e : lcD (cmD (.tup [2, 3]) yesT (dTup (aCons (dV 2) (aCons (dV 3) aNil))) [some (.tuple [p0, p1, p2]), some (.tuple [p1, p2, p0]), none, none]) [.tuple [p0, p1], .tuple [p1, p2], .tuple [p2, p0]] = .ok [.tuple [p0, p1], .tuple [p1, p2], .tuple [p2, p0]] := by
    have one : ∀ x y : D, cmD (.tup [2, 3]) yesT (dTup (aCons (dV 2) (aCons (dV 3) aNil))) [some (.tuple [p0, p1, p2]), some (.tuple [p1, p2, p0]), none, none] (.tuple [x, y]) = .ok (some (.tuple [x, y])) := fun x y => by
      simp [cmD, setT, setAll]
    simp [lcD, one]
  simp [b_row_sides, sSeq_ap, c1, c2, ea, z, e]
theorem ofR_ok' {β : Type} (x : β) (α : At) (k : β → Out) : ofR (.ok x) α k = k x := rfl
theorem part3 : f_sides_part [.tuple [p0, p1, p2]] = .ok (.bool true) := by
  rw [f_sides_part, fD_ap (by rfl)]
  have r : iRange1 (dN fLen (aCons (dV 1) aNil)) [some (.tuple [p0, p1, p2]), some (.tuple [.tuple [p0, p1], .tuple [p1, p2], .tuple [p2, p0]]), some (.int 2), none, none] = .ok [.int 0, .int 1, .int 2] := by
    rw [iRange1_ap (n := 3) rfl (by decide) (by decide)]
    rfl
  have r2 : ∀ (j : Int) (u : Option D), -10 < j → j < 10 → iRange2 (d2 fAdd (dV 3) (dC (.int (2)))) (dN fLen (aCons (dV 1) aNil)) [some (.tuple [p0, p1, p2]), some (.tuple [.tuple [p0, p1], .tuple [p1, p2], .tuple [p2, p0]]), some (.int 2), some (.int j), u] = .ok (rangeL (j + 2) (3 - (j + 2)).toNat) := fun j u h1 h2 =>
    iRange2_ap (m := j + 2) (n := 3) rfl rfl (by omega) (by omega) (by decide) (by decide)
  have l0 : rangeL (0 + 2) (3 - (0 + 2 : Int)).toNat = [.int 2] := rfl
  have l1 : rangeL (1 + 2) (3 - (1 + 2 : Int)).toNat = [] := rfl
  have l2 : rangeL (2 + 2) (3 - (2 + 2 : Int)).toNat = [] := rfl
  have q0 := fun u => r2 0 u (by decide) (by decide)
  have q1 := fun u => r2 1 u (by decide) (by decide)
  have q2 := fun u => r2 2 u (by decide) (by decide)
  rw [l0] at q0
  rw [l1] at q1
  rw [l2] at q2
  simp [b_sides_part, sSeq_ap, sFor_ap, sides3_ok, r, forD_cons, sIf_ap, q0, q1, q2]
theorem part4 (h02 : f_sides_meet [.tuple [p0, p1], .tuple [p2, p3]] = .ok (.bool false)) (h13 : f_sides_meet [.tuple [p1, p2], .tuple [p3, p0]] = .ok (.bool false)) : f_sides_part [.tuple [p0, p1, p2, p3]] = .ok (.bool true) := by
  rw [f_sides_part, fD_ap (by rfl)]
  have r : iRange1 (dN fLen (aCons (dV 1) aNil)) [some (.tuple [p0, p1, p2, p3]), some (.tuple [.tuple [p0, p1], .tuple [p1, p2], .tuple [p2, p3], .tuple [p3, p0]]), some (.int 3), none, none] = .ok [.int 0, .int 1, .int 2, .int 3] := by
    rw [iRange1_ap (n := 4) rfl (by decide) (by decide)]
    rfl
  have r2 : ∀ (j : Int) (u : Option D), -10 < j → j < 10 → iRange2 (d2 fAdd (dV 3) (dC (.int (2)))) (dN fLen (aCons (dV 1) aNil)) [some (.tuple [p0, p1, p2, p3]), some (.tuple [.tuple [p0, p1], .tuple [p1, p2], .tuple [p2, p3], .tuple [p3, p0]]), some (.int 3), some (.int j), u] = .ok (rangeL (j + 2) (4 - (j + 2)).toNat) := fun j u h1 h2 =>
    iRange2_ap (m := j + 2) (n := 4) rfl rfl (by omega) (by omega) (by decide) (by decide)
  have l0 : rangeL (0 + 2) (4 - (0 + 2 : Int)).toNat = [.int 2, .int 3] := rfl
  have l1 : rangeL (1 + 2) (4 - (1 + 2 : Int)).toNat = [.int 3] := rfl
  have l2 : rangeL (2 + 2) (4 - (2 + 2 : Int)).toNat = [] := rfl
  have l3 : rangeL (3 + 2) (4 - (3 + 2 : Int)).toNat = [] := rfl
  have q0 := fun u => r2 0 u (by decide) (by decide)
  have q1 := fun u => r2 1 u (by decide) (by decide)
  have q2 := fun u => r2 2 u (by decide) (by decide)
  have q3 := fun u => r2 3 u (by decide) (by decide)
  rw [l0] at q0
  rw [l1] at q1
  rw [l2] at q2
  rw [l3] at q3
  simp [b_sides_part, sSeq_ap, sFor_ap, sides4_ok, r, forD_cons, sIf_ap, q0, q1, q2, q3, at1, at2, at3, h02, h13]
theorem simple_ok (n : Nat) (ps : List D) (hl : ps.length = n) (h3 : 3 ≤ n) (h8 : n ≤ 8) (h : f_corners_turn [.tuple ps] = .ok (.bool true)) (k : f_sides_part [.tuple ps] = .ok (.bool true)) : f_simple_row [.tuple ps] = .ok (.bool true) := by
  rw [f_simple_row, fD_ap (by rfl)]
  obtain ⟨z, hz⟩ : ∃ z : Int, z = (n : Int) := ⟨_, rfl⟩
  have a : (3 : Int) ≤ z := by omega
  have b : z ≤ (8 : Int) := by omega
  simp [b_simple_row, sSeq_ap, sIf_ap, dChain, k_FEWEST_CORNERS, k_MOST_CORNERS, fLe, hl, ← hz, a, b, h, k]
end
/-! ### areas: values with a common denominator -/
def Va (m : Int) (B : Nat) (q : D) (v : Int) : Prop := ∃ n d, q = rq n d ∧ 0 < d ∧ n * m = v * d ∧ n.natAbs ≤ B ∧ d.natAbs ≤ B
theorem va_sign {m v : Int} {B : Nat} {q : D} (hm : 0 < m) (h : Va m B q v) : f_sign_ratio [q] = .ok (.int (sg v)) := by
  obtain ⟨n, d, rfl, d0, e, _, _⟩ := h
  rw [sign_ok]
  have : sg n = sg v := by
    unfold sg
    rcases Int.lt_trichotomy 0 n with h | h | h
    · have p : 0 < v * d := e ▸ Int.mul_pos h hm
      have : 0 < v := by
        refine Int.not_le.mp fun z => ?_
        have := Int.mul_le_mul_of_nonneg_right z (Int.le_of_lt d0)
        omega
      simp [h, this]
    · subst h
      have : v = 0 := by
        rw [Int.zero_mul] at e
        rcases Int.mul_eq_zero.mp e.symm with z | z
        · exact z
        · omega
      simp [this]
    · have p : v * d < 0 := e ▸ Int.mul_neg_of_neg_of_pos h hm
      have : v < 0 := by
        refine Int.not_le.mp fun z => ?_
        have := Int.mul_nonneg z (Int.le_of_lt d0)
        omega
      have a : ¬ 0 < n := by omega
      have b : ¬ 0 < v := by omega
      simp [h, this, a, b]
  rw [this]
theorem va_make {m v n d : Int} {B : Nat} (hB : B < 2 ^ 200) (h0 : 0 < d) (e : n * m = v * d) (hn : n.natAbs ≤ B) (hd : d.natAbs ≤ B) : ∃ q, f_make_ratio [.int n, .int d] = .ok q ∧ Va m B q v := by
  obtain ⟨g, eg, g0, w⟩ := make_ok n d h0 (Sm.of hd hB)
  refine ⟨_, w, _, _, rfl, ?_, ?_, ?_, ?_⟩
  · have gd : g ≤ d := by
      have := Nat.le_of_dvd (by omega) (Int.gcd_dvd_natAbs_right n d)
      omega
    exact Int.lt_of_lt_of_le (by decide) ((Int.le_ediv_iff_mul_le g0).mpr (show (1 : Int) * g ≤ d by omega))
  · have a1 : n / g * g = n := Int.ediv_mul_cancel (eg ▸ Int.gcd_dvd_left ..)
    have a2 : d / g * g = d := Int.ediv_mul_cancel (eg ▸ Int.gcd_dvd_right ..)
    refine Int.eq_of_mul_eq_mul_right (show g ≠ 0 by omega) ?_
    calc n / g * m * g = n / g * g * m := by rw [Int.mul_assoc, Int.mul_comm m, ← Int.mul_assoc]
      _ = v * (d / g * g) := by rw [a1, a2, e]
      _ = v * (d / g) * g := by rw [Int.mul_assoc]
  · exact Nat.le_trans (Int.natAbs_ediv_le_natAbs ..) hn
  · exact Nat.le_trans (Int.natAbs_ediv_le_natAbs ..) hd
theorem va_times {n1 d1 n2 d2 m : Int} {B : Nat} (hm : d1 * d2 = m) (h1 : 0 < d1) (h2 : 0 < d2) (b1 : n1.natAbs ≤ B) (b2 : n2.natAbs ≤ B) (c1 : d1.natAbs ≤ B) (c2 : d2.natAbs ≤ B) (zB : 0 < B) (hB : B * B < 2 ^ 200) : ∃ q, f_times_ratios [rq n1 d1, rq n2 d2] = .ok q ∧ Va m (B * B) q (n1 * n2) := by
  have mul : ∀ {x y : Int}, x.natAbs ≤ B → y.natAbs ≤ B → (x * y).natAbs ≤ B * B := fun hx hy => by rw [Int.natAbs_mul]; exact Nat.mul_le_mul hx hy
  have sm : ∀ {x : Int}, x.natAbs ≤ B → Sm x := fun hx => Sm.of (m := B) hx (Nat.lt_of_le_of_lt (Nat.le_mul_of_pos_left _ zB) hB)
  obtain ⟨q, w, v⟩ := va_make (m := m) (v := n1 * n2) (n := n1 * n2) (d := d1 * d2) hB (Int.mul_pos h1 h2) (by rw [hm]) (mul b1 b2) (mul c1 c2)
  refine ⟨q, ?_, v⟩
  rw [f_times_ratios, fD_ap (by rfl)]
  simp [b_times_ratios, fMul_any (sm b1) (sm b2), fMul_any (sm c1) (sm c2), w]
theorem va_two {m v1 v2 : Int} {B C : Nat} {q1 q2 : D} (h1 : Va m B q1 v1) (h2 : Va m C q2 v2) (hB : 2 * (B * C) < 2 ^ 200) (zB : 0 < B) (zC : 0 < C) : (∃ q, f_take_ratios [q1, q2] = .ok q ∧ Va m (2 * (B * C)) q (v1 - v2)) ∧ ∃ q, f_add_ratios [q1, q2] = .ok q ∧ Va m (2 * (B * C)) q (v1 + v2) := by
  obtain ⟨n1, d1, rfl, p1, e1, b1, c1⟩ := h1
  obtain ⟨n2, d2, rfl, p2, e2, b2, c2⟩ := h2
  have mul : ∀ {x y : Int}, x.natAbs ≤ B → y.natAbs ≤ C → (x * y).natAbs ≤ B * C := fun hx hy => by rw [Int.natAbs_mul]; exact Nat.mul_le_mul hx hy
  have l1 : B ≤ B * C := Nat.le_mul_of_pos_right _ zC
  have l2 : C ≤ B * C := Nat.le_mul_of_pos_left _ zB
  have s1 : ∀ {x : Int}, x.natAbs ≤ B → Sm x := fun hx => Sm.of (m := B) hx (by omega)
  have s2 : ∀ {x : Int}, x.natAbs ≤ C → Sm x := fun hx => Sm.of (m := C) hx (by omega)
  have m1 := mul b1 c2
  have m2 := mul c1 b2
  have m3 := mul c1 c2
  rw [Int.mul_comm d1 n2] at m2
  constructor
  · obtain ⟨q, w, v⟩ := va_make (m := m) (v := v1 - v2) (n := n1 * d2 - n2 * d1) (d := d1 * d2) hB (Int.mul_pos p1 p2) (by grind) (by omega) (by omega)
    refine ⟨q, ?_, v⟩
    rw [f_take_ratios, fD_ap (by rfl)]
    simp [b_take_ratios, fMul_any (s1 b1) (s2 c2), fMul_any (s2 b2) (s1 c1), fMul_any (s1 c1) (s2 c2), w]
  · obtain ⟨q, w, v⟩ := va_make (m := m) (v := v1 + v2) (n := n1 * d2 + n2 * d1) (d := d1 * d2) hB (Int.mul_pos p1 p2) (by grind) (by omega) (by omega)
    refine ⟨q, ?_, v⟩
    rw [f_add_ratios, fD_ap (by rfl)]
    simp [b_add_ratios, fMul_any (s1 b1) (s2 c2), fMul_any (s2 b2) (s1 c1), fMul_any (s1 c1) (s2 c2), w]
/-- the cross product of two points with these denominators -/
theorem va_cross {n1 n2 m1 m2 d e : Int} {B : Nat} (hd : 0 < d) (he : 0 < e) (a1 : n1.natAbs ≤ B) (a2 : n2.natAbs ≤ B) (a3 : m1.natAbs ≤ B) (a4 : m2.natAbs ≤ B) (c1 : d.natAbs ≤ B) (c2 : e.natAbs ≤ B) (zB : 0 < B) (hB : 2 * (B * B * (B * B)) < 2 ^ 200) :
    ∃ q, f_cross_product [pp (rq n1 d) (rq m1 e), pp (rq n2 d) (rq m2 e)] = .ok q ∧ Va (d * e) (2 * (B * B * (B * B))) q (n1 * m2 - m1 * n2) := by
  have zz : 0 < B * B := Nat.mul_pos zB zB
  have hB1 : B * B < 2 ^ 200 := by
    have : B * B ≤ B * B * (B * B) := Nat.le_mul_of_pos_right _ zz
    omega
  obtain ⟨q1, w1, v1⟩ := va_times (m := d * e) rfl hd he a1 a4 c1 c2 zB hB1
  obtain ⟨q2, w2, v2⟩ := va_times (m := d * e) (Int.mul_comm e d) he hd a3 a2 c2 c1 zB hB1
  obtain ⟨q, w, v⟩ := (va_two v1 v2 hB zz zz).1
  refine ⟨q, ?_, v⟩
  rw [f_cross_product, fD_ap (by rfl)]
  simp [b_cross_product, w1, w2, w]
section
variable {p0 p1 p2 p3 : D} {m v0 v1 v2 v3 : Int} {B : Nat}
theorem va_zero : Va m 1 (rq 0 1) 0 := ⟨0, 1, rfl, by decide, by simp, by decide, by decide⟩
theorem va_up {B C : Nat} {q : D} {v : Int} (h : Va m B q v) (k : B ≤ C) : Va m C q v := by
  obtain ⟨n, d, e, h0, e2, b, c⟩ := h
  exact ⟨n, d, e, h0, e2, Nat.le_trans b k, Nat.le_trans c k⟩
theorem area3 {q0 q1 q2 : D} (h0 : f_cross_product [p2, p0] = .ok q0) (h1 : f_cross_product [p0, p1] = .ok q1) (h2 : f_cross_product [p1, p2] = .ok q2) (w0 : Va m 1000000000 q0 v0) (w1 : Va m 1000000000 q1 v1) (w2 : Va m 1000000000 q2 v2) :
    ∃ q B, f_double_area [.tuple [p0, p1, p2]] = .ok q ∧ Va m B q (0 + v0 + v1 + v2) := by
  obtain ⟨r0, e0, x0⟩ := (va_two (m := m) va_zero w0 (by decide) (by decide) (by decide)).2
  obtain ⟨r1, e1, x1⟩ := (va_two x0 w1 (by decide) (by decide) (by decide)).2
  obtain ⟨r2, e2, x2⟩ := (va_two x1 w2 (by decide) (by decide) (by decide)).2
  refine ⟨r2, _, ?_, x2⟩
  rw [f_double_area, fD_ap (by rfl)]
  have r : ∀ z, iRange1 (dN fLen (aCons (dV 0) aNil)) [some (.tuple [p0, p1, p2]), some z, none] = .ok [.int 0, .int 1, .int 2] := fun z => by
    rw [iRange1_ap (n := 3) rfl (by decide) (by decide)]
    rfl
  have am : atI [p0, p1, p2] (-1) = some p2 := rfl
  have kz : k_ZERO = rq 0 1 := rfl
  simp [b_double_area, sSeq_ap, sFor_ap, r, forD_cons, am, at1, at2, kz, h0, h1, h2, e0, e1, e2]
theorem area4 {q0 q1 q2 q3 : D} (h0 : f_cross_product [p3, p0] = .ok q0) (h1 : f_cross_product [p0, p1] = .ok q1) (h2 : f_cross_product [p1, p2] = .ok q2) (h3 : f_cross_product [p2, p3] = .ok q3) (w0 : Va m 1000000000 q0 v0) (w1 : Va m 1000000000 q1 v1) (w2 : Va m 1000000000 q2 v2) (w3 : Va m 1000000000 q3 v3) :
    ∃ q B, f_double_area [.tuple [p0, p1, p2, p3]] = .ok q ∧ Va m B q (0 + v0 + v1 + v2 + v3) := by
  obtain ⟨r0, e0, x0⟩ := (va_two (m := m) va_zero w0 (by decide) (by decide) (by decide)).2
  obtain ⟨r1, e1, x1⟩ := (va_two x0 w1 (by decide) (by decide) (by decide)).2
  obtain ⟨r2, e2, x2⟩ := (va_two x1 w2 (by decide) (by decide) (by decide)).2
  obtain ⟨r3, e3, x3⟩ := (va_two x2 w3 (by decide) (by decide) (by decide)).2
  refine ⟨r3, _, ?_, x3⟩
  rw [f_double_area, fD_ap (by rfl)]
  have r : ∀ z, iRange1 (dN fLen (aCons (dV 0) aNil)) [some (.tuple [p0, p1, p2, p3]), some z, none] = .ok [.int 0, .int 1, .int 2, .int 3] := fun z => by
    rw [iRange1_ap (n := 4) rfl (by decide) (by decide)]
    rfl
  have am : atI [p0, p1, p2, p3] (-1) = some p3 := rfl
  have kz : k_ZERO = rq 0 1 := rfl
  simp [b_double_area, sSeq_ap, sFor_ap, r, forD_cons, am, at1, at2, at3, kz, h0, h1, h2, h3, e0, e1, e2, e3]
end
end Cr

/-! PR5: ratios, points and pieces that are as they ought to be. -/
namespace Cr
open PySem L2 DL Cm
@[simp] theorem setTA_tup (is : List Nat) (ds : List D) (α : At) : setTA (.tup is) (.tuple ds) α = setAllA is ds α := nr rfl
@[simp] theorem setAllA_nil (α : At) : setAllA [] [] α = some α := nr rfl
@[simp] theorem setAllA_cons (i : Nat) (is : List Nat) (d : D) (ds : List D) (α : At) : setAllA (i :: is) (d :: ds) α = setAllA is ds (α.set i (.dat d)) := nr rfl
@[simp] theorem sSetT_ap (t : Tgt) (d : At → Res D) (α : At) : sSetT t d α = ofR (d α) α fun x => (match setTA t x α with
  | some α' => .nx α'
  | none => .no) := nr rfl
theorem whole_ok (n : Int) : f_is_whole [.int n] = .ok (.bool true) := by
  rw [f_is_whole, fD_ap (by rfl)]
  simp [b_is_whole, isi_int, subB]
theorem within_ok (lo hi n : Int) : f_is_within [.int lo, .int hi, .int n] = .ok (.bool (decide (lo ≤ n) && decide (n ≤ hi))) := by
  rw [f_is_within, fD_ap (by rfl)]
  by_cases h : lo ≤ n <;> simp [b_is_within, whole_ok, dChain, fLe, h]
theorem row2_ok (x y : D) : f_is_row [.int 2, .tuple [x, y]] = .ok (.bool true) := by
  rw [f_is_row, fD_ap (by rfl)]
  simp [b_is_row, isi_tup, subB]
theorem ratio_ok {n d : Int} (h : 0 < d) (hd : Sm d) (hg : Int.gcd n d = 1) : f_is_ratio [rq n d] = .ok (.bool true) := by
  obtain ⟨g, eg, w⟩ := cd_ok n d hd
  rw [hg] at eg
  have eg : g = 1 := eg
  subst eg
  rw [f_is_ratio, fD_ap (by rfl)]
  simp [b_is_ratio, sSeq_ap, sIf_ap, rq, row2_ok, whole_ok, fGt, h, w]
theorem point_ok {x y : D} (h : f_is_ratio [x] = .ok (.bool true)) (k : f_is_ratio [y] = .ok (.bool true)) : f_is_point [pp x y] = .ok (.bool true) := by
  have r : f_is_row [.int 2, pp x y] = .ok (.bool true) := row2_ok x y
  rw [f_is_point, fD_ap (by rfl)]
  simp [b_is_point, r, h, k]
theorem points_ok {ps : List D} (h : ∀ p ∈ ps, f_is_point [p] = .ok (.bool true)) : f_all_points [.tuple ps] = .ok (.bool true) := by
  refine Sat.eq (Sat.fD rfl ?_)
  refine ON.seq (ON.iff (c := false) (by simp [isi_tup, subB]) (fun z => nomatch z) fun _ => .nx _ ?_)
  refine ON.seq (ON.for_ (ds := ps) (fun ds α => (∀ p ∈ ds, f_is_point [p] = .ok (.bool true)) ∧ ∃ u, α = [AV.dat (.tuple ps), u]) (by simp) ⟨h, _, rfl⟩ ?_ ?_)
  · rintro d ds α ⟨hd, u, rfl⟩
    refine ⟨_, rfl, ON.iff (c := false) (by simp [hd d (List.mem_cons_self ..)]) (fun z => nomatch z) fun _ => .nx _ ⟨fun p hp => hd p (List.mem_cons_of_mem _ hp), _, rfl⟩⟩
  · rintro α ⟨_, u, rfl⟩
    simp
theorem cmp_points {x y u v : D} {c1 c2 : Int} (h1 : f_compare_ratios [x, u] = .ok (.int c1)) (h2 : f_compare_ratios [y, v] = .ok (.int c2)) : f_compare_points [pp x y, pp u v] = .ok (.int (if c1 = 0 then c2 else c1)) := by
  rw [f_compare_points, fD_ap (by rfl)]
  by_cases h : c1 = 0 <;> simp [b_compare_points, sSeq_ap, sIf_ap, h1, h2, h]
theorem eq_self {n : Nat} {d : D} (h : Pl n d = true) (hn : n ≤ 60) (ht : ∃ ds, d = .tuple ds) : fEq d d = some (.bool true) := by
  obtain ⟨ds, rfl⟩ := ht
  have s := Pl.shaped h hn
  have e : eqD (.tuple ds) (.tuple ds) = some (PyData.eqv (.tuple ds) (.tuple ds)) := if_pos ⟨s, s⟩
  unfold fEq
  rw [e, (Pl.eqv h h).mpr rfl]
  rfl
section
variable {p0 p1 p2 p3 : D} {c1 c2 c3 : Int}
theorem least4 (h1 : f_compare_points [p1, p0] = .ok (.int c1)) (h2 : f_compare_points [p2, p0] = .ok (.int c2)) (h3 : f_compare_points [p3, p0] = .ok (.int c3)) (z1 : ¬ c1 < 0) (z2 : ¬ c2 < 0) (z3 : ¬ c3 < 0) : f_from_least [.tuple [p0, p1, p2, p3]] = .ok (.tuple [p0, p1, p2, p3]) := by
  rw [f_from_least, fD_ap (by rfl)]
  have r : iRange2 (dC (.int 1)) (dN fLen (aCons (dV 0) aNil)) [some (.tuple [p0, p1, p2, p3]), some (.int 0), none] = .ok [.int 1, .int 2, .int 3] := by
    rw [iRange2_ap (m := 1) (n := 4) rfl rfl (by decide) (by decide) (by decide) (by decide)]
    rfl
  have k1 : cutD [p0, p1, p2, p3] (some 0) none = [p0, p1, p2, p3] := rfl
  have k2 : cutD [p0, p1, p2, p3] none (some 0) = [] := rfl
  have ea : fAdd (.tuple [p0, p1, p2, p3]) (.tuple []) = some (.tuple [p0, p1, p2, p3]) := fAdd_t _ _ (by rw [PySem.sizeLine_eq]; simp)
  simp [b_from_least, sSeq_ap, sFor_ap, sIf_ap, r, forD_cons, at1, at2, at3, h1, h2, h3, z1, z2, z3, k1, k2, ea]
theorem least3 (h1 : f_compare_points [p1, p0] = .ok (.int c1)) (h2 : f_compare_points [p2, p0] = .ok (.int c2)) (z1 : ¬ c1 < 0) (z2 : ¬ c2 < 0) : f_from_least [.tuple [p0, p1, p2]] = .ok (.tuple [p0, p1, p2]) := by
  rw [f_from_least, fD_ap (by rfl)]
  have r : iRange2 (dC (.int 1)) (dN fLen (aCons (dV 0) aNil)) [some (.tuple [p0, p1, p2]), some (.int 0), none] = .ok [.int 1, .int 2] := by
    rw [iRange2_ap (m := 1) (n := 3) rfl rfl (by decide) (by decide) (by decide) (by decide)]
    rfl
  have k1 : cutD [p0, p1, p2] (some 0) none = [p0, p1, p2] := rfl
  have k2 : cutD [p0, p1, p2] none (some 0) = [] := rfl
  have ea : fAdd (.tuple [p0, p1, p2]) (.tuple []) = some (.tuple [p0, p1, p2]) := fAdd_t _ _ (by rw [PySem.sizeLine_eq]; simp)
  simp [b_from_least, sSeq_ap, sFor_ap, sIf_ap, r, forD_cons, at1, at2, h1, h2, z1, z2, k1, k2, ea]
end
theorem piece_of {ps : List D} {q : D} {v : Int} (h1 : f_all_points [.tuple ps] = .ok (.bool true)) (h2 : f_simple_row [.tuple ps] = .ok (.bool true)) (h3 : f_double_area [.tuple ps] = .ok q) (h4 : f_sign_ratio [q] = .ok (.int (sg v))) (hv : 0 < v) (h5 : f_from_least [.tuple ps] = .ok (.tuple ps)) (h6 : Pl 3 (.tuple ps) = true) :
    f_is_piece [.tuple ps] = .ok (.bool true) := by
  have e := eq_self h6 (by decide) ⟨ps, rfl⟩
  rw [f_is_piece, fD_ap (by rfl)]
  simp [b_is_piece, sSeq_ap, sIf_ap, h1, h2, h3, h4, sg, hv, fGt, h5, e]
/-- the corners of a rectangle -/
structure Grd (a d k b e l : Int) : Prop where
  d0 : 0 < d
  d1 : d ≤ 6
  a1 : a.natAbs ≤ 20
  k0 : 0 < k
  k1 : k ≤ 9
  g1 : Int.gcd a d = 1
  e0 : 0 < e
  e1 : e ≤ 6
  b1 : b.natAbs ≤ 20
  l0 : 0 < l
  l1 : l ≤ 9
  g2 : Int.gcd b e = 1
section
variable {a d k b e l : Int}
theorem gcd_far {a d k : Int} (h : Int.gcd a d = 1) : Int.gcd (a + k * d) d = 1 := by rw [Int.gcd_add_mul_right_left]; exact h
theorem Grd.far (g : Grd a d k b e l) : (a + k * d).natAbs ≤ 74 ∧ (b + l * e).natAbs ≤ 74 := by
  have h1 : k * d ≤ 9 * 6 := Int.mul_le_mul g.k1 g.d1 (Int.le_of_lt g.d0) (by decide)
  have h2 : l * e ≤ 9 * 6 := Int.mul_le_mul g.l1 g.e1 (Int.le_of_lt g.e0) (by decide)
  have h3 := Int.mul_pos g.k0 g.d0
  have h4 := Int.mul_pos g.l0 g.e0
  have := g.a1
  have := g.b1
  constructor <;> omega
end
end Cr

/-! PR6: rectangles and right triangles are pieces. -/
namespace Cr
open PySem L2 DL Cm
section
variable {a d k b e l : Int}
theorem sg_pos {n : Int} (h : 0 < n) : sg n = 1 := if_pos h
theorem sg_zero : sg 0 = 0 := rfl
theorem Grd.turn (g : Grd a d k b e l) {n1 n2 n3 m1 m2 m3 u v p q : Int} (a1 : n1.natAbs ≤ 74) (a2 : n2.natAbs ≤ 74) (a3 : n3.natAbs ≤ 74) (b1 : m1.natAbs ≤ 74) (b2 : m2.natAbs ≤ 74) (b3 : m3.natAbs ≤ 74)
    (hu : n2 - n1 = u * d) (hv : n3 - n1 = v * d) (hp : m2 - m1 = p * e) (hq : m3 - m1 = q * e) (su : u.natAbs ≤ 100) (sv : v.natAbs ≤ 100) (sp : p.natAbs ≤ 100) (sq : q.natAbs ≤ 100) (w : u * q - p * v = k * l) :
    f_turn_sign [pp (rq n1 d) (rq m1 e), pp (rq n2 d) (rq m2 e), pp (rq n3 d) (rq m3 e)] = .ok (.int 1) := by
  have := g.d0; have := g.d1; have := g.e0; have := g.e1
  rw [turn_ok g.d0 (by omega) g.e0 (by omega) (by omega) (by omega) (by omega) (by omega) (by omega) (by omega) hu hv hp hq su sv sp sq, w, sg_pos (Int.mul_pos g.k0 g.l0)]
theorem Grd.cross (g : Grd a d k b e l) {n1 n2 m1 m2 : Int} (a1 : n1.natAbs ≤ 74) (a2 : n2.natAbs ≤ 74) (b1 : m1.natAbs ≤ 74) (b2 : m2.natAbs ≤ 74) : ∃ q, f_cross_product [pp (rq n1 d) (rq m1 e), pp (rq n2 d) (rq m2 e)] = .ok q ∧ Va (d * e) 1000000000 q (n1 * m2 - m1 * n2) := by
  have := g.d0; have := g.d1; have := g.e0; have := g.e1
  obtain ⟨q, w, v⟩ := va_cross (B := 74) g.d0 g.e0 a1 a2 b1 b2 (by omega) (by omega) (by decide) (by decide)
  exact ⟨q, w, va_up v (by decide)⟩
theorem Grd.cmpx (g : Grd a d k b e l) : f_compare_ratios [rq (a + k * d) d, rq a d] = .ok (.int 1) ∧ f_compare_ratios [rq a d, rq a d] = .ok (.int 0) := by
  have := g.d0; have := g.d1; have := g.far.1; have := g.a1
  have s1 : Sm (a + k * d) := Sm.of (m := 74) (by omega)
  have s2 : Sm a := Sm.of (m := 74) (by omega)
  have s3 : Sm d := Sm.of (m := 74) (by omega)
  constructor
  · rw [compare_ok s1 s3 s2 s3, sg_pos]
    have : (a + k * d) * d - a * d = k * d * d := by grind
    rw [this]
    exact Int.mul_pos (Int.mul_pos g.k0 g.d0) g.d0
  · rw [compare_ok s2 s3 s2 s3, Int.sub_self, sg_zero]
theorem Grd.cmpy (g : Grd a d k b e l) : f_compare_ratios [rq (b + l * e) e, rq b e] = .ok (.int 1) ∧ f_compare_ratios [rq b e, rq b e] = .ok (.int 0) :=
  Grd.cmpx (a := b) (d := e) (k := l) (b := a) (e := d) (l := k) ⟨g.e0, g.e1, g.b1, g.l0, g.l1, g.g2, g.d0, g.d1, g.a1, g.k0, g.k1, g.g1⟩
theorem Grd.pt (g : Grd a d k b e l) {n m : Int} (h1 : Int.gcd n d = 1) (h2 : Int.gcd m e = 1) : f_is_point [pp (rq n d) (rq m e)] = .ok (.bool true) := by
  have := g.d0; have := g.d1; have := g.e0; have := g.e1
  exact point_ok (ratio_ok g.d0 (Sm.of (m := 74) (by omega)) h1) (ratio_ok g.e0 (Sm.of (m := 74) (by omega)) h2)
theorem pl_pp (n d m e : Int) : Pl 2 (pp (rq n d) (rq m e)) = true := by simp [pp, rq]
theorem tri_piece (g : Grd a d k b e l) : f_is_piece [.tuple [pp (rq a d) (rq b e), pp (rq (a + k * d) d) (rq b e), pp (rq a d) (rq (b + l * e) e)]] = .ok (.bool true) := by
  obtain ⟨f1, f2⟩ := g.far
  have ha : a.natAbs ≤ 74 := Nat.le_trans g.a1 (by decide)
  have hb : b.natAbs ≤ 74 := Nat.le_trans g.b1 (by decide)
  have kk : k.natAbs ≤ 100 := by have := g.k0; have := g.k1; omega
  have ll : l.natAbs ≤ 100 := by have := g.l0; have := g.l1; omega
  have t0 := g.turn (n1 := a) (n2 := a) (n3 := a + k * d) (m1 := b + l * e) (m2 := b) (m3 := b) (u := 0) (v := k) (p := -l) (q := -l) ha ha f1 f2 hb hb (by grind) (by grind) (by grind) (by grind) (by decide) kk (by omega) (by omega) (by grind)
  have t1 := g.turn (n1 := a) (n2 := a + k * d) (n3 := a) (m1 := b) (m2 := b) (m3 := b + l * e) (u := k) (v := 0) (p := 0) (q := l) ha f1 ha hb hb f2 (by grind) (by grind) (by grind) (by grind) kk (by decide) (by decide) ll (by grind)
  have t2 := g.turn (n1 := a + k * d) (n2 := a) (n3 := a) (m1 := b) (m2 := b + l * e) (m3 := b) (u := -k) (v := -k) (p := l) (q := 0) f1 ha ha hb f2 hb (by grind) (by grind) (by grind) (by grind) (by omega) (by omega) ll (by decide) (by grind)
  have co := corners3 t0 t1 t2 (by decide) (by decide) (by decide)
  have si := simple_ok 3 _ rfl (by decide) (by decide) co part3
  obtain ⟨q0, c0, v0⟩ := g.cross (n1 := a) (n2 := a) (m1 := b + l * e) (m2 := b) ha ha f2 hb
  obtain ⟨q1, c1, v1⟩ := g.cross (n1 := a) (n2 := a + k * d) (m1 := b) (m2 := b) ha f1 hb hb
  obtain ⟨q2, c2, v2⟩ := g.cross (n1 := a + k * d) (n2 := a) (m1 := b) (m2 := b + l * e) f1 ha hb f2
  obtain ⟨q, B, ar, va⟩ := area3 c0 c1 c2 v0 v1 v2
  have pos : 0 < 0 + (a * b - (b + l * e) * a) + (a * b - b * (a + k * d)) + ((a + k * d) * (b + l * e) - b * a) := by
    have e1 : 0 + (a * b - (b + l * e) * a) + (a * b - b * (a + k * d)) + ((a + k * d) * (b + l * e) - b * a) = (k * d) * (l * e) := by grind
    rw [e1]
    exact Int.mul_pos (Int.mul_pos g.k0 g.d0) (Int.mul_pos g.l0 g.e0)
  have le := least3 (cmp_points g.cmpx.1 g.cmpy.2) (cmp_points g.cmpx.2 g.cmpy.1) (by decide) (by decide)
  refine piece_of (points_ok ?_) si ar (va_sign (Int.mul_pos g.d0 g.e0) va) pos le (by simp [pl_pp])
  intro p hp
  simp at hp
  rcases hp with rfl | rfl | rfl
  · exact g.pt g.g1 g.g2
  · exact g.pt (gcd_far g.g1) g.g2
  · exact g.pt g.g1 (gcd_far g.g2)
theorem rect_piece (g : Grd a d k b e l) : f_is_piece [.tuple [pp (rq a d) (rq b e), pp (rq (a + k * d) d) (rq b e), pp (rq (a + k * d) d) (rq (b + l * e) e), pp (rq a d) (rq (b + l * e) e)]] = .ok (.bool true) := by
  obtain ⟨f1, f2⟩ := g.far
  have ha : a.natAbs ≤ 74 := Nat.le_trans g.a1 (by decide)
  have hb : b.natAbs ≤ 74 := Nat.le_trans g.b1 (by decide)
  have kk : k.natAbs ≤ 100 := by have := g.k0; have := g.k1; omega
  have ll : l.natAbs ≤ 100 := by have := g.l0; have := g.l1; omega
  have mk : (-k).natAbs ≤ 100 := by omega
  have ml : (-l).natAbs ≤ 100 := by omega
  have z : (0 : Int).natAbs ≤ 100 := by decide
  have t301 := g.turn (n1 := a) (n2 := a) (n3 := a + k * d) (m1 := b + l * e) (m2 := b) (m3 := b) (u := 0) (v := k) (p := -l) (q := -l) ha ha f1 f2 hb hb (by grind) (by grind) (by grind) (by grind) z kk ml ml (by grind)
  have t012 := g.turn (n1 := a) (n2 := a + k * d) (n3 := a + k * d) (m1 := b) (m2 := b) (m3 := b + l * e) (u := k) (v := k) (p := 0) (q := l) ha f1 f1 hb hb f2 (by grind) (by grind) (by grind) (by grind) kk kk z ll (by grind)
  have t123 := g.turn (n1 := a + k * d) (n2 := a + k * d) (n3 := a) (m1 := b) (m2 := b + l * e) (m3 := b + l * e) (u := 0) (v := -k) (p := l) (q := l) f1 f1 ha hb f2 f2 (by grind) (by grind) (by grind) (by grind) z mk ll ll (by grind)
  have t230 := g.turn (n1 := a + k * d) (n2 := a) (n3 := a) (m1 := b + l * e) (m2 := b + l * e) (m3 := b) (u := -k) (v := -k) (p := 0) (q := -l) f1 ha ha f2 f2 hb (by grind) (by grind) (by grind) (by grind) mk mk z ml (by grind)
  have t013 := g.turn (n1 := a) (n2 := a + k * d) (n3 := a) (m1 := b) (m2 := b) (m3 := b + l * e) (u := k) (v := 0) (p := 0) (q := l) ha f1 ha hb hb f2 (by grind) (by grind) (by grind) (by grind) kk z z ll (by grind)
  have t231 := g.turn (n1 := a + k * d) (n2 := a) (n3 := a + k * d) (m1 := b + l * e) (m2 := b + l * e) (m3 := b) (u := -k) (v := 0) (p := 0) (q := -l) f1 ha f1 f2 f2 hb (by grind) (by grind) (by grind) (by grind) mk z z ml (by grind)
  have t120 := g.turn (n1 := a + k * d) (n2 := a + k * d) (n3 := a) (m1 := b) (m2 := b + l * e) (m3 := b) (u := 0) (v := -k) (p := l) (q := 0) f1 f1 ha hb f2 hb (by grind) (by grind) (by grind) (by grind) z mk ll z (by grind)
  have t302 := g.turn (n1 := a) (n2 := a) (n3 := a + k * d) (m1 := b + l * e) (m2 := b) (m3 := b + l * e) (u := 0) (v := k) (p := -l) (q := 0) ha ha f1 f2 hb f2 (by grind) (by grind) (by grind) (by grind) z kk ml z (by grind)
  have s1 : Sm 1 := Sm.of (m := 1) (by decide)
  have co := corners4 t301 t012 t123 t230 (by decide) (by decide) (by decide) (by decide)
  have ap1 := apart_ok t012 t013 t230 t231 (by decide) (by decide) (by decide) (by decide) s1 s1 (by decide)
  have ap2 := apart_ok t123 t120 t301 t302 (by decide) (by decide) (by decide) (by decide) s1 s1 (by decide)
  have si := simple_ok 4 _ rfl (by decide) (by decide) co (part4 ap1 ap2)
  obtain ⟨q0, c0, v0⟩ := g.cross (n1 := a) (n2 := a) (m1 := b + l * e) (m2 := b) ha ha f2 hb
  obtain ⟨q1, c1, v1⟩ := g.cross (n1 := a) (n2 := a + k * d) (m1 := b) (m2 := b) ha f1 hb hb
  obtain ⟨q2, c2, v2⟩ := g.cross (n1 := a + k * d) (n2 := a + k * d) (m1 := b) (m2 := b + l * e) f1 f1 hb f2
  obtain ⟨q3, c3, v3⟩ := g.cross (n1 := a + k * d) (n2 := a) (m1 := b + l * e) (m2 := b + l * e) f1 ha f2 f2
  obtain ⟨q, B, ar, va⟩ := area4 c0 c1 c2 c3 v0 v1 v2 v3
  have pos : 0 < 0 + (a * b - (b + l * e) * a) + (a * b - b * (a + k * d)) + ((a + k * d) * (b + l * e) - b * (a + k * d)) + ((a + k * d) * (b + l * e) - (b + l * e) * a) := by
    have e1 : 0 + (a * b - (b + l * e) * a) + (a * b - b * (a + k * d)) + ((a + k * d) * (b + l * e) - b * (a + k * d)) + ((a + k * d) * (b + l * e) - (b + l * e) * a) = 2 * ((k * d) * (l * e)) := by grind
    rw [e1]
    have := Int.mul_pos (Int.mul_pos g.k0 g.d0) (Int.mul_pos g.l0 g.e0)
    omega
  have le := least4 (cmp_points g.cmpx.1 g.cmpy.2) (cmp_points g.cmpx.1 g.cmpy.1) (cmp_points g.cmpx.2 g.cmpy.1) (by decide) (by decide) (by decide)
  refine piece_of (points_ok ?_) si ar (va_sign (Int.mul_pos g.d0 g.e0) va) pos le (by simp [pl_pp])
  intro p hp
  simp at hp
  rcases hp with rfl | rfl | rfl | rfl
  · exact g.pt g.g1 g.g2
  · exact g.pt (gcd_far g.g1) g.g2
  · exact g.pt (gcd_far g.g1) (gcd_far g.g2)
  · exact g.pt g.g1 (gcd_far g.g2)
end
end Cr

/-! PR7: the fields of rows. -/
namespace Cr
open PySem L2 DL Cm
/-! ### ratios within bounds -/
theorem wr_ok (n : Int) : f_whole_ratio [.int n] = .ok (rq n 1) := by
  rw [f_whole_ratio, fD_ap (by rfl)]
  simp [b_whole_ratio]
  rfl
theorem sg_le {n : Int} : (sg n ≤ 0) ↔ n ≤ 0 := by
  unfold sg
  split
  · constructor <;> intro <;> omega
  · split <;> constructor <;> intro <;> omega
theorem short_ok {n d : Int} (h : 0 < d) (hd : d ≤ 999999999) (hn : n.natAbs ≤ 999999999) (hg : Int.gcd n d = 1) : f_short_ratio [rq n d] = .ok (.bool true) := by
  have r := ratio_ok h (Sm.of (m := 999999999) (by omega)) hg
  have a : (-999999999 : Int) ≤ n := by omega
  have b : n ≤ (999999999 : Int) := by omega
  rw [f_short_ratio, fD_ap (by rfl)]
  simp [b_short_ratio, r, k_MOST_NUMBER, within_ok, fLe, a, b, hd]
theorem ratin_ok {n d lo hi : Int} (h : 0 < d) (hd : d ≤ 999999999) (hn : n.natAbs ≤ 999999999) (hg : Int.gcd n d = 1) (sl : Sm lo) (sh : Sm hi) (h1 : lo * d ≤ n) (h2 : n ≤ hi * d) : f_ratio_within [.int lo, .int hi, rq n d] = .ok (.bool true) := by
  have s1 : Sm n := Sm.of hn
  have s2 : Sm d := Sm.of (m := 999999999) (by omega)
  have s3 : Sm 1 := Sm.of (m := 1) (by decide)
  have c1 := compare_ok sl s3 s1 s2
  have c2 := compare_ok s1 s2 sh s3
  have l1 : sg (lo * d - n * 1) ≤ 0 := sg_le.mpr (by omega)
  have l2 : sg (n * 1 - hi * d) ≤ 0 := sg_le.mpr (by omega)
  rw [f_ratio_within, fD_ap (by rfl)]
  simp only [b_ratio_within]
  simp [sSeq_ap, sIf_ap, short_ok h hd hn hg, wr_ok, c1, c2, fLe]
  simp at l1 l2
  simp [l1, l2]
/-! ### spots, lines, pieces -/
theorem spot_ok {n d m e : Int} (d0 : 0 < d) (d1 : d ≤ 6) (e0 : 0 < e) (e1 : e ≤ 6) (hn : n.natAbs ≤ 74) (hm : m.natAbs ≤ 74) (g1 : Int.gcd n d = 1) (g2 : Int.gcd m e = 1) : f_is_spot [pp (rq n d) (rq m e)] = .ok (.bool true) := by
  have p := point_ok (ratio_ok d0 (Sm.of (m := 74) (by omega)) g1) (ratio_ok e0 (Sm.of (m := 74) (by omega)) g2)
  have r1 := ratin_ok (lo := -1000) (hi := 1000) d0 (by omega) (by omega) g1 (Sm.of (m := 1000) (by decide)) (Sm.of (m := 1000) (by decide)) (by omega) (by omega)
  have r2 := ratin_ok (lo := -1000) (hi := 1000) e0 (by omega) (by omega) g2 (Sm.of (m := 1000) (by decide)) (Sm.of (m := 1000) (by decide)) (by omega) (by omega)
  have a : ¬ (100 : Int) < d := by omega
  have b : ¬ (100 : Int) < e := by omega
  rw [f_is_spot, fD_ap (by rfl)]
  have it : itemsOf (pp (rq n d) (rq m e)) = some [rq n d, rq m e] := rfl
  simp [b_is_spot, sSeq_ap, sIf_ap, sFor_ap, forD_cons, p, it, k_MOST_PLACE, k_MOST_BELOW, r1, r2, fGt, a, b]
theorem pfield_ok {ps : List D} {most : Int} (h : f_is_piece [.tuple ps] = .ok (.bool true)) (hl : (ps.length : Int) ≤ most) (hs : ∀ p ∈ ps, f_is_spot [p] = .ok (.bool true)) : f_piece_field [.int most, .tuple ps] = .ok (.bool true) := by
  obtain ⟨z, hz⟩ : ∃ z : Int, z = ps.length := ⟨_, rfl⟩
  rw [← hz] at hl
  have nl : ¬ most < z := by omega
  refine Sat.eq (Sat.fD rfl ?_)
  refine ON.seq (ON.iff (c := false) (by simp [h, ← hz, fGt, nl]) (fun z => nomatch z) fun _ => .nx _ ?_)
  refine ON.seq (ON.for_ (ds := ps) (fun ds α => (∀ p ∈ ds, f_is_spot [p] = .ok (.bool true)) ∧ ∃ u, α = [AV.dat (.int most), .dat (.tuple ps), u]) (by simp) ⟨hs, _, rfl⟩ ?_ ?_)
  · rintro d ds α ⟨hd, u, rfl⟩
    exact ⟨_, rfl, ON.iff (c := false) (by simp [hd d (List.mem_cons_self ..)]) (fun z => nomatch z) fun _ => .nx _ ⟨fun p hp => hd p (List.mem_cons_of_mem _ hp), _, rfl⟩⟩
  · rintro α ⟨_, u, rfl⟩
    simp
theorem fNe_pl {n : Nat} {x y : D} (hx : Pl n x = true) (hy : Pl n y = true) (hn : n ≤ 60) (tx : ∃ ds, x = .tuple ds) (ty : ∃ ds, y = .tuple ds) (h : x ≠ y) : fNe x y = some (.bool true) := by
  obtain ⟨ds, rfl⟩ := tx
  obtain ⟨es, rfl⟩ := ty
  have e : eqD (.tuple ds) (.tuple es) = some (PyData.eqv (.tuple ds) (.tuple es)) := if_pos ⟨Pl.shaped hx hn, Pl.shaped hy hn⟩
  have q : PyData.eqv (.tuple ds) (.tuple es) = false := by
    cases z : PyData.eqv (.tuple ds) (.tuple es) with
    | false => rfl
    | true => exact absurd ((Pl.eqv hx hy).mp z) h
  unfold fNe
  rw [e, q]
  rfl
theorem line_ok {x y : D} (h1 : f_is_spot [x] = .ok (.bool true)) (h2 : f_is_spot [y] = .ok (.bool true)) (h : fNe x y = some (.bool true)) : f_line_field [.tuple [x, y]] = .ok (.bool true) := by
  rw [f_line_field, fD_ap (by rfl)]
  simp [b_line_field, sSeq_ap, sIf_ap, row2_ok, h1, h2, h, at1]
/-! ### grains, pulls -/
theorem grain_ok {x y : Int} (h : (x = 0 ∧ y = 1) ∨ (0 < x ∧ x ≤ 100 ∧ y.natAbs ≤ 100 ∧ Int.gcd x y = 1)) : f_grain_field [rq x y] = .ok (.bool true) := by
  have g : f_is_grain [rq x y] = .ok (.bool true) := by
    rw [f_is_grain, fD_ap (by rfl)]
    rcases h with ⟨rfl, rfl⟩ | ⟨h1, h2, h3, h4⟩
    · simp [b_is_grain, sSeq_ap, sIf_ap, rq, row2_ok, whole_ok]
    · obtain ⟨g, eg, w⟩ := cd_ok x y (Sm.of (m := 100) h3)
      rw [h4] at eg
      have eg : g = 1 := eg
      subst eg
      have nz : ¬ x = 0 := by omega
      simp [b_is_grain, sSeq_ap, sIf_ap, rq, row2_ok, whole_ok, nz, fGt, h1, w]
  have b : -100 ≤ x ∧ x ≤ 100 ∧ -100 ≤ y ∧ y ≤ 100 := by omega
  obtain ⟨b1, b2, b3, b4⟩ := b
  rw [f_grain_field, fD_ap (by rfl)]
  simp [b_grain_field, sSeq_ap, sIf_ap, g, k_MOST_GRAIN, within_ok, b1, b2, b3, b4]
theorem pull_ok {x y : Int} (h1 : -100 ≤ x) (h2 : x ≤ 100) (h3 : -100 ≤ y) (h4 : y ≤ 100) (h : y ≠ 0) : f_is_pull [.tuple [.int x, .int y]] = .ok (.bool true) := by
  rw [f_is_pull, fD_ap (by rfl)]
  by_cases q : x = 0 <;> simp [b_is_pull, sSeq_ap, sIf_ap, row2_ok, k_MOST_PULL, within_ok, h1, h2, h3, h4, h, q]
end Cr

/-! PR8: names, rules, spans. -/
namespace Cr
open PySem L2 DL Cm
/-! ### names -/
structure Nam (s : Str) : Prop where
  lo : 0 < s.cps.size
  hi : s.cps.size ≤ 12
  all : ∀ c ∈ s.cps.toList, (97 ≤ c ∧ c ≤ 122) ∨ (48 ≤ c ∧ c ≤ 57)
  one : ∃ c, s.cps.toList[0]? = some c ∧ 97 ≤ c ∧ c ≤ 122
theorem dig_cps : ("0123456789" : Str).cps.toList = (List.range 10).map (48 + ·) := by decide +kernel
theorem in_let (c : Nat) : fNotIn (.str ⟨#[c]⟩) k_LETTERS = some (.bool !decide (97 ≤ c ∧ c ≤ 122)) := by
  have e : inD (.str ⟨#[c]⟩) k_LETTERS = some (decide (c ∈ ("abcdefghijklmnopqrstuvwxyz" : Str).cps.toList)) := rfl
  unfold fNotIn
  rw [e, abc_cps]
  have : decide (c ∈ (List.range 26).map (97 + ·)) = decide (97 ≤ c ∧ c ≤ 122) := by
    congr 1
    simp only [List.mem_map, List.mem_range, eq_iff_iff]
    exact ⟨fun ⟨a, h1, h2⟩ => by omega, fun h => ⟨c - 97, by omega, by omega⟩⟩
  rw [this]
  rfl
theorem in_dig (c : Nat) : fNotIn (.str ⟨#[c]⟩) k_DIGITS = some (.bool !decide (48 ≤ c ∧ c ≤ 57)) := by
  have e : inD (.str ⟨#[c]⟩) k_DIGITS = some (decide (c ∈ ("0123456789" : Str).cps.toList)) := rfl
  unfold fNotIn
  rw [e, dig_cps]
  have : decide (c ∈ (List.range 10).map (48 + ·)) = decide (48 ≤ c ∧ c ≤ 57) := by
    congr 1
    simp only [List.mem_map, List.mem_range, eq_iff_iff]
    exact ⟨fun ⟨a, h1, h2⟩ => by omega, fun h => ⟨c - 48, by omega, by omega⟩⟩
  rw [this]
  rfl
theorem empty_size : ("" : Str).cps.size = 0 := by decide +kernel
theorem name_ok {s : Str} (h : Nam s) : f_is_name [.str s] = .ok (.bool true) := by
  have ne : (s == ("" : Str)) = false := by
    rw [beq_eq_false_iff_ne]
    intro e
    have := h.lo
    rw [e, empty_size] at this
    omega
  have hl : fLen [.str s] = some (.int s.cps.size) := if_pos (by
    have := h.hi
    show s.cps.size ≤ sizeLine
    rw [PySem.sizeLine_eq]
    omega)
  obtain ⟨z, hz⟩ : ∃ z : Int, z = s.cps.size := ⟨_, rfl⟩
  rw [← hz] at hl
  have nl : ¬ (12 : Int) < z := by have := h.hi; omega
  obtain ⟨c, hc, c1, c2⟩ := h.one
  have h0 : fIx (.str s) (.int 0) = some (.str ⟨#[c]⟩) := by
    rw [fIx_str (by have := h.hi; omega)]
    have : atI s.cps.toList (0 : Int) = some c := L2.atI_nat (j := 0) hc
    rw [this]
    rfl
  refine Sat.eq (Sat.fD rfl ?_)
  refine ON.seq (ON.iff (c := false) (by simp [isi_str, subB]) (fun z => nomatch z) fun _ => .nx _ ?_)
  refine ON.seq (ON.iff (c := false) (by simp [ne, hl, k_MOST_NAME, fGt, nl]) (fun z => nomatch z) fun _ => .nx _ ?_)
  refine ON.seq (ON.iff (c := false) (by simp [h0, in_let, c1, c2]) (fun z => nomatch z) fun _ => .nx _ ?_)
  refine ON.seq (ON.for_ (ds := signs s) (fun ds α => (∀ d ∈ ds, ∃ c, d = .str ⟨#[c]⟩ ∧ ((97 ≤ c ∧ c ≤ 122) ∨ (48 ≤ c ∧ c ≤ 57))) ∧ ∃ u, α = [AV.dat (.str s), u]) rfl ⟨fun d hd => ?_, _, rfl⟩ ?_ ?_)
  · obtain ⟨c, hc, rfl⟩ := List.mem_map.mp hd
    exact ⟨c, rfl, h.all c hc⟩
  · rintro d ds α ⟨hd, u, rfl⟩
    obtain ⟨c, rfl, hc⟩ := hd d (List.mem_cons_self ..)
    refine ⟨_, rfl, ON.iff (c := false) ?_ (fun z => nomatch z) fun _ => .nx _ ⟨fun x hx => hd x (List.mem_cons_of_mem _ hx), _, rfl⟩⟩
    rcases hc with hc | hc
    · simp [in_let, in_dig, hc]
    · by_cases q : 97 ≤ c ∧ c ≤ 122 <;> simp [in_let, in_dig, hc, q]
  · rintro α ⟨_, u, rfl⟩
    simp
theorem Nam.ok {s : Str} (h : Nam s) : PyData.strOk s = true := by
  unfold PyData.strOk
  rw [Array.all_eq_true]
  intro i hi
  have m : s.cps[i] ∈ s.cps.toList := by simp
  have := h.all _ m
  simp
  omega
/-- .. in rising order -/
theorem ascend_ok {ts : List Str} (h : ∀ t ∈ ts, Nam t) (r : ts.Pairwise fun a b => sl a b = true) : f_ascending_names [.tuple (ts.map PyData.str)] = .ok (.bool true) := by
  have es : ∀ t : Str, Nam t → sl ("" : Str) t = true := fun t ht => by
    unfold sl
    have e : ("" : Str).cps.toList = [] := by decide +kernel
    rw [e]
    obtain ⟨c, hc, _⟩ := ht.one
    cases q : t.cps.toList with
    | nil => rw [q] at hc; cases hc
    | cons x xs => exact decide_eq_true (List.Lex.nil)
  refine Sat.eq (Sat.fD rfl ?_)
  refine ON.seq (ON.iff (c := false) (by simp [isi_tup, subB]) (fun z => nomatch z) fun _ => .nx _ ?_)
  refine ON.seq ?_
  simp
  refine ON.seq (ON.for_ (ds := ts.map PyData.str) (fun ds α => ∃ (us : List Str) (b : Str) (u : AV), ds = us.map PyData.str ∧ (∀ t ∈ us, Nam t ∧ sl b t = true) ∧ (us.Pairwise fun a b => sl a b = true) ∧ α = [AV.dat (.tuple (ts.map PyData.str)), .dat (.str b), u]) (by simp)
    ⟨ts, _, _, rfl, fun t ht => ⟨h t ht, es t (h t ht)⟩, r, rfl⟩ ?_ ?_)
  · rintro d ds α ⟨us, b, u, ed, hu, hp, rfl⟩
    cases us with
    | nil => cases ed
    | cons t us =>
      cases ed
      obtain ⟨n, l⟩ := hu t (List.mem_cons_self ..)
      have hp' := List.pairwise_cons.mp hp
      refine ⟨_, rfl, ON.seq (ON.iff (c := false) (by simp [name_ok n, l]) (fun z => nomatch z) fun _ => .nx _ ?_)⟩
      exact .nx _ ⟨us, t, _, rfl, fun x hx => ⟨(hu x (List.mem_cons_of_mem _ hx)).1, hp'.1 x hx⟩, hp'.2, rfl⟩
  · rintro α ⟨us, b, u, ed, hu, hp, rfl⟩
    simp
end Cr

/-! PR9: lists of names, rules, spans. -/
namespace Cr
open PySem L2 DL Cm
def NI2 (lo hi : Int) (ts : List Str) (ds : List D) (α : At) : Prop := ∃ (i : Nat) (u v : AV), i ≤ ts.length ∧ ds = places i ((ts.drop i).map PyData.str) ∧ α = [AV.dat (.int lo), .dat (.int hi), .dat (.tuple (ts.map PyData.str)), u, v]
theorem names_ok {ts : List Str} {lo hi : Int} (h : ∀ t ∈ ts, Nam t) (nd : ts.Nodup) (h1 : lo ≤ ts.length) (h2 : (ts.length : Int) ≤ hi) (hl : ts.length < 1000) : f_names_field [.int lo, .int hi, .tuple (ts.map PyData.str)] = .ok (.bool true) := by
  obtain ⟨z, hz⟩ : ∃ z : Int, z = ts.length := ⟨_, rfl⟩
  rw [← hz] at h1 h2
  refine Sat.eq (Sat.fD rfl ?_)
  refine ON.seq (ON.iff (c := false) (by simp [isi_tup, subB, dChain, fLe, ← hz, h1, h2]) (fun z => nomatch z) fun _ => .nx _ ?_)
  refine ON.seq (ON.for_ (ds := places 0 (ts.map PyData.str)) (NI2 lo hi ts) rfl ⟨0, _, _, Nat.zero_le _, rfl, rfl⟩ ?_ ?_)
  · rintro d ds α ⟨i, u, v, hi', ed, rfl⟩
    have lt : i < ts.length := by
      refine Nat.lt_of_le_of_ne hi' fun e => ?_
      rw [e, List.drop_length] at ed
      cases ed
    rw [List.drop_eq_getElem_cons lt] at ed
    cases ed
    obtain ⟨y, hy⟩ : ∃ y : Int, y = (i : Int) := ⟨_, rfl⟩
    rw [← hy]
    have nm := h ts[i] (List.getElem_mem ..)
    have cut : cutD (ts.map PyData.str) none (some y) = (ts.take i).map PyData.str := by
      have e : HT.sIx (ts.map PyData.str).length (ts.map PyData.str).length (some y) = i := by
        rw [hy, HT.sIx_nat]
        simp
        omega
      unfold cutD
      rw [e]
      simp [HT.sIx_none, List.map_take]
    have pl : ∀ t : Str, Nam t → Pl 1 (.str t) = true := fun t ht => by rw [Pl_str]; exact ht.ok
    have sh := shapedL (n := 1) (ds := (ts.take i).map PyData.str) (fun d hd => by
      obtain ⟨t, ht, rfl⟩ := List.mem_map.mp hd
      exact pl t (h t (List.mem_of_mem_take ht))) (by decide)
    have ein : fIn (.str ts[i]) (.tuple ((ts.take i).map PyData.str)) = some (.bool false) := by
      have e : inD (.str ts[i]) (.tuple ((ts.take i).map PyData.str)) = some (((ts.take i).map PyData.str).any fun w => PyData.eqv w (.str ts[i])) := if_pos ⟨Pl.shaped (pl _ nm) (by decide), sh.2⟩
      have f : (((ts.take i).map PyData.str).any fun w => PyData.eqv w (.str ts[i])) = false := by
        rw [List.any_eq_false]
        intro w hw q
        obtain ⟨t, ht, rfl⟩ := List.mem_map.mp hw
        have e2 : t = ts[i] := by simpa [PyData.eqv] using q
        obtain ⟨j, hj, e3⟩ := List.mem_iff_getElem.mp ht
        have hj' : j < i := by simp at hj; omega
        rw [List.getElem_take] at e3
        have := (List.pairwise_iff_getElem.mp nd) j i (by omega) lt hj'
        exact this (e3.trans e2)
      unfold fIn
      rw [e, f]
      rfl
    refine ⟨_, rfl, ON.iff (c := false) ?_ (fun z => nomatch z) fun _ => .nx _ ⟨i + 1, _, _, lt, rfl, rfl⟩⟩
    rw [List.map_take] at ein
    simp [name_ok nm, cut, ein]
  · rintro α ⟨i, u, v, _, _, rfl⟩
    simp
/-! ### rules -/
theorem rule_ok {rs : List (Int × Int)} (h : ∀ q ∈ rs, 0 < q.2 ∧ q.2 ≤ 1000 ∧ 0 < q.1 ∧ q.1.natAbs ≤ 100000 ∧ Int.gcd q.1 q.2 = 1 ∧ q.1 ≤ 1000 * q.2) (asc : rs.Pairwise fun a b => a.1 * b.2 < b.1 * a.2) (h1 : 1 ≤ rs.length) (h3 : rs.length ≤ 3) :
    f_rule_field [.tuple (rs.map fun q => rq q.1 q.2)] = .ok (.bool true) := by
  obtain ⟨z, hz⟩ : ∃ z : Int, z = rs.length := ⟨_, rfl⟩
  have l1 : ¬ z < 1 := by omega
  have l3 : ¬ (3 : Int) < z := by omega
  have r : f_is_rule [.tuple (rs.map fun q => rq q.1 q.2)] = .ok (.bool true) := by
    refine Sat.eq (Sat.fD rfl ?_)
    refine ON.seq (ON.iff (c := false) (by simp [isi_tup, subB, ← hz, l1, l3, k_MOST_RULE, fGt]) (fun z => nomatch z) fun _ => .nx _ ?_)
    refine ON.seq ?_
    simp
    refine ON.seq (ON.for_ (ds := rs.map fun q => rq q.1 q.2) (fun ds α => ∃ (us : List (Int × Int)) (b : Int × Int) (u : AV), ds = (us.map fun q => rq q.1 q.2) ∧ (∀ q ∈ us, (0 < q.2 ∧ q.2 ≤ 1000 ∧ 0 < q.1 ∧ q.1.natAbs ≤ 100000 ∧ Int.gcd q.1 q.2 = 1) ∧ b.1 * q.2 < q.1 * b.2) ∧ (us.Pairwise fun a b => a.1 * b.2 < b.1 * a.2) ∧ b.1.natAbs ≤ 100000 ∧ b.2.natAbs ≤ 1000 ∧ α = [AV.dat (.tuple (rs.map fun q => rq q.1 q.2)), .dat (rq b.1 b.2), u]) (by simp)
      ⟨rs, (0, 1), .un, rfl, fun q hq => ⟨⟨(h q hq).1, (h q hq).2.1, (h q hq).2.2.1, (h q hq).2.2.2.1, (h q hq).2.2.2.2.1⟩, by have := (h q hq).2.2.1; simp; exact this⟩, asc, by decide, by decide, rfl⟩ ?_ ?_)
    · rintro d ds α ⟨us, b, u, ed, hu, hp, b1, b2, rfl⟩
      cases us with
      | nil => cases ed
      | cons q us =>
        cases ed
        obtain ⟨⟨q1, q2, q3, q4, q5⟩, l⟩ := hu q (List.mem_cons_self ..)
        have hp' := List.pairwise_cons.mp hp
        have ro := ratio_ok q1 (Sm.of (m := 1000) (by omega)) q5
        have co := compare_ok (n := q.1) (d := q.2) (m := b.1) (e := b.2) (Sm.of q4) (Sm.of (m := 1000) (by omega)) (Sm.of b1) (Sm.of b2)
        have s1 : sg (q.1 * b.2 - b.1 * q.2) = 1 := if_pos (by omega)
        rw [s1] at co
        refine ⟨_, rfl, ON.seq (ON.iff (c := false) (by simp [ro, co, fLe]) (fun z => nomatch z) fun _ => .nx _ ?_)⟩
        exact .nx _ ⟨us, q, _, rfl, fun x hx => ⟨(hu x (List.mem_cons_of_mem _ hx)).1, hp'.1 x hx⟩, hp'.2, q4, by omega, rfl⟩
    · rintro α ⟨us, b, u, ed, hu, hp, b1, b2, rfl⟩
      simp
  refine Sat.eq (Sat.fD rfl ?_)
  refine ON.seq (ON.iff (c := false) (by simp [r]) (fun z => nomatch z) fun _ => .nx _ ?_)
  refine ON.seq (ON.for_ (ds := rs.map fun q => rq q.1 q.2) (fun ds α => (∀ d ∈ ds, ∃ q ∈ rs, d = rq q.1 q.2) ∧ ∃ u, α = [AV.dat (.tuple (rs.map fun q => rq q.1 q.2)), u]) (by simp) ⟨fun d hd => ?_, _, rfl⟩ ?_ ?_)
  · obtain ⟨q, hq, rfl⟩ := List.mem_map.mp hd
    exact ⟨q, hq, rfl⟩
  · rintro d ds α ⟨hd, u, rfl⟩
    obtain ⟨q, hq, rfl⟩ := hd d (List.mem_cons_self ..)
    obtain ⟨q1, q2, q3, q4, q5, q6⟩ := h q hq
    have ri := ratin_ok (lo := 0) (hi := 1000) q1 (by omega) (by omega) q5 (Sm.of (m := 0) (by decide)) (Sm.of (m := 1000) (by decide)) (by omega) q6
    exact ⟨_, rfl, ON.iff (c := false) (by simp [k_MOST_STRAIN, ri]) (fun z => nomatch z) fun _ => .nx _ ⟨fun x hx => hd x (List.mem_cons_of_mem _ hx), _, rfl⟩⟩
  · rintro α ⟨_, u, rfl⟩
    simp
/-! ### spans -/
theorem spans_ok {rs : List (Int × Int)} (h : ∀ q ∈ rs, 0 ≤ q.1 ∧ q.1 ≤ q.2 ∧ q.2 ≤ 6) (h1 : 1 ≤ rs.length) (h4 : rs.length ≤ 4) : f_spans_field [.tuple (rs.map fun q => .tuple [.int q.1, .int q.2])] = .ok (.bool true) := by
  obtain ⟨z, hz⟩ : ∃ z : Int, z = rs.length := ⟨_, rfl⟩
  have l1 : 1 ≤ z := by omega
  have l4 : z ≤ 4 := by omega
  refine Sat.eq (Sat.fD rfl ?_)
  refine ON.seq (ON.iff (c := false) (by simp [isi_tup, subB, dChain, fLe, ← hz, l1, l4, k_MOST_SPANS]) (fun z => nomatch z) fun _ => .nx _ ?_)
  refine ON.seq (ON.for_ (ds := rs.map fun q => .tuple [.int q.1, .int q.2]) (fun ds α => (∀ d ∈ ds, ∃ q ∈ rs, d = .tuple [.int q.1, .int q.2]) ∧ ∃ u, α = [AV.dat (.tuple (rs.map fun q => .tuple [.int q.1, .int q.2])), u]) (by simp) ⟨fun d hd => ?_, _, rfl⟩ ?_ ?_)
  · obtain ⟨q, hq, rfl⟩ := List.mem_map.mp hd
    exact ⟨q, hq, rfl⟩
  · rintro d ds α ⟨hd, u, rfl⟩
    obtain ⟨q, hq, rfl⟩ := hd d (List.mem_cons_self ..)
    obtain ⟨q1, q2, q3⟩ := h q hq
    have q4 : q.1 ≤ 6 := by omega
    refine ⟨_, rfl, ON.seq (ON.iff (c := false) (by simp [row2_ok, k_MOST_WORN, within_ok, q1, q4]) (fun z => nomatch z) fun _ => .nx _ ?_)⟩
    exact ON.iff (c := false) (by simp [at1, k_MOST_WORN, within_ok, q2, q3]) (fun z => nomatch z) fun _ => .nx _ ⟨fun x hx => hd x (List.mem_cons_of_mem _ hx), _, rfl⟩
  · rintro α ⟨_, u, rfl⟩
    simp
end Cr

/-! PR10: a field by its form. -/
namespace Cr
open PySem L2 DL Cm
theorem w_NW : ((("N" : Str) == "W") = false) := by decide +kernel
theorem w_NQ : ((("N" : Str) == "Q") = false) := by decide +kernel
theorem w_NA : ((("N" : Str) == "A") = false) := by decide +kernel
theorem w_NX : ((("N" : Str) == "X") = false) := by decide +kernel
theorem w_NL : ((("N" : Str) == "L") = false) := by decide +kernel
theorem w_NS : ((("N" : Str) == "S") = false) := by decide +kernel
theorem w_NR : ((("N" : Str) == "R") = false) := by decide +kernel
theorem w_NZ : ((("N" : Str) == "Z") = false) := by decide +kernel
theorem w_NP : ((("N" : Str) == "P") = false) := by decide +kernel
theorem w_NE : ((("N" : Str) == "E") = false) := by decide +kernel
theorem w_NG : ((("N" : Str) == "G") = false) := by decide +kernel
theorem w_N : ((("N" : Str) == "N") = true) := by decide +kernel
theorem w_WN : ((("W" : Str) == "N") = false) := by decide +kernel
theorem w_WQ : ((("W" : Str) == "Q") = false) := by decide +kernel
theorem w_WA : ((("W" : Str) == "A") = false) := by decide +kernel
theorem w_WX : ((("W" : Str) == "X") = false) := by decide +kernel
theorem w_WL : ((("W" : Str) == "L") = false) := by decide +kernel
theorem w_WS : ((("W" : Str) == "S") = false) := by decide +kernel
theorem w_WR : ((("W" : Str) == "R") = false) := by decide +kernel
theorem w_WZ : ((("W" : Str) == "Z") = false) := by decide +kernel
theorem w_WP : ((("W" : Str) == "P") = false) := by decide +kernel
theorem w_WE : ((("W" : Str) == "E") = false) := by decide +kernel
theorem w_WG : ((("W" : Str) == "G") = false) := by decide +kernel
theorem w_W : ((("W" : Str) == "W") = true) := by decide +kernel
theorem w_QN : ((("Q" : Str) == "N") = false) := by decide +kernel
theorem w_QW : ((("Q" : Str) == "W") = false) := by decide +kernel
theorem w_QA : ((("Q" : Str) == "A") = false) := by decide +kernel
theorem w_QX : ((("Q" : Str) == "X") = false) := by decide +kernel
theorem w_QL : ((("Q" : Str) == "L") = false) := by decide +kernel
theorem w_QS : ((("Q" : Str) == "S") = false) := by decide +kernel
theorem w_QR : ((("Q" : Str) == "R") = false) := by decide +kernel
theorem w_QZ : ((("Q" : Str) == "Z") = false) := by decide +kernel
theorem w_QP : ((("Q" : Str) == "P") = false) := by decide +kernel
theorem w_QE : ((("Q" : Str) == "E") = false) := by decide +kernel
theorem w_QG : ((("Q" : Str) == "G") = false) := by decide +kernel
theorem w_Q : ((("Q" : Str) == "Q") = true) := by decide +kernel
theorem w_AN : ((("A" : Str) == "N") = false) := by decide +kernel
theorem w_AW : ((("A" : Str) == "W") = false) := by decide +kernel
theorem w_AQ : ((("A" : Str) == "Q") = false) := by decide +kernel
theorem w_AX : ((("A" : Str) == "X") = false) := by decide +kernel
theorem w_AL : ((("A" : Str) == "L") = false) := by decide +kernel
theorem w_AS : ((("A" : Str) == "S") = false) := by decide +kernel
theorem w_AR : ((("A" : Str) == "R") = false) := by decide +kernel
theorem w_AZ : ((("A" : Str) == "Z") = false) := by decide +kernel
theorem w_AP : ((("A" : Str) == "P") = false) := by decide +kernel
theorem w_AE : ((("A" : Str) == "E") = false) := by decide +kernel
theorem w_AG : ((("A" : Str) == "G") = false) := by decide +kernel
theorem w_A : ((("A" : Str) == "A") = true) := by decide +kernel
theorem w_XN : ((("X" : Str) == "N") = false) := by decide +kernel
theorem w_XW : ((("X" : Str) == "W") = false) := by decide +kernel
theorem w_XQ : ((("X" : Str) == "Q") = false) := by decide +kernel
theorem w_XA : ((("X" : Str) == "A") = false) := by decide +kernel
theorem w_XL : ((("X" : Str) == "L") = false) := by decide +kernel
theorem w_XS : ((("X" : Str) == "S") = false) := by decide +kernel
theorem w_XR : ((("X" : Str) == "R") = false) := by decide +kernel
theorem w_XZ : ((("X" : Str) == "Z") = false) := by decide +kernel
theorem w_XP : ((("X" : Str) == "P") = false) := by decide +kernel
theorem w_XE : ((("X" : Str) == "E") = false) := by decide +kernel
theorem w_XG : ((("X" : Str) == "G") = false) := by decide +kernel
theorem w_X : ((("X" : Str) == "X") = true) := by decide +kernel
theorem w_LN : ((("L" : Str) == "N") = false) := by decide +kernel
theorem w_LW : ((("L" : Str) == "W") = false) := by decide +kernel
theorem w_LQ : ((("L" : Str) == "Q") = false) := by decide +kernel
theorem w_LA : ((("L" : Str) == "A") = false) := by decide +kernel
theorem w_LX : ((("L" : Str) == "X") = false) := by decide +kernel
theorem w_LS : ((("L" : Str) == "S") = false) := by decide +kernel
theorem w_LR : ((("L" : Str) == "R") = false) := by decide +kernel
theorem w_LZ : ((("L" : Str) == "Z") = false) := by decide +kernel
theorem w_LP : ((("L" : Str) == "P") = false) := by decide +kernel
theorem w_LE : ((("L" : Str) == "E") = false) := by decide +kernel
theorem w_LG : ((("L" : Str) == "G") = false) := by decide +kernel
theorem w_L : ((("L" : Str) == "L") = true) := by decide +kernel
theorem w_SN : ((("S" : Str) == "N") = false) := by decide +kernel
theorem w_SW : ((("S" : Str) == "W") = false) := by decide +kernel
theorem w_SQ : ((("S" : Str) == "Q") = false) := by decide +kernel
theorem w_SA : ((("S" : Str) == "A") = false) := by decide +kernel
theorem w_SX : ((("S" : Str) == "X") = false) := by decide +kernel
theorem w_SL : ((("S" : Str) == "L") = false) := by decide +kernel
theorem w_SR : ((("S" : Str) == "R") = false) := by decide +kernel
theorem w_SZ : ((("S" : Str) == "Z") = false) := by decide +kernel
theorem w_SP : ((("S" : Str) == "P") = false) := by decide +kernel
theorem w_SE : ((("S" : Str) == "E") = false) := by decide +kernel
theorem w_SG : ((("S" : Str) == "G") = false) := by decide +kernel
theorem w_S : ((("S" : Str) == "S") = true) := by decide +kernel
theorem w_RN : ((("R" : Str) == "N") = false) := by decide +kernel
theorem w_RW : ((("R" : Str) == "W") = false) := by decide +kernel
theorem w_RQ : ((("R" : Str) == "Q") = false) := by decide +kernel
theorem w_RA : ((("R" : Str) == "A") = false) := by decide +kernel
theorem w_RX : ((("R" : Str) == "X") = false) := by decide +kernel
theorem w_RL : ((("R" : Str) == "L") = false) := by decide +kernel
theorem w_RS : ((("R" : Str) == "S") = false) := by decide +kernel
theorem w_RZ : ((("R" : Str) == "Z") = false) := by decide +kernel
theorem w_RP : ((("R" : Str) == "P") = false) := by decide +kernel
theorem w_RE : ((("R" : Str) == "E") = false) := by decide +kernel
theorem w_RG : ((("R" : Str) == "G") = false) := by decide +kernel
theorem w_R : ((("R" : Str) == "R") = true) := by decide +kernel
theorem w_ZN : ((("Z" : Str) == "N") = false) := by decide +kernel
theorem w_ZW : ((("Z" : Str) == "W") = false) := by decide +kernel
theorem w_ZQ : ((("Z" : Str) == "Q") = false) := by decide +kernel
theorem w_ZA : ((("Z" : Str) == "A") = false) := by decide +kernel
theorem w_ZX : ((("Z" : Str) == "X") = false) := by decide +kernel
theorem w_ZL : ((("Z" : Str) == "L") = false) := by decide +kernel
theorem w_ZS : ((("Z" : Str) == "S") = false) := by decide +kernel
theorem w_ZR : ((("Z" : Str) == "R") = false) := by decide +kernel
theorem w_ZP : ((("Z" : Str) == "P") = false) := by decide +kernel
theorem w_ZE : ((("Z" : Str) == "E") = false) := by decide +kernel
theorem w_ZG : ((("Z" : Str) == "G") = false) := by decide +kernel
theorem w_Z : ((("Z" : Str) == "Z") = true) := by decide +kernel
theorem w_PN : ((("P" : Str) == "N") = false) := by decide +kernel
theorem w_PW : ((("P" : Str) == "W") = false) := by decide +kernel
theorem w_PQ : ((("P" : Str) == "Q") = false) := by decide +kernel
theorem w_PA : ((("P" : Str) == "A") = false) := by decide +kernel
theorem w_PX : ((("P" : Str) == "X") = false) := by decide +kernel
theorem w_PL : ((("P" : Str) == "L") = false) := by decide +kernel
theorem w_PS : ((("P" : Str) == "S") = false) := by decide +kernel
theorem w_PR : ((("P" : Str) == "R") = false) := by decide +kernel
theorem w_PZ : ((("P" : Str) == "Z") = false) := by decide +kernel
theorem w_PE : ((("P" : Str) == "E") = false) := by decide +kernel
theorem w_PG : ((("P" : Str) == "G") = false) := by decide +kernel
theorem w_P : ((("P" : Str) == "P") = true) := by decide +kernel
theorem w_EN : ((("E" : Str) == "N") = false) := by decide +kernel
theorem w_EW : ((("E" : Str) == "W") = false) := by decide +kernel
theorem w_EQ : ((("E" : Str) == "Q") = false) := by decide +kernel
theorem w_EA : ((("E" : Str) == "A") = false) := by decide +kernel
theorem w_EX : ((("E" : Str) == "X") = false) := by decide +kernel
theorem w_EL : ((("E" : Str) == "L") = false) := by decide +kernel
theorem w_ES : ((("E" : Str) == "S") = false) := by decide +kernel
theorem w_ER : ((("E" : Str) == "R") = false) := by decide +kernel
theorem w_EZ : ((("E" : Str) == "Z") = false) := by decide +kernel
theorem w_EP : ((("E" : Str) == "P") = false) := by decide +kernel
theorem w_EG : ((("E" : Str) == "G") = false) := by decide +kernel
theorem w_E : ((("E" : Str) == "E") = true) := by decide +kernel
theorem w_GN : ((("G" : Str) == "N") = false) := by decide +kernel
theorem w_GW : ((("G" : Str) == "W") = false) := by decide +kernel
theorem w_GQ : ((("G" : Str) == "Q") = false) := by decide +kernel
theorem w_GA : ((("G" : Str) == "A") = false) := by decide +kernel
theorem w_GX : ((("G" : Str) == "X") = false) := by decide +kernel
theorem w_GL : ((("G" : Str) == "L") = false) := by decide +kernel
theorem w_GS : ((("G" : Str) == "S") = false) := by decide +kernel
theorem w_GR : ((("G" : Str) == "R") = false) := by decide +kernel
theorem w_GZ : ((("G" : Str) == "Z") = false) := by decide +kernel
theorem w_GP : ((("G" : Str) == "P") = false) := by decide +kernel
theorem w_GE : ((("G" : Str) == "E") = false) := by decide +kernel
theorem w_G : ((("G" : Str) == "G") = true) := by decide +kernel
theorem w_VN : ((("V" : Str) == "N") = false) := by decide +kernel
theorem w_VW : ((("V" : Str) == "W") = false) := by decide +kernel
theorem w_VQ : ((("V" : Str) == "Q") = false) := by decide +kernel
theorem w_VA : ((("V" : Str) == "A") = false) := by decide +kernel
theorem w_VX : ((("V" : Str) == "X") = false) := by decide +kernel
theorem w_VL : ((("V" : Str) == "L") = false) := by decide +kernel
theorem w_VS : ((("V" : Str) == "S") = false) := by decide +kernel
theorem w_VR : ((("V" : Str) == "R") = false) := by decide +kernel
theorem w_VZ : ((("V" : Str) == "Z") = false) := by decide +kernel
theorem w_VP : ((("V" : Str) == "P") = false) := by decide +kernel
theorem w_VE : ((("V" : Str) == "E") = false) := by decide +kernel
theorem w_VG : ((("V" : Str) == "G") = false) := by decide +kernel
theorem fld_N {s : Str} (h : Nam s) : f_is_field [.tuple [.str "N"], .str s] = .ok (.bool true) := by
  have e0 : ∀ r : List D, fIx (.tuple (PyData.str "N" :: r)) (.int 0) = some (.str "N") := fun r => by simp
  rw [f_is_field, fD_ap (by rfl)]
  simp only [b_is_field, sSeq_ap, sSet_ap, sD_ap, d2_ap, dats_cons, dats_nil, dt_d, dt_u, dV_z, dV_s, dC_ap, Res.bind_ok, e0, Res.of_some, ofR_ok, List.map_cons, List.map_nil, List.cons_append, List.nil_append, List.replicate, Nat.reduceSub, List.set, then_nx, sIf_ap, tV_ap, fEq_str, w_N, asB_ap, if_true, if_false, Bool.false_eq_true, sNil_ap, sRet_ap, dCall_ap, aCons_ap, aNil_ap, dAnd_ap, then_rt, fin_rt, name_ok h]
theorem fld_W {lo hi n : Int} (h1 : lo ≤ n) (h2 : n ≤ hi) : f_is_field [.tuple [.str "W", .int lo, .int hi], .int n] = .ok (.bool true) := by
  have e0 : ∀ r : List D, fIx (.tuple (PyData.str "W" :: r)) (.int 0) = some (.str "W") := fun r => by simp
  rw [f_is_field, fD_ap (by rfl)]
  simp only [b_is_field, sSeq_ap, sSet_ap, sD_ap, d2_ap, dats_cons, dats_nil, dt_d, dt_u, dV_z, dV_s, dC_ap, Res.bind_ok, e0, Res.of_some, ofR_ok, List.map_cons, List.map_nil, List.cons_append, List.nil_append, List.replicate, Nat.reduceSub, List.set, then_nx, sIf_ap, tV_ap, fEq_str, w_WN, w_W, asB_ap, if_true, if_false, Bool.false_eq_true, sNil_ap, sRet_ap, dCall_ap, aCons_ap, aNil_ap, dAnd_ap, then_rt, fin_rt, fIx_t, at1, at2, within_ok, h1, h2, decide_true, Bool.and_self]
theorem fld_Q {lo hi n d : Int} (h : f_ratio_within [.int lo, .int hi, rq n d] = .ok (.bool true)) : f_is_field [.tuple [.str "Q", .int lo, .int hi], rq n d] = .ok (.bool true) := by
  have e0 : ∀ r : List D, fIx (.tuple (PyData.str "Q" :: r)) (.int 0) = some (.str "Q") := fun r => by simp
  rw [f_is_field, fD_ap (by rfl)]
  simp only [b_is_field, sSeq_ap, sSet_ap, sD_ap, d2_ap, dats_cons, dats_nil, dt_d, dt_u, dV_z, dV_s, dC_ap, Res.bind_ok, e0, Res.of_some, ofR_ok, List.map_cons, List.map_nil, List.cons_append, List.nil_append, List.replicate, Nat.reduceSub, List.set, then_nx, sIf_ap, tV_ap, fEq_str, w_QN, w_QW, w_Q, asB_ap, if_true, if_false, Bool.false_eq_true, sNil_ap, sRet_ap, dCall_ap, aCons_ap, aNil_ap, dAnd_ap, then_rt, fin_rt, fIx_t, at1, at2, h]
theorem fld_A {n d : Int} (h : f_ratio_within [.int 0, .int 100000, rq n d] = .ok (.bool true)) (k : fNe (rq n d) (rq 0 1) = some (.bool true)) : f_is_field [.tuple [.str "A"], rq n d] = .ok (.bool true) := by
  have e0 : ∀ r : List D, fIx (.tuple (PyData.str "A" :: r)) (.int 0) = some (.str "A") := fun r => by simp
  rw [f_is_field, fD_ap (by rfl)]
  simp only [b_is_field, sSeq_ap, sSet_ap, sD_ap, d2_ap, dats_cons, dats_nil, dt_d, dt_u, dV_z, dV_s, dC_ap, Res.bind_ok, e0, Res.of_some, ofR_ok, List.map_cons, List.map_nil, List.cons_append, List.nil_append, List.replicate, Nat.reduceSub, List.set, then_nx, sIf_ap, tV_ap, fEq_str, w_AN, w_AW, w_AQ, w_A, asB_ap, if_true, if_false, Bool.false_eq_true, sNil_ap, sRet_ap, dCall_ap, aCons_ap, aNil_ap, dAnd_ap, then_rt, fin_rt, k_MOST_RATIO, h, show k_ZERO = rq 0 1 from rfl, k]
theorem fld_L {lo hi : Int} {ts : List Str} (h : f_names_field [.int lo, .int hi, .tuple (ts.map PyData.str)] = .ok (.bool true)) : f_is_field [.tuple [.str "L", .int lo, .int hi], .tuple (ts.map PyData.str)] = .ok (.bool true) := by
  have e0 : ∀ r : List D, fIx (.tuple (PyData.str "L" :: r)) (.int 0) = some (.str "L") := fun r => by simp
  rw [f_is_field, fD_ap (by rfl)]
  simp only [b_is_field, sSeq_ap, sSet_ap, sD_ap, d2_ap, dats_cons, dats_nil, dt_d, dt_u, dV_z, dV_s, dC_ap, Res.bind_ok, e0, Res.of_some, ofR_ok, List.map_cons, List.map_nil, List.cons_append, List.nil_append, List.replicate, Nat.reduceSub, List.set, then_nx, sIf_ap, tV_ap, fEq_str, w_LN, w_LW, w_LQ, w_LA, w_LX, w_L, asB_ap, if_true, if_false, Bool.false_eq_true, sNil_ap, sRet_ap, dCall_ap, aCons_ap, aNil_ap, dAnd_ap, then_rt, fin_rt, fIx_t, at1, at2, h]
theorem fld_S {lo hi : Int} {ts : List Str} (h : f_names_field [.int lo, .int hi, .tuple (ts.map PyData.str)] = .ok (.bool true)) (k : f_ascending_names [.tuple (ts.map PyData.str)] = .ok (.bool true)) : f_is_field [.tuple [.str "S", .int lo, .int hi], .tuple (ts.map PyData.str)] = .ok (.bool true) := by
  have e0 : ∀ r : List D, fIx (.tuple (PyData.str "S" :: r)) (.int 0) = some (.str "S") := fun r => by simp
  rw [f_is_field, fD_ap (by rfl)]
  simp only [b_is_field, sSeq_ap, sSet_ap, sD_ap, d2_ap, dats_cons, dats_nil, dt_d, dt_u, dV_z, dV_s, dC_ap, Res.bind_ok, e0, Res.of_some, ofR_ok, List.map_cons, List.map_nil, List.cons_append, List.nil_append, List.replicate, Nat.reduceSub, List.set, then_nx, sIf_ap, tV_ap, fEq_str, w_SN, w_SW, w_SQ, w_SA, w_SX, w_SL, w_S, asB_ap, if_true, if_false, Bool.false_eq_true, sNil_ap, sRet_ap, dCall_ap, aCons_ap, aNil_ap, dAnd_ap, then_rt, fin_rt, fIx_t, at1, at2, h, k]
theorem fld_R {d : D} (h : f_rule_field [d] = .ok (.bool true)) : f_is_field [.tuple [.str "R"], d] = .ok (.bool true) := by
  have e0 : ∀ r : List D, fIx (.tuple (PyData.str "R" :: r)) (.int 0) = some (.str "R") := fun r => by simp
  rw [f_is_field, fD_ap (by rfl)]
  simp only [b_is_field, sSeq_ap, sSet_ap, sD_ap, d2_ap, dats_cons, dats_nil, dt_d, dt_u, dV_z, dV_s, dC_ap, Res.bind_ok, e0, Res.of_some, ofR_ok, List.map_cons, List.map_nil, List.cons_append, List.nil_append, List.replicate, Nat.reduceSub, List.set, then_nx, sIf_ap, tV_ap, fEq_str, w_RN, w_RW, w_RQ, w_RA, w_RX, w_RL, w_RS, w_R, asB_ap, if_true, if_false, Bool.false_eq_true, sNil_ap, sRet_ap, dCall_ap, aCons_ap, aNil_ap, dAnd_ap, then_rt, fin_rt, h]
theorem fld_Z {d : D} (h : f_spans_field [d] = .ok (.bool true)) : f_is_field [.tuple [.str "Z"], d] = .ok (.bool true) := by
  have e0 : ∀ r : List D, fIx (.tuple (PyData.str "Z" :: r)) (.int 0) = some (.str "Z") := fun r => by simp
  rw [f_is_field, fD_ap (by rfl)]
  simp only [b_is_field, sSeq_ap, sSet_ap, sD_ap, d2_ap, dats_cons, dats_nil, dt_d, dt_u, dV_z, dV_s, dC_ap, Res.bind_ok, e0, Res.of_some, ofR_ok, List.map_cons, List.map_nil, List.cons_append, List.nil_append, List.replicate, Nat.reduceSub, List.set, then_nx, sIf_ap, tV_ap, fEq_str, w_ZN, w_ZW, w_ZQ, w_ZA, w_ZX, w_ZL, w_ZS, w_ZR, w_Z, asB_ap, if_true, if_false, Bool.false_eq_true, sNil_ap, sRet_ap, dCall_ap, aCons_ap, aNil_ap, dAnd_ap, then_rt, fin_rt, h]
end Cr

/-! PR11: the forms of shapes and of words. -/
namespace Cr
open PySem L2 DL Cm
theorem fld_P {most : Int} {d : D} (h : f_piece_field [.int most, d] = .ok (.bool true)) : f_is_field [.tuple [.str "P", .int most], d] = .ok (.bool true) := by
  have e0 : ∀ r : List D, fIx (.tuple (PyData.str "P" :: r)) (.int 0) = some (.str "P") := fun r => by simp
  have s : f_shape_field [.tuple [.str "P", .int most], d] = .ok (.bool true) := by
    rw [f_shape_field, fD_ap (by rfl)]
    simp only [b_shape_field, sSeq_ap, sSet_ap, sD_ap, d2_ap, dats_cons, dats_nil, dt_d, dt_u, dV_z, dV_s, dC_ap, Res.bind_ok, e0, Res.of_some, ofR_ok, List.map_cons, List.map_nil, List.cons_append, List.nil_append, List.replicate, Nat.reduceSub, List.set, then_nx, sIf_ap, tV_ap, fEq_str, asB_ap, if_true, if_false, Bool.false_eq_true, sNil_ap, sRet_ap, dCall_ap, aCons_ap, aNil_ap, dAnd_ap, then_rt, fin_rt, w_P, fIx_t, at1, h]
  rw [f_is_field, fD_ap (by rfl)]
  simp only [b_is_field, sSeq_ap, sSet_ap, sD_ap, d2_ap, dats_cons, dats_nil, dt_d, dt_u, dV_z, dV_s, dC_ap, Res.bind_ok, e0, Res.of_some, ofR_ok, List.map_cons, List.map_nil, List.cons_append, List.nil_append, List.replicate, Nat.reduceSub, List.set, then_nx, sIf_ap, tV_ap, fEq_str, asB_ap, if_true, if_false, Bool.false_eq_true, sNil_ap, sRet_ap, dCall_ap, aCons_ap, aNil_ap, dAnd_ap, then_rt, fin_rt, w_PN, w_PW, w_PQ, w_PA, w_PX, w_PL, w_PS, w_PR, w_PZ, s]
theorem fld_E {d : D} (h : f_line_field [d] = .ok (.bool true)) : f_is_field [.tuple [.str "E"], d] = .ok (.bool true) := by
  have e0 : ∀ r : List D, fIx (.tuple (PyData.str "E" :: r)) (.int 0) = some (.str "E") := fun r => by simp
  have s : f_shape_field [.tuple [.str "E"], d] = .ok (.bool true) := by
    rw [f_shape_field, fD_ap (by rfl)]
    simp only [b_shape_field, sSeq_ap, sSet_ap, sD_ap, d2_ap, dats_cons, dats_nil, dt_d, dt_u, dV_z, dV_s, dC_ap, Res.bind_ok, e0, Res.of_some, ofR_ok, List.map_cons, List.map_nil, List.cons_append, List.nil_append, List.replicate, Nat.reduceSub, List.set, then_nx, sIf_ap, tV_ap, fEq_str, asB_ap, if_true, if_false, Bool.false_eq_true, sNil_ap, sRet_ap, dCall_ap, aCons_ap, aNil_ap, dAnd_ap, then_rt, fin_rt, w_EP, w_E, h]
  rw [f_is_field, fD_ap (by rfl)]
  simp only [b_is_field, sSeq_ap, sSet_ap, sD_ap, d2_ap, dats_cons, dats_nil, dt_d, dt_u, dV_z, dV_s, dC_ap, Res.bind_ok, e0, Res.of_some, ofR_ok, List.map_cons, List.map_nil, List.cons_append, List.nil_append, List.replicate, Nat.reduceSub, List.set, then_nx, sIf_ap, tV_ap, fEq_str, asB_ap, if_true, if_false, Bool.false_eq_true, sNil_ap, sRet_ap, dCall_ap, aCons_ap, aNil_ap, dAnd_ap, then_rt, fin_rt, w_EN, w_EW, w_EQ, w_EA, w_EX, w_EL, w_ES, w_ER, w_EZ, s]
theorem fld_G {d : D} (h : f_grain_field [d] = .ok (.bool true)) : f_is_field [.tuple [.str "G"], d] = .ok (.bool true) := by
  have e0 : ∀ r : List D, fIx (.tuple (PyData.str "G" :: r)) (.int 0) = some (.str "G") := fun r => by simp
  have s : f_shape_field [.tuple [.str "G"], d] = .ok (.bool true) := by
    rw [f_shape_field, fD_ap (by rfl)]
    simp only [b_shape_field, sSeq_ap, sSet_ap, sD_ap, d2_ap, dats_cons, dats_nil, dt_d, dt_u, dV_z, dV_s, dC_ap, Res.bind_ok, e0, Res.of_some, ofR_ok, List.map_cons, List.map_nil, List.cons_append, List.nil_append, List.replicate, Nat.reduceSub, List.set, then_nx, sIf_ap, tV_ap, fEq_str, asB_ap, if_true, if_false, Bool.false_eq_true, sNil_ap, sRet_ap, dCall_ap, aCons_ap, aNil_ap, dAnd_ap, then_rt, fin_rt, w_GP, w_GE, w_G, h]
  rw [f_is_field, fD_ap (by rfl)]
  simp only [b_is_field, sSeq_ap, sSet_ap, sD_ap, d2_ap, dats_cons, dats_nil, dt_d, dt_u, dV_z, dV_s, dC_ap, Res.bind_ok, e0, Res.of_some, ofR_ok, List.map_cons, List.map_nil, List.cons_append, List.nil_append, List.replicate, Nat.reduceSub, List.set, then_nx, sIf_ap, tV_ap, fEq_str, asB_ap, if_true, if_false, Bool.false_eq_true, sNil_ap, sRet_ap, dCall_ap, aCons_ap, aNil_ap, dAnd_ap, then_rt, fin_rt, w_GN, w_GW, w_GQ, w_GA, w_GX, w_GL, w_GS, w_GR, w_GZ, s]
theorem fld_V {d : D} (h : f_is_pull [d] = .ok (.bool true)) : f_is_field [.tuple [.str "V"], d] = .ok (.bool true) := by
  have e0 : ∀ r : List D, fIx (.tuple (PyData.str "V" :: r)) (.int 0) = some (.str "V") := fun r => by simp
  have s : f_shape_field [.tuple [.str "V"], d] = .ok (.bool true) := by
    rw [f_shape_field, fD_ap (by rfl)]
    simp only [b_shape_field, sSeq_ap, sSet_ap, sD_ap, d2_ap, dats_cons, dats_nil, dt_d, dt_u, dV_z, dV_s, dC_ap, Res.bind_ok, e0, Res.of_some, ofR_ok, List.map_cons, List.map_nil, List.cons_append, List.nil_append, List.replicate, Nat.reduceSub, List.set, then_nx, sIf_ap, tV_ap, fEq_str, asB_ap, if_true, if_false, Bool.false_eq_true, sNil_ap, sRet_ap, dCall_ap, aCons_ap, aNil_ap, dAnd_ap, then_rt, fin_rt, w_VP, w_VE, w_VG, h]
  rw [f_is_field, fD_ap (by rfl)]
  simp only [b_is_field, sSeq_ap, sSet_ap, sD_ap, d2_ap, dats_cons, dats_nil, dt_d, dt_u, dV_z, dV_s, dC_ap, Res.bind_ok, e0, Res.of_some, ofR_ok, List.map_cons, List.map_nil, List.cons_append, List.nil_append, List.replicate, Nat.reduceSub, List.set, then_nx, sIf_ap, tV_ap, fEq_str, asB_ap, if_true, if_false, Bool.false_eq_true, sNil_ap, sRet_ap, dCall_ap, aCons_ap, aNil_ap, dAnd_ap, then_rt, fin_rt, w_VN, w_VW, w_VQ, w_VA, w_VX, w_VL, w_VS, w_VR, w_VZ, s]
theorem string_ok (s : Str) : f_is_string [.str s] = .ok (.bool true) := by
  rw [f_is_string, fD_ap (by rfl)]
  simp [b_is_string, isi_str, subB]
theorem fld_X {s : Str} {ts : List Str} (hs : PyData.strOk s = true) (ht : ∀ t ∈ ts, PyData.strOk t = true) (h : s ∈ ts) : f_is_field [.tuple (.str "X" :: ts.map PyData.str), .str s] = .ok (.bool true) := by
  have e0 : ∀ r : List D, fIx (.tuple (PyData.str "X" :: r)) (.int 0) = some (.str "X") := fun r => by simp
  have cu : cutD (PyData.str "X" :: ts.map PyData.str) (some 1) none = ts.map PyData.str := by
    unfold cutD
    have e : HT.sIx (PyData.str "X" :: ts.map PyData.str).length 0 (some 1) = 1 := by
      rw [show (1 : Int) = ((1 : Nat) : Int) from rfl, HT.sIx_nat]
      simp
    rw [e, HT.sIx_none]
    simp
    exact List.take_of_length_le (by simp)
  have sl : fSl (.tuple (PyData.str "X" :: ts.map PyData.str)) (some 1) none = some (.tuple (ts.map PyData.str)) := by rw [fSl_t, cu]
  have pl : ∀ t : Str, PyData.strOk t = true → Pl 1 (.str t) = true := fun t ht => by rw [Pl_str]; exact ht
  have sh := shapedL (n := 1) (ds := ts.map PyData.str) (fun d hd => by
    obtain ⟨t, hm, rfl⟩ := List.mem_map.mp hd
    exact pl t (ht t hm)) (by decide)
  have ein : fIn (.str s) (.tuple (ts.map PyData.str)) = some (.bool true) := by
    have e : inD (.str s) (.tuple (ts.map PyData.str)) = some ((ts.map PyData.str).any fun w => PyData.eqv w (.str s)) := if_pos ⟨Pl.shaped (pl s hs) (by decide), sh.2⟩
    have f : ((ts.map PyData.str).any fun w => PyData.eqv w (.str s)) = true := List.any_eq_true.mpr ⟨.str s, List.mem_map.mpr ⟨s, h, rfl⟩, by simp [PyData.eqv]⟩
    unfold fIn
    rw [e, f]
    rfl
  rw [f_is_field, fD_ap (by rfl)]
  simp only [b_is_field, sSeq_ap, sSet_ap, sD_ap, d2_ap, dats_cons, dats_nil, dt_d, dt_u, dV_z, dV_s, dC_ap, Res.bind_ok, e0, Res.of_some, ofR_ok, List.map_cons, List.map_nil, List.cons_append, List.nil_append, List.replicate, Nat.reduceSub, List.set, then_nx, sIf_ap, tV_ap, fEq_str, asB_ap, if_true, if_false, Bool.false_eq_true, sNil_ap, sRet_ap, dCall_ap, aCons_ap, aNil_ap, dAnd_ap, then_rt, fin_rt, w_XN, w_XW, w_XQ, w_XA, w_X, string_ok, dSl_ap, pSome_ap, pNone_ap, asI_ap, sl, ein]
/-- a row: its kind's forms, its values -/
theorem book_row_ok {kind name : Str} {fs vs : List D} (hk : fIn (.str kind) k_KIND_NAMES = some (.bool true)) (hn : Nam name) (hf : fDix k_FIELDS (.str kind) = some (.tuple fs)) (hl : vs.length = fs.length) (hv : ∀ d ∈ pairUp fs vs, ∃ f v, d = .tuple [f, v] ∧ f_is_field [f, v] = .ok (.bool true))
    (hr : f_row_fits [.tuple (.str kind :: .str name :: vs)] = .ok (.bool true)) (hm : vs.length < 1000) : f_is_book_row [.tuple (.str kind :: .str name :: vs)] = .ok (.bool true) := by
  have nk : fNotIn (.str kind) k_KIND_NAMES = some (.bool false) := by
    unfold fIn at hk
    unfold fNotIn
    cases e : inD (.str kind) k_KIND_NAMES with
    | none => rw [e] at hk; cases hk
    | some b =>
      rw [e] at hk
      cases hk
      rfl
  have e0 : fIx (.tuple (.str kind :: .str name :: vs)) (.int 0) = some (.str kind) := by simp
  have e1 : fIx (.tuple (.str kind :: .str name :: vs)) (.int 1) = some (.str name) := by rw [fIx_t, at1]
  obtain ⟨z, hz⟩ : ∃ z : Int, z = ((PyData.str kind :: .str name :: vs).length : Nat) := ⟨_, rfl⟩
  have l2 : ¬ z < 2 := by simp at hz; omega
  have len : fLen [.tuple (.str kind :: .str name :: vs)] = some (.int z) := by rw [fLen_t, ← hz]
  have lenf : fLen [.tuple fs] = some (.int (z - 2)) := by
    rw [fLen_t, ← hl]
    simp at hz
    rw [show z - 2 = (vs.length : Int) by omega]
  have cu : fSl (.tuple (PyData.str kind :: .str name :: vs)) (some 2) none = some (.tuple vs) := by
    rw [fSl_t]
    unfold cutD
    have e : HT.sIx (PyData.str kind :: .str name :: vs).length 0 (some 2) = 2 := by
      rw [show (2 : Int) = ((2 : Nat) : Int) from rfl, HT.sIx_nat]
      simp
    rw [e, HT.sIx_none]
    simp
  refine Sat.eq (Sat.fD rfl ?_)
  refine ON.seq (ON.iff (c := false) (by simp only [sD_ap, dats_cons, dats_nil, dt_d, dt_u, DL.tOr_ap, DL.tNot_ap, tV_ap, List.map_cons, List.map_nil, List.cons_append, List.nil_append, isi_tup _ _ _ _ (dV_z _ _), d2_ap, dN_ap, aCons_ap, aNil_ap, dC_ap, dV_z, Res.bind_ok, Res.of_some, len, fLt_int, asB_ap]; simp [subB, l2]) (fun z => nomatch z) fun _ => .nx _ ?_)
  refine ON.seq (ON.iff (c := false) (by simp [at1, string_ok, nk, name_ok hn]) (fun z => nomatch z) fun _ => .nx _ ?_)
  refine ON.seq ?_
  simp [hf]
  refine ON.seq (ON.iff (c := false) (by simp [← hl]; omega) (fun z => nomatch z) fun _ => .nx _ ?_)
  refine ON.seq (ON.for_ (ds := pairUp fs vs) (fun ds α => (∀ d ∈ ds, ∃ f v, d = .tuple [f, v] ∧ f_is_field [f, v] = .ok (.bool true)) ∧ ∃ u w, α = [AV.dat (.tuple (.str kind :: .str name :: vs)), .dat (.tuple fs), u, w]) (by simp only [DL.iZip, dats_cons, dats_nil, dt_d, dV_z, dV_s, Res.bind_ok, dSl_ap, pSome_ap, pNone_ap, dC_ap, asI_ap, Res.of_some, cu]) ⟨hv, _, _, rfl⟩ ?_ ?_)
  · rintro d ds α ⟨hd, u, w, rfl⟩
    obtain ⟨f, v, rfl, e⟩ := hd d (List.mem_cons_self ..)
    refine ⟨_, rfl, ON.iff (c := false) (by simp [e]) (fun z => nomatch z) fun _ => .nx _ ⟨fun x hx => hd x (List.mem_cons_of_mem _ hx), _, _, rfl⟩⟩
  · rintro α ⟨_, u, w, rfl⟩
    simp [hr]
end Cr

/-! PR12: the drawn names are names. -/
namespace Cr
open PySem L2 DL Cm
/-- a name's beginning -/
structure Nm1 (s : Str) : Prop where
  one : ∃ c, s.cps.toList[0]? = some c ∧ 97 ≤ c ∧ c ≤ 122
  all : ∀ c ∈ s.cps.toList, (97 ≤ c ∧ c ≤ 122) ∨ (48 ≤ c ∧ c ≤ 57)
theorem ends2_ok : ∀ s ∈ ends, s.cps.size ≤ 2 ∧ ∀ c ∈ s.cps.toList, (97 ≤ c ∧ c ≤ 122) ∨ (48 ≤ c ∧ c ≤ 57) := by decide +kernel
theorem nam_of {s : Str} {k : Nat} (h : Nm1 s) (hl : s.cps.size ≤ 3) (hk : k < 6) : Nam (s ++ ⟨#[112 + k]⟩) := by
  refine ⟨by rw [app_cps]; simp, by rw [app_cps]; simp; omega, fun c hc => ?_, ?_⟩
  · rw [app_cps] at hc
    simp at hc
    rcases hc with hc | rfl
    · exact h.all c (by simpa using hc)
    · exact .inl (by omega)
  · obtain ⟨c, hc, c1⟩ := h.one
    refine ⟨c, ?_, c1⟩
    rw [app_cps]
    have := (List.getElem?_eq_some_iff.mp hc).1
    simp only [Array.toList_append]
    rw [List.getElem?_append_left this]
    exact hc
theorem dname_ok (n : Int) : ∃ s : Str, f__law_name [.int n] = .ok (.str s) ∧ s.cps.size ≤ 3 ∧ Nm1 s := by
  suffices h : Sat (fun d => ∃ s : Str, d = .str s ∧ s.cps.size ≤ 3 ∧ Nm1 s) (f__law_name [.int n]) by
    obtain ⟨_, e, s, rfl, h⟩ := h
    exact ⟨s, e, h⟩
  refine Sat.fD rfl (ON.seq ?_)
  obtain ⟨c, ec, mc⟩ := atI_in ("abcdefghijklmnopqrstuvwxyz" : Str).cps.toList (i := n % 26) (by omega) (by rw [abc_cps]; simp; omega)
  have hc : 97 ≤ c ∧ c ≤ 122 := by
    rw [abc_cps] at mc
    simp at mc
    omega
  obtain ⟨w, ew, mw⟩ := atI_in (ends.map PyData.str) (i := n / 26 % 4) (by omega) (by simp [ends]; omega)
  obtain ⟨t, mt, rfl⟩ := List.mem_map.mp mw
  obtain ⟨t1, t2⟩ := ends2_ok t mt
  have ew' : atI [PyData.str "", .str "x", .str "7", .str "q0"] (n / 26 % 4) = some (.str t) := ew
  have ex : fIx (.str "abcdefghijklmnopqrstuvwxyz") (.int (n % 26)) = some (.str ⟨#[c]⟩) := by
    rw [fIx_str (by rw [abc_size]; decide), ec]
    rfl
  have ea : fAdd (.str ⟨#[c]⟩) (.str t) = some (.str (⟨#[c]⟩ ++ t)) := fAdd_str (by simp; omega)
  simp [fMod_pos, fDiv_pos, ex, ew', ea]
  refine ⟨?_, ⟨c, by rw [app_cps]; simp, hc⟩, fun x hx => ?_⟩
  rotate_left
  · rw [app_cps] at hx
    simp at hx
    rcases hx with rfl | hx
    · exact .inl hc
    · exact t2 x (by simpa using hx)
  rw [app_cps]
  simp
  omega
theorem dnames_ok (xs : List Int) (h : 6 ≤ xs.length) : ∃ s0 s1 s2 s3 s4 s5 : Str, f__law_names [.list (xs.map PyData.int)] = .ok (.list [.str s0, .str s1, .str s2, .str s3, .str s4, .str s5]) ∧ (∀ s ∈ [s0, s1, s2, s3, s4, s5], Nam s) ∧ [s0, s1, s2, s3, s4, s5].Nodup := by
  have each : ∀ k : Nat, k < 6 → ∃ s : Str, cmD (.nm 1) yesT (d2 fAdd (dCall f__law_name (aCons (d2 fIx (dV 0) (dV 1)) aNil)) (d2 fIx (dC (.str "pqrstu")) (dV 1))) [some (.list (xs.map PyData.int)), none] (.int k) = .ok (some (.str s)) ∧ Nam s ∧ s.cps.toList.getLast? = some (112 + k) := fun k hk => by
    obtain ⟨s, es, s1, s2⟩ := dname_ok (xs[k]'(by omega))
    have e1 : atI (xs.map PyData.int) (k : Int) = some (.int (xs[k]'(by omega))) := by rw [atI_lt _ k (by simp; omega), List.getElem_map]
    have e2 : fIx (.str "pqrstu") (.int (k : Int)) = some (.str ⟨#[112 + k]⟩) := by
      rw [fIx_str (by rw [pqr_size]; decide), pqr_cps, atI_lt _ k (by simp; omega)]
      simp
    have ea : fAdd (.str s) (.str ⟨#[112 + k]⟩) = some (.str (s ++ ⟨#[112 + k]⟩)) := fAdd_str (by simp; omega)
    refine ⟨s ++ ⟨#[112 + k]⟩, ?_, nam_of s2 s1 (by omega), ?_⟩
    · simp [cmD, e1, e2, es, ea]
    · rw [app_cps]
      simp
  obtain ⟨s0, a0, b0, c0⟩ := each 0 (by decide)
  obtain ⟨s1, a1, b1, c1⟩ := each 1 (by decide)
  obtain ⟨s2, a2, b2, c2⟩ := each 2 (by decide)
  obtain ⟨s3, a3, b3, c3⟩ := each 3 (by decide)
  obtain ⟨s4, a4, b4, c4⟩ := each 4 (by decide)
  obtain ⟨s5, a5, b5, c5⟩ := each 5 (by decide)
  clear each
  refine ⟨s0, s1, s2, s3, s4, s5, ?_, by simp [*], ?_⟩
  · rw [f__law_names, fD_ap (by rfl)]
    have er := iRangeL (a := dC (.int 6)) (β := [some (.list (xs.map PyData.int)), none]) (n := 6) rfl (by decide) (by decide)
    have el : (List.range (6 : Int).toNat).map (fun i : Nat => PyData.int i) = [.int (0 : Nat), .int (1 : Nat), .int (2 : Nat), .int (3 : Nat), .int (4 : Nat), .int (5 : Nat)] := rfl
    rw [el] at er
    have ec : lcD (cmD (.nm 1) yesT (d2 fAdd (dCall f__law_name (aCons (d2 fIx (dV 0) (dV 1)) aNil)) (d2 fIx (dC (.str "pqrstu")) (dV 1))) [some (.list (xs.map PyData.int)), none]) [.int (0 : Nat), .int (1 : Nat), .int (2 : Nat), .int (3 : Nat), .int (4 : Nat), .int (5 : Nat)] = .ok [.str s0, .str s1, .str s2, .str s3, .str s4, .str s5] := by
      rw [lcD, a0, lcD, a1, lcD, a2, lcD, a3, lcD, a4, lcD, a5]
      rfl
    simp only [b__law_names, sRet_ap, sD_ap, dFz_ap, dLc_ap, List.map_cons, List.map_nil, List.cons_append, List.nil_append, List.replicate, dats_cons, dats_nil, dt_d, dt_u, er, Res.bind_ok, wipeB_cons, wipeB_nil, List.set, ec, Nat.reduceSub]
    simp
  · have ne : ∀ {a b : Str} {i j : Nat}, a.cps.toList.getLast? = some (112 + i) → b.cps.toList.getLast? = some (112 + j) → i ≠ j → a ≠ b := fun h1 h2 h3 e => by
      rw [e, h2] at h1
      simp at h1
      omega
    simp only [List.nodup_cons, List.mem_cons, not_or, List.not_mem_nil, not_false_eq_true, List.nodup_nil, and_true]
    refine ⟨⟨ne c0 c1 (by decide), ne c0 c2 (by decide), ne c0 c3 (by decide), ne c0 c4 (by decide), ne c0 c5 (by decide)⟩, ⟨ne c1 c2 (by decide), ne c1 c3 (by decide), ne c1 c4 (by decide), ne c1 c5 (by decide)⟩, ⟨ne c2 c3 (by decide), ne c2 c4 (by decide), ne c2 c5 (by decide)⟩, ⟨ne c3 c4 (by decide), ne c3 c5 (by decide)⟩, ne c4 c5 (by decide)⟩
end Cr

/-! PR13: each kind's forms. -/
namespace Cr
open PySem L2 DL Cm
theorem form_bolt : fDix k_FIELDS (.str "bolt") = some (.tuple [.tuple [.str "N"], .tuple [.str "A"], .tuple [.str "W", .int 0, .int 1000], .tuple [.str "Q", .int 0, .int 100000]]) := by kernel_rfl
theorem kind_bolt : fIn (.str "bolt") k_KIND_NAMES = some (.bool true) := by kernel_rfl
theorem k_bolt_bolt : ((("bolt" : Str) == "bolt") = true) := by decide +kernel
theorem k_bolt_class : ((("bolt" : Str) == "class") = false) := by decide +kernel
theorem k_bolt_cloth : ((("bolt" : Str) == "cloth") = false) := by decide +kernel
theorem k_bolt_measurer : ((("bolt" : Str) == "measurer") = false) := by decide +kernel
theorem k_bolt_sail : ((("bolt" : Str) == "sail") = false) := by decide +kernel
theorem form_claim : fDix k_FIELDS (.str "claim") = some (.tuple [.tuple [.str "N"], .tuple [.str "N"], .tuple [.str "A"], .tuple [.str "W", .int 0, .int 99]]) := by kernel_rfl
theorem kind_claim : fIn (.str "claim") k_KIND_NAMES = some (.bool true) := by kernel_rfl
theorem k_claim_bolt : ((("claim" : Str) == "bolt") = false) := by decide +kernel
theorem k_claim_class : ((("claim" : Str) == "class") = false) := by decide +kernel
theorem k_claim_cloth : ((("claim" : Str) == "cloth") = false) := by decide +kernel
theorem k_claim_measurer : ((("claim" : Str) == "measurer") = false) := by decide +kernel
theorem k_claim_sail : ((("claim" : Str) == "sail") = false) := by decide +kernel
theorem form_class : fDix k_FIELDS (.str "class") = some (.tuple [.tuple [.str "Q", .int 0, .int 100000], .tuple [.str "Q", .int 0, .int 100000], .tuple [.str "W", .int 1, .int 4], .tuple [.str "S", .int 0, .int 12], .tuple [.str "L", .int 0, .int 6]]) := by kernel_rfl
theorem kind_class : fIn (.str "class") k_KIND_NAMES = some (.bool true) := by kernel_rfl
theorem k_class_bolt : ((("class" : Str) == "bolt") = false) := by decide +kernel
theorem k_class_class : ((("class" : Str) == "class") = true) := by decide +kernel
theorem k_class_cloth : ((("class" : Str) == "cloth") = false) := by decide +kernel
theorem k_class_measurer : ((("class" : Str) == "measurer") = false) := by decide +kernel
theorem k_class_sail : ((("class" : Str) == "sail") = false) := by decide +kernel
theorem form_cloth : fDix k_FIELDS (.str "cloth") = some (.tuple [.tuple [.str "W", .int 1, .int 1000], .tuple [.str "W", .int 1, .int 1000], .tuple [.str "W", .int 0, .int 1000], .tuple [.str "W", .int 1, .int 100], .tuple [.str "W", .int 0, .int 1000]]) := by kernel_rfl
theorem kind_cloth : fIn (.str "cloth") k_KIND_NAMES = some (.bool true) := by kernel_rfl
theorem k_cloth_bolt : ((("cloth" : Str) == "bolt") = false) := by decide +kernel
theorem k_cloth_class : ((("cloth" : Str) == "class") = false) := by decide +kernel
theorem k_cloth_cloth : ((("cloth" : Str) == "cloth") = true) := by decide +kernel
theorem k_cloth_measurer : ((("cloth" : Str) == "measurer") = false) := by decide +kernel
theorem k_cloth_sail : ((("cloth" : Str) == "sail") = false) := by decide +kernel
theorem form_day : fDix k_FIELDS (.str "day") = some (.tuple [.tuple [.str "N"], .tuple [.str "W", .int 0, .int 99], .tuple [.str "W", .int 0, .int 3], .tuple [.str "L", .int 1, .int 3]]) := by kernel_rfl
theorem kind_day : fIn (.str "day") k_KIND_NAMES = some (.bool true) := by kernel_rfl
theorem k_day_bolt : ((("day" : Str) == "bolt") = false) := by decide +kernel
theorem k_day_class : ((("day" : Str) == "class") = false) := by decide +kernel
theorem k_day_cloth : ((("day" : Str) == "cloth") = false) := by decide +kernel
theorem k_day_measurer : ((("day" : Str) == "measurer") = false) := by decide +kernel
theorem k_day_sail : ((("day" : Str) == "sail") = false) := by decide +kernel
theorem form_grant : fDix k_FIELDS (.str "grant") = some (.tuple [.tuple [.str "N"], .tuple [.str "N"], .tuple [.str "N"], .tuple [.str "X", .str "onward", .str "only"], .tuple [.str "W", .int 0, .int 99], .tuple [.str "W", .int 0, .int 99]]) := by kernel_rfl
theorem kind_grant : fIn (.str "grant") k_KIND_NAMES = some (.bool true) := by kernel_rfl
theorem k_grant_bolt : ((("grant" : Str) == "bolt") = false) := by decide +kernel
theorem k_grant_class : ((("grant" : Str) == "class") = false) := by decide +kernel
theorem k_grant_cloth : ((("grant" : Str) == "cloth") = false) := by decide +kernel
theorem k_grant_measurer : ((("grant" : Str) == "measurer") = false) := by decide +kernel
theorem k_grant_sail : ((("grant" : Str) == "sail") = false) := by decide +kernel
theorem form_hand : fDix k_FIELDS (.str "hand") = some (.tuple [.tuple [.str "W", .int 0, .int 9], .tuple [.str "W", .int 0, .int 6]]) := by kernel_rfl
theorem kind_hand : fIn (.str "hand") k_KIND_NAMES = some (.bool true) := by kernel_rfl
theorem k_hand_bolt : ((("hand" : Str) == "bolt") = false) := by decide +kernel
theorem k_hand_class : ((("hand" : Str) == "class") = false) := by decide +kernel
theorem k_hand_cloth : ((("hand" : Str) == "cloth") = false) := by decide +kernel
theorem k_hand_measurer : ((("hand" : Str) == "measurer") = false) := by decide +kernel
theorem k_hand_sail : ((("hand" : Str) == "sail") = false) := by decide +kernel
theorem form_master : fDix k_FIELDS (.str "master") = some (.tuple []) := by kernel_rfl
theorem kind_master : fIn (.str "master") k_KIND_NAMES = some (.bool true) := by kernel_rfl
theorem k_master_bolt : ((("master" : Str) == "bolt") = false) := by decide +kernel
theorem k_master_class : ((("master" : Str) == "class") = false) := by decide +kernel
theorem k_master_cloth : ((("master" : Str) == "cloth") = false) := by decide +kernel
theorem k_master_measurer : ((("master" : Str) == "measurer") = false) := by decide +kernel
theorem k_master_sail : ((("master" : Str) == "sail") = false) := by decide +kernel
theorem form_measurer : fDix k_FIELDS (.str "measurer") = some (.tuple [.tuple [.str "Q", .int 0, .int 1]]) := by kernel_rfl
theorem kind_measurer : fIn (.str "measurer") k_KIND_NAMES = some (.bool true) := by kernel_rfl
theorem k_measurer_bolt : ((("measurer" : Str) == "bolt") = false) := by decide +kernel
theorem k_measurer_class : ((("measurer" : Str) == "class") = false) := by decide +kernel
theorem k_measurer_cloth : ((("measurer" : Str) == "cloth") = false) := by decide +kernel
theorem k_measurer_measurer : ((("measurer" : Str) == "measurer") = true) := by decide +kernel
theorem k_measurer_sail : ((("measurer" : Str) == "sail") = false) := by decide +kernel
theorem form_order : fDix k_FIELDS (.str "order") = some (.tuple [.tuple [.str "W", .int 0, .int 99], .tuple [.str "X", .str "new", .str "mend"], .tuple [.str "N"], .tuple [.str "N"], .tuple [.str "W", .int 0, .int 9], .tuple [.str "W", .int 0, .int 9], .tuple [.str "W", .int 0, .int 9], .tuple [.str "N"]]) := by kernel_rfl
theorem kind_order : fIn (.str "order") k_KIND_NAMES = some (.bool true) := by kernel_rfl
theorem k_order_bolt : ((("order" : Str) == "bolt") = false) := by decide +kernel
theorem k_order_class : ((("order" : Str) == "class") = false) := by decide +kernel
theorem k_order_cloth : ((("order" : Str) == "cloth") = false) := by decide +kernel
theorem k_order_measurer : ((("order" : Str) == "measurer") = false) := by decide +kernel
theorem k_order_sail : ((("order" : Str) == "sail") = false) := by decide +kernel
theorem form_panel : fDix k_FIELDS (.str "panel") = some (.tuple [.tuple [.str "N"], .tuple [.str "P", .int 4], .tuple [.str "G"], .tuple [.str "X", .str "flips", .str "plain"]]) := by kernel_rfl
theorem kind_panel : fIn (.str "panel") k_KIND_NAMES = some (.bool true) := by kernel_rfl
theorem k_panel_bolt : ((("panel" : Str) == "bolt") = false) := by decide +kernel
theorem k_panel_class : ((("panel" : Str) == "class") = false) := by decide +kernel
theorem k_panel_cloth : ((("panel" : Str) == "cloth") = false) := by decide +kernel
theorem k_panel_measurer : ((("panel" : Str) == "measurer") = false) := by decide +kernel
theorem k_panel_sail : ((("panel" : Str) == "sail") = false) := by decide +kernel
theorem form_reef : fDix k_FIELDS (.str "reef") = some (.tuple [.tuple [.str "E"]]) := by kernel_rfl
theorem kind_reef : fIn (.str "reef") k_KIND_NAMES = some (.bool true) := by kernel_rfl
theorem k_reef_bolt : ((("reef" : Str) == "bolt") = false) := by decide +kernel
theorem k_reef_class : ((("reef" : Str) == "class") = false) := by decide +kernel
theorem k_reef_cloth : ((("reef" : Str) == "cloth") = false) := by decide +kernel
theorem k_reef_measurer : ((("reef" : Str) == "measurer") = false) := by decide +kernel
theorem k_reef_sail : ((("reef" : Str) == "sail") = false) := by decide +kernel
theorem form_repair : fDix k_FIELDS (.str "repair") = some (.tuple [.tuple [.str "N"], .tuple [.str "W", .int 0, .int 3], .tuple [.str "W", .int 1, .int 6], .tuple [.str "W", .int 0, .int 1000]]) := by kernel_rfl
theorem kind_repair : fIn (.str "repair") k_KIND_NAMES = some (.bool true) := by kernel_rfl
theorem k_repair_bolt : ((("repair" : Str) == "bolt") = false) := by decide +kernel
theorem k_repair_class : ((("repair" : Str) == "class") = false) := by decide +kernel
theorem k_repair_cloth : ((("repair" : Str) == "cloth") = false) := by decide +kernel
theorem k_repair_measurer : ((("repair" : Str) == "measurer") = false) := by decide +kernel
theorem k_repair_sail : ((("repair" : Str) == "sail") = false) := by decide +kernel
theorem form_revoke : fDix k_FIELDS (.str "revoke") = some (.tuple [.tuple [.str "N"], .tuple [.str "N"], .tuple [.str "N"], .tuple [.str "W", .int 0, .int 99]]) := by kernel_rfl
theorem kind_revoke : fIn (.str "revoke") k_KIND_NAMES = some (.bool true) := by kernel_rfl
theorem k_revoke_bolt : ((("revoke" : Str) == "bolt") = false) := by decide +kernel
theorem k_revoke_class : ((("revoke" : Str) == "class") = false) := by decide +kernel
theorem k_revoke_cloth : ((("revoke" : Str) == "cloth") = false) := by decide +kernel
theorem k_revoke_measurer : ((("revoke" : Str) == "measurer") = false) := by decide +kernel
theorem k_revoke_sail : ((("revoke" : Str) == "sail") = false) := by decide +kernel
theorem form_rig : fDix k_FIELDS (.str "rig") = some (.tuple [.tuple [.str "S", .int 1, .int 4]]) := by kernel_rfl
theorem kind_rig : fIn (.str "rig") k_KIND_NAMES = some (.bool true) := by kernel_rfl
theorem k_rig_bolt : ((("rig" : Str) == "bolt") = false) := by decide +kernel
theorem k_rig_class : ((("rig" : Str) == "class") = false) := by decide +kernel
theorem k_rig_cloth : ((("rig" : Str) == "cloth") = false) := by decide +kernel
theorem k_rig_measurer : ((("rig" : Str) == "measurer") = false) := by decide +kernel
theorem k_rig_sail : ((("rig" : Str) == "sail") = false) := by decide +kernel
theorem form_sail : fDix k_FIELDS (.str "sail") = some (.tuple [.tuple [.str "P", .int 6], .tuple [.str "W", .int 0, .int 5], .tuple [.str "W", .int 0, .int 5], .tuple [.str "N"], .tuple [.str "N"], .tuple [.str "R"], .tuple [.str "L", .int 1, .int 4], .tuple [.str "L", .int 0, .int 3]]) := by kernel_rfl
theorem kind_sail : fIn (.str "sail") k_KIND_NAMES = some (.bool true) := by kernel_rfl
theorem k_sail_bolt : ((("sail" : Str) == "bolt") = false) := by decide +kernel
theorem k_sail_class : ((("sail" : Str) == "class") = false) := by decide +kernel
theorem k_sail_cloth : ((("sail" : Str) == "cloth") = false) := by decide +kernel
theorem k_sail_measurer : ((("sail" : Str) == "measurer") = false) := by decide +kernel
theorem k_sail_sail : ((("sail" : Str) == "sail") = true) := by decide +kernel
theorem form_seen : fDix k_FIELDS (.str "seen") = some (.tuple [.tuple [.str "Z"]]) := by kernel_rfl
theorem kind_seen : fIn (.str "seen") k_KIND_NAMES = some (.bool true) := by kernel_rfl
theorem k_seen_bolt : ((("seen" : Str) == "bolt") = false) := by decide +kernel
theorem k_seen_class : ((("seen" : Str) == "class") = false) := by decide +kernel
theorem k_seen_cloth : ((("seen" : Str) == "cloth") = false) := by decide +kernel
theorem k_seen_measurer : ((("seen" : Str) == "measurer") = false) := by decide +kernel
theorem k_seen_sail : ((("seen" : Str) == "sail") = false) := by decide +kernel
theorem form_share : fDix k_FIELDS (.str "share") = some (.tuple [.tuple [.str "N"], .tuple [.str "N"], .tuple [.str "N"], .tuple [.str "Q", .int 0, .int 1]]) := by kernel_rfl
theorem kind_share : fIn (.str "share") k_KIND_NAMES = some (.bool true) := by kernel_rfl
theorem k_share_bolt : ((("share" : Str) == "bolt") = false) := by decide +kernel
theorem k_share_class : ((("share" : Str) == "class") = false) := by decide +kernel
theorem k_share_cloth : ((("share" : Str) == "cloth") = false) := by decide +kernel
theorem k_share_measurer : ((("share" : Str) == "measurer") = false) := by decide +kernel
theorem k_share_sail : ((("share" : Str) == "sail") = false) := by decide +kernel
theorem form_table : fDix k_FIELDS (.str "table") = some (.tuple [.tuple [.str "W", .int 0, .int 9], .tuple [.str "W", .int 0, .int 9]]) := by kernel_rfl
theorem kind_table : fIn (.str "table") k_KIND_NAMES = some (.bool true) := by kernel_rfl
theorem k_table_bolt : ((("table" : Str) == "bolt") = false) := by decide +kernel
theorem k_table_class : ((("table" : Str) == "class") = false) := by decide +kernel
theorem k_table_cloth : ((("table" : Str) == "cloth") = false) := by decide +kernel
theorem k_table_measurer : ((("table" : Str) == "measurer") = false) := by decide +kernel
theorem k_table_sail : ((("table" : Str) == "sail") = false) := by decide +kernel
theorem form_wind : fDix k_FIELDS (.str "wind") = some (.tuple [.tuple [.str "V"], .tuple [.str "W", .int 0, .int 1000]]) := by kernel_rfl
theorem kind_wind : fIn (.str "wind") k_KIND_NAMES = some (.bool true) := by kernel_rfl
theorem k_wind_bolt : ((("wind" : Str) == "bolt") = false) := by decide +kernel
theorem k_wind_class : ((("wind" : Str) == "class") = false) := by decide +kernel
theorem k_wind_cloth : ((("wind" : Str) == "cloth") = false) := by decide +kernel
theorem k_wind_measurer : ((("wind" : Str) == "measurer") = false) := by decide +kernel
theorem k_wind_sail : ((("wind" : Str) == "sail") = false) := by decide +kernel
theorem fits_claim (r : List D) : f_row_fits [.tuple (.str "claim" :: r)] = .ok (.bool true) := by
  have e0 : fIx (.tuple (PyData.str "claim" :: r)) (.int 0) = some (.str "claim") := by simp
  rw [f_row_fits, fD_ap (by rfl)]
  simp only [b_row_fits, sSeq_ap, sSet_ap, sD_ap, d2_ap, dats_cons, dats_nil, dt_d, dt_u, dV_z, dV_s, dC_ap, Res.bind_ok, e0, Res.of_some, ofR_ok, List.map_cons, List.map_nil, List.cons_append, List.nil_append, List.replicate, Nat.reduceSub, List.set, then_nx, sIf_ap, tV_ap, fEq_str, asB_ap, if_true, if_false, Bool.false_eq_true, sNil_ap, sRet_ap, dCall_ap, aCons_ap, aNil_ap, dAnd_ap, then_rt, fin_rt, k_claim_bolt, k_claim_class, k_claim_cloth, k_claim_measurer, k_claim_sail]
theorem fits_day (r : List D) : f_row_fits [.tuple (.str "day" :: r)] = .ok (.bool true) := by
  have e0 : fIx (.tuple (PyData.str "day" :: r)) (.int 0) = some (.str "day") := by simp
  rw [f_row_fits, fD_ap (by rfl)]
  simp only [b_row_fits, sSeq_ap, sSet_ap, sD_ap, d2_ap, dats_cons, dats_nil, dt_d, dt_u, dV_z, dV_s, dC_ap, Res.bind_ok, e0, Res.of_some, ofR_ok, List.map_cons, List.map_nil, List.cons_append, List.nil_append, List.replicate, Nat.reduceSub, List.set, then_nx, sIf_ap, tV_ap, fEq_str, asB_ap, if_true, if_false, Bool.false_eq_true, sNil_ap, sRet_ap, dCall_ap, aCons_ap, aNil_ap, dAnd_ap, then_rt, fin_rt, k_day_bolt, k_day_class, k_day_cloth, k_day_measurer, k_day_sail]
theorem fits_grant (r : List D) : f_row_fits [.tuple (.str "grant" :: r)] = .ok (.bool true) := by
  have e0 : fIx (.tuple (PyData.str "grant" :: r)) (.int 0) = some (.str "grant") := by simp
  rw [f_row_fits, fD_ap (by rfl)]
  simp only [b_row_fits, sSeq_ap, sSet_ap, sD_ap, d2_ap, dats_cons, dats_nil, dt_d, dt_u, dV_z, dV_s, dC_ap, Res.bind_ok, e0, Res.of_some, ofR_ok, List.map_cons, List.map_nil, List.cons_append, List.nil_append, List.replicate, Nat.reduceSub, List.set, then_nx, sIf_ap, tV_ap, fEq_str, asB_ap, if_true, if_false, Bool.false_eq_true, sNil_ap, sRet_ap, dCall_ap, aCons_ap, aNil_ap, dAnd_ap, then_rt, fin_rt, k_grant_bolt, k_grant_class, k_grant_cloth, k_grant_measurer, k_grant_sail]
theorem fits_hand (r : List D) : f_row_fits [.tuple (.str "hand" :: r)] = .ok (.bool true) := by
  have e0 : fIx (.tuple (PyData.str "hand" :: r)) (.int 0) = some (.str "hand") := by simp
  rw [f_row_fits, fD_ap (by rfl)]
  simp only [b_row_fits, sSeq_ap, sSet_ap, sD_ap, d2_ap, dats_cons, dats_nil, dt_d, dt_u, dV_z, dV_s, dC_ap, Res.bind_ok, e0, Res.of_some, ofR_ok, List.map_cons, List.map_nil, List.cons_append, List.nil_append, List.replicate, Nat.reduceSub, List.set, then_nx, sIf_ap, tV_ap, fEq_str, asB_ap, if_true, if_false, Bool.false_eq_true, sNil_ap, sRet_ap, dCall_ap, aCons_ap, aNil_ap, dAnd_ap, then_rt, fin_rt, k_hand_bolt, k_hand_class, k_hand_cloth, k_hand_measurer, k_hand_sail]
theorem fits_master (r : List D) : f_row_fits [.tuple (.str "master" :: r)] = .ok (.bool true) := by
  have e0 : fIx (.tuple (PyData.str "master" :: r)) (.int 0) = some (.str "master") := by simp
  rw [f_row_fits, fD_ap (by rfl)]
  simp only [b_row_fits, sSeq_ap, sSet_ap, sD_ap, d2_ap, dats_cons, dats_nil, dt_d, dt_u, dV_z, dV_s, dC_ap, Res.bind_ok, e0, Res.of_some, ofR_ok, List.map_cons, List.map_nil, List.cons_append, List.nil_append, List.replicate, Nat.reduceSub, List.set, then_nx, sIf_ap, tV_ap, fEq_str, asB_ap, if_true, if_false, Bool.false_eq_true, sNil_ap, sRet_ap, dCall_ap, aCons_ap, aNil_ap, dAnd_ap, then_rt, fin_rt, k_master_bolt, k_master_class, k_master_cloth, k_master_measurer, k_master_sail]
theorem fits_order (r : List D) : f_row_fits [.tuple (.str "order" :: r)] = .ok (.bool true) := by
  have e0 : fIx (.tuple (PyData.str "order" :: r)) (.int 0) = some (.str "order") := by simp
  rw [f_row_fits, fD_ap (by rfl)]
  simp only [b_row_fits, sSeq_ap, sSet_ap, sD_ap, d2_ap, dats_cons, dats_nil, dt_d, dt_u, dV_z, dV_s, dC_ap, Res.bind_ok, e0, Res.of_some, ofR_ok, List.map_cons, List.map_nil, List.cons_append, List.nil_append, List.replicate, Nat.reduceSub, List.set, then_nx, sIf_ap, tV_ap, fEq_str, asB_ap, if_true, if_false, Bool.false_eq_true, sNil_ap, sRet_ap, dCall_ap, aCons_ap, aNil_ap, dAnd_ap, then_rt, fin_rt, k_order_bolt, k_order_class, k_order_cloth, k_order_measurer, k_order_sail]
theorem fits_panel (r : List D) : f_row_fits [.tuple (.str "panel" :: r)] = .ok (.bool true) := by
  have e0 : fIx (.tuple (PyData.str "panel" :: r)) (.int 0) = some (.str "panel") := by simp
  rw [f_row_fits, fD_ap (by rfl)]
  simp only [b_row_fits, sSeq_ap, sSet_ap, sD_ap, d2_ap, dats_cons, dats_nil, dt_d, dt_u, dV_z, dV_s, dC_ap, Res.bind_ok, e0, Res.of_some, ofR_ok, List.map_cons, List.map_nil, List.cons_append, List.nil_append, List.replicate, Nat.reduceSub, List.set, then_nx, sIf_ap, tV_ap, fEq_str, asB_ap, if_true, if_false, Bool.false_eq_true, sNil_ap, sRet_ap, dCall_ap, aCons_ap, aNil_ap, dAnd_ap, then_rt, fin_rt, k_panel_bolt, k_panel_class, k_panel_cloth, k_panel_measurer, k_panel_sail]
theorem fits_reef (r : List D) : f_row_fits [.tuple (.str "reef" :: r)] = .ok (.bool true) := by
  have e0 : fIx (.tuple (PyData.str "reef" :: r)) (.int 0) = some (.str "reef") := by simp
  rw [f_row_fits, fD_ap (by rfl)]
  simp only [b_row_fits, sSeq_ap, sSet_ap, sD_ap, d2_ap, dats_cons, dats_nil, dt_d, dt_u, dV_z, dV_s, dC_ap, Res.bind_ok, e0, Res.of_some, ofR_ok, List.map_cons, List.map_nil, List.cons_append, List.nil_append, List.replicate, Nat.reduceSub, List.set, then_nx, sIf_ap, tV_ap, fEq_str, asB_ap, if_true, if_false, Bool.false_eq_true, sNil_ap, sRet_ap, dCall_ap, aCons_ap, aNil_ap, dAnd_ap, then_rt, fin_rt, k_reef_bolt, k_reef_class, k_reef_cloth, k_reef_measurer, k_reef_sail]
theorem fits_repair (r : List D) : f_row_fits [.tuple (.str "repair" :: r)] = .ok (.bool true) := by
  have e0 : fIx (.tuple (PyData.str "repair" :: r)) (.int 0) = some (.str "repair") := by simp
  rw [f_row_fits, fD_ap (by rfl)]
  simp only [b_row_fits, sSeq_ap, sSet_ap, sD_ap, d2_ap, dats_cons, dats_nil, dt_d, dt_u, dV_z, dV_s, dC_ap, Res.bind_ok, e0, Res.of_some, ofR_ok, List.map_cons, List.map_nil, List.cons_append, List.nil_append, List.replicate, Nat.reduceSub, List.set, then_nx, sIf_ap, tV_ap, fEq_str, asB_ap, if_true, if_false, Bool.false_eq_true, sNil_ap, sRet_ap, dCall_ap, aCons_ap, aNil_ap, dAnd_ap, then_rt, fin_rt, k_repair_bolt, k_repair_class, k_repair_cloth, k_repair_measurer, k_repair_sail]
theorem fits_revoke (r : List D) : f_row_fits [.tuple (.str "revoke" :: r)] = .ok (.bool true) := by
  have e0 : fIx (.tuple (PyData.str "revoke" :: r)) (.int 0) = some (.str "revoke") := by simp
  rw [f_row_fits, fD_ap (by rfl)]
  simp only [b_row_fits, sSeq_ap, sSet_ap, sD_ap, d2_ap, dats_cons, dats_nil, dt_d, dt_u, dV_z, dV_s, dC_ap, Res.bind_ok, e0, Res.of_some, ofR_ok, List.map_cons, List.map_nil, List.cons_append, List.nil_append, List.replicate, Nat.reduceSub, List.set, then_nx, sIf_ap, tV_ap, fEq_str, asB_ap, if_true, if_false, Bool.false_eq_true, sNil_ap, sRet_ap, dCall_ap, aCons_ap, aNil_ap, dAnd_ap, then_rt, fin_rt, k_revoke_bolt, k_revoke_class, k_revoke_cloth, k_revoke_measurer, k_revoke_sail]
theorem fits_rig (r : List D) : f_row_fits [.tuple (.str "rig" :: r)] = .ok (.bool true) := by
  have e0 : fIx (.tuple (PyData.str "rig" :: r)) (.int 0) = some (.str "rig") := by simp
  rw [f_row_fits, fD_ap (by rfl)]
  simp only [b_row_fits, sSeq_ap, sSet_ap, sD_ap, d2_ap, dats_cons, dats_nil, dt_d, dt_u, dV_z, dV_s, dC_ap, Res.bind_ok, e0, Res.of_some, ofR_ok, List.map_cons, List.map_nil, List.cons_append, List.nil_append, List.replicate, Nat.reduceSub, List.set, then_nx, sIf_ap, tV_ap, fEq_str, asB_ap, if_true, if_false, Bool.false_eq_true, sNil_ap, sRet_ap, dCall_ap, aCons_ap, aNil_ap, dAnd_ap, then_rt, fin_rt, k_rig_bolt, k_rig_class, k_rig_cloth, k_rig_measurer, k_rig_sail]
theorem fits_seen (r : List D) : f_row_fits [.tuple (.str "seen" :: r)] = .ok (.bool true) := by
  have e0 : fIx (.tuple (PyData.str "seen" :: r)) (.int 0) = some (.str "seen") := by simp
  rw [f_row_fits, fD_ap (by rfl)]
  simp only [b_row_fits, sSeq_ap, sSet_ap, sD_ap, d2_ap, dats_cons, dats_nil, dt_d, dt_u, dV_z, dV_s, dC_ap, Res.bind_ok, e0, Res.of_some, ofR_ok, List.map_cons, List.map_nil, List.cons_append, List.nil_append, List.replicate, Nat.reduceSub, List.set, then_nx, sIf_ap, tV_ap, fEq_str, asB_ap, if_true, if_false, Bool.false_eq_true, sNil_ap, sRet_ap, dCall_ap, aCons_ap, aNil_ap, dAnd_ap, then_rt, fin_rt, k_seen_bolt, k_seen_class, k_seen_cloth, k_seen_measurer, k_seen_sail]
theorem fits_share (r : List D) : f_row_fits [.tuple (.str "share" :: r)] = .ok (.bool true) := by
  have e0 : fIx (.tuple (PyData.str "share" :: r)) (.int 0) = some (.str "share") := by simp
  rw [f_row_fits, fD_ap (by rfl)]
  simp only [b_row_fits, sSeq_ap, sSet_ap, sD_ap, d2_ap, dats_cons, dats_nil, dt_d, dt_u, dV_z, dV_s, dC_ap, Res.bind_ok, e0, Res.of_some, ofR_ok, List.map_cons, List.map_nil, List.cons_append, List.nil_append, List.replicate, Nat.reduceSub, List.set, then_nx, sIf_ap, tV_ap, fEq_str, asB_ap, if_true, if_false, Bool.false_eq_true, sNil_ap, sRet_ap, dCall_ap, aCons_ap, aNil_ap, dAnd_ap, then_rt, fin_rt, k_share_bolt, k_share_class, k_share_cloth, k_share_measurer, k_share_sail]
theorem fits_table (r : List D) : f_row_fits [.tuple (.str "table" :: r)] = .ok (.bool true) := by
  have e0 : fIx (.tuple (PyData.str "table" :: r)) (.int 0) = some (.str "table") := by simp
  rw [f_row_fits, fD_ap (by rfl)]
  simp only [b_row_fits, sSeq_ap, sSet_ap, sD_ap, d2_ap, dats_cons, dats_nil, dt_d, dt_u, dV_z, dV_s, dC_ap, Res.bind_ok, e0, Res.of_some, ofR_ok, List.map_cons, List.map_nil, List.cons_append, List.nil_append, List.replicate, Nat.reduceSub, List.set, then_nx, sIf_ap, tV_ap, fEq_str, asB_ap, if_true, if_false, Bool.false_eq_true, sNil_ap, sRet_ap, dCall_ap, aCons_ap, aNil_ap, dAnd_ap, then_rt, fin_rt, k_table_bolt, k_table_class, k_table_cloth, k_table_measurer, k_table_sail]
theorem fits_wind (r : List D) : f_row_fits [.tuple (.str "wind" :: r)] = .ok (.bool true) := by
  have e0 : fIx (.tuple (PyData.str "wind" :: r)) (.int 0) = some (.str "wind") := by simp
  rw [f_row_fits, fD_ap (by rfl)]
  simp only [b_row_fits, sSeq_ap, sSet_ap, sD_ap, d2_ap, dats_cons, dats_nil, dt_d, dt_u, dV_z, dV_s, dC_ap, Res.bind_ok, e0, Res.of_some, ofR_ok, List.map_cons, List.map_nil, List.cons_append, List.nil_append, List.replicate, Nat.reduceSub, List.set, then_nx, sIf_ap, tV_ap, fEq_str, asB_ap, if_true, if_false, Bool.false_eq_true, sNil_ap, sRet_ap, dCall_ap, aCons_ap, aNil_ap, dAnd_ap, then_rt, fin_rt, k_wind_bolt, k_wind_class, k_wind_cloth, k_wind_measurer, k_wind_sail]
end Cr

/-! PR14: lowest terms, exactly; how a drawn row is a book row. -/
namespace Cr
open PySem L2 DL Cm
theorem low_ex (n d : Int) (h : 0 < d) (h2 : d < 1073741824) : ∃ x y : Int, f__law_lowest [.int n, .int d] = .ok (rq x y) ∧ Int.gcd x y = 1 ∧ 0 < y ∧ y ≤ d ∧ x * d = n * y ∧ x.natAbs ≤ n.natAbs := by
  have g0 : 0 < Int.gcd n d := Int.gcd_pos_of_ne_zero_right _ (by omega)
  have g1 : (Int.gcd n d : Int) ≤ d := by
    have := Nat.le_of_dvd (by omega) (Int.gcd_dvd_natAbs_right n d)
    omega
  have gl : (Int.gcd n d : Int) ∣ n := Int.gcd_dvd_left ..
  have gr : (Int.gcd n d : Int) ∣ d := Int.gcd_dvd_right ..
  have gg : Int.gcd (n / (Int.gcd n d : Int)) (d / (Int.gcd n d : Int)) = 1 := Int.gcd_ediv_gcd_ediv_gcd g0
  refine ⟨_, _, low_eq h h2, gg, ?_⟩
  generalize hg : (Int.gcd n d : Int) = g at *
  have g2 : 0 < g := by omega
  have a1 : n / g * g = n := Int.ediv_mul_cancel gl
  have a2 : d / g * g = d := Int.ediv_mul_cancel gr
  refine ⟨Int.lt_of_lt_of_le (by decide) ((Int.le_ediv_iff_mul_le g2).mpr (show (1 : Int) * g ≤ d by omega)), Int.ediv_le_self _ (by omega), ?_, Int.natAbs_ediv_le_natAbs ..⟩
  calc n / g * d = n / g * (d / g * g) := by rw [a2]
    _ = (n / g * g) * (d / g) := by rw [Int.mul_comm (d / g) g, Int.mul_assoc]
    _ = n * (d / g) := by rw [a1]
theorem pair_nil : ∀ d ∈ pairUp [] [], ∃ f v, d = .tuple [f, v] ∧ f_is_field [f, v] = .ok (.bool true) := by simp [pairUp]
theorem pair_cons {f v : D} {fs vs : List D} (h : f_is_field [f, v] = .ok (.bool true)) (r : ∀ d ∈ pairUp fs vs, ∃ f v, d = .tuple [f, v] ∧ f_is_field [f, v] = .ok (.bool true)) : ∀ d ∈ pairUp (f :: fs) (v :: vs), ∃ f v, d = .tuple [f, v] ∧ f_is_field [f, v] = .ok (.bool true) := fun d hd => by
  rcases List.mem_cons.mp hd with rfl | hd
  · exact ⟨f, v, rfl, h⟩
  · exact r d hd
theorem guardC {P : At → Prop} {R : D → Prop} {α : At} {t : At → Res Bool} {a b : At → Out} {c : Bool} (h : t α = .ok c) (h1 : c = true → ON (fun _ => False) R (a α)) (h2 : c = false → ON P R (b α)) : ON P R (sSeq (sIf t a sNil) b α) :=
  ON.seq (ON.iff h (fun q => (h1 q).imp (fun _ z => z.elim) fun _ z => z) fun q => .nx _ (h2 q))
/-- a drawn row: of this kind and name, and a book row -/
def BookIs (kind name : Str) (d : D) : Prop := RowIs kind name d ∧ f_is_book_row [d] = .ok (.bool true)
section
variable {name s0 s1 s2 s3 s4 s5 : Str}
theorem hand_row (hn : Nam name) {a b : Int} (a0 : 0 ≤ a) (a1 : a ≤ 9) (b0 : 0 ≤ b) (b1 : b ≤ 6) : f_is_book_row [.tuple [.str "hand", .str name, .int a, .int b]] = .ok (.bool true) :=
  book_row_ok kind_hand hn form_hand rfl (pair_cons (fld_W a0 a1) (pair_cons (fld_W b0 b1) pair_nil)) (fits_hand _) (by simp)
theorem table_row (hn : Nam name) {a b : Int} (a0 : 0 ≤ a) (a1 : a ≤ 9) (b0 : 0 ≤ b) (b1 : b ≤ 9) : f_is_book_row [.tuple [.str "table", .str name, .int a, .int b]] = .ok (.bool true) :=
  book_row_ok kind_table hn form_table rfl (pair_cons (fld_W a0 a1) (pair_cons (fld_W b0 b1) pair_nil)) (fits_table _) (by simp)
theorem master_row (hn : Nam name) : f_is_book_row [.tuple [.str "master", .str name]] = .ok (.bool true) :=
  book_row_ok kind_master hn form_master rfl pair_nil (fits_master _) (by simp)
theorem revoke_row (hn : Nam name) (h0 : Nam s0) (h1 : Nam s1) (h2 : Nam s2) {a : Int} (a0 : 0 ≤ a) (a1 : a ≤ 99) : f_is_book_row [.tuple [.str "revoke", .str name, .str s0, .str s1, .str s2, .int a]] = .ok (.bool true) :=
  book_row_ok kind_revoke hn form_revoke rfl (pair_cons (fld_N h0) (pair_cons (fld_N h1) (pair_cons (fld_N h2) (pair_cons (fld_W a0 a1) pair_nil)))) (fits_revoke _) (by simp)
theorem repair_row (hn : Nam name) (h0 : Nam s0) {a b c : Int} (a0 : 0 ≤ a) (a1 : a ≤ 3) (b0 : 1 ≤ b) (b1 : b ≤ 6) (c0 : 0 ≤ c) (c1 : c ≤ 1000) : f_is_book_row [.tuple [.str "repair", .str name, .str s0, .int a, .int b, .int c]] = .ok (.bool true) :=
  book_row_ok kind_repair hn form_repair rfl (pair_cons (fld_N h0) (pair_cons (fld_W a0 a1) (pair_cons (fld_W b0 b1) (pair_cons (fld_W c0 c1) pair_nil)))) (fits_repair _) (by simp)
end
end Cr

/-! PR15: book rows, kind by kind. -/
namespace Cr
open PySem L2 DL Cm
theorem rq_ne {n d : Int} (h : n ≠ 0) : fNe (rq n d) (rq 0 1) = some (.bool true) :=
  fNe_pl (n := 1) (by simp [rq]) (by simp [rq]) (by decide) ⟨_, rfl⟩ ⟨_, rfl⟩ (by simp [rq]; intro z; exact absurd z h)
/-- a ratio in lowest terms, not too large -/
structure Rt (n d : Int) : Prop where
  d0 : 0 < d
  d1 : d ≤ 100000
  n1 : n.natAbs ≤ 1000000
  g : Int.gcd n d = 1
theorem Rt.within {n d lo hi : Int} (r : Rt n d) (sl : lo.natAbs ≤ 1000000) (sh : hi.natAbs ≤ 1000000) (h1 : lo * d ≤ n) (h2 : n ≤ hi * d) : f_ratio_within [.int lo, .int hi, rq n d] = .ok (.bool true) := by
  have := r.d0; have := r.d1; have := r.n1
  exact ratin_ok r.d0 (by omega) (by omega) r.g (Sm.of sl) (Sm.of sh) h1 h2
section
variable {name s0 s1 s2 : Str}
theorem claim_row (hn : Nam name) (h0 : Nam s0) (h1 : Nam s1) {n d a : Int} (r : Rt n d) (p : 0 < n) (q : n ≤ 100000 * d) (a0 : 0 ≤ a) (a1 : a ≤ 99) : f_is_book_row [.tuple [.str "claim", .str name, .str s0, .str s1, rq n d, .int a]] = .ok (.bool true) :=
  book_row_ok kind_claim hn form_claim rfl (pair_cons (fld_N h0) (pair_cons (fld_N h1) (pair_cons (fld_A (r.within (by decide) (by decide) (by omega) q) (rq_ne (by omega))) (pair_cons (fld_W a0 a1) pair_nil)))) (fits_claim _) (by simp)
theorem share_row (hn : Nam name) (h0 : Nam s0) (h1 : Nam s1) (h2 : Nam s2) {n d : Int} (r : Rt n d) (p : 0 ≤ n) (q : n ≤ 1 * d) : f_is_book_row [.tuple [.str "share", .str name, .str s0, .str s1, .str s2, rq n d]] = .ok (.bool true) :=
  book_row_ok kind_share hn form_share rfl (pair_cons (fld_N h0) (pair_cons (fld_N h1) (pair_cons (fld_N h2) (pair_cons (fld_Q (r.within (by decide) (by decide) (by omega) q)) pair_nil)))) (fits_share _) (by simp)
theorem grant_row (hn : Nam name) (h0 : Nam s0) (h1 : Nam s1) (h2 : Nam s2) {w : Str} (hw : w ∈ [("onward" : Str), "only"]) {a b : Int} (a0 : 0 ≤ a) (a1 : a ≤ 99) (b0 : 0 ≤ b) (b1 : b ≤ 99) : f_is_book_row [.tuple [.str "grant", .str name, .str s0, .str s1, .str s2, .str w, .int a, .int b]] = .ok (.bool true) := by
  have ok : ∀ t ∈ [("onward" : Str), "only"], PyData.strOk t = true := by decide +kernel
  exact book_row_ok kind_grant hn form_grant rfl (pair_cons (fld_N h0) (pair_cons (fld_N h1) (pair_cons (fld_N h2) (pair_cons (fld_X (ts := ["onward", "only"]) (ok w hw) ok hw) (pair_cons (fld_W a0 a1) (pair_cons (fld_W b0 b1) pair_nil)))))) (fits_grant _) (by simp)
theorem order_row (hn : Nam name) (h0 : Nam s0) (h1 : Nam s1) (h2 : Nam s2) {w : Str} (hw : w ∈ [("new" : Str), "mend"]) {a b c e : Int} (a0 : 0 ≤ a) (a1 : a ≤ 99) (b0 : 0 ≤ b) (b1 : b ≤ 9) (c0 : 0 ≤ c) (c1 : c ≤ 9) (e0 : 0 ≤ e) (e1 : e ≤ 9) : f_is_book_row [.tuple [.str "order", .str name, .int a, .str w, .str s0, .str s1, .int b, .int c, .int e, .str s2]] = .ok (.bool true) := by
  have ok : ∀ t ∈ [("new" : Str), "mend"], PyData.strOk t = true := by decide +kernel
  exact book_row_ok kind_order hn form_order rfl (pair_cons (fld_W a0 a1) (pair_cons (fld_X (ts := ["new", "mend"]) (ok w hw) ok hw) (pair_cons (fld_N h0) (pair_cons (fld_N h1) (pair_cons (fld_W b0 b1) (pair_cons (fld_W c0 c1) (pair_cons (fld_W e0 e1) (pair_cons (fld_N h2) pair_nil)))))))) (fits_order _) (by simp)
theorem wind_row (hn : Nam name) {x y a : Int} (h1 : -100 ≤ x) (h2 : x ≤ 100) (h3 : -100 ≤ y) (h4 : y ≤ 100) (h : y ≠ 0) (a0 : 0 ≤ a) (a1 : a ≤ 1000) : f_is_book_row [.tuple [.str "wind", .str name, .tuple [.int x, .int y], .int a]] = .ok (.bool true) :=
  book_row_ok kind_wind hn form_wind rfl (pair_cons (fld_V (pull_ok h1 h2 h3 h4 h)) (pair_cons (fld_W a0 a1) pair_nil)) (fits_wind _) (by simp)
theorem seen_row (hn : Nam name) {rs : List (Int × Int)} (h : ∀ q ∈ rs, 0 ≤ q.1 ∧ q.1 ≤ q.2 ∧ q.2 ≤ 6) (h1 : 1 ≤ rs.length) (h4 : rs.length ≤ 4) : f_is_book_row [.tuple [.str "seen", .str name, .tuple (rs.map fun q => .tuple [.int q.1, .int q.2])]] = .ok (.bool true) :=
  book_row_ok kind_seen hn form_seen rfl (pair_cons (fld_Z (spans_ok h h1 h4)) pair_nil) (fits_seen _) (by simp)
theorem day_row (hn : Nam name) (h0 : Nam s0) {a b : Int} (a0 : 0 ≤ a) (a1 : a ≤ 99) (b0 : 0 ≤ b) (b1 : b ≤ 3) {ts : List Str} (ht : ∀ t ∈ ts, Nam t) (nd : ts.Nodup) (l1 : 1 ≤ ts.length) (l3 : ts.length ≤ 3) : f_is_book_row [.tuple [.str "day", .str name, .str s0, .int a, .int b, .tuple (ts.map PyData.str)]] = .ok (.bool true) :=
  book_row_ok kind_day hn form_day rfl (pair_cons (fld_N h0) (pair_cons (fld_W a0 a1) (pair_cons (fld_W b0 b1) (pair_cons (fld_L (names_ok ht nd (by omega) (by omega) (by omega))) pair_nil)))) (fits_day _) (by simp)
theorem rig_row (hn : Nam name) {ts : List Str} (ht : ∀ t ∈ ts, Nam t) (nd : ts.Nodup) (up : ts.Pairwise fun a b => sl a b = true) (l1 : 1 ≤ ts.length) (l3 : ts.length ≤ 4) : f_is_book_row [.tuple [.str "rig", .str name, .tuple (ts.map PyData.str)]] = .ok (.bool true) :=
  book_row_ok kind_rig hn form_rig rfl (pair_cons (fld_S (names_ok ht nd (by omega) (by omega) (by omega)) (ascend_ok ht up)) pair_nil) (fits_rig _) (by simp)
theorem panel_row (hn : Nam name) (h0 : Nam s0) {p g : D} {w : Str} (hp : f_piece_field [.int 4, p] = .ok (.bool true)) (hg : f_grain_field [g] = .ok (.bool true)) (hw : w ∈ [("flips" : Str), "plain"]) : f_is_book_row [.tuple [.str "panel", .str name, .str s0, p, g, .str w]] = .ok (.bool true) := by
  have ok : ∀ t ∈ [("flips" : Str), "plain"], PyData.strOk t = true := by decide +kernel
  exact book_row_ok kind_panel hn form_panel rfl (pair_cons (fld_N h0) (pair_cons (fld_P hp) (pair_cons (fld_G hg) (pair_cons (fld_X (ts := ["flips", "plain"]) (ok w hw) ok hw) pair_nil)))) (fits_panel _) (by simp)
theorem reef_row (hn : Nam name) {l : D} (hl : f_line_field [l] = .ok (.bool true)) : f_is_book_row [.tuple [.str "reef", .str name, l]] = .ok (.bool true) :=
  book_row_ok kind_reef hn form_reef rfl (pair_cons (fld_E hl) pair_nil) (fits_reef _) (by simp)
end
end Cr

/-! PR16: book rows of the kinds whose fields must fit together. -/
namespace Cr
open PySem L2 DL Cm
section
variable {name s0 s1 : Str}
theorem bolt_row (hn : Nam name) (h0 : Nam s0) {n d m e a : Int} (r : Rt n d) (q : Rt m e) (p : 0 < n) (p1 : n ≤ 100000 * d) (m0 : 0 ≤ m) (m1 : m ≤ 100000 * e) (f : m * d ≤ n * e) (a0 : 0 ≤ a) (a1 : a ≤ 1000) : f_is_book_row [.tuple [.str "bolt", .str name, .str s0, rq n d, .int a, rq m e]] = .ok (.bool true) := by
  have := r.d0; have := r.d1; have := q.d0; have := q.d1
  have co := compare_ok (Sm.of q.n1) (Sm.of (m := 100000) (by omega) : Sm e) (Sm.of r.n1) (Sm.of (m := 100000) (by omega) : Sm d)
  have s : sg (m * d - n * e) ≤ 0 := sg_le.mpr (by omega)
  refine book_row_ok kind_bolt hn form_bolt rfl (pair_cons (fld_N h0) (pair_cons (fld_A (r.within (by decide) (by decide) (by omega) p1) (rq_ne (by omega))) (pair_cons (fld_W a0 a1) (pair_cons (fld_Q (q.within (by decide) (by decide) (by omega) m1)) pair_nil)))) ?_ (by simp)
  rw [f_row_fits, fD_ap (by rfl)]
  simp only [b_row_fits, sSeq_ap, sSet_ap, sD_ap, d2_ap, dats_cons, dats_nil, dt_d, dt_u, dV_z, dV_s, dC_ap, Res.bind_ok, Res.of_some, ofR_ok, List.map_cons, List.map_nil, List.cons_append, List.nil_append, List.replicate, Nat.reduceSub, List.set, then_nx, sIf_ap, tV_ap, fEq_str, asB_ap, if_true, if_false, Bool.false_eq_true, sNil_ap, sRet_ap, dCall_ap, aCons_ap, aNil_ap, dAnd_ap, dN_ap, then_rt, fin_rt, fIx_t, atI_z, at1, at2, at3, at4, at5, fLe_int, fLe, decide_true, k_bolt_bolt, co, s]
theorem class_row (hn : Nam name) {n d m e a : Int} (r : Rt n d) (q : Rt m e) (p : 0 ≤ n) (p1 : n ≤ 100000 * d) (m0 : 0 ≤ m) (m1 : m ≤ 100000 * e) (f : n * e ≤ m * d) (a0 : 1 ≤ a) (a1 : a ≤ 4) {ts us : List Str} (ht : ∀ t ∈ ts, Nam t) (nd : ts.Nodup) (up : ts.Pairwise fun a b => sl a b = true) (l1 : ts.length ≤ 12) (hu : ∀ t ∈ us, Nam t) (nu : us.Nodup) (l2 : us.length ≤ 6) :
    f_is_book_row [.tuple [.str "class", .str name, rq n d, rq m e, .int a, .tuple (ts.map PyData.str), .tuple (us.map PyData.str)]] = .ok (.bool true) := by
  have := r.d0; have := r.d1; have := q.d0; have := q.d1
  have co := compare_ok (Sm.of r.n1) (Sm.of (m := 100000) (by omega) : Sm d) (Sm.of q.n1) (Sm.of (m := 100000) (by omega) : Sm e)
  have s : sg (n * e - m * d) ≤ 0 := sg_le.mpr (by omega)
  refine book_row_ok kind_class hn form_class rfl (pair_cons (fld_Q (r.within (by decide) (by decide) (by omega) p1)) (pair_cons (fld_Q (q.within (by decide) (by decide) (by omega) m1)) (pair_cons (fld_W a0 a1) (pair_cons (fld_S (names_ok ht nd (by omega) (by omega) (by omega)) (ascend_ok ht up)) (pair_cons (fld_L (names_ok hu nu (by omega) (by omega) (by omega))) pair_nil))))) ?_ (by simp)
  rw [f_row_fits, fD_ap (by rfl)]
  simp only [b_row_fits, sSeq_ap, sSet_ap, sD_ap, d2_ap, dats_cons, dats_nil, dt_d, dt_u, dV_z, dV_s, dC_ap, Res.bind_ok, Res.of_some, ofR_ok, List.map_cons, List.map_nil, List.cons_append, List.nil_append, List.replicate, Nat.reduceSub, List.set, then_nx, sIf_ap, tV_ap, fEq_str, asB_ap, if_true, if_false, Bool.false_eq_true, sNil_ap, sRet_ap, dCall_ap, aCons_ap, aNil_ap, dAnd_ap, dN_ap, then_rt, fin_rt, fIx_t, atI_z, at1, at2, at3, at4, at5, fLe_int, fLe, decide_true, k_class_bolt, k_class_class, co, s]
theorem cloth_row (hn : Nam name) {a b c e f : Int} (a0 : 1 ≤ a) (a1 : a ≤ 1000) (b0 : 1 ≤ b) (b1 : b ≤ 1000) (c0 : 0 ≤ c) (c1 : c ≤ 1000) (e0 : 1 ≤ e) (e1 : e ≤ 100) (f0 : 0 ≤ f) (f1 : f ≤ 1000) (x : c ≤ a) (y : c ≤ b) : f_is_book_row [.tuple [.str "cloth", .str name, .int a, .int b, .int c, .int e, .int f]] = .ok (.bool true) := by
  refine book_row_ok kind_cloth hn form_cloth rfl (pair_cons (fld_W a0 a1) (pair_cons (fld_W b0 b1) (pair_cons (fld_W c0 c1) (pair_cons (fld_W e0 e1) (pair_cons (fld_W f0 f1) pair_nil))))) ?_ (by simp)
  rw [f_row_fits, fD_ap (by rfl)]
  simp only [b_row_fits, sSeq_ap, sSet_ap, sD_ap, d2_ap, dats_cons, dats_nil, dt_d, dt_u, dV_z, dV_s, dC_ap, Res.bind_ok, Res.of_some, ofR_ok, List.map_cons, List.map_nil, List.cons_append, List.nil_append, List.replicate, Nat.reduceSub, List.set, then_nx, sIf_ap, tV_ap, fEq_str, asB_ap, if_true, if_false, Bool.false_eq_true, sNil_ap, sRet_ap, dCall_ap, aCons_ap, aNil_ap, dAnd_ap, dN_ap, then_rt, fin_rt, fIx_t, atI_z, at1, at2, at3, at4, at5, fLe_int, fLe, decide_true, k_cloth_bolt, k_cloth_class, k_cloth_cloth, x, y]
theorem measurer_row (hn : Nam name) {n d : Int} (r : Rt n d) (p : 0 ≤ n) (q : n < d) : f_is_book_row [.tuple [.str "measurer", .str name, rq n d]] = .ok (.bool true) := by
  have := r.d0; have := r.d1
  have co : f_compare_ratios [rq n d, k_ONE] = _ := compare_ok (Sm.of r.n1) (Sm.of (m := 100000) (by omega) : Sm d) (Sm.of (m := 1) (by decide) : Sm 1) (Sm.of (m := 1) (by decide) : Sm 1)
  have s : sg (n * 1 - 1 * d) = -1 := by
    unfold sg
    rw [if_neg (by omega), if_pos (by omega)]
  rw [s] at co
  refine book_row_ok kind_measurer hn form_measurer rfl (pair_cons (fld_Q (r.within (by decide) (by decide) (by omega) (by omega))) pair_nil) ?_ (by simp)
  rw [f_row_fits, fD_ap (by rfl)]
  simp only [b_row_fits, sSeq_ap, sSet_ap, sD_ap, d2_ap, dats_cons, dats_nil, dt_d, dt_u, dV_z, dV_s, dC_ap, Res.bind_ok, Res.of_some, ofR_ok, List.map_cons, List.map_nil, List.cons_append, List.nil_append, List.replicate, Nat.reduceSub, List.set, then_nx, sIf_ap, tV_ap, fEq_str, asB_ap, if_true, if_false, Bool.false_eq_true, sNil_ap, sRet_ap, dCall_ap, aCons_ap, aNil_ap, dAnd_ap, dN_ap, then_rt, fin_rt, fIx_t, atI_z, at1, at2, at3, at4, at5, fLe_int, fLe, decide_true, k_measurer_bolt, k_measurer_class, k_measurer_cloth, k_measurer_measurer, co, fLt_int, show ((-1 : Int) < 0) = True from eq_true (by decide)]
theorem sail_row (hn : Nam name) (h0 : Nam s0) (h1 : Nam s1) {ps : List D} {rs : List (Int × Int)} {a b : Int} {ts us : List Str} (hp : f_piece_field [.int 6, .tuple ps] = .ok (.bool true)) (a0 : 0 ≤ a) (a1 : a ≤ 5) (b0 : 0 ≤ b) (b1 : b ≤ 5) (hr : f_rule_field [.tuple (rs.map fun q => rq q.1 q.2)] = .ok (.bool true))
    (ht : ∀ t ∈ ts, Nam t) (nd : ts.Nodup) (l1 : 1 ≤ ts.length) (l4 : ts.length ≤ 4) (hu : ∀ t ∈ us, Nam t) (nu : us.Nodup) (l3 : us.length ≤ 3) (x : a < ps.length) (y : b < ps.length) (z : a ≠ b) :
    f_is_book_row [.tuple [.str "sail", .str name, .tuple ps, .int a, .int b, .str s0, .str s1, .tuple (rs.map fun q => rq q.1 q.2), .tuple (ts.map PyData.str), .tuple (us.map PyData.str)]] = .ok (.bool true) := by
  obtain ⟨w, hw⟩ : ∃ w : Int, w = ps.length := ⟨_, rfl⟩
  rw [← hw] at x y
  have zz : (a == b) = false := by simp [z]
  refine book_row_ok kind_sail hn form_sail rfl (pair_cons (fld_P hp) (pair_cons (fld_W a0 a1) (pair_cons (fld_W b0 b1) (pair_cons (fld_N h0) (pair_cons (fld_N h1) (pair_cons (fld_R hr) (pair_cons (fld_L (names_ok ht nd (by omega) (by omega) (by omega))) (pair_cons (fld_L (names_ok hu nu (by omega) (by omega) (by omega))) pair_nil)))))))) ?_ (by simp)
  rw [f_row_fits, fD_ap (by rfl)]
  simp only [b_row_fits, sSeq_ap, sSet_ap, sD_ap, d2_ap, dats_cons, dats_nil, dt_d, dt_u, dV_z, dV_s, dC_ap, Res.bind_ok, Res.of_some, ofR_ok, List.map_cons, List.map_nil, List.cons_append, List.nil_append, List.replicate, Nat.reduceSub, List.set, then_nx, sIf_ap, tV_ap, fEq_str, asB_ap, if_true, if_false, Bool.false_eq_true, sNil_ap, sRet_ap, dCall_ap, aCons_ap, aNil_ap, dAnd_ap, dN_ap, then_rt, fin_rt, fIx_t, atI_z, at1, at2, at3, at4, at5, fLe_int, fLe, decide_true, k_sail_bolt, k_sail_class, k_sail_cloth, k_sail_measurer, k_sail_sail, fLen_t, ← hw, fLt_int, x, y, fNe_int, zz, Bool.not_false]
end
end Cr

/-! PR17: the drawn pieces, exactly. -/
namespace Cr
open PySem L2 DL Cm
section
variable {n0 n1 n2 n3 n4 n5 n6 n7 n8 n9 : Int}
/-- the drawn piece: a right triangle or a rectangle on a grid -/
theorem dpiece (m : Int) (h0 : num n0) (h1 : num n1) (h2 : num n2) (h3 : num n3) (h4 : num n4) (h5 : num n5) (h6 : num n6) : ∃ a d k b e l : Int, Grd a d k b e l ∧
    (f__law_piece [.list [.int n0, .int n1, .int n2, .int n3, .int n4, .int n5, .int n6, .int n7, .int n8, .int n9], .int m] = .ok (.tuple [pp (rq a d) (rq b e), pp (rq (a + k * d) d) (rq b e), pp (rq a d) (rq (b + l * e) e)]) ∨
     (¬ m < 4 ∧ f__law_piece [.list [.int n0, .int n1, .int n2, .int n3, .int n4, .int n5, .int n6, .int n7, .int n8, .int n9], .int m] = .ok (.tuple [pp (rq a d) (rq b e), pp (rq (a + k * d) d) (rq b e), pp (rq (a + k * d) d) (rq (b + l * e) e), pp (rq a d) (rq (b + l * e) e)]))) := by
  unfold num at *
  obtain ⟨a, d, ea, ga, d0, d1, _, a1⟩ := low_ex (n0 % 41 - 20) (1 + n1 % 6) (by omega) (by omega)
  obtain ⟨b, e, eb, gb, e0, e1, _, b1⟩ := low_ex (n2 % 41 - 20) (1 + n3 % 6) (by omega) (by omega)
  have far : ∀ (a d k : Int), Int.gcd a d = 1 → 0 < d → d ≤ 6 → f__law_lowest [.int (a + k * d), .int d] = .ok (rq (a + k * d) d) := fun a d k g h h6 => by
    have := low_eq (n := a + k * d) h (by omega : d < 1073741824)
    rw [gcd_far g] at this
    rw [this]
    simp [rq]
  have c1 := far a d (1 + n4 % 9) ga d0 (by omega)
  have c2 := far b e (1 + n5 % 9) gb e0 (by omega)
  have m1 : fMul (.int (1 + n4 % 9)) (.int d) = some (.int ((1 + n4 % 9) * d)) := fMul_sm (by omega) (by omega)
  have m2 : fMul (.int (1 + n5 % 9)) (.int e) = some (.int ((1 + n5 % 9) * e)) := fMul_sm (by omega) (by omega)
  refine ⟨a, d, 1 + n4 % 9, b, e, 1 + n5 % 9, ⟨d0, by omega, by omega, by omega, by omega, ga, e0, by omega, by omega, by omega, by omega, gb⟩, ?_⟩
  have key : Sat (fun r => r = .tuple [pp (rq a d) (rq b e), pp (rq (a + (1 + n4 % 9) * d) d) (rq b e), pp (rq a d) (rq (b + (1 + n5 % 9) * e) e)] ∨ (¬ m < 4 ∧ r = .tuple [pp (rq a d) (rq b e), pp (rq (a + (1 + n4 % 9) * d) d) (rq b e), pp (rq (a + (1 + n4 % 9) * d) d) (rq (b + (1 + n5 % 9) * e) e), pp (rq a d) (rq (b + (1 + n5 % 9) * e) e)]))
      (f__law_piece [.list [.int n0, .int n1, .int n2, .int n3, .int n4, .int n5, .int n6, .int n7, .int n8, .int n9], .int m]) := by
    refine Sat.fD rfl ?_
    refine ON.seq ?_
    simp [at1, fMod_pos, ea]
    refine ON.seq ?_
    simp [at2, at3, fMod_pos, eb]
    refine ON.seq ?_
    simp [at4, fMod_pos, m1, c1]
    refine ON.seq ?_
    simp [at5, fMod_pos, m2, c2]
    refine guardC (c := n6 % 2 == 0 || decide (m < 4)) (by by_cases q : n6 % 2 = 0 <;> simp [at6, fMod_pos, q]) (fun _ => ON.retS ?_) (fun hc => ON.retS ?_)
    · simp
      exact ⟨_, rfl, .inl rfl⟩
    · simp at hc
      simp
      exact ⟨_, rfl, .inr ⟨by omega, rfl⟩⟩
  obtain ⟨r, er, h⟩ := key
  rcases h with rfl | ⟨hm, rfl⟩
  · exact .inl er
  · exact .inr ⟨hm, er⟩
end
section
variable {a d k b e l : Int}
theorem Grd.spots (g : Grd a d k b e l) : f_is_spot [pp (rq a d) (rq b e)] = .ok (.bool true) ∧ f_is_spot [pp (rq (a + k * d) d) (rq b e)] = .ok (.bool true) ∧ f_is_spot [pp (rq (a + k * d) d) (rq (b + l * e) e)] = .ok (.bool true) ∧ f_is_spot [pp (rq a d) (rq (b + l * e) e)] = .ok (.bool true) := by
  obtain ⟨f1, f2⟩ := g.far
  have ha : a.natAbs ≤ 74 := Nat.le_trans g.a1 (by decide)
  have hb : b.natAbs ≤ 74 := Nat.le_trans g.b1 (by decide)
  exact ⟨spot_ok g.d0 g.d1 g.e0 g.e1 ha hb g.g1 g.g2, spot_ok g.d0 g.d1 g.e0 g.e1 f1 hb (gcd_far g.g1) g.g2, spot_ok g.d0 g.d1 g.e0 g.e1 f1 f2 (gcd_far g.g1) (gcd_far g.g2), spot_ok g.d0 g.d1 g.e0 g.e1 ha f2 g.g1 (gcd_far g.g2)⟩
theorem Grd.tri (g : Grd a d k b e l) {m : Int} (h : 3 ≤ m) : f_piece_field [.int m, .tuple [pp (rq a d) (rq b e), pp (rq (a + k * d) d) (rq b e), pp (rq a d) (rq (b + l * e) e)]] = .ok (.bool true) := by
  obtain ⟨s1, s2, s3, s4⟩ := g.spots
  refine pfield_ok (tri_piece g) (by simp; omega) fun p hp => ?_
  simp at hp
  rcases hp with rfl | rfl | rfl <;> assumption
theorem Grd.rect (g : Grd a d k b e l) {m : Int} (h : 4 ≤ m) : f_piece_field [.int m, .tuple [pp (rq a d) (rq b e), pp (rq (a + k * d) d) (rq b e), pp (rq (a + k * d) d) (rq (b + l * e) e), pp (rq a d) (rq (b + l * e) e)]] = .ok (.bool true) := by
  obtain ⟨s1, s2, s3, s4⟩ := g.spots
  refine pfield_ok (rect_piece g) (by simp; omega) fun p hp => ?_
  simp at hp
  rcases hp with rfl | rfl | rfl | rfl <;> assumption
end
end Cr

/-! PR18: drawn lines and rules. -/
namespace Cr
open PySem L2 DL Cm
section
variable {a d k b e l : Int}
theorem pp_ne {x y u v : D} (hx : Pl 2 (pp x y) = true) (hu : Pl 2 (pp u v) = true) (h : x ≠ u ∨ y ≠ v) : fNe (pp x y) (pp u v) = some (.bool true) :=
  fNe_pl hx hu (by decide) ⟨_, rfl⟩ ⟨_, rfl⟩ (by
    intro z
    simp only [pp, PyData.tuple.injEq, List.cons.injEq, and_true] at z
    rcases h with h | h
    · exact h z.1
    · exact h z.2)
theorem rq_far {n d t : Int} (h : 0 < t) : rq (n + t) d ≠ rq n d := by
  intro z
  simp only [rq, PyData.tuple.injEq, List.cons.injEq, PyData.int.injEq, and_true] at z
  omega
theorem dline (g : Grd a d k b e l) (n : Int) : ∃ x y : D, f__law_line [.tuple [pp (rq a d) (rq b e), pp (rq (a + k * d) d) (rq b e), pp (rq a d) (rq (b + l * e) e)], .int n] = .ok (.tuple [x, y]) ∧ f_line_field [.tuple [x, y]] = .ok (.bool true) := by
  obtain ⟨s1, s2, s3, s4⟩ := g.spots
  have kd := Int.mul_pos g.k0 g.d0
  have le := Int.mul_pos g.l0 g.e0
  have q1 : rq (a + k * d) d ≠ rq a d := rq_far kd
  have q2 : rq (b + l * e) e ≠ rq b e := rq_far le
  suffices h : Sat (fun r => ∃ x y : D, r = .tuple [x, y] ∧ f_line_field [.tuple [x, y]] = .ok (.bool true)) (f__law_line [.tuple [pp (rq a d) (rq b e), pp (rq (a + k * d) d) (rq b e), pp (rq a d) (rq (b + l * e) e)], .int n]) by
    obtain ⟨_, e, x, y, rfl, h⟩ := h
    exact ⟨x, y, e, h⟩
  refine Sat.fD rfl ?_
  have two : n / 2 % 2 = 0 ∨ n / 2 % 2 = 1 := by omega
  refine ON.guard (c := n % 2 == 0) (by simp [fMod_pos]) (ON.retS ?_) (ON.retS ?_)
  · rcases two with t | t
    · simp [fMod_pos, fDiv_pos, t, at1]
      exact ⟨_, rfl, _, _, rfl, line_ok s1 s2 (pp_ne (pl_pp ..) (pl_pp ..) (.inl q1.symm))⟩
    · simp [fMod_pos, fDiv_pos, t, at2]
      exact ⟨_, rfl, _, _, rfl, line_ok s1 s4 (pp_ne (pl_pp ..) (pl_pp ..) (.inr q2.symm))⟩
  · rcases two with t | t
    · simp [fMod_pos, fDiv_pos, t, at2]
      exact ⟨_, rfl, _, _, rfl, line_ok s4 s1 (pp_ne (pl_pp ..) (pl_pp ..) (.inr q2))⟩
    · simp [fMod_pos, fDiv_pos, t, at1, at2]
      exact ⟨_, rfl, _, _, rfl, line_ok s4 s2 (pp_ne (pl_pp ..) (pl_pp ..) (.inl q1.symm))⟩
end
end Cr

/-! PR19: drawn grains and rules. -/
namespace Cr
open PySem L2 DL Cm
theorem dgrain (x y : Int) (h : 0 ≤ x) (h2 : x ≤ 100) (hy : y.natAbs ≤ 100) : ∃ p q : Int, f__law_grain [.int x, .int y] = .ok (rq p q) ∧ f_grain_field [rq p q] = .ok (.bool true) := by
  suffices h : Sat (fun d => ∃ p q : Int, d = rq p q ∧ f_grain_field [rq p q] = .ok (.bool true)) (f__law_grain [.int x, .int y]) by
    obtain ⟨_, e, p, q, rfl, h⟩ := h
    exact ⟨p, q, e, h⟩
  refine Sat.fD rfl (ON.seq (ON.iff (c := x == 0) (by simp) (fun c => ?_) (fun c => ?_)))
  · simp
    exact ⟨0, 1, rfl, grain_ok (.inl ⟨rfl, rfl⟩)⟩
  · obtain ⟨p, q, e, g, q0, q1, _, p1⟩ := low_ex y x (by simp at c; omega) (by omega)
    simp [e, rq]
    refine ⟨q, p, ⟨rfl, rfl⟩, ?_⟩
    have := grain_ok (x := q) (y := p) (.inr ⟨q0, by omega, by omega, by rw [Int.gcd_comm]; exact g⟩)
    exact this
/-- strain, twice, five times: in lowest terms, rising -/
theorem drule {n d : Int} (r : Rt n d) (n0 : 0 < n) (n1 : n ≤ 100) (d1 : d ≤ 100) : ∃ x1 y1 x2 y2 : Int, f__law_lowest [.int (2 * n), .int d] = .ok (rq x1 y1) ∧ f__law_lowest [.int (5 * n), .int d] = .ok (rq x2 y2) ∧
    ∀ j : Nat, 1 ≤ j → j ≤ 3 → f_rule_field [.tuple (([(n, d), (x1, y1), (x2, y2)].take j).map fun q => rq q.1 q.2)] = .ok (.bool true) := by
  have d0 := r.d0
  obtain ⟨x1, y1, e1, g1, p1, q1, v1, b1⟩ := low_ex (2 * n) d d0 (by omega)
  obtain ⟨x2, y2, e2, g2, p2, q2, v2, b2⟩ := low_ex (5 * n) d d0 (by omega)
  refine ⟨x1, y1, x2, y2, e1, e2, fun j j1 j3 => ?_⟩
  have pos : ∀ {x y c : Int}, x * d = c * n * y → 0 < y → 0 < c → 0 < x := fun {x y c} e hy hc => by
    refine Int.not_le.mp fun z => ?_
    have a := Int.mul_le_mul_of_nonneg_right z (Int.le_of_lt d0)
    have b := Int.mul_pos (Int.mul_pos hc n0) hy
    omega
  have x1p := pos v1 p1 (by decide)
  have x2p := pos v2 p2 (by decide)
  have big : ∀ {x y c : Int}, x * d = c * n * y → 0 < y → 0 < c → c ≤ 5 → x ≤ 1000 * y := fun {x y c} e hy hc h5 => by
    have h1 : c * n ≤ 5 * 100 := Int.mul_le_mul h5 n1 (Int.le_of_lt n0) (by decide)
    have h2 : c * n * y ≤ 500 * y := Int.mul_le_mul_of_nonneg_right (by omega) (Int.le_of_lt hy)
    refine Int.not_lt.mp fun z => ?_
    have h3 : x * 1 ≤ x * d := Int.mul_le_mul_of_nonneg_left (by omega) (by omega)
    omega
  have s01 : n * y1 < x1 * d := by rw [v1]; have := Int.mul_pos n0 p1; grind
  have s02 : n * y2 < x2 * d := by rw [v2]; have := Int.mul_pos n0 p2; grind
  have s12 : x1 * y2 < x2 * y1 := by
    have e : (x2 * y1 - x1 * y2) * d = 3 * n * (y1 * y2) := by grind
    have p := Int.mul_pos (Int.mul_pos (show (0 : Int) < 3 by decide) n0) (Int.mul_pos p1 p2)
    refine Int.not_le.mp fun z => ?_
    have := Int.mul_le_mul_of_nonneg_right (show x2 * y1 - x1 * y2 ≤ 0 by omega) (Int.le_of_lt d0)
    omega
  have all : ∀ q ∈ [(n, d), (x1, y1), (x2, y2)], 0 < q.2 ∧ q.2 ≤ 1000 ∧ 0 < q.1 ∧ q.1.natAbs ≤ 100000 ∧ Int.gcd q.1 q.2 = 1 ∧ q.1 ≤ 1000 * q.2 := by
    intro q hq
    simp only [List.mem_cons, List.not_mem_nil, or_false] at hq
    rcases hq with rfl | rfl | rfl
    · exact ⟨d0, by show d ≤ 1000; omega, n0, by show n.natAbs ≤ 100000; omega, r.g, by show n ≤ 1000 * d; omega⟩
    · exact ⟨p1, by show y1 ≤ 1000; omega, x1p, by show x1.natAbs ≤ 100000; omega, g1, big v1 p1 (by decide) (by decide)⟩
    · exact ⟨p2, by show y2 ≤ 1000; omega, x2p, by show x2.natAbs ≤ 100000; omega, g2, big v2 p2 (by decide) (by decide)⟩
  have asc : [(n, d), (x1, y1), (x2, y2)].Pairwise fun a b => a.1 * b.2 < b.1 * a.2 := by
    simp
    exact ⟨⟨s01, s02⟩, s12⟩
  refine rule_ok (fun q hq => all q (List.mem_of_mem_take hq)) (asc.sublist (List.take_sublist _ _)) ?_ ?_ <;> simp <;> omega
end Cr

/-! PR20: drawn rows are book rows. -/
namespace Cr
open PySem L2 DL Cm
theorem low_pos {n d x y : Int} (h : x * d = n * y) (d0 : 0 < d) (y0 : 0 < y) (n0 : 0 < n) : 0 < x := by
  refine Int.not_le.mp fun z => ?_
  have a := Int.mul_le_mul_of_nonneg_right z (Int.le_of_lt d0)
  have b := Int.mul_pos n0 y0
  omega
theorem low_nn {n d x y : Int} (h : x * d = n * y) (d0 : 0 < d) (y0 : 0 < y) (n0 : 0 ≤ n) : 0 ≤ x := by
  refine Int.not_lt.mp fun z => ?_
  have a := Int.mul_neg_of_neg_of_pos z d0
  have b := Int.mul_nonneg n0 (Int.le_of_lt y0)
  omega
theorem book_is {kind name : Str} {vs : List D} (hl : vs.length < 900) (hp : ∀ x ∈ vs, Pl 3 x = true) (h : f_is_book_row [.tuple (.str kind :: .str name :: vs)] = .ok (.bool true)) : BookIs kind name (.tuple (.str kind :: .str name :: vs)) := ⟨⟨vs, rfl, hl, hp⟩, h⟩
theorem cut_nams {ss : List Str} (hs : ∀ s ∈ ss, Nam s) (nd : ss.Nodup) (lo hi : Option Int) : ∃ ts : List Str, cutD (ss.map PyData.str) lo hi = ts.map PyData.str ∧ ts = cutD ss lo hi ∧ (∀ t ∈ ts, Nam t) ∧ ts.Nodup := by
  refine ⟨cutD ss lo hi, by simp [cutD, List.map_take, List.map_drop], rfl, fun t ht => ?_, ?_⟩
  · unfold cutD at ht
    exact hs t (List.mem_of_mem_drop (List.mem_of_mem_take ht))
  · unfold cutD
    exact (nd.sublist (List.drop_sublist _ _)).sublist (List.take_sublist _ _)
theorem ltCps_lt : ∀ a b : List Nat, PySem.Spec.ltCps a b = decide (a < b)
  | [], [] => by simp [PySem.Spec.ltCps]
  | [], _ :: _ => by simp [PySem.Spec.ltCps]
  | _ :: _, [] => by simp [PySem.Spec.ltCps]
  | a :: r, b :: t => by
    rw [PySem.Spec.ltCps, ltCps_lt r t]
    by_cases h : a < b
    · simp [h, List.cons_lt_cons_iff]
    · by_cases e : a = b <;> simp [h, e, List.cons_lt_cons_iff]
theorem sl_ltT (a b : Str) : ltT a b = sl a b := ltCps_lt _ _
theorem sort_rise {ts : List Str} (nd : ts.Nodup) : (sortBy ltT ts).Pairwise fun a b => sl a b = true := by
  have p := sortBy_perm (lt := ltT) ts
  have o := sortBy_ord (lt := ltT) ltT_asy (fun a b c h1 h2 => ltc_neg _ _ _ h1 h2) ts
  have n : (sortBy ltT ts).Nodup := p.nodup_iff.mpr nd
  refine (o.and n).imp fun {a b} h => ?_
  have h1 : sl b a = false := by rw [← sl_ltT]; exact h.1
  cases q : sl a b with
  | true => rfl
  | false => exact absurd (sl_tri q h1) h.2
end Cr

/-! PR21: drawn rows are book rows: the first kinds. -/
namespace Cr
open PySem L2 DL Cm
theorem pl_rq (n : Nat) (x y : Int) : Pl (n + 1) (rq x y) = true := by simp [rq]
section
variable {kind name s0 s1 s2 s3 s4 s5 : Str} {n0 n1 n2 n3 n4 n5 n6 n7 n8 n9 : Int}
theorem drow (hs : ∀ s ∈ [s0, s1, s2, s3, s4, s5], Nam s) (nd : [s0, s1, s2, s3, s4, s5].Nodup) (hn : Nam name) (hk : kind ∈ kinds) (h0 : num n0) (h1 : num n1) (h2 : num n2) (h3 : num n3) (h4 : num n4) (h5 : num n5) (h6 : num n6) (h7 : num n7) (h8 : num n8) (h9 : num n9)
    (hshape : kind ∈ [("panel" : Str), "reef", "repair", "revoke", "rig", "sail", "seen", "share", "wind"] → Sat (BookIs kind name) (f__law_shape_row [.str kind, .str name, .list [.str s0, .str s1, .str s2, .str s3, .str s4, .str s5], .list [.int n0, .int n1, .int n2, .int n3, .int n4, .int n5, .int n6, .int n7, .int n8, .int n9]])) :
    Sat (BookIs kind name) (f__law_row [.str kind, .str name, .list [.str s0, .str s1, .str s2, .str s3, .str s4, .str s5], .list [.int n0, .int n1, .int n2, .int n3, .int n4, .int n5, .int n6, .int n7, .int n8, .int n9]]) := by
  refine Sat.fD rfl ?_
  unfold num at *
  have m0 := hs s0 (by simp)
  have m1 := hs s1 (by simp)
  have m2 := hs s2 (by simp)
  have ok : ∀ s ∈ [s0, s1, s2, s3, s4, s5], PyData.strOk s = true := fun s h => (hs s h).ok
  obtain ⟨ax, ay, ea, ag, a0, a1, av, ab⟩ := low_ex (1 + n7 % 90) (1 + n8 % 7) (by omega) (by omega)
  have ap := low_pos av (by omega) a0 (by omega)
  have ar : Rt ax ay := ⟨a0, by omega, by omega, ag⟩
  have abig : ax ≤ 100000 * ay := by omega
  refine ON.seq ?_
  simp [at5, fMod_pos]
  refine ON.seq ?_
  simp [at6, fMod_pos]
  refine ON.seq ?_
  simp [at7, at8, fMod_pos, ea]
  -- bolt
  refine guardC (c := kind == "bolt") (by simp) (fun hc => ON.retS ?_) (fun _ => ?_)
  · obtain rfl : kind = "bolt" := by simpa using hc
    obtain ⟨x, y, e, g, y0, y1, v, b⟩ := low_ex (ax * (n1 % 4)) (ay * 3) (by omega) (by omega)
    have q3 : ax * (n1 % 4) ≤ ax * 3 := Int.mul_le_mul_of_nonneg_left (by omega) (by omega)
    have q0 : 0 ≤ ax * (n1 % 4) := Int.mul_nonneg (by omega) (by omega)
    have x0 := low_nn v (by omega) y0 q0
    simp [at1, fMod_pos, fMul_sm, fMul_sm (i := ax) (k := n1 % 4) (by omega) (by omega), e]
    refine ⟨_, rfl, book_is (by simp) (by simp [Pl_str, ok, pl_rq]) (bolt_row hn m0 ar ⟨y0, by omega, by omega, g⟩ ap abig x0 (by omega) ?_ (by omega) (by omega))⟩
    have w : ax * (n1 % 4) * y ≤ ax * 3 * y := Int.mul_le_mul_of_nonneg_right q3 (by omega)
    have w2 : x * ay * 3 ≤ ax * y * 3 := by grind
    omega
  -- claim
  refine guardC (c := kind == "claim") (by simp) (fun hc => ON.retS ?_) (fun _ => ?_)
  · obtain rfl : kind = "claim" := by simpa using hc
    simp [at1]
    exact ⟨_, rfl, book_is (by simp) (by simp [Pl_str, ok, pl_rq]) (claim_row hn m0 m1 ar ap abig (by omega) (by omega))⟩
  -- class
  refine guardC (c := kind == "class") (by simp) (fun hc => ON.seq ?_) (fun _ => ?_)
  · obtain rfl : kind = "class" := by simpa using hc
    obtain ⟨lx, ly, el, lg, l0, l1, lv, lb⟩ := low_ex (n0 % 50) (1 + n1 % 4) (by omega) (by omega)
    have lx0 := low_nn lv (by omega) l0 (by omega)
    have hq : 1 ≤ ly * ay := by have := Int.mul_le_mul (show 1 ≤ ly by omega) (show 1 ≤ ay by omega) (by omega) (by omega); omega
    have hq2 : ly * ay ≤ 4 * 7 := Int.mul_le_mul (by omega) (by omega) (by omega) (by omega)
    have t1 : lx * ay ≤ 49 * 7 := Int.mul_le_mul (by omega) (by omega) (by omega) (by omega)
    have t2 : ax * (n2 % 3) ≤ 90 * 2 := Int.mul_le_mul (by omega) (by omega) (by omega) (by omega)
    have t20 : 0 ≤ ax * (n2 % 3) := Int.mul_nonneg (by omega) (by omega)
    have t3 : ax * (n2 % 3) * ly ≤ 180 * 4 := Int.mul_le_mul (by omega) (by omega) (by omega) (by omega)
    have t30 : 0 ≤ ax * (n2 % 3) * ly := Int.mul_nonneg t20 (by omega)
    have t10 : 0 ≤ lx * ay := Int.mul_nonneg lx0 (by omega)
    obtain ⟨mx, my, em, mg, m0', m1', mv, mb⟩ := low_ex (lx * ay + ax * (n2 % 3) * ly) (ly * ay) (by omega) (by omega)
    have mx0 := low_nn mv (by omega) m0' (by omega)
    have fit : lx * my ≤ mx * ly := by
      refine Int.not_lt.mp fun z => ?_
      have e1 : (lx * my - mx * ly) * ay = -(ax * (n2 % 3) * ly * my) := by grind
      have p1 := Int.mul_pos (show 0 < lx * my - mx * ly by omega) a0
      have p2 := Int.mul_nonneg t30 (show 0 ≤ my by omega)
      omega
    simp [at1, fMod_pos, el]
    refine ON.seq ?_
    simp [at1, at2, fMod_pos, fMul_sm (i := lx) (k := ay) (by omega) (by omega), fMul_sm (i := ax) (k := n2 % 3) (by omega) (by omega), fMul_sm (i := ax * (n2 % 3)) (k := ly) (by omega) (by omega), fMul_sm (i := ly) (k := ay) (by omega) (by omega), em]
    refine ON.seq ?_
    obtain ⟨ts, et, et', nt, ndt⟩ := cut_nams hs nd none (some (n3 % 5))
    have et : cutD [PyData.str s0, .str s1, .str s2, .str s3, .str s4, .str s5] none (some (n3 % 5)) = ts.map .str := et
    obtain ⟨us, eu, eu', nu, ndu⟩ := cut_nams hs nd (some (n9 % 3)) none
    have eu : cutD [PyData.str s0, .str s1, .str s2, .str s3, .str s4, .str s5] (some (n9 % 3)) none = us.map .str := eu
    have lt : ts.length ≤ 6 := by rw [et']; simp [cutD]; omega
    have lu : us.length ≤ 6 := by rw [eu']; simp [cutD]; omega
    have es := sorted_strs ts (by omega)
    have ml := (sortBy_perm (lt := ltT) ts).length_eq
    simp [at3, fMod_pos, et, es]
    simp [at4, at9, fMod_pos, eu]
    have mem : ∀ t ∈ sortBy ltT ts, Nam t := fun t ht => nt t ((sortBy_perm ts).mem_iff.mp ht)
    have okT : Pl 3 (.tuple ((sortBy ltT ts).map PyData.str)) = true := Pl.strs (ss := sortBy ltT ts) (fun t ht => (mem t ht).ok) (fun t ht => ht) (by omega)
    have okU : Pl 3 (.tuple (us.map PyData.str)) = true := Pl.strs (ss := us) (fun t ht => (nu t ht).ok) (fun t ht => ht) (by omega)
    refine book_is (by simp) (fun x hx => ?_) (class_row hn ⟨l0, by omega, by omega, lg⟩ ⟨m0', by omega, by omega, mg⟩ lx0 (by omega) mx0 (by omega) fit (by omega) (by omega) mem ((sortBy_perm ts).nodup_iff.mpr ndt) (sort_rise ndt) (by omega) nu ndu lu)
    simp only [List.mem_cons, List.not_mem_nil, or_false] at hx
    rcases hx with rfl | rfl | rfl | rfl | rfl
    · exact pl_rq 2 _ _
    · exact pl_rq 2 _ _
    · exact Pl_int 3 _
    · exact okT
    · exact okU
  -- cloth
  refine guardC (c := kind == "cloth") (by simp) (fun hc => ON.seq ?_) (fun _ => ?_)
  · obtain rfl : kind = "cloth" := by simpa using hc
    simp [fMod_pos]
    refine ON.seq ?_
    simp [at1, fMod_pos]
    obtain ⟨w, hw⟩ : ∃ w : Int, w = (if n1 % 1000 < n0 % 1000 then 1 + n1 % 1000 else 1 + n0 % 1000) := ⟨_, rfl⟩
    have w1 : w ≤ 1 + n0 % 1000 ∧ w ≤ 1 + n1 % 1000 ∧ 1 ≤ w := by rw [hw]; split <;> omega
    have hm : 0 < w + 1 := by omega
    have r0 := Int.emod_nonneg n2 (show w + 1 ≠ 0 by omega)
    have r1 := Int.emod_lt_of_pos n2 hm
    simp [at2, at3, at4, fMod_pos, ← hw, fMod_pos hm]
    exact book_is (by simp) (by simp) (cloth_row hn (by omega) (by omega) (by omega) (by omega) (by omega) (by omega) (by omega) (by omega) (by omega) (by omega) (by omega) (by omega))
  -- day
  refine guardC (c := kind == "day") (by simp) (fun hc => ON.retS ?_) (fun _ => ?_)
  · obtain rfl : kind = "day" := by simpa using hc
    obtain ⟨ts, et, et', nt, ndt⟩ := cut_nams hs nd (some 1) (some (2 + n1 % 3))
    have et : cutD [PyData.str s0, .str s1, .str s2, .str s3, .str s4, .str s5] (some 1) (some (2 + n1 % 3)) = ts.map .str := et
    have lt : 1 ≤ ts.length ∧ ts.length ≤ 3 := by
      have : n1 % 3 = 0 ∨ n1 % 3 = 1 ∨ n1 % 3 = 2 := by omega
      rcases this with h | h | h <;> rw [et', h]
      · rw [show cutD [s0, s1, s2, s3, s4, s5] (some 1) (some (2 + 0)) = [s1] from rfl]; simp
      · rw [show cutD [s0, s1, s2, s3, s4, s5] (some 1) (some (2 + 1)) = [s1, s2] from rfl]; simp
      · rw [show cutD [s0, s1, s2, s3, s4, s5] (some 1) (some (2 + 2)) = [s1, s2, s3] from rfl]; simp
    simp [at1, fMod_pos, et]
    have okT : Pl 3 (.tuple (ts.map PyData.str)) = true := Pl.strs (ss := ts) (fun t ht => (nt t ht).ok) (fun t ht => ht) (by omega)
    refine ⟨_, rfl, book_is (by simp) (fun x hx => ?_) (day_row hn m0 (by omega) (by omega) (by omega) (by omega) nt ndt lt.1 lt.2)⟩
    simp only [List.mem_cons, List.not_mem_nil, or_false] at hx
    rcases hx with rfl | rfl | rfl | rfl
    · rw [Pl_str]; exact m0.ok
    · exact Pl_int 3 _
    · exact Pl_int 3 _
    · exact okT
  -- grant
  refine guardC (c := kind == "grant") (by simp) (fun hc => ON.retS ?_) (fun _ => ?_)
  · obtain rfl : kind = "grant" := by simpa using hc
    obtain ⟨w, ew, mw⟩ := atI_in ([("onward" : Str), "only"].map PyData.str) (i := n0 % 2) (by omega) (by simp; omega)
    obtain ⟨v, mv, rfl⟩ := List.mem_map.mp mw
    have ew : atI [PyData.str "onward", PyData.str "only"] (n0 % 2) = some (.str v) := ew
    have okv : PyData.strOk v = true := (show ∀ t ∈ [("onward" : Str), "only"], PyData.strOk t = true by decide +kernel) v mv
    simp [at1, at2, fMod_pos, ew]
    exact ⟨_, rfl, book_is (by simp) (by simp [Pl_str, ok, okv]) (grant_row hn m0 m1 m2 mv (by omega) (by omega) (by omega) (by omega))⟩
  -- hand, table
  refine guardC (c := kind == "hand" || kind == "table") (by by_cases q : kind = "hand" <;> simp [q]) (fun hc => ON.retS ?_) (fun _ => ?_)
  · simp [fMod_pos]
    have hc : kind = "hand" ∨ kind = "table" := by simpa using hc
    rcases hc with rfl | rfl
    · exact ⟨_, rfl, book_is (by simp) (by simp) (hand_row hn (by omega) (by omega) (by omega) (by omega))⟩
    · exact ⟨_, rfl, book_is (by simp) (by simp) (table_row hn (by omega) (by omega) (by omega) (by omega))⟩
  -- master
  refine guardC (c := kind == "master") (by simp) (fun hc => ON.retS ?_) (fun _ => ?_)
  · obtain rfl : kind = "master" := by simpa using hc
    simp
    exact ⟨_, rfl, book_is (by simp) (by simp) (master_row hn)⟩
  -- measurer
  refine guardC (c := kind == "measurer") (by simp) (fun hc => ON.retS ?_) (fun _ => ?_)
  · obtain rfl : kind = "measurer" := by simpa using hc
    obtain ⟨x, y, e, g, y0, y1, v, b⟩ := low_ex (n0 % 7) (7 + n1 % 5) (by omega) (by omega)
    have x0 := low_nn v (by omega) y0 (by omega)
    have lt : x < y := by
      refine Int.not_le.mp fun z => ?_
      have p1 := Int.mul_le_mul_of_nonneg_right z (show 0 ≤ 7 + n1 % 5 by omega)
      have p2 : n0 % 7 * y ≤ 6 * y := Int.mul_le_mul_of_nonneg_right (by omega) (by omega)
      have p3 : 7 * y ≤ (7 + n1 % 5) * y := Int.mul_le_mul_of_nonneg_right (by omega) (by omega)
      have p4 : y * (7 + n1 % 5) = (7 + n1 % 5) * y := Int.mul_comm ..
      omega
    simp [at1, fMod_pos, e]
    exact ⟨_, rfl, book_is (by simp) (by simp [pl_rq]) (measurer_row hn ⟨y0, by omega, by omega, g⟩ x0 lt)⟩
  -- order
  refine guardC (c := kind == "order") (by simp) (fun hc => ON.seq ?_) (fun _ => ?_)
  · obtain rfl : kind = "order" := by simpa using hc
    obtain ⟨w, ew, mw⟩ := atI_in ([("new" : Str), "mend"].map PyData.str) (i := n0 % 2) (by omega) (by simp; omega)
    obtain ⟨v, mv, rfl⟩ := List.mem_map.mp mw
    have ew : atI [PyData.str "new", PyData.str "mend"] (n0 % 2) = some (.str v) := ew
    have okv : PyData.strOk v = true := (show ∀ t ∈ [("new" : Str), "mend"], PyData.strOk t = true by decide +kernel) v mv
    simp [fMod_pos, ew]
    simp [at1, at2, fMod_pos]
    exact book_is (by simp) (by simp [Pl_str, ok, okv]) (order_row hn m0 m1 m2 mv (by omega) (by omega) (by omega) (by omega) (by omega) (by omega) (by omega) (by omega))
  have hk2 : kind ∈ [("panel" : Str), "reef", "repair", "revoke", "rig", "sail", "seen", "share", "wind"] := by
    simp only [kinds, List.mem_cons, List.not_mem_nil, or_false] at hk
    simp only [List.mem_cons, List.not_mem_nil, or_false]
    simp only [beq_eq_false_iff_ne, Bool.or_eq_false_iff, ne_eq] at *
    rcases hk with h | h | h | h | h | h | h | h | h | h | h | h | h | h | h | h | h | h | h | h <;> first | (simp only [h, true_or, or_true]; done) | (exfalso; simp_all; done)
  refine ON.retS ?_
  simp
  exact hshape hk2
end
end Cr

/-! PR22: drawn rows are book rows: the kinds with shapes. -/
namespace Cr
open PySem L2 DL Cm
theorem un_map {γ : Type} {f : γ → D} {P : γ → Prop} : ∀ {ys : List D}, (∀ y ∈ ys, ∃ r, y = f r ∧ P r) → ∃ rs : List γ, ys = rs.map f ∧ ∀ r ∈ rs, P r
  | [], _ => ⟨[], rfl, by simp⟩
  | y :: ys, h => by
    obtain ⟨r, rfl, p⟩ := h y (List.mem_cons_self ..)
    obtain ⟨rs, rfl, q⟩ := un_map fun z hz => h z (List.mem_cons_of_mem _ hz)
    exact ⟨r :: rs, rfl, fun x hx => (List.mem_cons.mp hx).elim (fun e => e ▸ p) (q x)⟩
section
variable {kind name s0 s1 s2 s3 s4 s5 : Str} {n0 n1 n2 n3 n4 n5 n6 n7 n8 n9 : Int}
theorem dshape (hs : ∀ s ∈ [s0, s1, s2, s3, s4, s5], Nam s) (nd : [s0, s1, s2, s3, s4, s5].Nodup) (hn : Nam name) (h0 : num n0) (h1 : num n1) (h2 : num n2) (h3 : num n3) (h4 : num n4) (h5 : num n5) (h6 : num n6) (h7 : num n7) (h8 : num n8) (h9 : num n9)
    (hk : kind ∈ [("panel" : Str), "reef", "repair", "revoke", "rig", "sail", "seen", "share", "wind"]) :
    Sat (BookIs kind name) (f__law_shape_row [.str kind, .str name, .list [.str s0, .str s1, .str s2, .str s3, .str s4, .str s5], .list [.int n0, .int n1, .int n2, .int n3, .int n4, .int n5, .int n6, .int n7, .int n8, .int n9]]) := by
  refine Sat.fD rfl ?_
  obtain ⟨a4, d4, k4, b4, e4, l4, g4, p4⟩ := dpiece (n7 := n7) (n8 := n8) (n9 := n9) 4 h0 h1 h2 h3 h4 h5 h6
  obtain ⟨a3, d3, k3, b3, e3, l3, g3, p3⟩ := dpiece (n7 := n7) (n8 := n8) (n9 := n9) 3 h0 h1 h2 h3 h4 h5 h6
  obtain ⟨a6, d6, k6, b6, e6, l6, g6, p6⟩ := dpiece (n7 := n7) (n8 := n8) (n9 := n9) 6 h0 h1 h2 h3 h4 h5 h6
  have p3 := p3.resolve_right fun z => z.1 (by decide)
  unfold num at *
  have m0 := hs s0 (by simp)
  have m1 := hs s1 (by simp)
  have m2 := hs s2 (by simp)
  have ok : ∀ s ∈ [s0, s1, s2, s3, s4, s5], PyData.strOk s = true := fun s h => (hs s h).ok
  obtain ⟨ax, ay, ea, ag, a0, a1, av, ab⟩ := low_ex (n7 % 8) 7 (by omega) (by omega)
  obtain ⟨bx, b_y, eb, bg, b0, b1, bv, bb⟩ := low_ex (1 + n7 % 30) (1 + n8 % 7) (by omega) (by omega)
  have ax0 := low_nn av (by decide) a0 (by omega)
  have bx0 := low_pos bv (by omega) b0 (by omega)
  refine ON.seq ?_
  simp [at5, fMod_pos]
  refine ON.seq ?_
  simp [at7, fMod_pos, ea]
  refine ON.seq ?_
  simp [at7, at8, fMod_pos, eb]
  -- panel
  refine guardC (c := kind == "panel") (by simp) (fun hc => ON.seq ?_) (fun _ => ?_)
  · obtain rfl : kind = "panel" := by simpa using hc
    obtain ⟨gp, gq, eg, fg⟩ := dgrain (n7 % 9) (n8 % 19 - 9) (by omega) (by omega) (by omega)
    obtain ⟨w, ew, mw⟩ := atI_in ([("flips" : Str), "plain"].map PyData.str) (i := n9 % 2) (by omega) (by simp; omega)
    obtain ⟨v, mv, rfl⟩ := List.mem_map.mp mw
    have ew : atI [PyData.str "flips", PyData.str "plain"] (n9 % 2) = some (.str v) := ew
    have okv : PyData.strOk v = true := (show ∀ t ∈ [("flips" : Str), "plain"], PyData.strOk t = true by decide +kernel) v mv
    rcases p4 with p4 | ⟨_, p4⟩
    · simp [at7, at8, at9, fMod_pos, eg, p4, ew]
      exact book_is (by simp) (by simp [Pl_str, ok, okv, pl_rq, pl_pp]) (panel_row hn m0 (g4.tri (by decide)) fg mv)
    · simp [at7, at8, at9, fMod_pos, eg, p4, ew]
      exact book_is (by simp) (by simp [Pl_str, ok, okv, pl_rq, pl_pp]) (panel_row hn m0 (g4.rect (by decide)) fg mv)
  -- reef
  refine guardC (c := kind == "reef") (by simp) (fun hc => ON.retS ?_) (fun _ => ?_)
  · obtain rfl : kind = "reef" := by simpa using hc
    obtain ⟨x, y, el, fl⟩ := dline g3 n9
    obtain ⟨x', y', el', px, py⟩ := line_sat (p0 := pp (rq a3 d3) (rq b3 e3)) (p1 := pp (rq (a3 + k3 * d3) d3) (rq b3 e3)) (p2 := pp (rq a3 d3) (rq (b3 + l3 * e3) e3)) (r := []) n9 (by simp [pl_pp])
    have ee : (PyData.tuple [x, y]) = .tuple [x', y'] := by
      have := el.symm.trans el'
      cases this
      rfl
    cases ee
    simp [at9, p3, el]
    exact ⟨_, rfl, book_is (by simp) (by simp [px, py]) (reef_row hn fl)⟩
  -- repair
  refine guardC (c := kind == "repair") (by simp) (fun hc => ON.retS ?_) (fun _ => ?_)
  · obtain rfl : kind = "repair" := by simpa using hc
    simp [at1, at2, fMod_pos]
    exact ⟨_, rfl, book_is (by simp) (by simp [Pl_str, ok]) (repair_row hn m0 (by omega) (by omega) (by omega) (by omega) (by omega) (by omega))⟩
  -- revoke
  refine guardC (c := kind == "revoke") (by simp) (fun hc => ON.retS ?_) (fun _ => ?_)
  · obtain rfl : kind = "revoke" := by simpa using hc
    simp [at1, at2]
    exact ⟨_, rfl, book_is (by simp) (by simp [Pl_str, ok]) (revoke_row hn m0 m1 m2 (by omega) (by omega))⟩
  -- rig
  refine guardC (c := kind == "rig") (by simp) (fun hc => ON.retS ?_) (fun _ => ?_)
  · obtain rfl : kind = "rig" := by simpa using hc
    obtain ⟨ts, et, et', nt, ndt⟩ := cut_nams hs nd none (some (1 + n0 % 4))
    have et : cutD [PyData.str s0, .str s1, .str s2, .str s3, .str s4, .str s5] none (some (1 + n0 % 4)) = ts.map .str := et
    have lt : 1 ≤ ts.length ∧ ts.length ≤ 4 := by
      have : n0 % 4 = 0 ∨ n0 % 4 = 1 ∨ n0 % 4 = 2 ∨ n0 % 4 = 3 := by omega
      rcases this with h | h | h | h <;> rw [et', h]
      · rw [show cutD [s0, s1, s2, s3, s4, s5] none (some (1 + 0)) = [s0] from rfl]; simp
      · rw [show cutD [s0, s1, s2, s3, s4, s5] none (some (1 + 1)) = [s0, s1] from rfl]; simp
      · rw [show cutD [s0, s1, s2, s3, s4, s5] none (some (1 + 2)) = [s0, s1, s2] from rfl]; simp
      · rw [show cutD [s0, s1, s2, s3, s4, s5] none (some (1 + 3)) = [s0, s1, s2, s3] from rfl]; simp
    have es := sorted_strs ts (by omega)
    have ml := (sortBy_perm (lt := ltT) ts).length_eq
    have mem : ∀ t ∈ sortBy ltT ts, Nam t := fun t ht => nt t ((sortBy_perm ts).mem_iff.mp ht)
    have okT : Pl 3 (.tuple ((sortBy ltT ts).map PyData.str)) = true := Pl.strs (ss := sortBy ltT ts) (fun t ht => (mem t ht).ok) (fun t ht => ht) (by omega)
    simp [fMod_pos, et, es]
    refine ⟨_, rfl, book_is (by simp) (fun x hx => ?_) (rig_row hn mem ((sortBy_perm ts).nodup_iff.mpr ndt) (sort_rise ndt) (by omega) (by omega))⟩
    rw [List.mem_singleton.mp hx]
    exact okT
  -- sail
  refine guardC (c := kind == "sail") (by simp) (fun hc => ?_) (fun _ => ?_)
  · obtain rfl : kind = "sail" := by simpa using hc
    obtain ⟨x1, y1, x2, y2, r1, r2, rule⟩ := drule (n := bx) (d := b_y) ⟨b0, by omega, by omega, bg⟩ bx0 (by omega) (by omega)
    obtain ⟨ts, et, et', nt, ndt⟩ := cut_nams hs nd (some 2) (some (3 + n6 % 4))
    have et : cutD [PyData.str s0, .str s1, .str s2, .str s3, .str s4, .str s5] (some 2) (some (3 + n6 % 4)) = ts.map .str := et
    obtain ⟨us, eu, eu', nu, ndu⟩ := cut_nams hs nd none (some (n5 % 4))
    have eu : cutD [PyData.str s0, .str s1, .str s2, .str s3, .str s4, .str s5] none (some (n5 % 4)) = us.map .str := eu
    have lt : 1 ≤ ts.length ∧ ts.length ≤ 4 := by
      have : n6 % 4 = 0 ∨ n6 % 4 = 1 ∨ n6 % 4 = 2 ∨ n6 % 4 = 3 := by omega
      rcases this with h | h | h | h <;> rw [et', h]
      · rw [show cutD [s0, s1, s2, s3, s4, s5] (some 2) (some (3 + 0)) = [s2] from rfl]; simp
      · rw [show cutD [s0, s1, s2, s3, s4, s5] (some 2) (some (3 + 1)) = [s2, s3] from rfl]; simp
      · rw [show cutD [s0, s1, s2, s3, s4, s5] (some 2) (some (3 + 2)) = [s2, s3, s4] from rfl]; simp
      · rw [show cutD [s0, s1, s2, s3, s4, s5] (some 2) (some (3 + 3)) = [s2, s3, s4, s5] from rfl]; simp
    have lu : us.length ≤ 3 := by
      have : n5 % 4 = 0 ∨ n5 % 4 = 1 ∨ n5 % 4 = 2 ∨ n5 % 4 = 3 := by omega
      rcases this with h | h | h | h <;> rw [eu', h]
      · rw [show cutD [s0, s1, s2, s3, s4, s5] none (some 0) = [] from rfl]; simp
      · rw [show cutD [s0, s1, s2, s3, s4, s5] none (some 1) = [s0] from rfl]; simp
      · rw [show cutD [s0, s1, s2, s3, s4, s5] none (some 2) = [s0, s1] from rfl]; simp
      · rw [show cutD [s0, s1, s2, s3, s4, s5] none (some 3) = [s0, s1, s2] from rfl]; simp
    have cutr : ∃ j : Nat, 1 ≤ j ∧ j ≤ 3 ∧ cutD [rq bx b_y, rq x1 y1, rq x2 y2] none (some (1 + n9 % 3)) = ([(bx, b_y), (x1, y1), (x2, y2)].take j).map fun q : Int × Int => rq q.1 q.2 := by
      have : n9 % 3 = 0 ∨ n9 % 3 = 1 ∨ n9 % 3 = 2 := by omega
      rcases this with h | h | h <;> rw [h]
      · exact ⟨1, by decide, by decide, rfl⟩
      · exact ⟨2, by decide, by decide, rfl⟩
      · exact ⟨3, by decide, by decide, rfl⟩
    obtain ⟨j, j1, j3, cr⟩ := cutr
    have rl := rule j j1 j3
    have okT : Pl 3 (.tuple (ts.map PyData.str)) = true := Pl.strs (ss := ts) (fun t ht => (nt t ht).ok) (fun t ht => ht) (by omega)
    have okU : Pl 3 (.tuple (us.map PyData.str)) = true := Pl.strs (ss := us) (fun t ht => (nu t ht).ok) (fun t ht => ht) (by omega)
    have okR : Pl 3 (.tuple (([(bx, b_y), (x1, y1), (x2, y2)].take j).map fun q : Int × Int => rq q.1 q.2)) = true := by
      rw [Pl_tup, Bool.and_eq_true, List.all_eq_true]
      refine ⟨decide_eq_true (by simp; omega), fun y hy => ?_⟩
      obtain ⟨r, _, rfl⟩ := List.mem_map.mp hy
      exact pl_rq 1 _ _
    have fin : ∀ ps : List D, (ps.length = 3 ∨ ps.length = 4) → Pl 3 (.tuple ps) = true → f_piece_field [.int 6, .tuple ps] = .ok (.bool true) → f__law_piece [.list [.int n0, .int n1, .int n2, .int n3, .int n4, .int n5, .int n6, .int n7, .int n8, .int n9], .int 6] = .ok (.tuple ps) → ON (fun _ => False) (BookIs "sail" name) ((sSeq (sSet 8 (sD (dCall f__law_piece (aCons (dV 3) (aCons (dC (.int (6))) aNil)))))
 (sSeq (sSet 9 (sD (d2 fMod (d2 fIx (dV 3) (dC (.int (7)))) (dC (.int (3))))))
 (sSeq (sSet 10 (sD (dLst (aCons (dV 6) (aCons (dCall f__law_lowest (aCons (d2 fMul (dC (.int (2))) (d2 fIx (dV 6) (dC (.int (0))))) (aCons (d2 fIx (dV 6) (dC (.int (1)))) aNil))) (aCons (dCall f__law_lowest (aCons (d2 fMul (dC (.int (5))) (d2 fIx (dV 6) (dC (.int (0))))) (aCons (d2 fIx (dV 6) (dC (.int (1)))) aNil))) aNil))))))
 (sSeq (sSet 11 (sD (dTup (aCons (dV 0) (aCons (dV 1) (aCons (dV 8) (aCons (dV 9) (aCons (d2 fMod (d2 fAdd (d2 fAdd (dV 9) (dC (.int (1)))) (d2 fMod (d2 fIx (dV 3) (dC (.int (8)))) (dC (.int (2))))) (dC (.int (3)))) (aCons (d2 fIx (dV 2) (dC (.int (0)))) (aCons (d2 fIx (dV 2) (dC (.int (1)))) (aCons (dN fTuple (aCons (dSl (dV 10) pNone (pSome (d2 fAdd (dC (.int (1))) (d2 fMod (d2 fIx (dV 3) (dC (.int (9)))) (dC (.int (3))))))) aNil)) aNil)))))))))))
 (sRet (sD (d2 fAdd (dV 11) (dTup (aCons (dN fTuple (aCons (dSl (dV 2) (pSome (dC (.int (2)))) (pSome (d2 fAdd (dC (.int (3))) (d2 fMod (d2 fIx (dV 3) (dC (.int (6)))) (dC (.int (4))))))) aNil)) (aCons (dN fTuple (aCons (dSl (dV 2) pNone (pSome (d2 fMod (d2 fIx (dV 3) (dC (.int (5)))) (dC (.int (4)))))) aNil)) aNil)))))))))) [.dat (PyData.str "sail"), .dat (.str name), .dat (.list [.str s0, .str s1, .str s2, .str s3, .str s4, .str s5]), .dat (.list [.int n0, .int n1, .int n2, .int n3, .int n4, .int n5, .int n6, .int n7, .int n8, .int n9]), .dat (.int (n5 % 100)), .dat (rq ax ay), .dat (rq bx b_y), .un, .un, .un, .un, .un, .un]) := by
      intro ps lp pp6 hp ep
      have m2' : fMul (.int 2) (.int bx) = some (.int (2 * bx)) := fMul_sm (by omega) (by omega)
      have m5 : fMul (.int 5) (.int bx) = some (.int (5 * bx)) := fMul_sm (by omega) (by omega)
      refine ON.seq ?_
      simp [ep]
      refine ON.seq ?_
      simp [at7, fMod_pos]
      refine ON.seq ?_
      simp [m2', m5, r1, r2]
      refine ON.seq ?_
      simp [at1, at8, at9, fMod_pos, cr]
      simp [at5, at6, fMod_pos, et, eu]
      rw [fAdd_t _ _ (by rw [PySem.sizeLine_eq]; simp)]
      simp
      have lz : ((n7 % 3 + 1 + n8 % 2) % 3 : Int) < 3 := by omega
      have rl' := rl
      have okR' := okR
      simp only [List.map_take, List.map_cons, List.map_nil] at rl' okR'
      have fine := sail_row (rs := [(bx, b_y), (x1, y1), (x2, y2)].take j) hn m0 m1 hp (a := n7 % 3) (b := (n7 % 3 + 1 + n8 % 2) % 3) (by omega) (by omega) (by omega) (by omega) rl nt ndt lt.1 lt.2 nu ndu lu (by omega) (by omega) (by omega)
      simp only [List.map_take, List.map_cons, List.map_nil] at fine
      refine book_is (by simp) (fun x hx => ?_) fine
      simp only [List.mem_cons, List.not_mem_nil, or_false] at hx
      rcases hx with rfl | rfl | rfl | rfl | rfl | rfl | rfl | rfl
      · exact pp6
      · exact Pl_int 3 _
      · exact Pl_int 3 _
      · rw [Pl_str]; exact m0.ok
      · rw [Pl_str]; exact m1.ok
      · exact okR'
      · exact okT
      · exact okU
    rcases p6 with p6 | ⟨_, p6⟩
    · exact fin _ (.inl rfl) (by simp [pl_pp]) (g6.tri (by decide)) p6
    · exact fin _ (.inr rfl) (by simp [pl_pp]) (g6.rect (by decide)) p6
  -- seen
  refine guardC (c := kind == "seen") (by simp) (fun hc => ON.retS ?_) (fun _ => ?_)
  · obtain rfl : kind = "seen" := by simpa using hc
    have q : ∀ i : Int, 0 ≤ i → i < 10 → ∃ j : Int, atI [PyData.int n0, .int n1, .int n2, .int n3, .int n4, .int n5, .int n6, .int n7, .int n8, .int n9] i = some (.int j) := fun i g1 g2 => by
      obtain ⟨x, e, m⟩ := atI_in [PyData.int n0, .int n1, .int n2, .int n3, .int n4, .int n5, .int n6, .int n7, .int n8, .int n9] g1 (by simp; omega)
      simp at m
      rcases m with rfl | rfl | rfl | rfl | rfl | rfl | rfl | rfl | rfl | rfl <;> exact ⟨_, e⟩
    have e1 := iRangeL (a := d2 fAdd (dC (.int (1))) (d2 fMod (d2 fIx (dV 3) (dC (.int (9)))) (dC (.int (4))))) (n := 1 + n9 % 4) (β := [some (PyData.str "seen"), some (.str name), some (.list [.str s0, .str s1, .str s2, .str s3, .str s4, .str s5]), some (.list [.int n0, .int n1, .int n2, .int n3, .int n4, .int n5, .int n6, .int n7, .int n8, .int n9]), some (.int (n5 % 100)), some (rq ax ay), some (rq bx b_y), none, none, none, none, none, none]) (by simp [at9, fMod_pos]) (by omega) (by omega)
    obtain ⟨ys, e2, l2, p2⟩ := lcD_ex (f := cmD (.nm 12) yesT (dTup (aCons (d2 fMod (d2 fIx (dV 3) (dV 12)) (dC (.int (4)))) (aCons (d2 fAdd (d2 fMod (d2 fIx (dV 3) (dV 12)) (dC (.int (4)))) (d2 fMod (d2 fIx (dV 3) (d2 fAdd (dV 12) (dC (.int (4))))) (dC (.int (3))))) aNil))) [some (PyData.str "seen"), some (.str name), some (.list [.str s0, .str s1, .str s2, .str s3, .str s4, .str s5]), some (.list [.int n0, .int n1, .int n2, .int n3, .int n4, .int n5, .int n6, .int n7, .int n8, .int n9]), some (.int (n5 % 100)), some (rq ax ay), some (rq bx b_y), none, none, none, none, none, none]) (P := fun d => ∃ r : Int × Int, d = .tuple [.int r.1, .int r.2] ∧ 0 ≤ r.1 ∧ r.1 ≤ r.2 ∧ r.2 ≤ 6)
      (ds := (List.range (1 + n9 % 4).toNat).map fun i : Nat => PyData.int i) (fun d hd => by
        obtain ⟨i, hi, rfl⟩ := List.mem_map.mp hd
        obtain ⟨z, hz⟩ : ∃ z : Int, z = (i : Int) := ⟨_, rfl⟩
        have hi : i < (1 + n9 % 4).toNat := by simpa using hi
        rw [← hz]
        obtain ⟨j1, w1⟩ := q z (by omega) (by omega)
        obtain ⟨j2, w2⟩ := q (z + 4) (by omega) (by omega)
        refine ⟨.tuple [.int (j1 % 4), .int (j1 % 4 + j2 % 3)], ?_, (j1 % 4, j1 % 4 + j2 % 3), rfl, by show 0 ≤ j1 % 4; omega, by show j1 % 4 ≤ j1 % 4 + j2 % 3; omega, by show j1 % 4 + j2 % 3 ≤ 6; omega⟩
        simp [cmD, w1, w2, fMod_pos])
    obtain ⟨rs, rfl, hrs⟩ := un_map (f := fun r : Int × Int => PyData.tuple [.int r.1, .int r.2]) p2
    have l2 : rs.length = (1 + n9 % 4).toNat := by simpa using l2
    have lr : ((List.range (1 + n9 % 4).toNat).map fun i : Nat => PyData.int i).length < 16777217 := by simp; omega
    simp only [dTup_ap, aCons_ap, dN_ap, dFz_ap, dLc_ap, aNil_ap, dats_cons, dats_nil, dt_d, dt_u, dV_s, dV_z, Res.bind_ok, e1, le_size lr, if_true, wipeB_cons, wipeB_nil, List.set, e2, fTuple_l, Res.of_some]
    refine ⟨_, if_pos (by rw [PySem.sizeLine_eq]; simp), book_is (by simp) (fun x hx => ?_) (seen_row hn hrs (by omega) (by omega))⟩
    rw [List.mem_singleton.mp hx, Pl_tup, Bool.and_eq_true, List.all_eq_true]
    refine ⟨decide_eq_true (by simp; omega), fun y hy => ?_⟩
    obtain ⟨r, _, rfl⟩ := List.mem_map.mp hy
    simp
  -- share
  refine guardC (c := kind == "share") (by simp) (fun hc => ON.retS ?_) (fun _ => ?_)
  · obtain rfl : kind = "share" := by simpa using hc
    have le : ax ≤ 1 * ay := by
      refine Int.not_lt.mp fun z => ?_
      have p1 : n7 % 8 * ay ≤ 7 * ay := Int.mul_le_mul_of_nonneg_right (by omega) (by omega)
      omega
    simp [at1, at2]
    exact ⟨_, rfl, book_is (by simp) (by simp [Pl_str, ok, pl_rq]) (share_row hn m0 m1 m2 ⟨a0, by omega, by omega, ag⟩ ax0 le)⟩
  -- wind
  have hw : kind = "wind" := by
    simp only [List.mem_cons, List.not_mem_nil, or_false] at hk
    simp at *
    rcases hk with h | h | h | h | h | h | h | h | h <;> first | exact h | contradiction
  subst hw
  refine ON.retS ?_
  simp [at1, at2, fMod_pos]
  exact ⟨_, rfl, book_is (by simp) (by simp) (wind_row hn (by omega) (by omega) (by omega) (by omega) (by omega) (by omega) (by omega))⟩
end
end Cr

/-! PR23: every drawn row is a book row; drawn books of book rows. -/
namespace Cr
open PySem L2 DL Cm
section
variable {kind name s0 s1 s2 s3 s4 s5 : Str} {n0 n1 n2 n3 n4 n5 n6 n7 n8 n9 : Int}
theorem drow_all (hs : ∀ s ∈ [s0, s1, s2, s3, s4, s5], Nam s) (nd : [s0, s1, s2, s3, s4, s5].Nodup) (hn : Nam name) (hk : kind ∈ kinds) (h0 : num n0) (h1 : num n1) (h2 : num n2) (h3 : num n3) (h4 : num n4) (h5 : num n5) (h6 : num n6) (h7 : num n7) (h8 : num n8) (h9 : num n9) :
    ∃ row, f__law_row [.str kind, .str name, .list [.str s0, .str s1, .str s2, .str s3, .str s4, .str s5], .list [.int n0, .int n1, .int n2, .int n3, .int n4, .int n5, .int n6, .int n7, .int n8, .int n9]] = .ok row ∧ BookIs kind name row :=
  drow hs nd hn hk h0 h1 h2 h3 h4 h5 h6 h7 h8 h9 fun h => dshape hs nd hn h0 h1 h2 h3 h4 h5 h6 h7 h8 h9 h
end
/-- a book row with a name of these -/
def RB (ss : List Str) (d : D) : Prop := RwN ss d ∧ f_is_book_row [d] = .ok (.bool true) ∧ kd d ∈ kinds
theorem BookIs.rb {ss : List Str} {k n : Str} {d : D} (h : BookIs k n d) (hk : k ∈ kinds) (hn : n ∈ ss) (hs : ∀ s ∈ ss, Nam s) : RB ss d := by
  refine ⟨RowIs.rwN h.1 (kinds_strs _ hk) hn fun s h => (hs s h).ok, h.2, ?_⟩
  obtain ⟨rest, rfl, _⟩ := h.1
  exact hk
theorem BookIs.key {k n : Str} {d : D} (h : BookIs k n d) : ky d = (k, n) := by
  obtain ⟨rest, rfl, _⟩ := h.1
  rfl
def BkB (ss : List Str) (m : Nat) (rs : List D) : Prop := Ris ky rs ∧ (∀ r ∈ rs, RB ss r) ∧ rs.length ≤ m
theorem BkB.bk {ss : List Str} {m : Nat} {rs : List D} (h : BkB ss m rs) : Bk ss m rs := ⟨h.1, fun r hr => (h.2.1 r hr).1, h.2.2⟩
theorem BkB.put {ss : List Str} {m : Nat} {rs : List D} {r : D} (h : BkB ss m rs) (hr : RB ss r) : BkB ss (m + 1) (DL.put ky rs r) := by
  obtain ⟨h1, h2, h3⟩ := h
  refine ⟨put_ris h1, fun x hx => ?_, Nat.le_trans put_len (by omega)⟩
  rcases put_mem.mp hx with rfl | hx
  · exact hr
  · exact h2 x hx.1
theorem BkB.mono {ss : List Str} {m n : Nat} {rs : List D} (h : BkB ss m rs) (hn : m ≤ n) : BkB ss n rs := ⟨h.1, h.2.1, Nat.le_trans h.2.2 hn⟩
section
variable {s0 s1 s2 s3 s4 s5 : Str} {xs : List Int}
/-- ten numbers from the drawn ones -/
theorem tenN (hx : ∀ x ∈ xs, num x) (h0 : 0 < xs.length) {f : D → Res (Option D)} (g : Int → Int) (hf : ∀ w : Int, 0 ≤ w → w < 10 → ∀ j : Int, atI (xs.map PyData.int) ((g w) % (xs.length : Int)) = some (.int j) → f (.int w) = .ok (some (.int j))) :
    ∃ n0 n1 n2 n3 n4 n5 n6 n7 n8 n9 : Int, lcD f ((List.range 10).map fun i : Nat => PyData.int i) = .ok [.int n0, .int n1, .int n2, .int n3, .int n4, .int n5, .int n6, .int n7, .int n8, .int n9] ∧ num n0 ∧ num n1 ∧ num n2 ∧ num n3 ∧ num n4 ∧ num n5 ∧ num n6 ∧ num n7 ∧ num n8 ∧ num n9 := by
  obtain ⟨z, hz⟩ : ∃ z : Int, z = xs.length := ⟨_, rfl⟩
  obtain ⟨ys, ey, ly, py⟩ := lcD_ex (f := f) (P := fun d => ∃ j, d = .int j ∧ num j) (ds := (List.range 10).map fun i : Nat => PyData.int i) (fun d hd => by
    obtain ⟨i, hi, rfl⟩ := List.mem_map.mp hd
    have hi : i < 10 := by simpa using hi
    obtain ⟨j, q, hj⟩ := atI_num hx (i := (g i) % z) (Int.emod_nonneg _ (by omega)) (by have := Int.emod_lt_of_pos (g i) (show 0 < z by omega); omega)
    rw [hz] at q
    exact ⟨.int j, hf i (by omega) (by omega) j q, j, rfl, hj⟩)
  obtain ⟨n0, n1, n2, n3, n4, n5, n6, n7, n8, n9, rfl, h⟩ := ten (by simpa using ly) py
  exact ⟨n0, n1, n2, n3, n4, n5, n6, n7, n8, n9, ey, h⟩
def GI (s0 s1 s2 s3 s4 s5 : Str) (xs : List Int) (start count : Int) (ps : List D) (ds : List D) (α : At) : Prop := (∀ d ∈ ds, ∃ k : Int, d = .int k ∧ 0 ≤ k ∧ k < 1000) ∧ ∃ (rs : List D) (u7 u8 u9 u10 : AV), BkB [s0, s1, s2, s3, s4, s5] (count.toNat - ds.length) rs ∧ ds.length ≤ count.toNat ∧
  α = [AV.dat (.list (xs.map PyData.int)), .dat (.int start), .dat (.int count), .dat (.list [.str s0, .str s1, .str s2, .str s3, .str s4, .str s5]), .dat (.list ps), .dat (.list rs), .dat (.list (kinds.map PyData.str)), u7, u8, u9, u10]
theorem gbook_ok (hs : ∀ s ∈ [s0, s1, s2, s3, s4, s5], Nam s) (nd : [s0, s1, s2, s3, s4, s5].Nodup) (hx : ∀ x ∈ xs, num x) (h0 : 0 < xs.length) (hm : xs.length < 1000) (ps : List Int) (l0 : 0 < ps.length) (l1 : ps.length < 1000) (start count : Int) (t0 : 0 ≤ start) (t1 : start < 1000) (c0 : 0 ≤ count) (c1 : count < 1000) :
    ∃ rs, f__law_book [.list (xs.map PyData.int), .int start, .int count, .list [.str s0, .str s1, .str s2, .str s3, .str s4, .str s5], .list (ps.map PyData.int)] = .ok (.list rs) ∧ BkB [s0, s1, s2, s3, s4, s5] count.toNat rs := by
  suffices h : Sat (fun d => ∃ rs, d = .list rs ∧ BkB [s0, s1, s2, s3, s4, s5] count.toNat rs) (f__law_book [.list (xs.map PyData.int), .int start, .int count, .list [.str s0, .str s1, .str s2, .str s3, .str s4, .str s5], .list (ps.map PyData.int)]) by
    obtain ⟨_, e, rs, rfl, h⟩ := h
    exact ⟨rs, e, h⟩
  obtain ⟨z, hz⟩ : ∃ z : Int, z = xs.length := ⟨_, rfl⟩
  obtain ⟨zp, hzp⟩ : ∃ z : Int, z = ps.length := ⟨_, rfl⟩
  refine Sat.fD rfl (ON.seq ?_)
  simp
  refine ON.seq ?_
  simp [kinds_ok]
  refine ON.seq (ON.for_ (GI s0 s1 s2 s3 s4 s5 xs start count (ps.map PyData.int)) (iRangeL (n := count) (by simp) (by omega) (by omega)) ?_ ?_ ?_)
  · refine ⟨fun d hd => ?_, [], .un, .un, .un, .un, ⟨List.Pairwise.nil, by simp, by simp⟩, by simp, rfl⟩
    obtain ⟨k, hk, rfl⟩ := List.mem_map.mp hd
    exact ⟨k, rfl, by omega, by simp at hk; omega⟩
  · rintro d ds α ⟨hk, rs, u7, u8, u9, u10, hb, hl, rfl⟩
    obtain ⟨k, rfl, k0, k1⟩ := hk d (List.mem_cons_self ..)
    refine ⟨_, rfl, ON.seq ?_⟩
    obtain ⟨n0, n1, n2, n3, n4, n5, n6, n7, n8, n9, ey, hn0, hn1, hn2, hn3, hn4, hn5, hn6, hn7, hn8, hn9⟩ := tenN (xs := xs) hx h0 (f := cmD (.nm 10) yesT (d2 fIx (dV 0) (d2 fMod (d2 fAdd (d2 fAdd (dV 1) (d2 fMul (dC (.int (5))) (dV 7))) (dV 10)) (dN fLen (aCons (dV 0) aNil))))
        [some (.list (xs.map PyData.int)), some (.int start), some (.int count), some (.list [.str s0, .str s1, .str s2, .str s3, .str s4, .str s5]), some (.list (ps.map PyData.int)), some (.list rs), some (.list (kinds.map PyData.str)), some (.int k), u8.dt, u9.dt, none]) (fun w => start + 5 * k + w) (fun y y0 y1 j q => by
        rw [← hz] at q
        simp only [cmD, setT_nm, List.set, yesT_ap, Res.bind_ok, d2_ap, dN_ap, aCons_ap, aNil_ap, dC_ap, dV_s, dV_z, fMul_sm' (i := 5) (k := k) (by decide) (by decide), Res.of_some, fAdd_int, fLen_l, List.length_map, ← hz, fMod_pos (i := start + 5 * k + y) (k := z) (by omega), fIx_l, q, if_true, noEr_ok])
    have er := iRangeL (a := dC (.int 10)) (β := [some (.list (xs.map PyData.int)), some (.int start), some (.int count), some (.list [.str s0, .str s1, .str s2, .str s3, .str s4, .str s5]), some (.list (ps.map PyData.int)), some (.list rs), some (.list (kinds.map PyData.str)), some (.int k), u8.dt, u9.dt, u10.dt]) (n := 10) rfl (by decide) (by decide)
    simp only [sLay_ap, sD_ap, dLc_ap, dats_cons, dats_nil, dt_d, List.set, er, Res.bind_ok, show (10 : Int).toNat = 10 from rfl, le_size (n := ((List.range 10).map fun i : Nat => PyData.int i).length) (by decide), if_true, wipeB_cons, wipeB_nil, ey, ofR_ok, ON_nx]
    refine ON.seq ?_
    obtain ⟨w, ew, mw⟩ := atI_in (ps.map PyData.int) (i := n0 % zp) (Int.emod_nonneg _ (by omega)) (by have := Int.emod_lt_of_pos n0 (show 0 < zp by omega); simp; omega)
    obtain ⟨p, hp, rfl⟩ := List.mem_map.mp mw
    obtain ⟨v, ev, mv⟩ := atI_in (kinds.map PyData.str) (i := p % 20) (by omega) (by simp [kinds]; omega)
    obtain ⟨kd', hkd, rfl⟩ := List.mem_map.mp mv
    simp only [sSet_ap, sD_ap, dats_cons, dats_nil, dt_d, d2_ap, dV_s, dV_z, dC_ap, dN_ap, aCons_ap, aNil_ap, Res.bind_ok, Res.of_some, fIx_l, atI_z, fLen_l, List.length_map, ← hzp, fMod_pos (i := n0) (k := zp) (by omega), ew, fMod_pos (i := p) (k := 20) (by decide), ev, ofR_ok, List.set, ON_nx]
    obtain ⟨v2, ev2, mv2⟩ := atI_in [PyData.str s0, .str s1, .str s2, .str s3, .str s4, .str s5] (i := n1 % 6) (by omega) (by simp; omega)
    obtain ⟨n', rfl, hn'⟩ : ∃ n' : Str, v2 = .str n' ∧ n' ∈ [s0, s1, s2, s3, s4, s5] := by
      simp at mv2
      rcases mv2 with rfl | rfl | rfl | rfl | rfl | rfl <;> exact ⟨_, rfl, by simp⟩
    obtain ⟨row, erow, hrow⟩ := drow_all (kind := kd') (name := n') hs nd (hs n' hn') hkd hn2 hn3 hn4 hn5 hn6 hn7 hn8 hn9 hn0 hn1
    have hr := hrow.rb hkd hn' hs
    have e1 : cutD [PyData.int n0, .int n1, .int n2, .int n3, .int n4, .int n5, .int n6, .int n7, .int n8, .int n9] (some 2) none = [.int n2, .int n3, .int n4, .int n5, .int n6, .int n7, .int n8, .int n9] := rfl
    have e2 : cutD [PyData.int n0, .int n1, .int n2, .int n3, .int n4, .int n5, .int n6, .int n7, .int n8, .int n9] none (some 2) = [.int n0, .int n1] := rfl
    have e3 : fAdd (.list [PyData.int n2, .int n3, .int n4, .int n5, .int n6, .int n7, .int n8, .int n9]) (.list [.int n0, .int n1]) = some (.list [.int n2, .int n3, .int n4, .int n5, .int n6, .int n7, .int n8, .int n9, .int n0, .int n1]) := fAdd_l _ _ (by rw [PySem.sizeLine_eq]; simp)
    have e4 := placed_ok (rs := rs) (d := row) (fun x hx => (hb.2.1 x hx).1.1) hr.1.1 (by have := hb.2.2; omega)
    simp [at1, fMod_pos, ev2, e1, e2, e3, erow, e4]
    refine ⟨fun d hd => hk d (List.mem_cons_of_mem _ hd), DL.put ky rs row, _, _, _, _, ?_, by simp at hl; omega, rfl⟩
    have := hb.put hr
    simp only [List.length_cons] at this hl
    rwa [show count.toNat - (ds.length + 1) + 1 = count.toNat - ds.length by omega] at this
  · rintro α ⟨_, rs, u7, u8, u9, u10, hb, _, rfl⟩
    simp
    exact hb
end
end Cr

namespace K68
open PySem PySem.Spec PyProof.Rows L2 DL Cm Cr

def top (i : Nat) : Stmt := PySem.Challenge.pw_sailloft_k68_edits_and_undoing.main.body.getD i (.Pass ⟨0, 0, 0, 0⟩)
def k_T : ExTab := [("LoftError", ["LoftError"]), ("OutOfRange", ["OutOfRange", "LoftError"]), ("Unknown", ["Unknown", "LoftError"])]
def k_F : FdTab := [("Unknown", "name")]
def k_MOST_ROWS : D := .int (12)
def s__law_before : Stmt := top 103
def N__law_before : List Str := ["one", "two"]
def P__law_before : List Str := ["one", "two"]
theorem sc__law_before : FnScope N__law_before P__law_before (defScope s__law_before) := ⟨rfl, rfl, rfl, by decide +kernel, rfl, by decide +kernel, by decide +kernel⟩
def s__law_placed : Stmt := top 104
def N__law_placed : List Str := ["rows", "row", "below", "above", "old"]
def P__law_placed : List Str := ["rows", "row"]
theorem sc__law_placed : FnScope N__law_placed P__law_placed (defScope s__law_placed) := ⟨rfl, rfl, rfl, by decide +kernel, rfl, by decide +kernel, by decide +kernel⟩
def s__law_after : Stmt := top 107
def N__law_after : List Str := ["rows", "edit", "row"]
def P__law_after : List Str := ["rows", "edit"]
theorem sc__law_after : FnScope N__law_after P__law_after (defScope s__law_after) := ⟨rfl, rfl, rfl, by decide +kernel, rfl, by decide +kernel, by decide +kernel⟩
def b__law_after : At → Out :=
 (sSeq (sIf (sD (tV (d2 fEq (d2 fIx (dV 1) (dC (.int (0)))) (dC (.str "put")))))
 (sRet (sD (dCall f__law_placed (aCons (dV 0) (aCons (d2 fIx (dV 1) (dC (.int (1)))) aNil)))))
 sNil)
 (sRet (sD (dFz (dLc (iSeq (dV 0)) (.nm 2) (tOr (tV (d2 fNe (d2 fIx (dV 2) (dC (.int (0)))) (d2 fIx (dV 1) (dC (.int (1)))))) (tV (d2 fNe (d2 fIx (dV 2) (dC (.int (1)))) (d2 fIx (dV 1) (dC (.int (2))))))) (dV 2) [2])))))
def f__law_after : List D → Res D := fD 2 3 b__law_after
def s__law_kinds : Stmt := top 101
def N__law_kinds : List Str := ["first"]
def P__law_kinds : List Str := []
theorem sc__law_kinds : FnScope N__law_kinds P__law_kinds (defScope s__law_kinds) := ⟨rfl, rfl, rfl, by decide +kernel, rfl, by decide +kernel, by decide +kernel⟩
def s__law_lowest : Stmt := top 94
def N__law_lowest : List Str := ["n", "d", "a", "b", "k", "c"]
def P__law_lowest : List Str := ["n", "d"]
theorem sc__law_lowest : FnScope N__law_lowest P__law_lowest (defScope s__law_lowest) := ⟨rfl, rfl, rfl, by decide +kernel, rfl, by decide +kernel, by decide +kernel⟩
def s__law_grain : Stmt := top 95
def N__law_grain : List Str := ["x", "y"]
def P__law_grain : List Str := ["x", "y"]
theorem sc__law_grain : FnScope N__law_grain P__law_grain (defScope s__law_grain) := ⟨rfl, rfl, rfl, by decide +kernel, rfl, by decide +kernel, by decide +kernel⟩
def s__law_line : Stmt := top 97
def N__law_line : List Str := ["piece", "number"]
def P__law_line : List Str := ["piece", "number"]
theorem sc__law_line : FnScope N__law_line P__law_line (defScope s__law_line) := ⟨rfl, rfl, rfl, by decide +kernel, rfl, by decide +kernel, by decide +kernel⟩
def s__law_piece : Stmt := top 96
def N__law_piece : List Str := ["numbers", "most", "x", "y", "far", "top"]
def P__law_piece : List Str := ["numbers", "most"]
theorem sc__law_piece : FnScope N__law_piece P__law_piece (defScope s__law_piece) := ⟨rfl, rfl, rfl, by decide +kernel, rfl, by decide +kernel, by decide +kernel⟩
def s__law_shape_row : Stmt := top 100
def N__law_shape_row : List Str := ["kind", "name", "names", "n", "day", "share", "strain", "grain", "outline", "luff", "rule", "row", "k"]
def P__law_shape_row : List Str := ["kind", "name", "names", "n"]
theorem sc__law_shape_row : FnScope N__law_shape_row P__law_shape_row (defScope s__law_shape_row) := ⟨rfl, rfl, rfl, by decide +kernel, rfl, by decide +kernel, by decide +kernel⟩
def s__law_row : Stmt := top 99
def N__law_row : List Str := ["kind", "name", "names", "n", "day", "small", "area", "low", "high", "some", "along", "across", "work"]
def P__law_row : List Str := ["kind", "name", "names", "n"]
theorem sc__law_row : FnScope N__law_row P__law_row (defScope s__law_row) := ⟨rfl, rfl, rfl, by decide +kernel, rfl, by decide +kernel, by decide +kernel⟩
def s__law_book : Stmt := top 105
def N__law_book : List Str := ["numbers", "start", "count", "names", "pool", "rows", "kinds", "k", "n", "kind", "j"]
def P__law_book : List Str := ["numbers", "start", "count", "names", "pool"]
theorem sc__law_book : FnScope N__law_book P__law_book (defScope s__law_book) := ⟨rfl, rfl, rfl, by decide +kernel, rfl, by decide +kernel, by decide +kernel⟩
def s__law_edit : Stmt := top 108
def N__law_edit : List Str := ["rows", "names", "numbers", "k", "n", "kinds", "row", "old", "j"]
def P__law_edit : List Str := ["rows", "names", "numbers", "k"]
theorem sc__law_edit : FnScope N__law_edit P__law_edit (defScope s__law_edit) := ⟨rfl, rfl, rfl, by decide +kernel, rfl, by decide +kernel, by decide +kernel⟩
def b__law_edit : At → Out :=
 (sSeq (sLay 4 (sD (dLc (iRange1 (dC (.int (10)))) (.nm 8) yesT (d2 fIx (dV 2) (d2 fMod (d2 fAdd (d2 fMul (dC (.int (10))) (dV 3)) (dV 8)) (dN fLen (aCons (dV 2) aNil)))) [8])))
 (sSeq (sSet 5 (sD (dLst (aCons (dC (.str "hand")) (aCons (dC (.str "master")) (aCons (dC (.str "table")) (aCons (dC (.str "bolt")) (aCons (dC (.str "wind")) (aCons (d2 fIx (dCall f__law_kinds aNil) (d2 fMod (d2 fIx (dV 2) (dC (.int (9)))) (dC (.int (20))))) aNil)))))))))
 (sSeq (sSet 6 (sD (dCall f__law_row (aCons (d2 fIx (dV 5) (d2 fMod (d2 fIx (dV 4) (dC (.int (0)))) (dC (.int (6))))) (aCons (d2 fIx (dV 1) (d2 fMod (d2 fIx (dV 4) (dC (.int (1)))) (dC (.int (6))))) (aCons (dV 1) (aCons (dV 4) aNil)))))))
 (sSeq (sIf (sD (tAnd (tV (d2 fGt (d2 fMod (d2 fIx (dV 4) (dC (.int (2)))) (dC (.int (4)))) (dC (.int (1))))) (tV (d2 fGt (dN fLen (aCons (dV 0) aNil)) (dC (.int (0)))))))
 (sSeq (sSet 7 (sD (d2 fIx (dV 0) (d2 fMod (d2 fIx (dV 4) (dC (.int (3)))) (dN fLen (aCons (dV 0) aNil))))))
 (sSeq (sIf (sD (tV (d2 fEq (d2 fMod (d2 fIx (dV 4) (dC (.int (2)))) (dC (.int (8)))) (dC (.int (3))))))
 (sRet (sD (dTup (aCons (dC (.str "put")) (aCons (dV 7) aNil)))))
 sNil)
 (sSeq (sIf (sD (tV (d2 fEq (d2 fMod (d2 fIx (dV 4) (dC (.int (2)))) (dC (.int (4)))) (dC (.int (2))))))
 (sRet (sD (dTup (aCons (dC (.str "put")) (aCons (dCall f__law_row (aCons (d2 fIx (dV 7) (dC (.int (0)))) (aCons (d2 fIx (dV 7) (dC (.int (1)))) (aCons (dV 1) (aCons (dV 4) aNil))))) aNil)))))
 sNil)
 (sRet (sD (dTup (aCons (dC (.str "drop")) (aCons (d2 fIx (dV 7) (dC (.int (0)))) (aCons (d2 fIx (dV 7) (dC (.int (1)))) aNil)))))))))
 sNil)
 (sSeq (sIf (sD (tV (d2 fEq (d2 fMod (d2 fIx (dV 4) (dC (.int (2)))) (dC (.int (4)))) (dC (.int (1))))))
 (sRet (sD (dTup (aCons (dC (.str "drop")) (aCons (d2 fIx (dV 6) (dC (.int (0)))) (aCons (d2 fIx (dV 6) (dC (.int (1)))) aNil))))))
 sNil)
 (sRet (sD (dTup (aCons (dC (.str "put")) (aCons (dV 6) aNil))))))))))
def f__law_edit : List D → Res D := fD 4 9 b__law_edit
def s__law_find : Stmt := top 106
def N__law_find : List Str := ["rows", "kind", "name", "row"]
def P__law_find : List Str := ["rows", "kind", "name"]
theorem sc__law_find : FnScope N__law_find P__law_find (defScope s__law_find) := ⟨rfl, rfl, rfl, by decide +kernel, rfl, by decide +kernel, by decide +kernel⟩
def b__law_find : At → Out :=
 (sSeq (sFor (iSeq (dV 0)) (.nm 3)
 (sIf (sD (tAnd (tV (d2 fEq (d2 fIx (dV 3) (dC (.int (0)))) (dV 1))) (tV (d2 fEq (d2 fIx (dV 3) (dC (.int (1)))) (dV 2)))))
 (sRet (sD (dV 3)))
 sNil))
 (sRet (sD (dC .none))))
def f__law_find : List D → Res D := fD 3 4 b__law_find
def s_is_name : Stmt := top 13
def N_is_name : List Str := ["value", "char"]
def P_is_name : List Str := ["value"]
theorem sc_is_name : FnScope N_is_name P_is_name (defScope s_is_name) := ⟨rfl, rfl, rfl, by decide +kernel, rfl, by decide +kernel, by decide +kernel⟩
def s_ascending_names : Stmt := top 51
def N_ascending_names : List Str := ["value", "before", "word"]
def P_ascending_names : List Str := ["value"]
theorem sc_ascending_names : FnScope N_ascending_names P_ascending_names (defScope s_ascending_names) := ⟨rfl, rfl, rfl, by decide +kernel, rfl, by decide +kernel, by decide +kernel⟩
def s_is_string : Stmt := top 3
def N_is_string : List Str := ["value"]
def P_is_string : List Str := ["value"]
theorem sc_is_string : FnScope N_is_string P_is_string (defScope s_is_string) := ⟨rfl, rfl, rfl, by decide +kernel, rfl, by decide +kernel, by decide +kernel⟩
def s_is_whole : Stmt := top 1
def N_is_whole : List Str := ["value"]
def P_is_whole : List Str := ["value"]
theorem sc_is_whole : FnScope N_is_whole P_is_whole (defScope s_is_whole) := ⟨rfl, rfl, rfl, by decide +kernel, rfl, by decide +kernel, by decide +kernel⟩
def s_is_within : Stmt := top 2
def N_is_within : List Str := ["low", "high", "value"]
def P_is_within : List Str := ["low", "high", "value"]
theorem sc_is_within : FnScope N_is_within P_is_within (defScope s_is_within) := ⟨rfl, rfl, rfl, by decide +kernel, rfl, by decide +kernel, by decide +kernel⟩
def s_names_field : Stmt := top 75
def N_names_field : List Str := ["low", "high", "value", "place", "word"]
def P_names_field : List Str := ["low", "high", "value"]
theorem sc_names_field : FnScope N_names_field P_names_field (defScope s_names_field) := ⟨rfl, rfl, rfl, by decide +kernel, rfl, by decide +kernel, by decide +kernel⟩
def s_compare_ratios : Stmt := top 25
def N_compare_ratios : List Str := ["a", "b", "left", "right"]
def P_compare_ratios : List Str := ["a", "b"]
theorem sc_compare_ratios : FnScope N_compare_ratios P_compare_ratios (defScope s_compare_ratios) := ⟨rfl, rfl, rfl, by decide +kernel, rfl, by decide +kernel, by decide +kernel⟩
def s_common_divisor : Stmt := top 17
def N_common_divisor : List Str := ["a", "b"]
def P_common_divisor : List Str := ["a", "b"]
theorem sc_common_divisor : FnScope N_common_divisor P_common_divisor (defScope s_common_divisor) := ⟨rfl, rfl, rfl, by decide +kernel, rfl, by decide +kernel, by decide +kernel⟩
def s_is_row : Stmt := top 4
def N_is_row : List Str := ["size", "value"]
def P_is_row : List Str := ["size", "value"]
theorem sc_is_row : FnScope N_is_row P_is_row (defScope s_is_row) := ⟨rfl, rfl, rfl, by decide +kernel, rfl, by decide +kernel, by decide +kernel⟩
def s_is_ratio : Stmt := top 18
def N_is_ratio : List Str := ["value", "n", "d"]
def P_is_ratio : List Str := ["value"]
theorem sc_is_ratio : FnScope N_is_ratio P_is_ratio (defScope s_is_ratio) := ⟨rfl, rfl, rfl, by decide +kernel, rfl, by decide +kernel, by decide +kernel⟩
def s_short_ratio : Stmt := top 67
def N_short_ratio : List Str := ["value"]
def P_short_ratio : List Str := ["value"]
theorem sc_short_ratio : FnScope N_short_ratio P_short_ratio (defScope s_short_ratio) := ⟨rfl, rfl, rfl, by decide +kernel, rfl, by decide +kernel, by decide +kernel⟩
def s_whole_ratio : Stmt := top 20
def N_whole_ratio : List Str := ["n"]
def P_whole_ratio : List Str := ["n"]
theorem sc_whole_ratio : FnScope N_whole_ratio P_whole_ratio (defScope s_whole_ratio) := ⟨rfl, rfl, rfl, by decide +kernel, rfl, by decide +kernel, by decide +kernel⟩
def s_ratio_within : Stmt := top 68
def N_ratio_within : List Str := ["low", "high", "value"]
def P_ratio_within : List Str := ["low", "high", "value"]
theorem sc_ratio_within : FnScope N_ratio_within P_ratio_within (defScope s_ratio_within) := ⟨rfl, rfl, rfl, by decide +kernel, rfl, by decide +kernel, by decide +kernel⟩
def s_is_rule : Stmt := top 54
def N_is_rule : List Str := ["value", "before", "ratio"]
def P_is_rule : List Str := ["value"]
theorem sc_is_rule : FnScope N_is_rule P_is_rule (defScope s_is_rule) := ⟨rfl, rfl, rfl, by decide +kernel, rfl, by decide +kernel, by decide +kernel⟩
def s_rule_field : Stmt := top 73
def N_rule_field : List Str := ["value", "strain"]
def P_rule_field : List Str := ["value"]
theorem sc_rule_field : FnScope N_rule_field P_rule_field (defScope s_rule_field) := ⟨rfl, rfl, rfl, by decide +kernel, rfl, by decide +kernel, by decide +kernel⟩
def s_is_grain : Stmt := top 28
def N_is_grain : List Str := ["value", "x", "y"]
def P_is_grain : List Str := ["value"]
theorem sc_is_grain : FnScope N_is_grain P_is_grain (defScope s_is_grain) := ⟨rfl, rfl, rfl, by decide +kernel, rfl, by decide +kernel, by decide +kernel⟩
def s_grain_field : Stmt := top 72
def N_grain_field : List Str := ["value"]
def P_grain_field : List Str := ["value"]
theorem sc_grain_field : FnScope N_grain_field P_grain_field (defScope s_grain_field) := ⟨rfl, rfl, rfl, by decide +kernel, rfl, by decide +kernel, by decide +kernel⟩
def s_is_pull : Stmt := top 49
def N_is_pull : List Str := ["value", "x", "y"]
def P_is_pull : List Str := ["value"]
theorem sc_is_pull : FnScope N_is_pull P_is_pull (defScope s_is_pull) := ⟨rfl, rfl, rfl, by decide +kernel, rfl, by decide +kernel, by decide +kernel⟩
def s_is_point : Stmt := top 27
def N_is_point : List Str := ["value"]
def P_is_point : List Str := ["value"]
theorem sc_is_point : FnScope N_is_point P_is_point (defScope s_is_point) := ⟨rfl, rfl, rfl, by decide +kernel, rfl, by decide +kernel, by decide +kernel⟩
def s_is_spot : Stmt := top 69
def N_is_spot : List Str := ["value", "part"]
def P_is_spot : List Str := ["value"]
theorem sc_is_spot : FnScope N_is_spot P_is_spot (defScope s_is_spot) := ⟨rfl, rfl, rfl, by decide +kernel, rfl, by decide +kernel, by decide +kernel⟩
def s_line_field : Stmt := top 71
def N_line_field : List Str := ["value"]
def P_line_field : List Str := ["value"]
theorem sc_line_field : FnScope N_line_field P_line_field (defScope s_line_field) := ⟨rfl, rfl, rfl, by decide +kernel, rfl, by decide +kernel, by decide +kernel⟩
def s_all_points : Stmt := top 39
def N_all_points : List Str := ["value", "item"]
def P_all_points : List Str := ["value"]
theorem sc_all_points : FnScope N_all_points P_all_points (defScope s_all_points) := ⟨rfl, rfl, rfl, by decide +kernel, rfl, by decide +kernel, by decide +kernel⟩
def s_make_ratio : Stmt := top 19
def N_make_ratio : List Str := ["n", "d", "shared"]
def P_make_ratio : List Str := ["n", "d"]
theorem sc_make_ratio : FnScope N_make_ratio P_make_ratio (defScope s_make_ratio) := ⟨rfl, rfl, rfl, by decide +kernel, rfl, by decide +kernel, by decide +kernel⟩
def s_add_ratios : Stmt := top 21
def N_add_ratios : List Str := ["a", "b"]
def P_add_ratios : List Str := ["a", "b"]
theorem sc_add_ratios : FnScope N_add_ratios P_add_ratios (defScope s_add_ratios) := ⟨rfl, rfl, rfl, by decide +kernel, rfl, by decide +kernel, by decide +kernel⟩
def s_take_ratios : Stmt := top 22
def N_take_ratios : List Str := ["a", "b"]
def P_take_ratios : List Str := ["a", "b"]
theorem sc_take_ratios : FnScope N_take_ratios P_take_ratios (defScope s_take_ratios) := ⟨rfl, rfl, rfl, by decide +kernel, rfl, by decide +kernel, by decide +kernel⟩
def s_times_ratios : Stmt := top 23
def N_times_ratios : List Str := ["a", "b"]
def P_times_ratios : List Str := ["a", "b"]
theorem sc_times_ratios : FnScope N_times_ratios P_times_ratios (defScope s_times_ratios) := ⟨rfl, rfl, rfl, by decide +kernel, rfl, by decide +kernel, by decide +kernel⟩
def s_cross_product : Stmt := top 30
def N_cross_product : List Str := ["u", "v"]
def P_cross_product : List Str := ["u", "v"]
theorem sc_cross_product : FnScope N_cross_product P_cross_product (defScope s_cross_product) := ⟨rfl, rfl, rfl, by decide +kernel, rfl, by decide +kernel, by decide +kernel⟩
def s_double_area : Stmt := top 38
def N_double_area : List Str := ["row", "total", "k"]
def P_double_area : List Str := ["row"]
theorem sc_double_area : FnScope N_double_area P_double_area (defScope s_double_area) := ⟨rfl, rfl, rfl, by decide +kernel, rfl, by decide +kernel, by decide +kernel⟩
def s_compare_points : Stmt := top 34
def N_compare_points : List Str := ["p", "q", "first"]
def P_compare_points : List Str := ["p", "q"]
theorem sc_compare_points : FnScope N_compare_points P_compare_points (defScope s_compare_points) := ⟨rfl, rfl, rfl, by decide +kernel, rfl, by decide +kernel, by decide +kernel⟩
def s_from_least : Stmt := top 41
def N_from_least : List Str := ["row", "best", "k"]
def P_from_least : List Str := ["row"]
theorem sc_from_least : FnScope N_from_least P_from_least (defScope s_from_least) := ⟨rfl, rfl, rfl, by decide +kernel, rfl, by decide +kernel, by decide +kernel⟩
def s_sign_ratio : Stmt := top 24
def N_sign_ratio : List Str := ["a"]
def P_sign_ratio : List Str := ["a"]
theorem sc_sign_ratio : FnScope N_sign_ratio P_sign_ratio (defScope s_sign_ratio) := ⟨rfl, rfl, rfl, by decide +kernel, rfl, by decide +kernel, by decide +kernel⟩
def s_take_points : Stmt := top 29
def N_take_points : List Str := ["p", "q"]
def P_take_points : List Str := ["p", "q"]
theorem sc_take_points : FnScope N_take_points P_take_points (defScope s_take_points) := ⟨rfl, rfl, rfl, by decide +kernel, rfl, by decide +kernel, by decide +kernel⟩
def s_turn_sign : Stmt := top 31
def N_turn_sign : List Str := ["p", "q", "r"]
def P_turn_sign : List Str := ["p", "q", "r"]
theorem sc_turn_sign : FnScope N_turn_sign P_turn_sign (defScope s_turn_sign) := ⟨rfl, rfl, rfl, by decide +kernel, rfl, by decide +kernel, by decide +kernel⟩
def s_corners_turn : Stmt := top 43
def N_corners_turn : List Str := ["row", "many", "k"]
def P_corners_turn : List Str := ["row"]
theorem sc_corners_turn : FnScope N_corners_turn P_corners_turn (defScope s_corners_turn) := ⟨rfl, rfl, rfl, by decide +kernel, rfl, by decide +kernel, by decide +kernel⟩
def s_row_sides : Stmt := top 40
def N_row_sides : List Str := ["row", "ends", "start", "end"]
def P_row_sides : List Str := ["row"]
theorem sc_row_sides : FnScope N_row_sides P_row_sides (defScope s_row_sides) := ⟨rfl, rfl, rfl, by decide +kernel, rfl, by decide +kernel, by decide +kernel⟩
def s_lies_between : Stmt := top 32
def N_lies_between : List Str := ["a", "b", "value"]
def P_lies_between : List Str := ["a", "b", "value"]
theorem sc_lies_between : FnScope N_lies_between P_lies_between (defScope s_lies_between) := ⟨rfl, rfl, rfl, by decide +kernel, rfl, by decide +kernel, by decide +kernel⟩
def s_on_segment : Stmt := top 33
def N_on_segment : List Str := ["a", "b", "point"]
def P_on_segment : List Str := ["a", "b", "point"]
theorem sc_on_segment : FnScope N_on_segment P_on_segment (defScope s_on_segment) := ⟨rfl, rfl, rfl, by decide +kernel, rfl, by decide +kernel, by decide +kernel⟩
def s_sides_meet : Stmt := top 42
def N_sides_meet : List Str := ["one", "two", "a", "b", "c", "d"]
def P_sides_meet : List Str := ["one", "two"]
theorem sc_sides_meet : FnScope N_sides_meet P_sides_meet (defScope s_sides_meet) := ⟨rfl, rfl, rfl, by decide +kernel, rfl, by decide +kernel, by decide +kernel⟩
def s_sides_part : Stmt := top 44
def N_sides_part : List Str := ["row", "sides", "last", "i", "j"]
def P_sides_part : List Str := ["row"]
theorem sc_sides_part : FnScope N_sides_part P_sides_part (defScope s_sides_part) := ⟨rfl, rfl, rfl, by decide +kernel, rfl, by decide +kernel, by decide +kernel⟩
def s_simple_row : Stmt := top 45
def N_simple_row : List Str := ["row"]
def P_simple_row : List Str := ["row"]
theorem sc_simple_row : FnScope N_simple_row P_simple_row (defScope s_simple_row) := ⟨rfl, rfl, rfl, by decide +kernel, rfl, by decide +kernel, by decide +kernel⟩
def s_is_piece : Stmt := top 46
def N_is_piece : List Str := ["value"]
def P_is_piece : List Str := ["value"]
theorem sc_is_piece : FnScope N_is_piece P_is_piece (defScope s_is_piece) := ⟨rfl, rfl, rfl, by decide +kernel, rfl, by decide +kernel, by decide +kernel⟩
def s_piece_field : Stmt := top 70
def N_piece_field : List Str := ["most", "value", "corner"]
def P_piece_field : List Str := ["most", "value"]
theorem sc_piece_field : FnScope N_piece_field P_piece_field (defScope s_piece_field) := ⟨rfl, rfl, rfl, by decide +kernel, rfl, by decide +kernel, by decide +kernel⟩
def s_shape_field : Stmt := top 76
def N_shape_field : List Str := ["form", "value"]
def P_shape_field : List Str := ["form", "value"]
theorem sc_shape_field : FnScope N_shape_field P_shape_field (defScope s_shape_field) := ⟨rfl, rfl, rfl, by decide +kernel, rfl, by decide +kernel, by decide +kernel⟩
def s_spans_field : Stmt := top 74
def N_spans_field : List Str := ["value", "span"]
def P_spans_field : List Str := ["value"]
theorem sc_spans_field : FnScope N_spans_field P_spans_field (defScope s_spans_field) := ⟨rfl, rfl, rfl, by decide +kernel, rfl, by decide +kernel, by decide +kernel⟩
def s_is_field : Stmt := top 77
def N_is_field : List Str := ["form", "value", "word"]
def P_is_field : List Str := ["form", "value"]
theorem sc_is_field : FnScope N_is_field P_is_field (defScope s_is_field) := ⟨rfl, rfl, rfl, by decide +kernel, rfl, by decide +kernel, by decide +kernel⟩
def s_row_fits : Stmt := top 78
def N_row_fits : List Str := ["row", "kind", "sides"]
def P_row_fits : List Str := ["row"]
theorem sc_row_fits : FnScope N_row_fits P_row_fits (defScope s_row_fits) := ⟨rfl, rfl, rfl, by decide +kernel, rfl, by decide +kernel, by decide +kernel⟩
def s_is_book_row : Stmt := top 79
def N_is_book_row : List Str := ["value", "forms", "form", "item"]
def P_is_book_row : List Str := ["value"]
theorem sc_is_book_row : FnScope N_is_book_row P_is_book_row (defScope s_is_book_row) := ⟨rfl, rfl, rfl, by decide +kernel, rfl, by decide +kernel, by decide +kernel⟩
def s_is_edit : Stmt := top 85
def N_is_edit : List Str := ["value"]
def P_is_edit : List Str := ["value"]
theorem sc_is_edit : FnScope N_is_edit P_is_edit (defScope s_is_edit) := ⟨rfl, rfl, rfl, by decide +kernel, rfl, by decide +kernel, by decide +kernel⟩
def s__law_forms : Stmt := top 112
def N__law_forms : List Str := ["edit", "bad", "row"]
def P__law_forms : List Str := ["edit"]
theorem sc__law_forms : FnScope N__law_forms P__law_forms (defScope s__law_forms) := ⟨rfl, rfl, rfl, by decide +kernel, rfl, by decide +kernel, by decide +kernel⟩
def b__law_forms : At → Out :=
 (sSeq (sSet 1 (sD (dLst (aCons (dN fList (aCons (dV 0) aNil)) (aCons (dSl (dV 0) pNone (pSome (dC (.int (1))))) (aCons (d2 fAdd (dV 0) (dTup (aCons (dC (.int (0))) aNil))) (aCons (d2 fAdd (dTup (aCons (dC (.str "Put")) aNil)) (dSl (dV 0) (pSome (dC (.int (1)))) pNone)) (aCons (d2 fAdd (dTup (aCons (dC (.int (0))) aNil)) (dSl (dV 0) (pSome (dC (.int (1)))) pNone)) (aCons (dC .none) (aCons (dTup (aCons (dC (.str "drop")) (aCons (dC (.str "hand")) aNil))) (aCons (dTup (aCons (dC (.str "drop")) (aCons (dC (.str "hat")) (aCons (dC (.str "a")) aNil)))) aNil)))))))))))
 (sSeq (sSet 1 (sD (d2 fAdd (dV 1) (dLst (aCons (dTup (aCons (dC (.str "drop")) (aCons (dC (.str "hand")) (aCons (dC (.str "A")) aNil)))) (aCons (dTup (aCons (dC (.str "put")) (aCons (dC .none) aNil))) (aCons (dTup (aCons (dC (.str "put")) (aCons (dTup (aCons (dC (.str "hand")) (aCons (dC (.str "a")) aNil))) aNil))) (aCons (dTup (aCons (dC (.str "put")) (aCons (dC (.str "hand")) (aCons (dC (.str "a")) aNil)))) (aCons (dTup (aCons (dC (.str "drop")) (aCons (dC .none) (aCons (dC (.str "a")) aNil)))) aNil)))))))))
 (sRet (sD (d2 fEq (dN fLen (aCons (dFz (dLc (iSeq (dV 1)) (.nm 2) (tV (d2 fIsNot (dCall f_is_edit (aCons (dV 2) aNil)) (dC (.bool false)))) (dV 2) [2])) aNil)) (dC (.int (0))))))))
def f__law_forms : List D → Res D := fD 1 3 b__law_forms
def s_row_key : Stmt := top 80
def N_row_key : List Str := ["row"]
def P_row_key : List Str := ["row"]
theorem sc_row_key : FnScope N_row_key P_row_key (defScope s_row_key) := ⟨rfl, rfl, rfl, by decide +kernel, rfl, by decide +kernel, by decide +kernel⟩
def s_edit_key : Stmt := top 86
def N_edit_key : List Str := ["edit"]
def P_edit_key : List Str := ["edit"]
theorem sc_edit_key : FnScope N_edit_key P_edit_key (defScope s_edit_key) := ⟨rfl, rfl, rfl, by decide +kernel, rfl, by decide +kernel, by decide +kernel⟩
def b_edit_key : At → Out :=
 (sSeq (sIf (sD (tV (d2 fEq (d2 fIx (dV 0) (dC (.int (0)))) (dC (.str "put")))))
 (sRet (sD (dCall f_row_key (aCons (d2 fIx (dV 0) (dC (.int (1)))) aNil))))
 sNil)
 (sRet (sD (dTup (aCons (d2 fIx (dV 0) (dC (.int (1)))) (aCons (d2 fIx (dV 0) (dC (.int (2)))) aNil))))))
def f_edit_key : List D → Res D := fD 1 1 b_edit_key
def s_find_row : Stmt := top 83
def N_find_row : List Str := ["book", "kind", "name", "row"]
def P_find_row : List Str := ["book", "kind", "name"]
theorem sc_find_row : FnScope N_find_row P_find_row (defScope s_find_row) := ⟨rfl, rfl, rfl, by decide +kernel, rfl, by decide +kernel, by decide +kernel⟩
def b_find_row : At → Out :=
 (sSeq (sFor (iSeq (dV 0)) (.nm 3)
 (sIf (sD (tAnd (tV (d2 fEq (d2 fIx (dV 3) (dC (.int (0)))) (dV 1))) (tV (d2 fEq (d2 fIx (dV 3) (dC (.int (1)))) (dV 2)))))
 (sRet (sD (dV 3)))
 sNil))
 (sRaise "Unknown" "name" (sD (dV 2))))
def f_find_row : List D → Res D := fD 3 4 b_find_row
def s_has_row : Stmt := top 82
def N_has_row : List Str := ["book", "kind", "name", "row"]
def P_has_row : List Str := ["book", "kind", "name"]
theorem sc_has_row : FnScope N_has_row P_has_row (defScope s_has_row) := ⟨rfl, rfl, rfl, by decide +kernel, rfl, by decide +kernel, by decide +kernel⟩
def s_kind_rows : Stmt := top 81
def N_kind_rows : List Str := ["book", "kind", "row"]
def P_kind_rows : List Str := ["book", "kind"]
theorem sc_kind_rows : FnScope N_kind_rows P_kind_rows (defScope s_kind_rows) := ⟨rfl, rfl, rfl, by decide +kernel, rfl, by decide +kernel, by decide +kernel⟩
def s_put_into : Stmt := top 87
def N_put_into : List Str := ["book", "row", "below", "above", "old"]
def P_put_into : List Str := ["book", "row"]
theorem sc_put_into : FnScope N_put_into P_put_into (defScope s_put_into) := ⟨rfl, rfl, rfl, by decide +kernel, rfl, by decide +kernel, by decide +kernel⟩
def b_put_into : At → Out :=
 (sSeq (sLay 2 (sD (dLc (iSeq (dV 0)) (.nm 4) (tV (d2 fLt (dCall f_row_key (aCons (dV 4) aNil)) (dCall f_row_key (aCons (dV 1) aNil)))) (dV 4) [4])))
 (sSeq (sLay 3 (sD (dLc (iSeq (dV 0)) (.nm 4) (tV (d2 fLt (dCall f_row_key (aCons (dV 1) aNil)) (dCall f_row_key (aCons (dV 4) aNil)))) (dV 4) [4])))
 (sRet (sD (dN fTuple (aCons (d2 fAdd (d2 fAdd (dV 2) (dLst (aCons (dV 1) aNil))) (dV 3)) aNil))))))
def f_put_into : List D → Res D := fD 2 5 b_put_into
def s_apply_edit : Stmt := top 88
def N_apply_edit : List Str := ["book", "edit", "kind", "name", "row"]
def P_apply_edit : List Str := ["book", "edit"]
theorem sc_apply_edit : FnScope N_apply_edit P_apply_edit (defScope s_apply_edit) := ⟨rfl, rfl, rfl, by decide +kernel, rfl, by decide +kernel, by decide +kernel⟩
def b_apply_edit : At → Out :=
 (sSeq (sSetT (.tup [2, 3]) (sD (dCall f_edit_key (aCons (dV 1) aNil))))
 (sSeq (sIf (sD (tV (d2 fEq (d2 fIx (dV 1) (dC (.int (0)))) (dC (.str "drop")))))
 (sSeq (sDrop (sD (dCall f_find_row (aCons (dV 0) (aCons (dV 2) (aCons (dV 3) aNil))))))
 (sRet (sD (dN fTuple (aCons (dFz (dLc (iSeq (dV 0)) (.nm 4) (tV (d2 fNe (dCall f_row_key (aCons (dV 4) aNil)) (dTup (aCons (dV 2) (aCons (dV 3) aNil))))) (dV 4) [4])) aNil)))))
 sNil)
 (sSeq (sIf (sD (tAnd (tNot (tV (dCall f_has_row (aCons (dV 0) (aCons (dV 2) (aCons (dV 3) aNil)))))) (tV (d2 fGe (dN fLen (aCons (dCall f_kind_rows (aCons (dV 0) (aCons (dV 2) aNil))) aNil)) (dC k_MOST_ROWS)))))
 (fun α => .er ⟨"OutOfRange", none⟩ α)
 sNil)
 (sRet (sD (dCall f_put_into (aCons (dV 0) (aCons (d2 fIx (dV 1) (dC (.int (1)))) aNil))))))))
def f_apply_edit : List D → Res D := fD 2 5 b_apply_edit
def s_apply_edits : Stmt := top 89
def N_apply_edits : List Str := ["book", "edits", "edit"]
def P_apply_edits : List Str := ["book", "edits"]
theorem sc_apply_edits : FnScope N_apply_edits P_apply_edits (defScope s_apply_edits) := ⟨rfl, rfl, rfl, by decide +kernel, rfl, by decide +kernel, by decide +kernel⟩
def b_apply_edits : At → Out :=
 (sSeq (sFor (iSeq (dV 1)) (.nm 2)
 (sSet 0 (sD (dCall f_apply_edit (aCons (dV 0) (aCons (dV 2) aNil))))))
 (sRet (sD (dV 0))))
def f_apply_edits : List D → Res D := fD 2 3 b_apply_edits
def s_undo_edit : Stmt := top 90
def N_undo_edit : List Str := ["book", "edit", "kind", "name"]
def P_undo_edit : List Str := ["book", "edit"]
theorem sc_undo_edit : FnScope N_undo_edit P_undo_edit (defScope s_undo_edit) := ⟨rfl, rfl, rfl, by decide +kernel, rfl, by decide +kernel, by decide +kernel⟩
def b_undo_edit : At → Out :=
 (sSeq (sDrop (sD (dCall f_apply_edit (aCons (dV 0) (aCons (dV 1) aNil)))))
 (sSeq (sSetT (.tup [2, 3]) (sD (dCall f_edit_key (aCons (dV 1) aNil))))
 (sSeq (sIf (sD (tV (dCall f_has_row (aCons (dV 0) (aCons (dV 2) (aCons (dV 3) aNil))))))
 (sRet (sD (dTup (aCons (dC (.str "put")) (aCons (dCall f_find_row (aCons (dV 0) (aCons (dV 2) (aCons (dV 3) aNil)))) aNil)))))
 sNil)
 (sRet (sD (dTup (aCons (dC (.str "drop")) (aCons (dV 2) (aCons (dV 3) aNil)))))))))
def f_undo_edit : List D → Res D := fD 2 4 b_undo_edit
def s__law_raised : Stmt := top 109
def N__law_raised : List Str := ["book", "edit", "words", "k", "e"]
def P__law_raised : List Str := ["book", "edit"]
theorem sc__law_raised : FnScope N__law_raised P__law_raised (defScope s__law_raised) := ⟨rfl, rfl, rfl, by decide +kernel, rfl, by decide +kernel, by decide +kernel⟩
def b__law_raised : At → Out :=
 (sSeq (sOwn 2 (sD (fLst aNil)))
 (sSeq (sFor (iRange1 (dC (.int (3)))) (.nm 3)
 (sTry k_T (sSeq (sIf (sD (tV (d2 fEq (dV 3) (dC (.int (0))))))
 (sDrop (sD (dCall f_apply_edit (aCons (dV 0) (aCons (dV 1) aNil)))))
 (sIf (sD (tV (d2 fEq (dV 3) (dC (.int (1))))))
 (sDrop (sD (dCall f_undo_edit (aCons (dV 0) (aCons (dV 1) aNil)))))
 (sDrop (sD (dCall f_apply_edits (aCons (dV 0) (aCons (dTup (aCons (dV 1) (aCons (dV 1) aNil))) aNil)))))))
 (sApp 2 (sD (dC (.str "none")))))
 [⟨"Unknown", some 4, fun er => (sApp 2 (sD (dEr k_F er "name")))⟩,
 ⟨"OutOfRange", some 4, fun er => (sApp 2 (sD (d2 fIx (dLst (aCons (dC (.str "?")) (aCons (dC (.str "full")) aNil))) (dN fInt (aCons (dIsX k_T er "LoftError") aNil)))))⟩]))
 (fun α => (sRet (sD (dV 2))) (frzA 2 α))))
def f__law_raised : List D → Res D := fD 2 5 b__law_raised
def s__law_same : Stmt := top 102
def N__law_same : List Str := ["one", "two", "k"]
def P__law_same : List Str := ["one", "two"]
theorem sc__law_same : FnScope N__law_same P__law_same (defScope s__law_same) := ⟨rfl, rfl, rfl, by decide +kernel, rfl, by decide +kernel, by decide +kernel⟩
def s__law_step : Stmt := top 110
def N__law_step : List Str := ["rows", "edit", "book", "after", "back", "key", "old", "due"]
def P__law_step : List Str := ["rows", "edit"]
theorem sc__law_step : FnScope N__law_step P__law_step (defScope s__law_step) := ⟨rfl, rfl, rfl, by decide +kernel, rfl, by decide +kernel, by decide +kernel⟩
def b__law_step : At → Out :=
 (sSeq (sSet 2 (sD (dN fTuple (aCons (dV 0) aNil))))
 (sSeq (sSet 3 (sD (dCall f__law_after (aCons (dV 0) (aCons (dV 1) aNil)))))
 (sSeq (sIf (sD (tOr (tNot (tV (dCall f__law_same (aCons (dCall f_apply_edit (aCons (dV 2) (aCons (dV 1) aNil))) (aCons (dN fTuple (aCons (dV 3) aNil)) aNil))))) (tV (d2 fIsNot (dCall f_is_edit (aCons (dV 1) aNil)) (dC (.bool true))))))
 (sRet (sD (dC (.bool false))))
 sNil)
 (sSeq (sSet 4 (sD (dCall f_undo_edit (aCons (dV 2) (aCons (dV 1) aNil)))))
 (sSeq (sSet 5 (sD (dSl (dV 1) (pSome (dC (.int (1)))) pNone)))
 (sSeq (sIf (sD (tV (d2 fEq (d2 fIx (dV 1) (dC (.int (0)))) (dC (.str "put")))))
 (sSet 5 (sD (dSl (d2 fIx (dV 1) (dC (.int (1)))) pNone (pSome (dC (.int (2)))))))
 sNil)
 (sSeq (sSet 6 (sD (dCall f__law_find (aCons (dV 0) (aCons (d2 fIx (dV 5) (dC (.int (0)))) (aCons (d2 fIx (dV 5) (dC (.int (1)))) aNil))))))
 (sSeq (sSet 7 (sD (dTup (aCons (dC (.str "put")) (aCons (dV 6) aNil)))))
 (sSeq (sIf (sD (tV (d2 fIs (dV 6) (dC .none))))
 (sSet 7 (sD (dTup (aCons (dC (.str "drop")) (aCons (d2 fIx (dV 5) (dC (.int (0)))) (aCons (d2 fIx (dV 5) (dC (.int (1)))) aNil))))))
 sNil)
 (sRet (sD (dAnd (dCall f__law_same (aCons (dV 4) (aCons (dV 7) aNil))) (dCall f__law_same (aCons (dCall f_apply_edit (aCons (dN fTuple (aCons (dV 3) aNil)) (aCons (dV 4) aNil))) (aCons (dV 2) aNil)))))))))))))))
def f__law_step : List D → Res D := fD 2 8 b__law_step
def s__law_full : Stmt := top 111
def N__law_full : List Str := ["rows", "number", "few", "k", "new", "row"]
def P__law_full : List Str := ["rows", "number"]
theorem sc__law_full : FnScope N__law_full P__law_full (defScope s__law_full) := ⟨rfl, rfl, rfl, by decide +kernel, rfl, by decide +kernel, by decide +kernel⟩
def b__law_full : At → Out :=
 (sSeq (sLay 2 (sD (dLc (iSeq (dV 0)) (.nm 5) (tV (d2 fNe (d2 fIx (dV 5) (dC (.int (0)))) (dC (.str "table")))) (dV 5) [5])))
 (sSeq (sFor (iRange1 (dC (.int (12)))) (.nm 3)
 (sSet 2 (sD (dCall f__law_placed (aCons (dV 2) (aCons (dTup (aCons (dC (.str "table")) (aCons (d2 fIx (dC (.str "abcdefghijkl")) (dV 3)) (aCons (d2 fMod (dV 3) (dC (.int (10)))) (aCons (d2 fMod (dV 1) (dC (.int (10)))) aNil))))) aNil))))))
 (sSeq (sSet 4 (sD (dTup (aCons (dC (.str "put")) (aCons (dTup (aCons (dC (.str "table")) (aCons (d2 fAdd (d2 fIx (dC (.str "abc")) (d2 fMod (dV 1) (dC (.int (3))))) (dC (.str "z"))) (aCons (dC (.int (0))) (aCons (dC (.int (1))) aNil))))) aNil)))))
 (sSeq (sIf (sD (tV (d2 fNe (dCall f__law_raised (aCons (dN fTuple (aCons (dV 2) aNil)) (aCons (dV 4) aNil))) (dLst (aCons (dC (.str "full")) (aCons (dC (.str "full")) (aCons (dC (.str "full")) aNil)))))))
 (sRet (sD (dC (.bool false))))
 sNil)
 (sRet (sD (dAnd (dCall f__law_step (aCons (dV 2) (aCons (dTup (aCons (dC (.str "put")) (aCons (dTup (aCons (dC (.str "table")) (aCons (d2 fIx (dC (.str "abc")) (d2 fMod (dV 1) (dC (.int (3))))) (aCons (dC (.int (9))) (aCons (dC (.int (9))) aNil))))) aNil))) aNil))) (dCall f__law_step (aCons (dV 2) (aCons (dTup (aCons (dC (.str "put")) (aCons (dTup (aCons (dC (.str "hand")) (aCons (dC (.str "z")) (aCons (dC (.int (1))) (aCons (dC (.int (1))) aNil))))) aNil))) aNil))))))))))
def f__law_full : List D → Res D := fD 2 6 b__law_full
def s__law_name : Stmt := top 93
def N__law_name : List Str := ["number", "letters"]
def P__law_name : List Str := ["number"]
theorem sc__law_name : FnScope N__law_name P__law_name (defScope s__law_name) := ⟨rfl, rfl, rfl, by decide +kernel, rfl, by decide +kernel, by decide +kernel⟩
def s__law_names : Stmt := top 98
def N__law_names : List Str := ["numbers", "k"]
def P__law_names : List Str := ["numbers"]
theorem sc__law_names : FnScope N__law_names P__law_names (defScope s__law_names) := ⟨rfl, rfl, rfl, by decide +kernel, rfl, by decide +kernel, by decide +kernel⟩
def s__law_numbers : Stmt := top 92
def N__law_numbers : List Str := ["script", "count", "rest", "size", "large", "numbers", "k", "at", "mixed", "cell"]
def P__law_numbers : List Str := ["script", "count"]
theorem sc__law_numbers : FnScope N__law_numbers P__law_numbers (defScope s__law_numbers) := ⟨rfl, rfl, rfl, by decide +kernel, rfl, by decide +kernel, by decide +kernel⟩
def s_law : Stmt := top 113
def N_law : List Str := ["script", "numbers", "names", "rows", "book", "edits", "k", "edit"]
def P_law : List Str := ["script"]
theorem sc_law : FnScope N_law P_law (defScope s_law) := ⟨rfl, rfl, rfl, by decide +kernel, rfl, by decide +kernel, by decide +kernel⟩
def b_law : At → Out :=
 (sSeq (sSet 1 (sD (dCall f__law_numbers (aCons (dV 0) (aCons (dC (.int (90))) aNil)))))
 (sSeq (sSet 2 (sD (dCall f__law_names (aCons (dV 1) aNil))))
 (sSeq (sSet 3 (sD (dCall f__law_book (aCons (dV 1) (aCons (dC (.int (8))) (aCons (d2 fMod (d2 fIx (dV 1) (dC (.int (6)))) (dC (.int (20)))) (aCons (dV 2) (aCons (dLst (aCons (dC (.int (6))) (aCons (dC (.int (7))) (aCons (dC (.int (18))) (aCons (dC (.int (0))) (aCons (dC (.int (19))) (aCons (d2 fMod (d2 fIx (dV 1) (dC (.int (9)))) (dC (.int (20)))) aNil))))))) aNil))))))))
 (sSeq (sSet 4 (sD (dN fTuple (aCons (dV 3) aNil))))
 (sSeq (sOwn 5 (sD (fLst aNil)))
 (sSeq (sFor (iRange1 (dC (.int (8)))) (.nm 6)
 (sSeq (sSet 7 (sD (dCall f__law_edit (aCons (dV 3) (aCons (dV 2) (aCons (dV 1) (aCons (dV 6) aNil)))))))
 (sIf (sD (tAnd (tV (d2 fEq (d2 fIx (dV 7) (dC (.int (0)))) (dC (.str "drop")))) (tV (d2 fIs (dCall f__law_find (aCons (dV 3) (aCons (d2 fIx (dV 7) (dC (.int (1)))) (aCons (d2 fIx (dV 7) (dC (.int (2)))) aNil)))) (dC .none)))))
 (sIf (sD (tOr (tV (d2 fNe (dCall f__law_raised (aCons (dN fTuple (aCons (dV 3) aNil)) (aCons (dV 7) aNil))) (d2 fMul (dLst (aCons (d2 fIx (dV 7) (dC (.int (2)))) aNil)) (dC (.int (3)))))) (tV (d2 fIsNot (dCall f_is_edit (aCons (dV 7) aNil)) (dC (.bool true))))))
 (sRet (sD (dC (.bool false))))
 sNil)
 (sSeq (sIf (sD (tOr (tNot (tV (dCall f__law_step (aCons (dV 3) (aCons (dV 7) aNil))))) (tNot (tV (dCall f__law_forms (aCons (dV 7) aNil))))))
 (sRet (sD (dC (.bool false))))
 sNil)
 (sSeq (sSet 3 (sD (dCall f__law_after (aCons (dV 3) (aCons (dV 7) aNil)))))
 (sApp 5 (sD (dV 7))))))))
 (sSeq (sIf (sBt (tNot (tV (dCall f__law_same (aCons (dCall f_apply_edits (aCons (dV 4) (aCons (dN fTuple (aCons (dV 5) aNil)) aNil))) (aCons (dN fTuple (aCons (dV 3) aNil)) aNil))))))
 (sRet (sD (dC (.bool false))))
 sNil)
 (sSeq (sIf (sD (tAnd (tV (d2 fEq (d2 fMod (d2 fIx (dV 1) (dC (.int (7)))) (dC (.int (4)))) (dC (.int (0))))) (tNot (tV (dCall f__law_full (aCons (dV 3) (aCons (d2 fIx (dV 1) (dC (.int (8)))) aNil)))))))
 (sRet (sD (dC (.bool false))))
 sNil)
 (sRet (sD (d2 fEq (dCall f__law_raised (aCons (dN fTuple (aCons (dV 3) aNil)) (aCons (dTup (aCons (dC (.str "drop")) (aCons (dC (.str "hand")) (aCons (dC (.str "zz9")) aNil)))) aNil))) (d2 fMul (dLst (aCons (dC (.str "zz9")) aNil)) (dC (.int (3)))))))))))))))
def f_law : List D → Res D := fD 1 8 b_law
end K68

/-! PE1: edits of books: applied, refused, undone. -/
namespace K68
open PySem L2 DL Cm Cr
def encE : Ed D → D
  | .put x => .tuple [.str "put", x]
  | .drop k => .tuple [.str "drop", .str k.1, .str k.2]
@[simp] theorem ofR_er {β : Type} (e : Er) (α : At) (f : β → Out) : ofR (.er e) α f = .er e α := nr rfl
@[simp] theorem bind_erR {α β : Type} (e : Er) (f : α → Res β) : (Res.er e).bind f = .er e := nr rfl
@[simp] theorem setTA_tup (is : List Nat) (ds : List D) (α : At) : setTA (.tup is) (.tuple ds) α = setAllA is ds α := nr rfl
@[simp] theorem setAllA_nil (α : At) : setAllA [] [] α = some α := nr rfl
@[simp] theorem setAllA_cons (i : Nat) (is : List Nat) (d : D) (ds : List D) (α : At) : setAllA (i :: is) (d :: ds) α = setAllA is ds (α.set i (.dat d)) := nr rfl
@[simp] theorem sSetT_ap (t : Tgt) (d : At → Res D) (α : At) : sSetT t d α = ofR (d α) α fun x => (match setTA t x α with
  | some α' => .nx α'
  | none => .no) := nr rfl
@[simp] theorem sRaise_ap (x f : Str) (d : At → Res D) (α : At) : sRaise x f d α = ofR (d α) α fun v => .er ⟨x, some (f, v)⟩ α := nr rfl
@[reducible] def unk (n : Str) : Er := ⟨"Unknown", some ("name", .str n)⟩
@[reducible] def ful : Er := ⟨"OutOfRange", none⟩
theorem s_put : ((("put" : Str) == "put") = true) := by decide +kernel
theorem s_drop : ((("drop" : Str) == "put") = false) := by decide +kernel
theorem s_drop2 : ((("drop" : Str) == "drop") = true) := by decide +kernel
theorem s_put2 : ((("put" : Str) == "drop") = false) := by decide +kernel
theorem s_put3 : ¬ (("put" : Str) = "drop") := by decide +kernel
section
variable {m : Nat} {rs : List D}
theorem put_into_ok {d : D} (h : ∀ x ∈ rs, Rw x) (k : Rw d) (hl : rs.length < 100000) : f_put_into [.tuple rs, d] = .ok (.tuple (DL.put ky rs d)) := by
  rw [f_put_into, fD_ap (by rfl)]
  have rk : ∀ {x : D}, Rw x → f_row_key [x] = .ok (keyD (ky x)) := fun hx => row_key_ok hx
  have e1 := lcD_sieve (f := cmD (.nm 4) (tV (d2 fLt (dCall f_row_key (aCons (dV 4) aNil)) (dCall f_row_key (aCons (dV 1) aNil)))) (dV 4) [some (.tuple rs), some d, none, none, none]) (fun x => kl (ky x) (ky d)) (ds := rs) fun x hx => by
    simp [cmD, rk (h x hx), rk k, fLt_key]
    cases kl (ky x) (ky d) <;> simp
  have e2 := lcD_sieve (f := cmD (.nm 4) (tV (d2 fLt (dCall f_row_key (aCons (dV 1) aNil)) (dCall f_row_key (aCons (dV 4) aNil)))) (dV 4) [some (.tuple rs), some d, some (.list (rs.filter fun x => kl (ky x) (ky d))), none, none]) (fun x => kl (ky d) (ky x)) (ds := rs) fun x hx => by
    simp [cmD, rk (h x hx), rk k, fLt_key]
    cases kl (ky d) (ky x) <;> simp
  have l1 := List.length_filter_le (fun x => kl (ky x) (ky d)) rs
  have l2 := List.length_filter_le (fun x => kl (ky d) (ky x)) rs
  simp [b_put_into, sSeq_ap, e1, le_size (n := rs.length) (by omega), e2]
  rw [fAdd_l _ _ (by rw [PySem.sizeLine_eq]; simp; omega)]
  simp
  rw [fAdd_l _ _ (by rw [PySem.sizeLine_eq]; simp; omega)]
  simp [DL.put]
theorem edit_key_ok {e : Ed D} (h : ∀ x, e = .put x → Rw x) : f_edit_key [encE e] = .ok (keyD (e.ky ky)) := by
  rw [f_edit_key, fD_ap (by rfl)]
  cases e with
  | put x => simp [b_edit_key, sSeq_ap, sIf_ap, encE, s_put, at1, row_key_ok (h x rfl), keyD, Ed.ky, ky]
  | drop k => simp [b_edit_key, sSeq_ap, sIf_ap, encE, s_drop, at1, at2, keyD, Ed.ky]
theorem find_yes {k n : Str} {r : D} (h : ∀ x ∈ rs, Rw x) (q : rs.find? (fun x => decide (ky x = (k, n))) = some r) : f_find_row [.tuple rs, .str k, .str n] = .ok r := by
  refine Sat.eq (Sat.fD rfl (ON.seq ?_))
  refine ON.for_ (ds := rs) (fun ds α => (∀ x ∈ ds, Rw x) ∧ (ds.find? fun x => decide (ky x = (k, n))) = some r ∧ ∃ u, α = [AV.dat (.tuple rs), .dat (.str k), .dat (.str n), u]) (by simp) ⟨h, q, .un, rfl⟩ ?_ ?_
  · rintro x ds α ⟨hx, e, u, rfl⟩
    refine ⟨_, rfl, ON.iff (c := decide (ky x = (k, n))) (key_test (hx x (List.mem_cons_self ..)) _ rfl rfl rfl) (fun hc => ?_) (fun hc => ?_)⟩
    · rw [List.find?_cons, hc] at e
      cases e
      simp
    · rw [List.find?_cons, hc] at e
      exact .nx _ ⟨fun y hy => hx y (List.mem_cons_of_mem _ hy), e, _, rfl⟩
  · rintro α ⟨_, e, u, rfl⟩
    cases e
theorem find_non {k n : Str} (h : ∀ x ∈ rs, Rw x) (q : ∀ x ∈ rs, ky x ≠ (k, n)) : f_find_row [.tuple rs, .str k, .str n] = .er (unk n) := by
  have loop : ∀ ds : List D, (∀ x ∈ ds, Rw x) → (∀ x ∈ ds, ky x ≠ (k, n)) → ∀ u, ∃ u', forD (.nm 3) (sIf (sD (DL.tAnd (tV (d2 fEq (d2 fIx (dV 3) (dC (.int (0)))) (dV 1))) (tV (d2 fEq (d2 fIx (dV 3) (dC (.int (1)))) (dV 2))))) (sRet (sD (dV 3))) sNil) ds [.dat (.tuple rs), .dat (.str k), .dat (.str n), u] = .nx [.dat (.tuple rs), .dat (.str k), .dat (.str n), u'] := by
    intro ds
    induction ds with
    | nil => exact fun _ _ u => ⟨u, rfl⟩
    | cons x ds ih =>
      intro h1 h2 u
      have kt := key_test (k := k) (n := n) (h1 x List.mem_cons_self) [some (.tuple rs), some (.str k), some (.str n), some x] rfl rfl rfl
      rw [decide_eq_false (h2 x List.mem_cons_self)] at kt
      rw [forD_nx (setTA_nm ..) (α2 := [.dat (.tuple rs), .dat (.str k), .dat (.str n), .dat x]) (by
        rw [sIf_ap]
        simp only [List.set, sD_ap, dats_cons, dats_nil, dt_d]
        rw [kt]
        simp)]
      exact ih (fun y hy => h1 y (List.mem_cons_of_mem _ hy)) (fun y hy => h2 y (List.mem_cons_of_mem _ hy)) _
  rw [f_find_row, fD_ap (by rfl)]
  obtain ⟨u', hu⟩ := loop rs h q .un
  simp [b_find_row, sSeq_ap, sFor_ap, hu]
end
/-- a book row with a name -/
def Rb (d : D) : Prop := Rw d ∧ f_is_book_row [d] = .ok (.bool true) ∧ kd d ∈ kinds ∧ Nam (nm d)
def Bb (m : Nat) (rs : List D) : Prop := Ris ky rs ∧ (∀ r ∈ rs, Rb r) ∧ rs.length ≤ m
def few (rs : List D) (k : Str) : Nat := (rs.filter fun x => decide (kd x = k)).length
def Fit (rs : List D) : Ed D → Prop
  | .put x => Rb x ∧ ((∃ y ∈ rs, ky y = ky x) ∨ few rs (kd x) < 12)
  | .drop k => ∃ y ∈ rs, ky y = k
theorem Bb.rw {m : Nat} {rs : List D} (h : Bb m rs) : ∀ x ∈ rs, Rw x := fun x hx => (h.2.1 x hx).1
theorem Bb.mono {m n : Nat} {rs : List D} (h : Bb m rs) (hn : m ≤ n) : Bb n rs := ⟨h.1, h.2.1, Nat.le_trans h.2.2 hn⟩
theorem Fit.may {rs : List D} {e : Ed D} (h : Fit rs e) : e.may ky Rb rs := by
  cases e with
  | put x => exact h.1
  | drop k => exact h
theorem Bb.app {m : Nat} {rs : List D} {e : Ed D} (h : Bb m rs) (v : Fit rs e) : Bb (m + 1) (app ky rs e) := ⟨app_ris h.1, app_ok h.2.1 v.may, Nat.le_trans app_len (by have := h.2.2; omega)⟩
theorem find_some {rs : List D} {k : Ky} (h : ∃ x ∈ rs, ky x = k) : ∃ r, rs.find? (fun x => decide (ky x = k)) = some r := by
  cases e : rs.find? fun x => decide (ky x = k) with
  | some r => exact ⟨r, rfl⟩
  | none =>
    obtain ⟨x, hx, hk⟩ := h
    exact absurd hk (find_no e x hx)
section
variable {rs : List D} {e : Ed D} {k : Ky} {x : D}
theorem fit_rw (v : Fit rs e) : ∀ x, e = .put x → Rw x := fun x h => by subst h; exact v.1.1
theorem apply_ok (hr : ∀ x ∈ rs, Rw x) (hl : rs.length < 1000) (v : Fit rs e) : f_apply_edit [.tuple rs, encE e] = .ok (.tuple (app ky rs e)) := by
  have hk := edit_key_ok (e := e) (fit_rw v)
  cases e with
  | drop k =>
    rw [f_apply_edit, fD_ap (by rfl)]
    obtain ⟨r, er⟩ := find_some v
    obtain ⟨x, hx, hxk⟩ := v
    have ok : okK k := hxk ▸ (hr x hx).oks
    have ef := find_yes (k := k.1) (n := k.2) hr er
    have rk : ∀ {x : D}, Rw x → f_row_key [x] = .ok (keyD (ky x)) := fun hx => row_key_ok hx
    have e1 := lcD_sieve (f := cmD (.nm 4) (tV (d2 fNe (dCall f_row_key (aCons (dV 4) aNil)) (dTup (aCons (dV 2) (aCons (dV 3) aNil))))) (dV 4) [some (.tuple rs), some (encE (.drop k)), some (.str k.1), some (.str k.2), none]) (fun x => decide (ky x ≠ k)) (ds := rs) fun x hx => by
      have q := fNe_key (a := ky x) (b := k) (hr x hx).oks ok
      unfold keyD at q
      simp [cmD, rk (hr x hx), keyD] at q ⊢
      rw [q]
      by_cases z : ky x = k <;> simp [z]
    simp [b_apply_edit, sSeq_ap, sIf_ap, hk, keyD, Ed.ky]
    simp [encE] at e1 ⊢
    simp [s_drop2, ef, le_size (n := rs.length) (by omega), e1]
    simp [app, DL.cut]
  | put x =>
    have kr := kind_rows_ok (k := kd x) hr (by omega)
    have hc := has_row_ok (k := kd x) (n := nm x) hr
    have hp := put_into_ok hr v.1.1 (by omega)
    have ht : DL.tAnd (DL.tNot (tV (dCall f_has_row (aCons (dV 0) (aCons (dV 2) (aCons (dV 3) aNil)))))) (tV (d2 fGe (dN fLen (aCons (dCall f_kind_rows (aCons (dV 0) (aCons (dV 2) aNil))) aNil)) (dC k_MOST_ROWS)))
        [some (.tuple rs), some (encE (.put x)), some (.str (kd x)), some (.str (nm x)), none] = .ok false := by
      rcases v.2 with ⟨y, hy, hyk⟩ | q
      · have z : (rs.any fun y => decide (ky y = (kd x, nm x))) = true := List.any_eq_true.mpr ⟨y, hy, decide_eq_true hyk⟩
        simp [hc, kr, z, k_MOST_ROWS, fGe]
      · have q : ¬ (12 : Int) ≤ ((rs.filter fun y => decide (kd y = kd x)).length : Int) := by unfold few at q; omega
        cases z : (rs.any fun y => decide (ky y = (kd x, nm x))) <;> simp [hc, kr, z, k_MOST_ROWS, fGe, q]
    refine Sat.eq (Sat.fD rfl (ON.seq ?_))
    simp [hk, keyD, Ed.ky]
    refine ON.seq (ON.iff (c := false) (by simp [encE, s_put3]) (fun z => nomatch z) fun _ => .nx _ ?_)
    refine ON.seq (ON.iff (c := false) ht (fun z => nomatch z) fun _ => .nx _ ?_)
    simp [encE, at1, hp]
    rfl
theorem apply_unk (hr : ∀ x ∈ rs, Rw x) (no : ∀ y ∈ rs, ky y ≠ k) : f_apply_edit [.tuple rs, encE (.drop k)] = .er (unk k.2) := by
  have hk := edit_key_ok (e := .drop k) (fun x h => nomatch h)
  have ef := find_non (k := k.1) (n := k.2) hr no
  rw [f_apply_edit, fD_ap (by rfl)]
  simp [b_apply_edit, sSeq_ap, sIf_ap, hk, keyD, Ed.ky]
  simp [encE, s_drop2, ef]
theorem apply_ful (hr : ∀ x ∈ rs, Rw x) (hl : rs.length < 1000) (w : Rw x) (no : ∀ y ∈ rs, ky y ≠ ky x) (q : 12 ≤ few rs (kd x)) : f_apply_edit [.tuple rs, encE (.put x)] = .er ful := by
  have hk := edit_key_ok (e := .put x) (fun y h => by cases h; exact w)
  have kr := kind_rows_ok (k := kd x) hr (by omega)
  have hc := has_row_ok (k := kd x) (n := nm x) hr
  have z : (rs.any fun y => decide (ky y = (kd x, nm x))) = false := by
    rw [List.any_eq_false]
    intro y hy e
    exact no y hy (of_decide_eq_true e)
  rw [z] at hc
  have q : (12 : Int) ≤ ((rs.filter fun y => decide (kd y = kd x)).length : Int) := by unfold few at q; omega
  rw [f_apply_edit, fD_ap (by rfl)]
  simp [b_apply_edit, sSeq_ap, sIf_ap, hk, keyD, Ed.ky]
  simp [sSeq_ap, sIf_ap, encE, s_put3, hc, kr, k_MOST_ROWS, fGe, ky, q]
theorem undo_is (hr : ∀ x ∈ rs, Rw x) (h : ∀ x, e = .put x → Rw x) : f_undo_edit [.tuple rs, encE e] = (f_apply_edit [.tuple rs, encE e]).bind fun _ => .ok (encE (undo ky rs e)) := by
  have hk := edit_key_ok h
  have hh := has_row_ok (k := (e.ky ky).1) (n := (e.ky ky).2) hr
  rw [f_undo_edit, fD_ap (by rfl)]
  cases ha : f_apply_edit [.tuple rs, encE e] with
  | er r => simp [b_undo_edit, sSeq_ap, ha]
  | no => simp [b_undo_edit, sSeq_ap, ha]; rfl
  | ok d =>
    cases hf : rs.find? fun y => decide (ky y = e.ky ky) with
    | some r =>
      obtain ⟨h1, h2⟩ := find_key hf
      have ht : (rs.any fun x => decide (ky x = e.ky ky)) = true := List.any_eq_true.mpr ⟨r, h1, by simpa using h2⟩
      have ef := find_yes (k := (e.ky ky).1) (n := (e.ky ky).2) hr hf
      rw [show (rs.any fun x => decide (ky x = ((e.ky ky).1, (e.ky ky).2))) = true from ht] at hh
      simp [b_undo_edit, sSeq_ap, sIf_ap, ha, hk, keyD, hh, ef, undo, hf]
      simp [encE]
    | none =>
      have no := find_no hf
      have ht : (rs.any fun x => decide (ky x = e.ky ky)) = false := by
        rw [List.any_eq_false]
        intro x hx z
        exact no x hx (by simpa using z)
      rw [show (rs.any fun x => decide (ky x = ((e.ky ky).1, (e.ky ky).2))) = false from ht] at hh
      simp [b_undo_edit, sSeq_ap, sIf_ap, ha, hk, keyD, hh, undo, hf]
      simp [encE]
theorem two_er {d : D} {r : Er} (h : f_apply_edit [.tuple rs, d] = .er r) : f_apply_edits [.tuple rs, .tuple [d, d]] = .er r := by
  rw [f_apply_edits, fD_ap (by rfl)]
  simp [b_apply_edits, sSeq_ap, sFor_ap, forD, h]
end
def Fits : List D → List (Ed D) → Prop
  | _, [] => True
  | l, e :: es => Fit l e ∧ Fits (app ky l e) es
theorem Fits.snoc : ∀ {es : List (Ed D)} {l : List D} {e : Ed D}, Fits l es → Fit (es.foldl (app ky) l) e → Fits l (es ++ [e])
  | [], _, _, _, h => ⟨h, trivial⟩
  | f :: es, l, e, h, k => ⟨h.1, h.2.snoc k⟩
theorem applies_ok {es : List (Ed D)} {rs : List D} {m : Nat} (hb : Bb m rs) (hm : m + es.length < 1000) (v : Fits rs es) : f_apply_edits [.tuple rs, .tuple (es.map encE)] = .ok (.tuple (es.foldl (app ky) rs)) := by
  have loop : ∀ (es : List (Ed D)) (rs : List D) (m : Nat) (u w : AV), Bb m rs → m + es.length < 1000 → Fits rs es → ∃ w', forD (.nm 2) (sSet 0 (sD (dCall f_apply_edit (aCons (dV 0) (aCons (dV 2) aNil))))) (es.map encE) [.dat (.tuple rs), u, w] = .nx [.dat (.tuple (es.foldl (app ky) rs)), u, w'] := by
    intro es
    induction es with
    | nil => exact fun rs m u w _ _ _ => ⟨w, rfl⟩
    | cons e es ih =>
      intro rs m u w hb hm v
      have ha := apply_ok hb.rw (by have := hb.2.2; simp only [List.length_cons] at hm; omega) v.1
      obtain ⟨w', h⟩ := ih (app ky rs e) (m + 1) u (.dat (encE e)) (hb.app v.1) (by simp only [List.length_cons] at hm; omega) v.2
      refine ⟨w', ?_⟩
      rw [List.map_cons, forD_nx (setTA_nm ..) (α2 := [.dat (.tuple (app ky rs e)), u, .dat (encE e)]) (by simp [ha]), h]
      rfl
  obtain ⟨w', h⟩ := loop es rs m (.dat (.tuple (es.map encE))) .un hb hm v
  rw [f_apply_edits, fD_ap (by rfl)]
  simp [b_apply_edits, sSeq_ap, sFor_ap, h]
end K68

/-! PE2: what is raised, found, made; forms of edits; a step. -/
namespace K68
open PySem L2 DL Cm Cr
@[simp] theorem unset_nx (i : Nat) (α : At) : unset i (.nx α) = .nx (α.set i .un) := nr rfl
theorem in_unk : k_T.lookup ("Unknown" : Str) = some (["Unknown", "LoftError"] : List Str) := by decide +kernel
theorem in_ful : k_T.lookup ("OutOfRange" : Str) = some (["OutOfRange", "LoftError"] : List Str) := by decide +kernel
theorem cu1 : (["Unknown", "LoftError"] : List Str).contains "Unknown" = true := by decide +kernel
theorem cu2 : (["OutOfRange", "LoftError"] : List Str).contains "Unknown" = false := by decide +kernel
theorem cu3 : (["OutOfRange", "LoftError"] : List Str).contains "OutOfRange" = true := by decide +kernel
theorem cu4 : (["OutOfRange", "LoftError"] : List Str).contains "LoftError" = true := by decide +kernel
theorem fdU : k_F.contains (("Unknown", "name") : Str × Str) = true := by decide +kernel
def EdOk : Ed D → Prop
  | .put x => Rw x
  | .drop k => okK k
/-- the word told of an exception -/
inductive Told : Er → Str → Prop
  | unk (n : Str) : Told (unk n) n
  | ful : Told ful "full"
def hds : List Hd := [⟨"Unknown", some 4, fun er => (sApp 2 (sD (dEr k_F er "name")))⟩,
 ⟨"OutOfRange", some 4, fun er => (sApp 2 (sD (d2 fIx (dLst (aCons (dC (.str "?")) (aCons (dC (.str "full")) aNil))) (dN fInt (aCons (dIsX k_T er "LoftError") aNil)))))⟩]
theorem hds_told {r : Er} {w : Str} (t : Told r w) {a b c d : AV} {ws : List D} (hl : ws.length < 1000) : sHs k_T hds r [a, b, .own ws, c, d] = .nx [a, b, .own (ws ++ [.str w]), c, .un] := by
  have hl : ws.length < 16777216 := by omega
  cases t with
  | unk =>
    have e : dEr k_F (unk w) "name" [a.dt, b.dt, none, c.dt, none] = .ok (.str w) := by
      show (if ("name" : Str) = "name" ∧ k_F.contains (("Unknown", "name") : Str × Str) = true then Res.ok (PyData.str w) else .no) = _
      rw [if_pos ⟨rfl, fdU⟩]
    unfold hds sHs
    simp only [in_unk, cu1, if_true, hdRun, List.length_cons, List.length_nil, Nat.reduceAdd, Nat.reduceLT, List.set, sApp_ap, ownAt_s, ownAt_z, sD_ap, dats_cons, dats_nil, dt_o, dt_u, e, ofR_ok, lt_size hl, unset_nx]
  | ful =>
    have e : dIsX k_T ful "LoftError" [a.dt, b.dt, none, c.dt, none] = .ok (.bool true) := by
      unfold dIsX
      simp only [in_ful, cu4]
    have e2 : (d2 fIx (dLst (aCons (dC (.str "?")) (aCons (dC (.str "full")) aNil))) (dN fInt (aCons (dIsX k_T ful "LoftError") aNil))) [a.dt, b.dt, none, c.dt, none] = .ok (.str "full") := by
      simp [e, at1]
    unfold hds sHs
    simp only [in_ful, cu2, Bool.false_eq_true, if_false]
    unfold sHs
    simp only [in_ful, cu3, if_true, hdRun, List.length_cons, List.length_nil, Nat.reduceAdd, Nat.reduceLT, List.set, sApp_ap, ownAt_s, ownAt_z, sD_ap, dats_cons, dats_nil, dt_o, dt_u, e2, ofR_ok, lt_size hl, unset_nx]
theorem sTry_er {T : ExTab} {b : At → Out} {hs : List Hd} {α α' : At} {r : Er} (h : b α = .er r α') : sTry T b hs α = sHs T hs r α' := by
  unfold sTry
  rw [h]
section
variable {rs : List D} {e : Ed D}
theorem raised_ok {r : Er} {w : Str} (t : Told r w) (hr : ∀ x ∈ rs, Rw x) (hk : ∀ x, e = .put x → Rw x) (h : f_apply_edit [.tuple rs, encE e] = .er r) : f__law_raised [.tuple rs, encE e] = .ok (.list [.str w, .str w, .str w]) := by
  have h2 := undo_is hr hk
  rw [h] at h2
  have h2 : f_undo_edit [.tuple rs, encE e] = .er r := h2
  have h3 := two_er h
  have er := iRangeL (a := dC (.int 3)) (β := [some (.tuple rs), some (encE e), none, none, none]) (n := 3) rfl (by decide) (by decide)
  have el : (List.range (3 : Int).toNat).map (fun i : Nat => PyData.int i) = [.int 0, .int 1, .int 2] := rfl
  rw [el] at er
  rw [f__law_raised, fD_ap (by rfl)]
  have round : ∀ (k : Int) (ws : List D) (u : AV), (k = 0 ∨ k = 1 ∨ k = 2) → ws.length < 1000 → (sTry k_T (sSeq (sIf (sD (tV (d2 fEq (dV 3) (dC (.int (0))))))
 (sDrop (sD (dCall f_apply_edit (aCons (dV 0) (aCons (dV 1) aNil)))))
 (sIf (sD (tV (d2 fEq (dV 3) (dC (.int (1))))))
 (sDrop (sD (dCall f_undo_edit (aCons (dV 0) (aCons (dV 1) aNil)))))
 (sDrop (sD (dCall f_apply_edits (aCons (dV 0) (aCons (dTup (aCons (dV 1) (aCons (dV 1) aNil))) aNil)))))))
 (sApp 2 (sD (dC (.str "none"))))) hds) [.dat (.tuple rs), .dat (encE e), .own ws, .dat (.int k), u] = .nx [.dat (.tuple rs), .dat (encE e), .own (ws ++ [.str w]), .dat (.int k), .un] := by
    intro k ws u hk hl
    rw [sTry_er (r := r) (α' := [.dat (.tuple rs), .dat (encE e), .own ws, .dat (.int k), u]) (by rcases hk with rfl | rfl | rfl <;> simp [sSeq_ap, sIf_ap, h, h2, h3])]
    exact hds_told t hl
  have l : forD (.nm 3) (sTry k_T (sSeq (sIf (sD (tV (d2 fEq (dV 3) (dC (.int (0))))))
 (sDrop (sD (dCall f_apply_edit (aCons (dV 0) (aCons (dV 1) aNil)))))
 (sIf (sD (tV (d2 fEq (dV 3) (dC (.int (1))))))
 (sDrop (sD (dCall f_undo_edit (aCons (dV 0) (aCons (dV 1) aNil)))))
 (sDrop (sD (dCall f_apply_edits (aCons (dV 0) (aCons (dTup (aCons (dV 1) (aCons (dV 1) aNil))) aNil)))))))
 (sApp 2 (sD (dC (.str "none"))))) hds) [.int 0, .int 1, .int 2] [.dat (.tuple rs), .dat (encE e), .own [], .un, .un] = .nx [.dat (.tuple rs), .dat (encE e), .own [.str w, .str w, .str w], .dat (.int 2), .un] := by
    rw [forD_nx (setTA_nm ..) (round 0 [] .un (.inl rfl) (by decide)), forD_nx (setTA_nm ..) (round 1 _ .un (.inr (.inl rfl)) (by simp)), forD_nx (setTA_nm ..) (round 2 _ .un (.inr (.inr rfl)) (by simp))]
    rfl
  have l' : (sFor (iRange1 (dC (.int (3)))) (.nm 3) (sTry k_T (sSeq (sIf (sD (tV (d2 fEq (dV 3) (dC (.int (0))))))
 (sDrop (sD (dCall f_apply_edit (aCons (dV 0) (aCons (dV 1) aNil)))))
 (sIf (sD (tV (d2 fEq (dV 3) (dC (.int (1))))))
 (sDrop (sD (dCall f_undo_edit (aCons (dV 0) (aCons (dV 1) aNil)))))
 (sDrop (sD (dCall f_apply_edits (aCons (dV 0) (aCons (dTup (aCons (dV 1) (aCons (dV 1) aNil))) aNil)))))))
 (sApp 2 (sD (dC (.str "none"))))) hds)) [.dat (.tuple rs), .dat (encE e), .own [], .un, .un] = .nx [.dat (.tuple rs), .dat (encE e), .own [.str w, .str w, .str w], .dat (.int 2), .un] := by
    rw [sFor_ap]
    simp only [dats_cons, dats_nil, dt_d, dt_o, dt_u, er, ofR_ok]
    exact l
  unfold b__law_raised
  rw [sSeq_ap]
  rw [show (sOwn 2 (sD (fLst aNil))) (List.map AV.dat [PyData.tuple rs, encE e] ++ List.replicate (5 - 2) AV.un) = .nx [.dat (.tuple rs), .dat (encE e), .own [], .un, .un] by simp]
  rw [then_nx, sSeq_ap]
  unfold hds at l'
  rw [l']
  simp [DL.frzA]
theorem lfind_ok {k n : Str} (h : ∀ x ∈ rs, Rw x) : f__law_find [.list rs, .str k, .str n] = .ok (match rs.find? fun x => decide (ky x = (k, n)) with
  | some r => r
  | none => .none) := by
  refine Sat.eq (Sat.fD rfl (ON.seq ?_))
  refine ON.for_ (ds := rs) (fun ds α => (∀ x ∈ ds, Rw x) ∧ (rs.find? fun x => decide (ky x = (k, n))) = (ds.find? fun x => decide (ky x = (k, n))) ∧ ∃ u, α = [AV.dat (.list rs), .dat (.str k), .dat (.str n), u]) (by simp) ⟨h, rfl, .un, rfl⟩ ?_ ?_
  · rintro x ds α ⟨hx, e, u, rfl⟩
    refine ⟨_, rfl, ON.iff (c := decide (ky x = (k, n))) (key_test (hx x (List.mem_cons_self ..)) _ rfl rfl rfl) (fun hc => ?_) (fun hc => ?_)⟩
    · rw [List.find?_cons, hc] at e
      rw [e]
      simp
    · rw [List.find?_cons, hc] at e
      exact .nx _ ⟨fun y hy => hx y (List.mem_cons_of_mem _ hy), e, _, rfl⟩
  · rintro α ⟨_, e, u, rfl⟩
    rw [e]
    simp
theorem after_ok (hr : ∀ x ∈ rs, Rw x) (hl : rs.length < 1000) (h : EdOk e) : f__law_after [.list rs, encE e] = .ok (.list (app ky rs e)) := by
  rw [f__law_after, fD_ap (by rfl)]
  cases e with
  | put x =>
    have hp := placed_ok (rs := rs) (d := x) hr (show Rw x from h) (by omega)
    simp [b__law_after, sSeq_ap, sIf_ap, encE, s_put, at1, hp]
    rfl
  | drop k =>
    have e1 := lcD_sieve (f := cmD (.nm 2) (DL.tOr (tV (d2 fNe (d2 fIx (dV 2) (dC (.int (0)))) (d2 fIx (dV 1) (dC (.int (1)))))) (tV (d2 fNe (d2 fIx (dV 2) (dC (.int (1)))) (d2 fIx (dV 1) (dC (.int (2))))))) (dV 2) [some (.list rs), some (encE (.drop k)), none]) (fun x => decide (ky x ≠ k)) (ds := rs) fun x hx => by
      obtain ⟨k1, k2⟩ := k
      by_cases q1 : kd x = k1 <;> by_cases q2 : nm x = k2 <;> simp [cmD, encE, (hr x hx).ix0, (hr x hx).ix1, at1, at2, ky, q1, q2]
    simp [encE] at e1
    simp [b__law_after, sSeq_ap, sIf_ap, encE, s_drop, le_size (n := rs.length) (by omega), e1]
    simp [app, DL.cut]
theorem encE_pl (h : EdOk e) : Pl 5 (encE e) = true := by
  have s1 : PyData.strOk ("put" : Str) = true := by decide +kernel
  have s2 : PyData.strOk ("drop" : Str) = true := by decide +kernel
  cases e with
  | put x =>
    have := (show Rw x from h).pl
    simp [encE, Pl_str, s1, this]
  | drop k =>
    have h : okK k := h
    simp [encE, Pl_str, s2, h.1, h.2]
theorem fit_pl (hr : ∀ x ∈ rs, Rw x) (h : Fit rs e) : EdOk e := by
  cases e with
  | put x => exact h.1.1
  | drop k =>
    obtain ⟨y, hy, rfl⟩ := h
    exact (hr y hy).oks
end
theorem same_self (n : Nat) (x : D) (hn : n < 12) (hx : Pl n x = true) : f__law_same [x, x] = .ok (.bool true) := by
  classical
  have q : f__law_same [x, x] = .ok (.bool (decide (x = x))) := same_ok n 12 hn x x hx hx
  rw [decide_eq_true rfl] at q
  exact q
theorem plb {l : List D} (h : ∀ x ∈ l, Rw x) (hl : l.length < 1000) : Pl 5 (.tuple l) = true := by
  rw [Pl_tup, Bool.and_eq_true, List.all_eq_true]
  exact ⟨decide_eq_true hl, fun x hx => (h x hx).pl⟩
/-! ### forms -/
theorem row_t (n : Int) (ds : List D) : f_is_row [.int n, .tuple ds] = .ok (.bool ((ds.length : Int) == n)) := by
  rw [f_is_row, fD_ap (by rfl)]
  simp [b_is_row, isi_tup, subB]
theorem kinds_in : ∀ k ∈ kinds, fIn (.str k) k_KIND_NAMES = some (.bool true) := by
  intro k hk
  unfold kinds at hk
  simp only [List.mem_cons, List.not_mem_nil, or_false] at hk
  rcases hk with rfl | rfl | rfl | rfl | rfl | rfl | rfl | rfl | rfl | rfl | rfl | rfl | rfl | rfl | rfl | rfl | rfl | rfl | rfl | rfl
  all_goals first | exact kind_bolt | exact kind_claim | exact kind_class | exact kind_cloth | exact kind_day | exact kind_grant | exact kind_hand | exact kind_master | exact kind_measurer | exact kind_order | exact kind_panel | exact kind_reef | exact kind_repair | exact kind_revoke | exact kind_rig | exact kind_sail | exact kind_seen | exact kind_share | exact kind_table | exact kind_wind
theorem edit_put {x : D} (h : f_is_book_row [x] = .ok (.bool true)) : f_is_edit [encE (.put x)] = .ok (.bool true) := by
  rw [f_is_edit, fD_ap (by rfl)]
  simp [b_is_edit, sSeq_ap, sIf_ap, encE, row_t, at1, h]
theorem edit_drop {k : Ky} (h1 : k.1 ∈ kinds) (h2 : Nam k.2) : f_is_edit [encE (.drop k)] = .ok (.bool true) := by
  rw [f_is_edit, fD_ap (by rfl)]
  simp [b_is_edit, sSeq_ap, sIf_ap, encE, row_t, at1, at2, string_ok, kinds_in _ h1, name_ok h2]
theorem edit_no {ds : List D} (h2 : ds.length ≠ 2) (h3 : ds.length ≠ 3) : f_is_edit [.tuple ds] = .ok (.bool false) := by
  have e2 : ((ds.length : Int) == 2) = false := by rw [beq_eq_false_iff_ne]; omega
  have e3 : ((ds.length : Int) == 3) = false := by rw [beq_eq_false_iff_ne]; omega
  rw [f_is_edit, fD_ap (by rfl)]
  simp [b_is_edit, sSeq_ap, sIf_ap, row_t, e2, e3]
theorem edit_no2 {a b : D} (h : fEq a (.str "put") = some (.bool false)) : f_is_edit [.tuple [a, b]] = .ok (.bool false) := by
  rw [f_is_edit, fD_ap (by rfl)]
  simp [b_is_edit, sSeq_ap, sIf_ap, row_t, h]
theorem edit_no3 {a b c : D} (h : fNe a (.str "drop") = some (.bool true)) : f_is_edit [.tuple [a, b, c]] = .ok (.bool false) := by
  rw [f_is_edit, fD_ap (by rfl)]
  simp [b_is_edit, sSeq_ap, sIf_ap, row_t, h]
theorem edit_l (ds : List D) : f_is_edit [.list ds] = .ok (.bool false) := by
  have row_l : ∀ n : Int, f_is_row [.int n, .list ds] = .ok (.bool false) := fun n => by
    rw [f_is_row, fD_ap (by rfl)]
    have e : dIsi "tuple" (dV 1) [some (PyData.int n), some (.list ds)] = .ok (.bool false) := by
      unfold dIsi
      rfl
    simp [b_is_row, e]
  rw [f_is_edit, fD_ap (by rfl)]
  simp [b_is_edit, sSeq_ap, sIf_ap, row_l]

theorem forms_ok {e : Ed D} (h : match e with | .put x => (∃ ds, x = .tuple ds) | .drop k => True) : f__law_forms [encE e] = .ok (.bool true) := by
  have c1 : f_is_edit [.none] = .ok (.bool false) := by kernel_rfl
  have c2 : f_is_edit [.tuple [.str "drop", .str "hand"]] = .ok (.bool false) := by kernel_rfl
  have c3 : f_is_edit [.tuple [.str "drop", .str "hat", .str "a"]] = .ok (.bool false) := by kernel_rfl
  have c4 : f_is_edit [.tuple [.str "drop", .str "hand", .str "A"]] = .ok (.bool false) := by kernel_rfl
  have c5 : f_is_edit [.tuple [.str "put", .none]] = .ok (.bool false) := by kernel_rfl
  have c6 : f_is_edit [.tuple [.str "put", .tuple [.str "hand", .str "a"]]] = .ok (.bool false) := by kernel_rfl
  have c7 : f_is_edit [.tuple [.str "put", .str "hand", .str "a"]] = .ok (.bool false) := by kernel_rfl
  have c8 : f_is_edit [.tuple [.str "drop", .none, .str "a"]] = .ok (.bool false) := by kernel_rfl
  have p1 : fEq (.str "Put") (.str "put") = some (.bool false) := by kernel_rfl
  have p2 : fNe (.str "Put") (.str "drop") = some (.bool true) := by kernel_rfl
  have p3 : fEq (.int 0) (.str "put") = some (.bool false) := by kernel_rfl
  have p4 : fNe (.int 0) (.str "drop") = some (.bool true) := by kernel_rfl
  have p5 : fNe (.str "put") (.str "drop") = some (.bool true) := by kernel_rfl
  have all : ∀ (a : List D) (b c d f g : D), (∀ x ∈ a ++ [b, c, d, f, g], f_is_edit [x] = .ok (.bool false)) → lcD (cmD (.nm 2) (tV (d2 fIsNot (dCall f_is_edit (aCons (dV 2) aNil)) (dC (.bool false)))) (dV 2) [some (encE e), some (.list (a ++ [b, c, d, f, g])), none]) (a ++ [b, c, d, f, g]) = .ok [] := by
    intro a b c d f g h
    have := lcD_sieve (f := cmD (.nm 2) (tV (d2 fIsNot (dCall f_is_edit (aCons (dV 2) aNil)) (dC (.bool false)))) (dV 2) [some (encE e), some (.list (a ++ [b, c, d, f, g])), none]) (fun _ => false) (ds := a ++ [b, c, d, f, g]) fun x hx => by
      simp [cmD, h x hx, fIsNot]
    rw [this]
    simp
  rw [f__law_forms, fD_ap (by rfl)]
  cases e with
  | put x =>
    have a1 : cutD [PyData.str "put", x] none (some 1) = [.str "put"] := rfl
    have a2 : cutD [PyData.str "put", x] (some 1) none = [x] := rfl
    have b1 : fAdd (.tuple [.str "put", x]) (.tuple [.int 0]) = some (.tuple [.str "put", x, .int 0]) := fAdd_t _ _ (by rw [PySem.sizeLine_eq]; simp)
    have b2 : fAdd (.tuple [.str "Put"]) (.tuple [x]) = some (.tuple [.str "Put", x]) := fAdd_t _ _ (by rw [PySem.sizeLine_eq]; simp)
    have b3 : fAdd (.tuple [.int 0]) (.tuple [x]) = some (.tuple [.int 0, x]) := fAdd_t _ _ (by rw [PySem.sizeLine_eq]; simp)
    have al := all [.list [.str "put", x], .tuple [.str "put"], .tuple [.str "put", x, .int 0], .tuple [.str "Put", x], .tuple [.int 0, x], .none, .tuple [.str "drop", .str "hand"], .tuple [.str "drop", .str "hat", .str "a"]] (.tuple [.str "drop", .str "hand", .str "A"]) (.tuple [.str "put", .none]) (.tuple [.str "put", .tuple [.str "hand", .str "a"]]) (.tuple [.str "put", .str "hand", .str "a"]) (.tuple [.str "drop", .none, .str "a"]) (by
      simp only [List.cons_append, List.nil_append, List.mem_cons, List.not_mem_nil, or_false]
      rintro y (rfl | rfl | rfl | rfl | rfl | rfl | rfl | rfl | rfl | rfl | rfl | rfl | rfl)
      · exact edit_l _
      · exact edit_no (by simp) (by simp)
      · exact edit_no3 p5
      · exact edit_no2 p1
      · exact edit_no2 p3
      all_goals assumption)
    have ba : ∀ xs ys : List D, xs.length = 8 → ys.length = 5 → fAdd (.list xs) (.list ys) = some (.list (xs ++ ys)) := fun xs ys h1 h2 => fAdd_l _ _ (by rw [PySem.sizeLine_eq]; omega)
    simp [encE] at al
    simp [b__law_forms, sSeq_ap, encE, fList, a1, a2, b1, b2, b3, ba, al]
  | drop k =>
    obtain ⟨k1, k2⟩ := k
    have a1 : cutD [PyData.str "drop", .str k1, .str k2] none (some 1) = [.str "drop"] := rfl
    have a2 : cutD [PyData.str "drop", .str k1, .str k2] (some 1) none = [.str k1, .str k2] := rfl
    have b1 : fAdd (.tuple [.str "drop", .str k1, .str k2]) (.tuple [.int 0]) = some (.tuple [.str "drop", .str k1, .str k2, .int 0]) := fAdd_t _ _ (by rw [PySem.sizeLine_eq]; simp)
    have b2 : fAdd (.tuple [.str "Put"]) (.tuple [.str k1, .str k2]) = some (.tuple [.str "Put", .str k1, .str k2]) := fAdd_t _ _ (by rw [PySem.sizeLine_eq]; simp)
    have b3 : fAdd (.tuple [.int 0]) (.tuple [.str k1, .str k2]) = some (.tuple [.int 0, .str k1, .str k2]) := fAdd_t _ _ (by rw [PySem.sizeLine_eq]; simp)
    have al := all [.list [.str "drop", .str k1, .str k2], .tuple [.str "drop"], .tuple [.str "drop", .str k1, .str k2, .int 0], .tuple [.str "Put", .str k1, .str k2], .tuple [.int 0, .str k1, .str k2], .none, .tuple [.str "drop", .str "hand"], .tuple [.str "drop", .str "hat", .str "a"]] (.tuple [.str "drop", .str "hand", .str "A"]) (.tuple [.str "put", .none]) (.tuple [.str "put", .tuple [.str "hand", .str "a"]]) (.tuple [.str "put", .str "hand", .str "a"]) (.tuple [.str "drop", .none, .str "a"]) (by
      simp only [List.cons_append, List.nil_append, List.mem_cons, List.not_mem_nil, or_false]
      rintro y (rfl | rfl | rfl | rfl | rfl | rfl | rfl | rfl | rfl | rfl | rfl | rfl | rfl)
      · exact edit_l _
      · exact edit_no (by simp) (by simp)
      · exact edit_no (by simp) (by simp)
      · exact edit_no3 p2
      · exact edit_no3 p4
      all_goals assumption)
    have ba : ∀ xs ys : List D, xs.length = 8 → ys.length = 5 → fAdd (.list xs) (.list ys) = some (.list (xs ++ ys)) := fun xs ys h1 h2 => fAdd_l _ _ (by rw [PySem.sizeLine_eq]; omega)
    simp [encE] at al
    simp [b__law_forms, sSeq_ap, encE, fList, a1, a2, b1, b2, b3, ba, al]
/-! ### a step -/
theorem undo_fit {rs : List D} {e : Ed D} {m : Nat} (hb : Bb m rs) (v : Fit rs e) (c : ∀ k, e = .drop k → few rs k.1 ≤ 12) : Fit (app ky rs e) (undo ky rs e) := by
  unfold undo
  cases hf : rs.find? fun y => decide (ky y = e.ky ky) with
  | some r =>
    obtain ⟨h1, h2⟩ := find_key hf
    refine ⟨hb.2.1 r h1, ?_⟩
    cases e with
    | put x => exact .inl ⟨x, put_mem.mpr (.inl rfl), h2.symm⟩
    | drop k =>
      refine .inr ?_
      have c := c k rfl
      have h2 : ky r = k := h2
      have hk : k.1 = kd r := by rw [← h2]; rfl
      rw [hk] at c
      refine Nat.lt_of_lt_of_le ?_ c
      show few (DL.cut ky rs k) (kd r) < few rs (kd r)
      unfold few DL.cut
      have sw : (rs.filter fun y => decide (ky y ≠ k)).filter (fun x => decide (kd x = kd r)) = (rs.filter fun x => decide (kd x = kd r)).filter fun y => decide (ky y ≠ k) := by
        rw [List.filter_filter, List.filter_filter]
        congr 1
        funext a
        exact Bool.and_comm ..
      rw [sw]
      exact List.length_filter_lt_length_iff_exists.mpr ⟨r, List.mem_filter.mpr ⟨h1, by simp⟩, by simp [h2]⟩
  | none =>
    have no := find_no hf
    cases e with
    | put x => exact ⟨x, put_mem.mpr (.inl rfl), rfl⟩
    | drop k =>
      obtain ⟨y, hy, hk⟩ := v
      exact absurd hk (no y hy)
theorem cut2 (a b : D) (r : List D) : cutD (a :: b :: r) none (some 2) = [a, b] := by
  have e : HT.sIx (a :: b :: r).length (a :: b :: r).length (some 2) = 2 := by
    rw [show (2 : Int) = ((2 : Nat) : Int) from rfl, HT.sIx_nat]
    simp
  unfold cutD
  rw [e, HT.sIx_none]
  rfl
def tailE : Ed D → List D
  | .put x => [x]
  | .drop k => [.str k.1, .str k.2]
theorem step_ok {rs : List D} {e : Ed D} {m : Nat} (hb : Bb m rs) (hm : m < 900) (v : Fit rs e) (c : ∀ k, e = .drop k → few rs k.1 ≤ 12) (he : f_is_edit [encE e] = .ok (.bool true)) : f__law_step [.list rs, encE e] = .ok (.bool true) := by
  have hr := hb.rw
  have hl := hb.2.2
  have ba := hb.app v
  have ea := apply_ok hr (by omega) v
  have eu := undo_is hr (fit_rw v)
  rw [ea] at eu
  have eu : f_undo_edit [.tuple rs, encE e] = .ok (encE (undo ky rs e)) := eu
  have uf := undo_fit hb v c
  have eb := apply_ok ba.rw (by have := ba.2.2; omega) uf
  rw [undo_app hb.1] at eb
  have ef := after_ok hr (by omega) (fit_pl hr v)
  have s1 := same_self 5 _ (by decide) (plb ba.rw (by have := ba.2.2; omega))
  have s2 := same_self 5 _ (by decide) (plb hr (by omega))
  have s3 := same_self 5 _ (by decide) (encE_pl (fit_pl ba.rw uf))
  have fd := lfind_ok (k := (e.ky ky).1) (n := (e.ky ky).2) hr
  have key : (sIf (sD (tV (d2 fEq (d2 fIx (dV 1) (dC (.int (0)))) (dC (.str "put")))))
   (sSet 5 (sD (dSl (d2 fIx (dV 1) (dC (.int (1)))) pNone (pSome (dC (.int (2)))))))
   sNil) [.dat (.list rs), .dat (encE e), .dat (.tuple rs), .dat (.list (app ky rs e)), .dat (encE (undo ky rs e)), .dat (.tuple (tailE e)), .un, .un] = .nx [.dat (.list rs), .dat (encE e), .dat (.tuple rs), .dat (.list (app ky rs e)), .dat (encE (undo ky rs e)), .dat (.tuple [.str (e.ky ky).1, .str (e.ky ky).2]), .un, .un] := by
    cases e with
    | put x =>
      obtain ⟨k, n, rest, rfl, _⟩ := v.1.1
      simp [sIf_ap, encE, tailE, s_put, at1, cut2]
      exact ⟨rfl, rfl⟩
    | drop k => simp [sIf_ap, encE, tailE, s_drop, Ed.ky]
  have sl : fSl (encE e) (some 1) none = some (.tuple (tailE e)) := by
    cases e <;> rfl
  refine Sat.eq (Sat.fD rfl (ON.seq ?_))
  simp
  refine ON.seq ?_
  simp [ef]
  refine ON.seq (ON.iff (c := false) (by simp [ea, s1, he, fIsNot, isN]) (fun z => nomatch z) fun _ => .nx _ ?_)
  refine ON.seq ?_
  simp [eu]
  refine ON.seq ?_
  simp [sl]
  refine ON.seq ?_
  rw [key]
  simp only [ON_nx]
  refine ON.seq ?_
  simp [at1, fd]
  refine ON.seq ?_
  simp
  cases hf : rs.find? fun y => decide (ky y = e.ky ky) with
  | some r =>
    obtain ⟨h1, h2⟩ := find_key hf
    have ht : ∃ ds, r = .tuple ds := by
      obtain ⟨k, n, rest, rfl, _⟩ := hr r h1
      exact ⟨_, rfl⟩
    have hu : encE (undo ky rs e) = .tuple [.str "put", r] := by simp [undo, hf, encE]
    rw [hu] at s3 eb ⊢
    obtain ⟨ds, rfl⟩ := ht
    refine ON.seq (ON.iff (c := false) (by simp [fIs, isN]) (fun z => nomatch z) fun _ => .nx _ ?_)
    simp [s3, eb, s2]
  | none =>
    have hu : encE (undo ky rs e) = .tuple [.str "drop", .str (e.ky ky).1, .str (e.ky ky).2] := by simp [undo, hf, encE]
    rw [hu] at s3 eb ⊢
    refine ON.seq (ON.iff (c := true) (by simp [fIs, isN]) (fun _ => ?_) fun z => nomatch z)
    simp [s3, eb, s2, at1]
end K68

/-! PE3: the drawn edit; the full kind. -/
namespace K68
open PySem L2 DL Cm Cr
/-- an edit as the law draws it -/
def Good (ss : List Str) : Ed D → Prop
  | .put x => RB ss x
  | .drop k => k.1 ∈ kinds ∧ k.2 ∈ ss
theorem rb_Rb {ss : List Str} (hs : ∀ s ∈ ss, Nam s) {d : D} (h : RB ss d) : Rb d := ⟨h.1.1, h.2.1, h.2.2, hs _ h.1.2⟩
theorem bkB_Bb {ss : List Str} (hs : ∀ s ∈ ss, Nam s) {m : Nat} {rs : List D} (h : BkB ss m rs) : Bb m rs := ⟨h.1, fun r hr => rb_Rb hs (h.2.1 r hr), h.2.2⟩
section
variable {s0 s1 s2 s3 s4 s5 : Str} {xs : List Int} {rs : List D} {m : Nat}
theorem edit_ok (hs : ∀ s ∈ [s0, s1, s2, s3, s4, s5], Nam s) (nd : [s0, s1, s2, s3, s4, s5].Nodup) (hx : ∀ x ∈ xs, num x) (h0 : 0 < xs.length) (h9 : 10 ≤ xs.length) (hm : xs.length < 1000) (hb : BkB [s0, s1, s2, s3, s4, s5] m rs) (hm2 : m < 100) (k : Int) (k0 : 0 ≤ k) (k1 : k < 100) :
    ∃ e, f__law_edit [.list rs, .list [.str s0, .str s1, .str s2, .str s3, .str s4, .str s5], .list (xs.map PyData.int), .int k] = .ok (encE e) ∧ Good [s0, s1, s2, s3, s4, s5] e := by
  suffices h : Sat (fun d => ∃ e, d = encE e ∧ Good [s0, s1, s2, s3, s4, s5] e) (f__law_edit [.list rs, .list [.str s0, .str s1, .str s2, .str s3, .str s4, .str s5], .list (xs.map PyData.int), .int k]) by
    obtain ⟨_, e, rs, rfl, h⟩ := h
    exact ⟨rs, e, h⟩
  obtain ⟨z, hz⟩ : ∃ z : Int, z = xs.length := ⟨_, rfl⟩
  refine Sat.fD rfl (ON.seq ?_)
  obtain ⟨n0, n1, n2, n3, n4, n5, n6, n7, n8, n9, ey, hn0, hn1, hn2, hn3, hn4, hn5, hn6, hn7, hn8, hn9⟩ := tenN (xs := xs) hx h0 (f := cmD (.nm 8) yesT (d2 fIx (dV 2) (d2 fMod (d2 fAdd (d2 fMul (dC (.int (10))) (dV 3)) (dV 8)) (dN fLen (aCons (dV 2) aNil))))
      [some (.list rs), some (.list [.str s0, .str s1, .str s2, .str s3, .str s4, .str s5]), some (.list (xs.map PyData.int)), some (.int k), none, none, none, none, none]) (fun w => 10 * k + w) (fun y y0 y1 j q => by
      rw [← hz] at q
      simp only [cmD, setT_nm, List.set, yesT_ap, Res.bind_ok, d2_ap, dN_ap, aCons_ap, aNil_ap, dC_ap, dV_s, dV_z, fMul_sm' (i := 10) (k := k) (by decide) (by decide), Res.of_some, fAdd_int, fLen_l, List.length_map, ← hz, fMod_pos (i := 10 * k + y) (k := z) (by omega), fIx_l, q, if_true, noEr_ok])
  have er := iRangeL (a := dC (.int 10)) (β := [some (.list rs), some (.list [.str s0, .str s1, .str s2, .str s3, .str s4, .str s5]), some (.list (xs.map PyData.int)), some (.int k), none, none, none, none, none]) (n := 10) rfl (by decide) (by decide)
  simp only [List.map_cons, List.map_nil, List.cons_append, List.nil_append, List.replicate, Nat.reduceSub, sLay_ap, sD_ap, dLc_ap, dats_cons, dats_nil, dt_d, dt_u, List.set, er, Res.bind_ok, show (10 : Int).toNat = 10 from rfl, le_size (n := ((List.range 10).map fun i : Nat => PyData.int i).length) (by decide), if_true, wipeB_cons, wipeB_nil, ey, ofR_ok, ON_nx]
  obtain ⟨x9, q9, h9⟩ := atI_num hx (i := 9) (by decide) (by omega)
  obtain ⟨v, ev, mv⟩ := atI_in (kinds.map PyData.str) (i := x9 % 20) (by omega) (by simp [kinds]; omega)
  obtain ⟨kx, hkx, rfl⟩ := List.mem_map.mp mv
  refine ON.seq ?_
  simp [q9, kinds_ok, fMod_pos, ev]
  obtain ⟨v1, ev1, mv1⟩ := atI_in [PyData.str "hand", .str "master", .str "table", .str "bolt", .str "wind", .str kx] (i := n0 % 6) (by omega) (by simp; omega)
  obtain ⟨kd', rfl, hkd⟩ : ∃ n' : Str, v1 = .str n' ∧ n' ∈ kinds := by
    simp at mv1
    rcases mv1 with rfl | rfl | rfl | rfl | rfl | rfl
    · exact ⟨_, rfl, by decide +kernel⟩
    · exact ⟨_, rfl, by decide +kernel⟩
    · exact ⟨_, rfl, by decide +kernel⟩
    · exact ⟨_, rfl, by decide +kernel⟩
    · exact ⟨_, rfl, by decide +kernel⟩
    · exact ⟨_, rfl, hkx⟩
  obtain ⟨v2, ev2, mv2⟩ := atI_in [PyData.str s0, .str s1, .str s2, .str s3, .str s4, .str s5] (i := n1 % 6) (by omega) (by simp; omega)
  obtain ⟨n', rfl, hn'⟩ : ∃ n' : Str, v2 = .str n' ∧ n' ∈ [s0, s1, s2, s3, s4, s5] := by
    simp at mv2
    rcases mv2 with rfl | rfl | rfl | rfl | rfl | rfl <;> exact ⟨_, rfl, by simp⟩
  obtain ⟨row, erow, hrow⟩ := drow_all (kind := kd') (name := n') hs nd (hs n' hn') hkd hn0 hn1 hn2 hn3 hn4 hn5 hn6 hn7 hn8 hn9
  have hr := hrow.rb hkd hn' hs
  have hkey := hrow.key
  refine ON.seq ?_
  simp [at1, fMod_pos, ev1, ev2, erow]
  have rw0 := hr.1.1
  have kr : kd row = kd' := congrArg Prod.fst hkey
  have nr' : nm row = n' := congrArg Prod.snd hkey
  refine ON.seq ?_
  refine ON.iff (c := decide (1 < n2 % 4) && decide (0 < (rs.length : Int))) (by
    by_cases c1 : 1 < n2 % 4 <;> simp [at2, fMod_pos, fGt, c1]) (fun hc => ?_) (fun _ => ?_)
  · simp only [Bool.and_eq_true, decide_eq_true_eq] at hc
    obtain ⟨y, hy⟩ : ∃ y : Int, y = rs.length := ⟨_, rfl⟩
    have hy0 : 0 < y := by omega
    obtain ⟨old, eo, mo⟩ := atI_in rs (i := n3 % y) (Int.emod_nonneg _ (by omega)) (by have := Int.emod_lt_of_pos n3 hy0; omega)
    have ho := hb.2.1 old mo
    have hon := ho.1.2
    refine ON.seq ?_
    simp [at3, ← hy, fMod_pos (i := n3) (k := y) hy0, eo]
    refine ON.seq (ON.iff (c := n2 % 8 == 3) (by simp [at2, fMod_pos]) (fun _ => ?_) fun _ => .nx _ ?_)
    · simp
      exact ⟨.put old, rfl, ho⟩
    refine ON.seq (ON.iff (c := n2 % 4 == 2) (by simp [at2, fMod_pos]) (fun _ => ?_) fun _ => .nx _ ?_)
    · obtain ⟨r2, er2, hr2⟩ := drow_all (kind := kd old) (name := nm old) hs nd (hs _ hon) ho.2.2 hn0 hn1 hn2 hn3 hn4 hn5 hn6 hn7 hn8 hn9
      simp [ho.1.1.ix0, ho.1.1.ix1, er2]
      exact ⟨.put r2, rfl, hr2.rb ho.2.2 hon hs⟩
    · simp [ho.1.1.ix0, ho.1.1.ix1]
      exact ⟨.drop (kd old, nm old), rfl, ho.2.2, hon⟩
  · refine .nx _ ?_
    refine ON.seq (ON.iff (c := n2 % 4 == 1) (by simp [at2, fMod_pos]) (fun _ => ?_) fun _ => .nx _ ?_)
    · simp [rw0.ix0, rw0.ix1, kr, nr']
      exact ⟨.drop (kd', n'), rfl, hkd, hn'⟩
    · simp
      exact ⟨.put row, rfl, hr⟩
end
/-! ### the full kind -/
def abcs : List Str := ["a", "b", "c", "d", "e", "f", "g", "h", "i", "j", "k", "l"]
def zs : List Str := ["az", "bz", "cz"]
def tab (c : Str) (i j : Int) : D := .tuple [.str "table", .str c, .int i, .int j]
def tabs (j : Int) (k : Nat) : D := tab (abcs.getD k "") ((k : Int) % 10) j
theorem nam_of' {s : Str} (h : 0 < s.cps.size ∧ s.cps.size ≤ 12 ∧ (∀ c ∈ s.cps.toList, (97 ≤ c ∧ c ≤ 122) ∨ (48 ≤ c ∧ c ≤ 57)) ∧ ∃ c ∈ s.cps.toList, s.cps.toList[0]? = some c ∧ 97 ≤ c ∧ c ≤ 122) : Nam s := by
  obtain ⟨h1, h2, h3, c, _, h4⟩ := h
  exact ⟨h1, h2, h3, c, h4⟩
theorem abc_nam : ∀ s ∈ abcs, Nam s := by
  have : ∀ s ∈ abcs, 0 < s.cps.size ∧ s.cps.size ≤ 12 ∧ (∀ c ∈ s.cps.toList, (97 ≤ c ∧ c ≤ 122) ∨ (48 ≤ c ∧ c ≤ 57)) ∧ ∃ c ∈ s.cps.toList, s.cps.toList[0]? = some c ∧ 97 ≤ c ∧ c ≤ 122 := by decide +kernel
  exact fun s hs => nam_of' (this s hs)
theorem z_nam : Nam "z" := nam_of' (by decide +kernel)
theorem abc_ok : ∀ k < 12, PyData.strOk (abcs.getD k "") = true ∧ abcs.getD k "" ∈ abcs := by decide +kernel
theorem abc_up : ∀ k < 12, ∀ i < k, kl ("table", abcs.getD i "") ("table", abcs.getD k "") = true := by decide +kernel
theorem abc_ix : ∀ k : Nat, k < 12 → fIx (.str "abcdefghijkl") (.int (k : Int)) = some (.str (abcs.getD k "")) := by
  intro k hk
  have : k = 0 ∨ k = 1 ∨ k = 2 ∨ k = 3 ∨ k = 4 ∨ k = 5 ∨ k = 6 ∨ k = 7 ∨ k = 8 ∨ k = 9 ∨ k = 10 ∨ k = 11 := by omega
  rcases this with rfl | rfl | rfl | rfl | rfl | rfl | rfl | rfl | rfl | rfl | rfl | rfl <;> kernel_rfl
theorem abc3 (n : Int) : ∃ i : Nat, i < 3 ∧ fIx (.str "abc") (.int (n % 3)) = some (.str (abcs.getD i "")) ∧ fAdd (.str (abcs.getD i "")) (.str "z") = some (.str (zs.getD i "")) := by
  rcases (by omega : n % 3 = 0 ∨ n % 3 = 1 ∨ n % 3 = 2) with h | h | h <;> rw [h]
  · exact ⟨0, by decide, by kernel_rfl, by kernel_rfl⟩
  · exact ⟨1, by decide, by kernel_rfl, by kernel_rfl⟩
  · exact ⟨2, by decide, by kernel_rfl, by kernel_rfl⟩
theorem zs_no : ∀ i < 3, PyData.strOk (zs.getD i "") = true ∧ ∀ k < 12, abcs.getD k "" ≠ zs.getD i "" := by decide +kernel
theorem tab_rw {c : Str} (h : PyData.strOk c = true) (i j : Int) : Rw (tab c i j) := ⟨"table", c, [.int i, .int j], rfl, by simp, by simp, by decide +kernel, h⟩
theorem tab_Rb {c : Str} (h : c ∈ abcs) {i j : Int} (i0 : 0 ≤ i) (i1 : i ≤ 9) (j0 : 0 ≤ j) (j1 : j ≤ 9) (ok : PyData.strOk c = true) : Rb (tab c i j) := ⟨tab_rw ok i j, table_row (abc_nam c h) i0 i1 j0 j1, (by decide +kernel : ("table" : Str) ∈ kinds), abc_nam c h⟩
theorem put_last {l : List D} {x : D} {k : Str} (hk : kd x = k) (h : ∀ y ∈ l, kd y = k → kl (ky y) (ky x) = true) : (DL.put ky l x).filter (fun y => decide (kd y = k)) = l.filter (fun y => decide (kd y = k)) ++ [x] := by
  have e1 : (l.filter fun y => kl (ky y) (ky x)).filter (fun y => decide (kd y = k)) = l.filter fun y => decide (kd y = k) := by
    rw [List.filter_filter]
    refine List.filter_congr fun y hy => ?_
    by_cases q : kd y = k
    · simp [q, h y hy q]
    · simp [q]
  have e2 : (l.filter fun y => kl (ky x) (ky y)).filter (fun y => decide (kd y = k)) = [] := by
    rw [List.filter_filter, List.filter_eq_nil_iff]
    intro y hy z
    simp only [Bool.and_eq_true, decide_eq_true_eq] at z
    have := kl_tr z.2 (h y hy z.1)
    rw [kl_irr] at this
    cases this
  unfold DL.put
  rw [List.filter_append, List.filter_append, e1, e2]
  simp [hk]
theorem put_few {l : List D} {x : D} {k : Str} (hk : kd x ≠ k) : few (DL.put ky l x) k ≤ few l k := by
  have sw : ∀ q : D → Bool, (l.filter q).filter (fun y => decide (kd y = k)) = (l.filter fun y => decide (kd y = k)).filter q := fun q => by
    rw [List.filter_filter, List.filter_filter]
    congr 1
    funext a
    exact Bool.and_comm ..
  unfold few DL.put
  have e : ([x].filter fun y => decide (kd y = k)) = [] := by simp [hk]
  rw [List.filter_append, List.filter_append, sw, sw, e]
  simp only [List.length_append, List.length_nil]
  have := two_sieves (l := l.filter fun y => decide (kd y = k)) (p := fun y => kl (ky y) (ky x)) (q := fun y => kl (ky x) (ky y)) fun y hy => by
    cases z : kl (ky x) (ky y) with
    | false => rfl
    | true =>
      have := kl_tr hy z
      rw [kl_irr] at this
      cases this
  omega
theorem ne3 (s : Str) (h : PyData.strOk s = true) : fNe (.list [.str s, .str s, .str s]) (.list [.str s, .str s, .str s]) = some (.bool false) ∧ fEq (.list [.str s, .str s, .str s]) (.list [.str s, .str s, .str s]) = some (.bool true) := by
  have sh := (shapedL (n := 0) (ds := [.str s, .str s, .str s]) (fun d hd => by
    simp at hd
    rw [hd, Pl_str]
    exact h) (by decide)).1
  have e : eqD (.list [.str s, .str s, .str s]) (.list [.str s, .str s, .str s]) = some (PyData.eqv (.list [.str s, .str s, .str s]) (.list [.str s, .str s, .str s])) := if_pos ⟨sh, sh⟩
  have q : PyData.eqv (.list [.str s, .str s, .str s]) (.list [.str s, .str s, .str s]) = true := by simp [PyData.eqv, PyData.eqvAll]
  rw [q] at e
  unfold fNe fEq
  rw [e]
  exact ⟨rfl, rfl⟩
def FI (rs : List D) (n : Int) (m : Nat) (ds : List D) (α : At) : Prop := ∃ (l : List D) (k : Nat) (u3 u4 u5 : AV), ds = ((List.range 12).drop k).map (fun i : Nat => PyData.int i) ∧ k ≤ 12 ∧ Bb (m + k) l ∧ l.filter (fun y => decide (kd y = "table")) = (List.range k).map (tabs (n % 10)) ∧ few l "hand" ≤ 6 ∧ α = [.dat (.list rs), .dat (.int n), .dat (.list l), u3, u4, u5]
theorem full_ok {rs : List D} {m : Nat} (hb : Bb m rs) (hm : m < 100) (n : Int) (hh : few rs "hand" ≤ 6) : f__law_full [.list rs, .int n] = .ok (.bool true) := by
  have hr := hb.rw
  have hl := hb.2.2
  have e1 := lcD_sieve (f := cmD (.nm 5) (tV (d2 fNe (d2 fIx (dV 5) (dC (.int (0)))) (dC (.str "table")))) (dV 5) [some (.list rs), some (.int n), none, none, none, none]) (fun x => decide (kd x ≠ "table")) (ds := rs) fun x hx => by
    by_cases q : kd x = "table" <;> simp [cmD, (hr x hx).ix0, q]
  have tt : ("table" : Str) ≠ "hand" := by decide +kernel
  refine Sat.eq (Sat.fD rfl (ON.seq ?_))
  simp [le_size (n := rs.length) (by omega)]
  rw [e1]
  simp
  refine ON.seq (ON.for_ (FI rs n m) (iRangeL (n := 12) rfl (by decide) (by decide)) ?_ ?_ ?_)
  · refine ⟨_, 0, _, _, _, rfl, by decide, ⟨hb.1.filter _, fun r hr => hb.2.1 r (List.mem_filter.mp hr).1, Nat.le_trans (List.length_filter_le ..) hl⟩, ?_, ?_, rfl⟩
    · rw [List.filter_filter]
      simp
    · refine Nat.le_trans ?_ hh
      unfold few
      rw [List.filter_filter]
      refine Nat.le_of_eq (congrArg List.length (List.filter_congr fun y hy => ?_))
      by_cases q : kd y = "hand" <;> simp [q]
      exact tt.symm
  · rintro d ds α ⟨l, k, u3, u4, u5, ed, hk, lb, lt, lh, rfl⟩
    have hk' : k < 12 := by
      refine Nat.lt_of_le_of_ne hk fun e => ?_
      rw [e] at ed
      cases ed
    rw [List.drop_eq_getElem_cons (by simpa using hk')] at ed
    simp only [List.getElem_range, List.map_cons, List.cons.injEq] at ed
    obtain ⟨rfl, eds⟩ := ed
    obtain ⟨ok, inn⟩ := abc_ok k hk'
    have hR : Rb (tabs (n % 10) k) := tab_Rb inn (by omega) (by omega) (by omega) (by omega) ok
    have hp := placed_ok (rs := l) (d := tabs (n % 10) k) lb.rw hR.1 (by have := lb.2.2; omega)
    have ix := abc_ix k hk'
    refine ⟨_, rfl, ?_⟩
    unfold tabs tab at hp
    simp only [List.set, sSet_ap, sD_ap, dats_cons, dats_nil, dt_d, dCall_ap, aCons_ap, aNil_ap, dV_s, dV_z, Res.bind_ok, dTup_ap, dC_ap, d2_ap, ix, Res.of_some, fMod_pos (i := (k : Int)) (k := 10) (by decide), fMod_pos (i := n) (k := 10) (by decide), List.length_cons, List.length_nil, le_size (n := 0 + 1 + 1 + 1 + 1) (by decide), if_true, hp, ofR_ok, ON_nx]
    refine ⟨DL.put ky l (tabs (n % 10) k), k + 1, _, _, _, eds, hk', lb.app (e := .put (tabs (n % 10) k)) ⟨hR, .inr ?_⟩, ?_, Nat.le_trans (put_few tt) lh, rfl⟩
    · show few l "table" < 12
      unfold few
      rw [lt]
      simpa using hk'
    · rw [put_last (k := "table") rfl, lt, List.range_succ, List.map_append]
      · rfl
      · intro y hy q
        have : y ∈ l.filter fun y => decide (kd y = "table") := List.mem_filter.mpr ⟨hy, by simpa using q⟩
        rw [lt] at this
        obtain ⟨i, hi, rfl⟩ := List.mem_map.mp this
        exact abc_up k hk' i (by simpa using hi)
  · rintro α ⟨l, k, u3, u4, u5, ed, hk, lb, lt, lh, rfl⟩
    have hk' : k = 12 := by
      refine Nat.le_antisymm hk (Nat.le_of_not_lt fun h => ?_)
      rw [List.drop_eq_getElem_cons (by simpa using h)] at ed
      cases ed
    subst hk'
    obtain ⟨i, hi, ix, ad⟩ := abc3 n
    obtain ⟨zok, zno⟩ := zs_no i hi
    obtain ⟨aok, ain⟩ := abc_ok i (by omega)
    have ll := lb.2.2
    have zr := tab_rw zok 0 1
    have tl : ∀ {y : D}, y ∈ l → kd y = "table" → ∃ k < 12, y = tabs (n % 10) k := fun {y} hy q => by
      have : y ∈ l.filter fun y => decide (kd y = "table") := List.mem_filter.mpr ⟨hy, by simpa using q⟩
      rw [lt] at this
      obtain ⟨k, hk, rfl⟩ := List.mem_map.mp this
      exact ⟨k, by simpa using hk, rfl⟩
    have ra := raised_ok (rs := l) (e := .put (tab (zs.getD i "") 0 1)) Told.ful lb.rw (fun x h => by cases h; exact zr) (apply_ful lb.rw (by omega) zr (fun y hy q => by
      obtain ⟨k, hk, rfl⟩ := tl hy (congrArg Prod.fst q)
      exact zno k hk (congrArg Prod.snd q)) (by
      show 12 ≤ few l "table"
      unfold few
      rw [lt]
      simp))
    replace ra : f__law_raised [.tuple l, .tuple [.str "put", .tuple [.str "table", .str (zs.getD i ""), .int 0, .int 1]]] = .ok (.list [.str "full", .str "full", .str "full"]) := ra
    have R1 : Rb (tab (abcs.getD i "") 9 9) := tab_Rb ain (by decide) (by decide) (by decide) (by decide) aok
    have st1 := step_ok (e := .put (tab (abcs.getD i "") 9 9)) lb (by omega) ⟨R1, .inl ⟨tabs (n % 10) i, (List.mem_filter.mp (by rw [lt]; exact List.mem_map.mpr ⟨i, by simp; omega, rfl⟩ : tabs (n % 10) i ∈ l.filter fun y => decide (kd y = "table"))).1, rfl⟩⟩ (fun k h => nomatch h) (edit_put R1.2.1)
    replace st1 : f__law_step [.list l, .tuple [.str "put", .tuple [.str "table", .str (abcs.getD i ""), .int 9, .int 9]]] = .ok (.bool true) := st1
    have R2 : Rb (.tuple [.str "hand", .str "z", .int 1, .int 1]) := ⟨⟨"hand", "z", [.int 1, .int 1], rfl, by simp, by simp, by decide +kernel, by decide +kernel⟩, hand_row z_nam (by decide) (by decide) (by decide) (by decide), (by decide +kernel : ("hand" : Str) ∈ kinds), z_nam⟩
    have st2 := step_ok (e := .put (.tuple [.str "hand", .str "z", .int 1, .int 1])) lb (by omega) ⟨R2, .inr (show few l "hand" < 12 by omega)⟩ (fun k h => nomatch h) (edit_put R2.2.1)
    replace st2 : f__law_step [.list l, .tuple [.str "put", .tuple [.str "hand", .str "z", .int 1, .int 1]]] = .ok (.bool true) := st2
    clear zno aok ain zr R1 zok
    generalize zs.getD i "" = zz at ad ra
    generalize abcs.getD i "" = aa at ad ix st1
    refine ON.seq ?_
    simp only [List.set, sSet_ap, sD_ap, dats_cons, dats_nil, dt_d, dCall_ap, aCons_ap, aNil_ap, dV_s, dV_z, Res.bind_ok, dTup_ap, dC_ap, d2_ap, ix, ad, Res.of_some, fMod_pos (i := n) (k := 3) (by decide), List.length_cons, List.length_nil, le_size (n := 0 + 1 + 1 + 1 + 1) (by decide), le_size (n := 0 + 1 + 1) (by decide), if_true, ofR_ok, ON_nx]
    have f3 := (ne3 "full" (by decide +kernel)).1
    refine ON.seq (ON.iff (c := false) (by simp [ra, f3]) (fun z => nomatch z) fun _ => .nx _ ?_)
    simp [fMod_pos, ix, st1, st2]
end K68

/-! PlK68: the law's answer. -/
namespace K68
open PySem L2 DL Cm Cr
/-- none of the drawn names is zz9 -/
theorem names_last (xs : List Int) (h : 6 ≤ xs.length) {l : List Str} (hl : f__law_names [.list (xs.map PyData.int)] = .ok (.list (l.map PyData.str))) : ∀ s ∈ l, s ≠ "zz9" := by
  have each : ∀ k : Nat, k < 6 → ∃ s : Str, cmD (.nm 1) yesT (d2 fAdd (dCall f__law_name (aCons (d2 fIx (dV 0) (dV 1)) aNil)) (d2 fIx (dC (.str "pqrstu")) (dV 1))) [some (.list (xs.map PyData.int)), none] (.int k) = .ok (some (.str s)) ∧ s ≠ "zz9" := fun k hk => by
    obtain ⟨s, es, s1, s2⟩ := dname_ok (xs[k]'(by omega))
    have e1 : atI (xs.map PyData.int) (k : Int) = some (.int (xs[k]'(by omega))) := by rw [atI_lt _ k (by simp; omega), List.getElem_map]
    have e2 : fIx (.str "pqrstu") (.int (k : Int)) = some (.str ⟨#[112 + k]⟩) := by
      rw [fIx_str (by rw [pqr_size]; decide), pqr_cps, atI_lt _ k (by simp; omega)]
      simp
    have ea : fAdd (.str s) (.str ⟨#[112 + k]⟩) = some (.str (s ++ ⟨#[112 + k]⟩)) := fAdd_str (by simp; omega)
    refine ⟨s ++ ⟨#[112 + k]⟩, by simp [cmD, e1, e2, es, ea], fun q => ?_⟩
    have q := congrArg (fun s : Str => s.cps.toList.getLast?) q
    have z : ("zz9" : Str).cps.toList.getLast? = some 57 := by decide +kernel
    rw [z] at q
    simp only [app_cps] at q
    simp at q
    omega
  obtain ⟨s0, a0, c0⟩ := each 0 (by decide)
  obtain ⟨s1, a1, c1⟩ := each 1 (by decide)
  obtain ⟨s2, a2, c2⟩ := each 2 (by decide)
  obtain ⟨s3, a3, c3⟩ := each 3 (by decide)
  obtain ⟨s4, a4, c4⟩ := each 4 (by decide)
  obtain ⟨s5, a5, c5⟩ := each 5 (by decide)
  clear each
  rw [f__law_names, fD_ap (by rfl)] at hl
  have er := iRangeL (a := dC (.int 6)) (β := [some (.list (xs.map PyData.int)), none]) (n := 6) rfl (by decide) (by decide)
  have el : (List.range (6 : Int).toNat).map (fun i : Nat => PyData.int i) = [.int (0 : Nat), .int (1 : Nat), .int (2 : Nat), .int (3 : Nat), .int (4 : Nat), .int (5 : Nat)] := rfl
  rw [el] at er
  have ec : lcD (cmD (.nm 1) yesT (d2 fAdd (dCall f__law_name (aCons (d2 fIx (dV 0) (dV 1)) aNil)) (d2 fIx (dC (.str "pqrstu")) (dV 1))) [some (.list (xs.map PyData.int)), none]) [.int (0 : Nat), .int (1 : Nat), .int (2 : Nat), .int (3 : Nat), .int (4 : Nat), .int (5 : Nat)] = .ok [.str s0, .str s1, .str s2, .str s3, .str s4, .str s5] := by
    rw [lcD, a0, lcD, a1, lcD, a2, lcD, a3, lcD, a4, lcD, a5]
    rfl
  simp only [b__law_names, sRet_ap, sD_ap, dFz_ap, dLc_ap, List.map_cons, List.map_nil, List.cons_append, List.nil_append, List.replicate, dats_cons, dats_nil, dt_d, dt_u, er, Res.bind_ok, wipeB_cons, wipeB_nil, List.set, ec, Nat.reduceSub] at hl
  simp at hl
  intro s hs
  have hm : PyData.str s ∈ l.map PyData.str := List.mem_map.mpr ⟨s, hs, rfl⟩
  rw [← hl] at hm
  simp at hm
  rcases hm with rfl | rfl | rfl | rfl | rfl | rfl <;> assumption
theorem good_pl {ss : List Str} (hs : ∀ s ∈ ss, Nam s) {e : Ed D} (g : Good ss e) : EdOk e := by
  cases e with
  | put x => exact g.1.1
  | drop k => exact ⟨kinds_strs _ g.1, (hs _ g.2).ok⟩
theorem good_ed {ss : List Str} (hs : ∀ s ∈ ss, Nam s) {e : Ed D} (g : Good ss e) : f_is_edit [encE e] = .ok (.bool true) := by
  cases e with
  | put x => exact edit_put g.2.1
  | drop k => exact edit_drop g.1 (hs _ g.2)
theorem bkB_few {ss : List Str} {m : Nat} {rs : List D} (h : BkB ss m rs) (k : Str) : few rs k ≤ ss.length := bk_kind h.bk k
theorem bkB_app {ss : List Str} {m : Nat} {rs : List D} (h : BkB ss m rs) {e : Ed D} (g : Good ss e) : BkB ss (m + 1) (app ky rs e) := by
  cases e with
  | put x => exact h.put g
  | drop k => exact ⟨cut_ris h.1, fun x hx => h.2.1 x (cut_mem.mp hx).1, Nat.le_trans (List.length_filter_le ..) (by have := h.2.2; omega)⟩
def MI (ss : List Str) (sc nu na : D) (r0 : List D) (ds : List D) (α : At) : Prop := ∃ (l : List D) (es : List (Ed D)) (k : Nat) (u v : AV), ds = ((List.range 8).drop k).map (fun i : Nat => PyData.int i) ∧ k ≤ 8 ∧ BkB ss (19 + k) l ∧ es.length ≤ k ∧ Fits r0 es ∧ es.foldl (app ky) r0 = l ∧
  α = [.dat sc, .dat nu, .dat na, .dat (.list l), .dat (.tuple r0), .own (es.map encE), u, v]
theorem plain (ns : List Int) (h : ns.length ≤ 63) : f_law [.dict [(.none, .list (ns.map PyData.int))]] = .ok (.bool true) := by
  obtain ⟨_, en, xs, rfl, lx, hx⟩ := numbers_ok ns (by omega) 90 (by decide)
  have en : f__law_numbers [.dict [(.none, .list (ns.map PyData.int))], .int 90] = .ok (.list (xs.map PyData.int)) := en
  obtain ⟨s0, s1, s2, s3, s4, s5, ena, hs, nd⟩ := dnames_ok xs (by omega)
  have zz := names_last xs (by omega) (l := [s0, s1, s2, s3, s4, s5]) ena
  obtain ⟨x6, q6, h6⟩ := atI_num hx (i := 6) (by decide) (by omega)
  obtain ⟨x7, q7, h7⟩ := atI_num hx (i := 7) (by decide) (by omega)
  obtain ⟨x8, q8, h8⟩ := atI_num hx (i := 8) (by decide) (by omega)
  obtain ⟨x9, q9, h9⟩ := atI_num hx (i := 9) (by decide) (by omega)
  obtain ⟨rs, eb, hb⟩ := gbook_ok hs nd hx (by omega) (by omega) [6, 7, 18, 0, 19, x9 % 20] (by simp) (by simp) 8 (x6 % 20) (by decide) (by decide) (by omega) (by omega)
  have hb := hb.mono (show (x6 % 20).toNat ≤ 19 by omega)
  have eb : f__law_book [.list (xs.map PyData.int), .int 8, .int (x6 % 20), .list [.str s0, .str s1, .str s2, .str s3, .str s4, .str s5], .list [.int 6, .int 7, .int 18, .int 0, .int 19, .int (x9 % 20)]] = .ok (.list rs) := eb
  refine Sat.eq (Sat.fD rfl (ON.seq ?_))
  simp [en]
  refine ON.seq ?_
  simp [ena]
  refine ON.seq ?_
  simp [q9, q6, fMod_pos, eb]
  refine ON.seq ?_
  simp
  refine ON.seq ?_
  simp
  refine ON.seq (ON.for_ (MI [s0, s1, s2, s3, s4, s5] (.dict [(.none, .list (ns.map PyData.int))]) (.list (xs.map PyData.int)) (.list [.str s0, .str s1, .str s2, .str s3, .str s4, .str s5]) rs) (iRangeL (n := 8) rfl (by decide) (by decide)) ?_ ?_ ?_)
  · exact ⟨rs, [], 0, _, _, rfl, by decide, hb, by simp, trivial, rfl, rfl⟩
  · rintro d ds α ⟨l, es, k, u, v, ed, hk, lb, le, lf, lv, rfl⟩
    have hk' : k < 8 := by
      refine Nat.lt_of_le_of_ne hk fun e => ?_
      rw [e] at ed
      cases ed
    rw [List.drop_eq_getElem_cons (by simpa using hk')] at ed
    simp only [List.getElem_range, List.map_cons, List.cons.injEq] at ed
    obtain ⟨rfl, eds⟩ := ed
    obtain ⟨e, ee, g⟩ := edit_ok hs nd hx (by omega) (by omega) (by omega) lb (by omega) (k : Int) (by omega) (by omega)
    have Lb := bkB_Bb hs lb
    have ll := lb.2.2
    have ied := good_ed hs g
    have ok := good_pl hs g
    have af := after_ok Lb.rw (by omega) ok
    have few6 := bkB_few lb
    refine ⟨_, rfl, ON.seq ?_⟩
    simp [ee]
    have fit_way : Fit l e → ON (MI [s0, s1, s2, s3, s4, s5] (.dict [(.none, .list (ns.map PyData.int))]) (.list (xs.map PyData.int)) (.list [.str s0, .str s1, .str s2, .str s3, .str s4, .str s5]) rs ds) (fun d => d = PyData.bool true)
        (sSeq (sIf (sD (DL.tOr (DL.tNot (tV (dCall f__law_step (aCons (dV 3) (aCons (dV 7) aNil))))) (DL.tNot (tV (dCall f__law_forms (aCons (dV 7) aNil))))))
          (sRet (sD (dC (.bool false))))
          sNil)
         (sSeq (sSet 3 (sD (dCall f__law_after (aCons (dV 3) (aCons (dV 7) aNil)))))
          (sApp 5 (sD (dV 7)))) [.dat (.dict [(.none, .list (ns.map PyData.int))]), .dat (.list (xs.map PyData.int)), .dat (.list [.str s0, .str s1, .str s2, .str s3, .str s4, .str s5]), .dat (.list l), .dat (.tuple rs), .own (es.map encE), .dat (.int k), .dat (encE e)]) := fun ft => by
      have st := step_ok Lb (by omega) ft (fun k' hk' => by have := few6 k'.1; simp at this; omega) ied
      have fo := forms_ok (e := e) (by
        cases e with
        | put x =>
          obtain ⟨k, n, rest, rfl, _⟩ := ft.1.1
          exact ⟨_, rfl⟩
        | drop k => trivial)
      refine ON.seq (ON.iff (c := false) (by simp [st, fo]) (fun z => nomatch z) fun _ => .nx _ ?_)
      refine ON.seq ?_
      simp [af, lt_size (n := es.length) (by omega)]
      refine ⟨app ky l e, es ++ [e], k + 1, .dat (.int k), .dat (encE e), eds, hk', bkB_app lb g, by simp; omega, lf.snoc (by rw [lv]; exact ft), by rw [List.foldl_append, lv]; rfl, by simp⟩
    cases e with
    | put x =>
      refine ON.iff (c := false) (by simp [encE, s_put3]) (fun z => nomatch z) fun _ => fit_way ⟨rb_Rb hs g, .inr ?_⟩
      have := few6 (kd x)
      simp at this
      omega
    | drop q =>
      have fd := lfind_ok (k := q.1) (n := q.2) Lb.rw
      cases hf : l.find? fun x => decide (ky x = q) with
      | some r =>
        obtain ⟨h1, h2⟩ := find_key hf
        obtain ⟨k', n', rest, er, _⟩ := Lb.rw r h1
        rw [show (l.find? fun x => decide (ky x = (q.1, q.2))) = some r from hf] at fd
        replace fd : f__law_find [.list l, .str q.1, .str q.2] = .ok r := fd
        rw [er] at fd
        exact ON.iff (c := false) (by simp [encE, s_drop2, at1, at2, fd, fIs, isN]) (fun z => nomatch z) fun _ => fit_way ⟨r, h1, h2⟩
      | none =>
        have no := find_no hf
        rw [show (l.find? fun x => decide (ky x = (q.1, q.2))) = none from hf] at fd
        replace fd : f__law_find [.list l, .str q.1, .str q.2] = .ok .none := fd
        have ra := raised_ok (rs := l) (e := .drop q) (Told.unk q.2) Lb.rw (fun x h => nomatch h) (apply_unk Lb.rw no)
        have f3 := (ne3 q.2 ok.2).1
        have mu : fMul (.list [.str q.2]) (.int 3) = some (.list [.str q.2, .str q.2, .str q.2]) := by
          have : (if -(2 ^ 63) ≤ (3 : Int) ∧ (3 : Int) < 2 ^ 63 ∧ [PyData.str q.2].length * (3 : Int).toNat ≤ sizeLine then some (PyData.list (List.replicate (3 : Int).toNat [PyData.str q.2]).flatten) else none) = some (.list [.str q.2, .str q.2, .str q.2]) := if_pos ⟨by decide, by decide, by rw [PySem.sizeLine_eq]; simp⟩
          exact this
        refine ON.iff (c := true) (by simp [encE, s_drop2, at1, at2, fd, fIs, isN]) (fun _ => ?_) fun z => nomatch z
        replace ra : f__law_raised [.tuple l, .tuple [.str "drop", .str q.1, .str q.2]] = .ok (.list [.str q.2, .str q.2, .str q.2]) := ra
        replace ied : f_is_edit [.tuple [.str "drop", .str q.1, .str q.2]] = .ok (.bool true) := ied
        refine ON.iff (c := false) (by simp [encE, ra, at2, mu, f3, ied, fIsNot, isN]) (fun z => nomatch z) fun _ => .nx _ ?_
        exact ⟨l, es, k + 1, _, _, eds, hk', lb.mono (by omega), by omega, lf, lv, rfl⟩
  · rintro α ⟨l, es, k, u, v, ed, hk, lb, le, lf, lv, rfl⟩
    have B0 := bkB_Bb hs hb
    have Lb := bkB_Bb hs lb
    have ap := applies_ok B0 (by omega) lf
    rw [lv] at ap
    have ll := lb.2.2
    have sm := same_self 5 _ (by decide) (plb Lb.rw (by omega))
    have fu := full_ok Lb (by omega) x8 (by have := bkB_few lb "hand"; simpa using this)
    refine ON.seq (ON.iff (c := false) (by simp [ap, sm]) (fun z => nomatch z) fun _ => .nx _ ?_)
    refine ON.seq (ON.iff (c := false) (by by_cases q : x7 % 4 = 0 <;> simp [q7, q8, fMod_pos, fu, q]) (fun z => nomatch z) fun _ => .nx _ ?_)
    have ra := raised_ok (rs := l) (e := .drop ("hand", "zz9")) (Told.unk "zz9") Lb.rw (fun x h => nomatch h) (apply_unk Lb.rw fun y hy e => zz _ (lb.2.1 y hy).1.2 (congrArg Prod.snd e))
    replace ra : f__law_raised [.tuple l, .tuple [.str "drop", .str "hand", .str "zz9"]] = .ok (.list [.str "zz9", .str "zz9", .str "zz9"]) := ra
    have f3 := (ne3 "zz9" (by decide +kernel)).2
    have mu : fMul (.list [.str "zz9"]) (.int 3) = some (.list [.str "zz9", .str "zz9", .str "zz9"]) := by
      have : (if -(2 ^ 63) ≤ (3 : Int) ∧ (3 : Int) < 2 ^ 63 ∧ [PyData.str "zz9"].length * (3 : Int).toNat ≤ sizeLine then some (PyData.list (List.replicate (3 : Int).toNat [PyData.str "zz9"]).flatten) else none) = some (.list [.str "zz9", .str "zz9", .str "zz9"]) := if_pos ⟨by decide, by decide, by rw [PySem.sizeLine_eq]; simp⟩
      exact this
    simp [ra, mu, f3]
end K68

namespace K68
open PySem PySem.Spec PyProof.Rows L2 DL Cm Cr
section
variable {P : Program} {w : World} {K : PySem.W.Frag} {mg : Str → Option Value} {base : Heap}
theorem ok__law_before  {f : Addr} {fd : FuncData} (F : FunD K "_law_before" "_law_before" (defArgs s__law_before) (defBody s__law_before) (defScope s__law_before) [] [] f fd) :
    FnOk P w K mg base (L2.CX P w) 1 f fd P__law_before (SpF K w mg f__law_before) :=
  okD (k := 0) F sc__law_before fun cdv A outer s H E hr => by
    have tk := takes_of (X := cxOf (L2.CX P w) P w K mg base N__law_before "_law_before" (defScope s__law_before) f cdv A outer s H E) rfl rfl rfl rfl
    exact
 (rsone (rsret (se (ror (rcmp (okO_lt hr) ok_lt (rixs (rv 0) rint) (rixs (rv 1) rint)) (rbone (rand (rcmp (okO_eq hr) ok_eq (rixs (rv 0) rint) (rixs (rv 1) rint)) (rbone (rcmp (okO_lt hr) ok_lt (rixs (rv 0) rint) (rixs (rv 1) rint)))))))))
theorem ok__law_placed (h__law_before : Cal P w K mg base 1 "_law_before" f__law_before) {f : Addr} {fd : FuncData} (F : FunD K "_law_placed" "_law_placed" (defArgs s__law_placed) (defBody s__law_placed) (defScope s__law_placed) [] [] f fd) :
    FnOk P w K mg base (L2.CX P w) 2 f fd P__law_placed (SpF K w mg f__law_placed) :=
  okD (k := 1) F sc__law_placed fun cdv A outer s H E hr => by
    have tk := takes_of (X := cxOf (L2.CX P w) P w K mg base N__law_placed "_law_placed" (defScope s__law_placed) f cdv A outer s H E) rfl rfl rfl rfl
    exact
 (rscons (rslaylc (i := 2) (Lc.mk (own := [("old", 4)]) (riseq (rv 0)) (blkOk_by (N := N__law_placed) (sc := defScope s__law_placed) (by decide +kernel)) (fun _ _ _ _ _ => (rgn 4 sc__law_placed.nd)) (fun _ _ _ _ _ => (pts_if (rt (rc h__law_before hr tk0 (racons (rv 4) (racons (rv 1) ranil)))))) (fun _ _ _ _ _ => (rv 4)) (by decide)) sc__law_placed.nd)
 (rscons (rslaylc (i := 3) (Lc.mk (own := [("old", 4)]) (riseq (rv 0)) (blkOk_by (N := N__law_placed) (sc := defScope s__law_placed) (by decide +kernel)) (fun _ _ _ _ _ => (rgn 4 sc__law_placed.nd)) (fun _ _ _ _ _ => (pts_if (rt (rc h__law_before hr tk0 (racons (rv 1) (racons (rv 4) ranil)))))) (fun _ _ _ _ _ => (rv 4)) (by decide)) sc__law_placed.nd)
 (rsone (rsret (se (radd (radd (rv 2) (rlst (racons (rv 1) ranil))) (rv 3)))))))
theorem ok__law_after (h__law_placed : Cal P w K mg base 2 "_law_placed" f__law_placed) {f : Addr} {fd : FuncData} (F : FunD K "_law_after" "_law_after" (defArgs s__law_after) (defBody s__law_after) (defScope s__law_after) [] [] f fd) :
    FnOk P w K mg base (L2.CX P w) 3 f fd P__law_after (SpF K w mg f__law_after) :=
  okD (k := 2) F sc__law_after fun cdv A outer s H E hr => by
    have tk := takes_of (X := cxOf (L2.CX P w) P w K mg base N__law_after "_law_after" (defScope s__law_after) f cdv A outer s H E) rfl rfl rfl rfl
    exact
 (rscons (rsif (st (rtcmp (okO_eq hr) ok_eq (rixs (rv 1) rint) rstr))
 (rsone (rsret (se (rc h__law_placed hr tk (racons (rv 0) (racons (rixs (rv 1) rint) ranil))))))
 rsnil)
 (rsone (rsret (se (rfz (rlc (Lc.mk (own := [("row", 2)]) (riseq (rv 0)) (blkOk_by (N := N__law_after) (sc := defScope s__law_after) (by decide +kernel)) (fun _ _ _ _ _ => (rgn 2 sc__law_after.nd)) (fun _ _ _ _ _ => (pts_if (rtw (rwor (rtcmp (okO_ne hr) ok_ne (rixs (rv 2) rint) (rixs (rv 1) rint)) (rwo1 (rtcmp (okO_ne hr) ok_ne (rixs (rv 2) rint) (rixs (rv 1) rint))))))) (fun _ _ _ _ _ => (rv 2)) (by decide)) sc__law_after.nd))))))
theorem ok__law_kinds  {f : Addr} {fd : FuncData} (F : FunD K "_law_kinds" "_law_kinds" (defArgs s__law_kinds) (defBody s__law_kinds) (defScope s__law_kinds) [] [] f fd) :
    FnOk P w K mg base (L2.CX P w) 1 f fd P__law_kinds (SpF K w mg f__law_kinds) :=
  okD (k := 0) F sc__law_kinds fun cdv A outer s H E hr => by
    have tk := takes_of (X := cxOf (L2.CX P w) P w K mg base N__law_kinds "_law_kinds" (defScope s__law_kinds) f cdv A outer s H E) rfl rfl rfl rfl
    exact
 (rscons (rsset (i := 0) sc__law_kinds.nd (se (rlst (racons rstr (racons rstr (racons rstr (racons rstr (racons rstr (racons rstr (racons rstr (racons rstr (racons rstr (racons rstr ranil)))))))))))))
 (rsone (rsret (se (radd (rv 0) (rlst (racons rstr (racons rstr (racons rstr (racons rstr (racons rstr (racons rstr (racons rstr (racons rstr (racons rstr (racons rstr ranil))))))))))))))))
theorem ok__law_lowest (m_abs : mg "abs" = none) (m_int : mg "int" = none) (m_range : mg "range" = none) {f : Addr} {fd : FuncData} (F : FunD K "_law_lowest" "_law_lowest" (defArgs s__law_lowest) (defBody s__law_lowest) (defScope s__law_lowest) [] [] f fd) :
    FnOk P w K mg base (L2.CX P w) 1 f fd P__law_lowest (SpF K w mg f__law_lowest) :=
  okD (k := 0) F sc__law_lowest fun cdv A outer s H E hr => by
    have tk := takes_of (X := cxOf (L2.CX P w) P w K mg base N__law_lowest "_law_lowest" (defScope s__law_lowest) f cdv A outer s H E) rfl rfl rfl rfl
    exact
 (rscons (rsset (i := 2) sc__law_lowest.nd (se (rcb call_abs ok_abs m_abs (racons (rv 0) ranil))))
 (rscons (rsset (i := 3) sc__law_lowest.nd (se (rv 1)))
 (rscons (rsfor (rirange1 m_range rint) (rgn 4 sc__law_lowest.nd)
 (rsone (rsif (st (rtcmp (okO_ne hr) ok_ne (rv 3) rint))
 (rscons (rsset (i := 5) sc__law_lowest.nd (se (rmod (rct call_int1 ok_int m_int (racons (rv 2) ranil)) (rv 3))))
 (rscons (rsset (i := 2) sc__law_lowest.nd (se (rv 3)))
 (rsone (rsset (i := 3) sc__law_lowest.nd (se (rv 5))))))
 rsnil)) (passes_of rfl))
 (rsone (rsret (se (rtup (racons (rdiv (rv 0) (rv 2)) (racons (rdiv (rv 1) (rv 2)) ranil)))))))))
theorem ok__law_grain (h__law_lowest : Cal P w K mg base 1 "_law_lowest" f__law_lowest) {f : Addr} {fd : FuncData} (F : FunD K "_law_grain" "_law_grain" (defArgs s__law_grain) (defBody s__law_grain) (defScope s__law_grain) [] [] f fd) :
    FnOk P w K mg base (L2.CX P w) 2 f fd P__law_grain (SpF K w mg f__law_grain) :=
  okD (k := 1) F sc__law_grain fun cdv A outer s H E hr => by
    have tk := takes_of (X := cxOf (L2.CX P w) P w K mg base N__law_grain "_law_grain" (defScope s__law_grain) f cdv A outer s H E) rfl rfl rfl rfl
    exact
 (rscons (rsif (st (rtcmp (okO_eq hr) ok_eq (rv 0) rint))
 (rsone (rsret (se (rtup (racons rint (racons rint ranil))))))
 rsnil)
 (rsone (rsret (se (rrev (rc h__law_lowest hr tk (racons (rv 1) (racons (rv 0) ranil))))))))
theorem ok__law_line  {f : Addr} {fd : FuncData} (F : FunD K "_law_line" "_law_line" (defArgs s__law_line) (defBody s__law_line) (defScope s__law_line) [] [] f fd) :
    FnOk P w K mg base (L2.CX P w) 1 f fd P__law_line (SpF K w mg f__law_line) :=
  okD (k := 0) F sc__law_line fun cdv A outer s H E hr => by
    have tk := takes_of (X := cxOf (L2.CX P w) P w K mg base N__law_line "_law_line" (defScope s__law_line) f cdv A outer s H E) rfl rfl rfl rfl
    exact
 (rscons (rsif (st (rtcmp (okO_eq hr) ok_eq (rmod (rv 1) rint) rint))
 (rsone (rsret (se (rtup (racons (rixs (rv 0) rint) (racons (rixs (rv 0) (radd rint (rmod (rdiv (rv 1) rint) rint))) ranil))))))
 rsnil)
 (rsone (rsret (se (rtup (racons (rixs (rv 0) rint) (racons (rixs (rv 0) (rmod (rdiv (rv 1) rint) rint)) ranil)))))))
theorem ok__law_piece (h__law_lowest : Cal P w K mg base 1 "_law_lowest" f__law_lowest) {f : Addr} {fd : FuncData} (F : FunD K "_law_piece" "_law_piece" (defArgs s__law_piece) (defBody s__law_piece) (defScope s__law_piece) [] [] f fd) :
    FnOk P w K mg base (L2.CX P w) 2 f fd P__law_piece (SpF K w mg f__law_piece) :=
  okD (k := 1) F sc__law_piece fun cdv A outer s H E hr => by
    have tk := takes_of (X := cxOf (L2.CX P w) P w K mg base N__law_piece "_law_piece" (defScope s__law_piece) f cdv A outer s H E) rfl rfl rfl rfl
    exact
 (rscons (rsset (i := 2) sc__law_piece.nd (se (rc h__law_lowest hr tk (racons (rsub (rmod (rixs (rv 0) rint) rint) rint) (racons (radd rint (rmod (rixs (rv 0) rint) rint)) ranil)))))
 (rscons (rsset (i := 3) sc__law_piece.nd (se (rc h__law_lowest hr tk (racons (rsub (rmod (rixs (rv 0) rint) rint) rint) (racons (radd rint (rmod (rixs (rv 0) rint) rint)) ranil)))))
 (rscons (rsset (i := 4) sc__law_piece.nd (se (rc h__law_lowest hr tk (racons (radd (rixs (rv 2) rint) (rmul (radd rint (rmod (rixs (rv 0) rint) rint)) (rixs (rv 2) rint))) (racons (rixs (rv 2) rint) ranil)))))
 (rscons (rsset (i := 5) sc__law_piece.nd (se (rc h__law_lowest hr tk (racons (radd (rixs (rv 3) rint) (rmul (radd rint (rmod (rixs (rv 0) rint) rint)) (rixs (rv 3) rint))) (racons (rixs (rv 3) rint) ranil)))))
 (rscons (rsif (st (rtw (rwor (rtcmp (okO_eq hr) ok_eq (rmod (rixs (rv 0) rint) rint) rint) (rwo1 (rtcmp (okO_lt hr) ok_lt (rv 1) rint)))))
 (rsone (rsret (se (rtup (racons (rtup (racons (rv 2) (racons (rv 3) ranil))) (racons (rtup (racons (rv 4) (racons (rv 3) ranil))) (racons (rtup (racons (rv 2) (racons (rv 5) ranil))) ranil)))))))
 rsnil)
 (rsone (rsret (se (rtup (racons (rtup (racons (rv 2) (racons (rv 3) ranil))) (racons (rtup (racons (rv 4) (racons (rv 3) ranil))) (racons (rtup (racons (rv 4) (racons (rv 5) ranil))) (racons (rtup (racons (rv 2) (racons (rv 5) ranil))) ranil)))))))))))))
theorem ok__law_shape_row (h__law_grain : Cal P w K mg base 2 "_law_grain" f__law_grain) (h__law_line : Cal P w K mg base 1 "_law_line" f__law_line) (h__law_lowest : Cal P w K mg base 1 "_law_lowest" f__law_lowest) (h__law_piece : Cal P w K mg base 2 "_law_piece" f__law_piece) (m_range : mg "range" = none) (m_sorted : mg "sorted" = none) (m_tuple : mg "tuple" = none) {f : Addr} {fd : FuncData} (F : FunD K "_law_shape_row" "_law_shape_row" (defArgs s__law_shape_row) (defBody s__law_shape_row) (defScope s__law_shape_row) [] [] f fd) :
    FnOk P w K mg base (L2.CX P w) 3 f fd P__law_shape_row (SpF K w mg f__law_shape_row) :=
  okD (k := 2) F sc__law_shape_row fun cdv A outer s H E hr => by
    have tk := takes_of (X := cxOf (L2.CX P w) P w K mg base N__law_shape_row "_law_shape_row" (defScope s__law_shape_row) f cdv A outer s H E) rfl rfl rfl rfl
    exact
 (rscons (rsset (i := 4) sc__law_shape_row.nd (se (rmod (rixs (rv 3) rint) rint)))
 (rscons (rsset (i := 5) sc__law_shape_row.nd (se (rc h__law_lowest hr tk (racons (rmod (rixs (rv 3) rint) rint) (racons rint ranil)))))
 (rscons (rsset (i := 6) sc__law_shape_row.nd (se (rc h__law_lowest hr tk (racons (radd rint (rmod (rixs (rv 3) rint) rint)) (racons (radd rint (rmod (rixs (rv 3) rint) rint)) ranil)))))
 (rscons (rsif (st (rtcmp (okO_eq hr) ok_eq (rv 0) rstr))
 (rscons (rsset (i := 7) sc__law_shape_row.nd (se (rc h__law_grain hr tk (racons (rmod (rixs (rv 3) rint) rint) (racons (rsub (rmod (rixs (rv 3) rint) rint) rint) ranil)))))
 (rsone (rsret (se (rtup (racons (rv 0) (racons (rv 1) (racons (rixs (rv 2) rint) (racons (rc h__law_piece hr tk (racons (rv 3) (racons rint ranil))) (racons (rv 7) (racons (rixs (rlst (racons rstr (racons rstr ranil))) (rmod (rixs (rv 3) rint) rint)) ranil)))))))))))
 rsnil)
 (rscons (rsif (st (rtcmp (okO_eq hr) ok_eq (rv 0) rstr))
 (rsone (rsret (se (rtup (racons (rv 0) (racons (rv 1) (racons (rc h__law_line hr tk (racons (rc h__law_piece hr tk (racons (rv 3) (racons rint ranil))) (racons (rixs (rv 3) rint) ranil))) ranil)))))))
 rsnil)
 (rscons (rsif (st (rtcmp (okO_eq hr) ok_eq (rv 0) rstr))
 (rsone (rsret (se (rtup (racons (rv 0) (racons (rv 1) (racons (rixs (rv 2) rint) (racons (rmod (rixs (rv 3) rint) rint) (racons (radd rint (rmod (rixs (rv 3) rint) rint)) (racons (rmod (rixs (rv 3) rint) rint) ranil))))))))))
 rsnil)
 (rscons (rsif (st (rtcmp (okO_eq hr) ok_eq (rv 0) rstr))
 (rsone (rsret (se (rtup (racons (rv 0) (racons (rv 1) (racons (rixs (rv 2) rint) (racons (rixs (rv 2) rint) (racons (rixs (rv 2) rint) (racons (rv 4) ranil))))))))))
 rsnil)
 (rscons (rsif (st (rtcmp (okO_eq hr) ok_eq (rv 0) rstr))
 (rsone (rsret (se (rtup (racons (rv 0) (racons (rv 1) (racons (rct call_tuple_of ok_tuple m_tuple (racons (rcb okO_sorted ok_sorted m_sorted (racons (rsl (rv 2) rpnone (rpsome (radd rint (rmod (rixs (rv 3) rint) rint)))) ranil)) ranil)) ranil)))))))
 rsnil)
 (rscons (rsif (st (rtcmp (okO_eq hr) ok_eq (rv 0) rstr))
 (rscons (rsset (i := 8) sc__law_shape_row.nd (se (rc h__law_piece hr tk (racons (rv 3) (racons rint ranil)))))
 (rscons (rsset (i := 9) sc__law_shape_row.nd (se (rmod (rixs (rv 3) rint) rint)))
 (rscons (rsset (i := 10) sc__law_shape_row.nd (se (rlst (racons (rv 6) (racons (rc h__law_lowest hr tk (racons (rmul rint (rixs (rv 6) rint)) (racons (rixs (rv 6) rint) ranil))) (racons (rc h__law_lowest hr tk (racons (rmul rint (rixs (rv 6) rint)) (racons (rixs (rv 6) rint) ranil))) ranil))))))
 (rscons (rsset (i := 11) sc__law_shape_row.nd (se (rtup (racons (rv 0) (racons (rv 1) (racons (rv 8) (racons (rv 9) (racons (rmod (radd (radd (rv 9) rint) (rmod (rixs (rv 3) rint) rint)) rint) (racons (rixs (rv 2) rint) (racons (rixs (rv 2) rint) (racons (rct call_tuple_of ok_tuple m_tuple (racons (rsl (rv 10) rpnone (rpsome (radd rint (rmod (rixs (rv 3) rint) rint)))) ranil)) ranil)))))))))))
 (rsone (rsret (se (radd (rv 11) (rtup (racons (rct call_tuple_of ok_tuple m_tuple (racons (rsl (rv 2) (rpsome rint) (rpsome (radd rint (rmod (rixs (rv 3) rint) rint)))) ranil)) (racons (rct call_tuple_of ok_tuple m_tuple (racons (rsl (rv 2) rpnone (rpsome (rmod (rixs (rv 3) rint) rint))) ranil)) ranil)))))))))))
 rsnil)
 (rscons (rsif (st (rtcmp (okO_eq hr) ok_eq (rv 0) rstr))
 (rsone (rsret (se (rtup (racons (rv 0) (racons (rv 1) (racons (rct call_tuple_of ok_tuple m_tuple (racons (rfz (rlc (Lc.mk (own := [("k", 12)]) (rirange1 m_range (radd rint (rmod (rixs (rv 3) rint) rint))) (blkOk_by (N := N__law_shape_row) (sc := defScope s__law_shape_row) (by decide +kernel)) (fun _ _ _ _ _ => (rgn 12 sc__law_shape_row.nd)) (fun _ _ _ _ _ => pts_yes) (fun _ _ _ _ _ => (rtup (racons (rmod (rixs (rv 3) (rv 12)) rint) (racons (radd (rmod (rixs (rv 3) (rv 12)) rint) (rmod (rixs (rv 3) (radd (rv 12) rint)) rint)) ranil)))) (by decide)) sc__law_shape_row.nd)) ranil)) ranil)))))))
 rsnil)
 (rscons (rsif (st (rtcmp (okO_eq hr) ok_eq (rv 0) rstr))
 (rsone (rsret (se (rtup (racons (rv 0) (racons (rv 1) (racons (rixs (rv 2) rint) (racons (rixs (rv 2) rint) (racons (rixs (rv 2) rint) (racons (rv 5) ranil))))))))))
 rsnil)
 (rsone (rsret (se (rtup (racons (rv 0) (racons (rv 1) (racons (rtup (racons (rsub (rmod (rixs (rv 3) rint) rint) rint) (racons (radd rint (rmod (rixs (rv 3) rint) rint)) ranil))) (racons (rmod (rixs (rv 3) rint) rint) ranil)))))))))))))))))))
theorem ok__law_row (h__law_lowest : Cal P w K mg base 1 "_law_lowest" f__law_lowest) (h__law_shape_row : Cal P w K mg base 3 "_law_shape_row" f__law_shape_row) (m_min : mg "min" = none) (m_sorted : mg "sorted" = none) (m_tuple : mg "tuple" = none) {f : Addr} {fd : FuncData} (F : FunD K "_law_row" "_law_row" (defArgs s__law_row) (defBody s__law_row) (defScope s__law_row) [] [] f fd) :
    FnOk P w K mg base (L2.CX P w) 4 f fd P__law_row (SpF K w mg f__law_row) :=
  okD (k := 3) F sc__law_row fun cdv A outer s H E hr => by
    have tk := takes_of (X := cxOf (L2.CX P w) P w K mg base N__law_row "_law_row" (defScope s__law_row) f cdv A outer s H E) rfl rfl rfl rfl
    exact
 (rscons (rsset (i := 4) sc__law_row.nd (se (rmod (rixs (rv 3) rint) rint)))
 (rscons (rsset (i := 5) sc__law_row.nd (se (rmod (rixs (rv 3) rint) rint)))
 (rscons (rsset (i := 6) sc__law_row.nd (se (rc h__law_lowest hr tk (racons (radd rint (rmod (rixs (rv 3) rint) rint)) (racons (radd rint (rmod (rixs (rv 3) rint) rint)) ranil)))))
 (rscons (rsif (st (rtcmp (okO_eq hr) ok_eq (rv 0) rstr))
 (rsone (rsret (se (rtup (racons (rv 0) (racons (rv 1) (racons (rixs (rv 2) rint) (racons (rv 6) (racons (rmod (rixs (rv 3) rint) rint) (racons (rc h__law_lowest hr tk (racons (rmul (rixs (rv 6) rint) (rmod (rixs (rv 3) rint) rint)) (racons (rmul (rixs (rv 6) rint) rint) ranil))) ranil))))))))))
 rsnil)
 (rscons (rsif (st (rtcmp (okO_eq hr) ok_eq (rv 0) rstr))
 (rsone (rsret (se (rtup (racons (rv 0) (racons (rv 1) (racons (rixs (rv 2) rint) (racons (rixs (rv 2) rint) (racons (rv 6) (racons (rv 4) ranil))))))))))
 rsnil)
 (rscons (rsif (st (rtcmp (okO_eq hr) ok_eq (rv 0) rstr))
 (rscons (rsset (i := 7) sc__law_row.nd (se (rc h__law_lowest hr tk (racons (rmod (rixs (rv 3) rint) rint) (racons (radd rint (rmod (rixs (rv 3) rint) rint)) ranil)))))
 (rscons (rsset (i := 8) sc__law_row.nd (se (rc h__law_lowest hr tk (racons (radd (rmul (rixs (rv 7) rint) (rixs (rv 6) rint)) (rmul (rmul (rixs (rv 6) rint) (rmod (rixs (rv 3) rint) rint)) (rixs (rv 7) rint))) (racons (rmul (rixs (rv 7) rint) (rixs (rv 6) rint)) ranil)))))
 (rscons (rsset (i := 9) sc__law_row.nd (se (rct call_tuple_of ok_tuple m_tuple (racons (rcb okO_sorted ok_sorted m_sorted (racons (rsl (rv 2) rpnone (rpsome (rmod (rixs (rv 3) rint) rint))) ranil)) ranil))))
 (rsone (rsret (se (rtup (racons (rv 0) (racons (rv 1) (racons (rv 7) (racons (rv 8) (racons (radd rint (rmod (rixs (rv 3) rint) rint)) (racons (rv 9) (racons (rct call_tuple_of ok_tuple m_tuple (racons (rsl (rv 2) (rpsome (rmod (rixs (rv 3) rint) rint)) rpnone) ranil)) ranil))))))))))))))
 rsnil)
 (rscons (rsif (st (rtcmp (okO_eq hr) ok_eq (rv 0) rstr))
 (rscons (rsset (i := 10) sc__law_row.nd (se (radd rint (rmod (rixs (rv 3) rint) rint))))
 (rscons (rsset (i := 11) sc__law_row.nd (se (radd rint (rmod (rixs (rv 3) rint) rint))))
 (rsone (rsret (se (rtup (racons (rv 0) (racons (rv 1) (racons (rv 10) (racons (rv 11) (racons (rmod (rixs (rv 3) rint) (radd (rcb (call_min2 rfl) ok_min2 m_min (racons (rv 10) (racons (rv 11) ranil))) rint)) (racons (radd rint (rmod (rixs (rv 3) rint) rint)) (racons (rmod (rixs (rv 3) rint) rint) ranil)))))))))))))
 rsnil)
 (rscons (rsif (st (rtcmp (okO_eq hr) ok_eq (rv 0) rstr))
 (rsone (rsret (se (rtup (racons (rv 0) (racons (rv 1) (racons (rixs (rv 2) rint) (racons (rv 4) (racons (rmod (rixs (rv 3) rint) rint) (racons (rct call_tuple_of ok_tuple m_tuple (racons (rsl (rv 2) (rpsome rint) (rpsome (radd rint (rmod (rixs (rv 3) rint) rint)))) ranil)) ranil))))))))))
 rsnil)
 (rscons (rsif (st (rtcmp (okO_eq hr) ok_eq (rv 0) rstr))
 (rsone (rsret (se (rtup (racons (rv 0) (racons (rv 1) (racons (rixs (rv 2) rint) (racons (rixs (rv 2) rint) (racons (rixs (rv 2) rint) (racons (rixs (rlst (racons rstr (racons rstr ranil))) (rmod (rixs (rv 3) rint) rint)) (racons (rv 4) (racons (rmod (rixs (rv 3) rint) rint) ranil))))))))))))
 rsnil)
 (rscons (rsif (st (rtw (rwor (rtcmp (okO_eq hr) ok_eq (rv 0) rstr) (rwo1 (rtcmp (okO_eq hr) ok_eq (rv 0) rstr)))))
 (rsone (rsret (se (rtup (racons (rv 0) (racons (rv 1) (racons (rv 5) (racons (rmod (rixs (rv 3) rint) rint) ranil))))))))
 rsnil)
 (rscons (rsif (st (rtcmp (okO_eq hr) ok_eq (rv 0) rstr))
 (rsone (rsret (se (rtup (racons (rv 0) (racons (rv 1) ranil))))))
 rsnil)
 (rscons (rsif (st (rtcmp (okO_eq hr) ok_eq (rv 0) rstr))
 (rsone (rsret (se (rtup (racons (rv 0) (racons (rv 1) (racons (rc h__law_lowest hr tk (racons (rmod (rixs (rv 3) rint) rint) (racons (radd rint (rmod (rixs (rv 3) rint) rint)) ranil))) ranil)))))))
 rsnil)
 (rscons (rsif (st (rtcmp (okO_eq hr) ok_eq (rv 0) rstr))
 (rscons (rsset (i := 12) sc__law_row.nd (se (rixs (rlst (racons rstr (racons rstr ranil))) (rmod (rixs (rv 3) rint) rint))))
 (rsone (rsret (se (rtup (racons (rv 0) (racons (rv 1) (racons (rv 4) (racons (rv 12) (racons (rixs (rv 2) rint) (racons (rixs (rv 2) rint) (racons (rv 5) (racons (rmod (rixs (rv 3) rint) rint) (racons (rmod (rixs (rv 3) rint) rint) (racons (rixs (rv 2) rint) ranil)))))))))))))))
 rsnil)
 (rsone (rsret (se (rc h__law_shape_row hr tk (racons (rv 0) (racons (rv 1) (racons (rv 2) (racons (rv 3) ranil)))))))))))))))))))))
theorem ok__law_book (h__law_kinds : Cal P w K mg base 1 "_law_kinds" f__law_kinds) (h__law_placed : Cal P w K mg base 2 "_law_placed" f__law_placed) (h__law_row : Cal P w K mg base 4 "_law_row" f__law_row) (m_len : mg "len" = none) (m_range : mg "range" = none) {f : Addr} {fd : FuncData} (F : FunD K "_law_book" "_law_book" (defArgs s__law_book) (defBody s__law_book) (defScope s__law_book) [] [] f fd) :
    FnOk P w K mg base (L2.CX P w) 5 f fd P__law_book (SpF K w mg f__law_book) :=
  okD (k := 4) F sc__law_book fun cdv A outer s H E hr => by
    have tk := takes_of (X := cxOf (L2.CX P w) P w K mg base N__law_book "_law_book" (defScope s__law_book) f cdv A outer s H E) rfl rfl rfl rfl
    exact
 (rscons (rsset (i := 5) sc__law_book.nd (se (rlst ranil)))
 (rscons (rsset (i := 6) sc__law_book.nd (se (rc0 h__law_kinds hr tk)))
 (rscons (rsfor (rirange1 m_range (rv 2)) (rgn 7 sc__law_book.nd)
 (rscons (rslaylc (i := 8) (Lc.mk (own := [("j", 10)]) (rirange1 m_range rint) (blkOk_by (N := N__law_book) (sc := defScope s__law_book) (by decide +kernel)) (fun _ _ _ _ _ => (rgn 10 sc__law_book.nd)) (fun _ _ _ _ _ => pts_yes) (fun _ _ _ _ _ => (rixs (rv 0) (rmod (radd (radd (rv 1) (rmul rint (rv 7))) (rv 10)) (rcb okO_len ok_len m_len (racons (rv 0) ranil))))) (by decide)) sc__law_book.nd)
 (rscons (rsset (i := 9) sc__law_book.nd (se (rixs (rv 6) (rmod (rixs (rv 4) (rmod (rixs (rv 8) rint) (rcb okO_len ok_len m_len (racons (rv 4) ranil)))) rint))))
 (rsone (rsset (i := 5) sc__law_book.nd (se (rc h__law_placed hr tk (racons (rv 5) (racons (rc h__law_row hr tk (racons (rv 9) (racons (rixs (rv 3) (rmod (rixs (rv 8) rint) (rcb okO_len ok_len m_len (racons (rv 3) ranil)))) (racons (rv 3) (racons (radd (rsl (rv 8) (rpsome rint) rpnone) (rsl (rv 8) rpnone (rpsome rint))) ranil))))) ranil)))))))) (passes_of rfl))
 (rsone (rsret (se (rv 5)))))))
theorem ok__law_edit (h__law_kinds : Cal P w K mg base 1 "_law_kinds" f__law_kinds) (h__law_row : Cal P w K mg base 4 "_law_row" f__law_row) (m_len : mg "len" = none) (m_range : mg "range" = none) {f : Addr} {fd : FuncData} (F : FunD K "_law_edit" "_law_edit" (defArgs s__law_edit) (defBody s__law_edit) (defScope s__law_edit) [] [] f fd) :
    FnOk P w K mg base (L2.CX P w) 5 f fd P__law_edit (SpF K w mg f__law_edit) :=
  okD (k := 4) F sc__law_edit fun cdv A outer s H E hr => by
    have tk := takes_of (X := cxOf (L2.CX P w) P w K mg base N__law_edit "_law_edit" (defScope s__law_edit) f cdv A outer s H E) rfl rfl rfl rfl
    exact
 (rscons (rslaylc (i := 4) (Lc.mk (own := [("j", 8)]) (rirange1 m_range rint) (blkOk_by (N := N__law_edit) (sc := defScope s__law_edit) (by decide +kernel)) (fun _ _ _ _ _ => (rgn 8 sc__law_edit.nd)) (fun _ _ _ _ _ => pts_yes) (fun _ _ _ _ _ => (rixs (rv 2) (rmod (radd (rmul rint (rv 3)) (rv 8)) (rcb okO_len ok_len m_len (racons (rv 2) ranil))))) (by decide)) sc__law_edit.nd)
 (rscons (rsset (i := 5) sc__law_edit.nd (se (rlst (racons rstr (racons rstr (racons rstr (racons rstr (racons rstr (racons (rixs (rc0 h__law_kinds hr tk) (rmod (rixs (rv 2) rint) rint)) ranil)))))))))
 (rscons (rsset (i := 6) sc__law_edit.nd (se (rc h__law_row hr tk (racons (rixs (rv 5) (rmod (rixs (rv 4) rint) rint)) (racons (rixs (rv 1) (rmod (rixs (rv 4) rint) rint)) (racons (rv 1) (racons (rv 4) ranil)))))))
 (rscons (rsif (st (rtw (rwand (rtcmp (op_gt) (ok_cmp _) (rmod (rixs (rv 4) rint) rint) rint) (rw1 (rtcmp (op_gt) (ok_cmp _) (rcb okO_len ok_len m_len (racons (rv 0) ranil)) rint)))))
 (rscons (rsset (i := 7) sc__law_edit.nd (se (rixs (rv 0) (rmod (rixs (rv 4) rint) (rcb okO_len ok_len m_len (racons (rv 0) ranil))))))
 (rscons (rsif (st (rtcmp (okO_eq hr) ok_eq (rmod (rixs (rv 4) rint) rint) rint))
 (rsone (rsret (se (rtup (racons rstr (racons (rv 7) ranil))))))
 rsnil)
 (rscons (rsif (st (rtcmp (okO_eq hr) ok_eq (rmod (rixs (rv 4) rint) rint) rint))
 (rsone (rsret (se (rtup (racons rstr (racons (rc h__law_row hr tk (racons (rixs (rv 7) rint) (racons (rixs (rv 7) rint) (racons (rv 1) (racons (rv 4) ranil))))) ranil))))))
 rsnil)
 (rsone (rsret (se (rtup (racons rstr (racons (rixs (rv 7) rint) (racons (rixs (rv 7) rint) ranil))))))))))
 rsnil)
 (rscons (rsif (st (rtcmp (okO_eq hr) ok_eq (rmod (rixs (rv 4) rint) rint) rint))
 (rsone (rsret (se (rtup (racons rstr (racons (rixs (rv 6) rint) (racons (rixs (rv 6) rint) ranil)))))))
 rsnil)
 (rsone (rsret (se (rtup (racons rstr (racons (rv 6) ranil)))))))))))
theorem ok__law_find  {f : Addr} {fd : FuncData} (F : FunD K "_law_find" "_law_find" (defArgs s__law_find) (defBody s__law_find) (defScope s__law_find) [] [] f fd) :
    FnOk P w K mg base (L2.CX P w) 1 f fd P__law_find (SpF K w mg f__law_find) :=
  okD (k := 0) F sc__law_find fun cdv A outer s H E hr => by
    have tk := takes_of (X := cxOf (L2.CX P w) P w K mg base N__law_find "_law_find" (defScope s__law_find) f cdv A outer s H E) rfl rfl rfl rfl
    exact
 (rscons (rsfor (riseq (rv 0)) (rgn 3 sc__law_find.nd)
 (rsone (rsif (st (rtw (rwand (rtcmp (okO_eq hr) ok_eq (rixs (rv 3) rint) (rv 1)) (rw1 (rtcmp (okO_eq hr) ok_eq (rixs (rv 3) rint) (rv 2))))))
 (rsone (rsret (se (rv 3))))
 rsnil)) (passes_of rfl))
 (rsone (rsret (se rnone))))
theorem ok_is_name (m_isinstance : mg "isinstance" = none) (m_len : mg "len" = none) (m_str : mg "str" = none) (c_DIGITS : Cst K w mg "DIGITS" k_DIGITS) (c_LETTERS : Cst K w mg "LETTERS" k_LETTERS) (c_MOST_NAME : Cst K w mg "MOST_NAME" k_MOST_NAME) {f : Addr} {fd : FuncData} (F : FunD K "is_name" "is_name" (defArgs s_is_name) (defBody s_is_name) (defScope s_is_name) [] [] f fd) :
    FnOk P w K mg base (L2.CX P w) 1 f fd P_is_name (SpF K w mg f_is_name) :=
  okD (k := 0) F sc_is_name fun cdv A outer s H E hr => by
    have tk := takes_of (X := cxOf (L2.CX P w) P w K mg base N_is_name "is_name" (defScope s_is_name) f cdv A outer s H E) rfl rfl rfl rfl
    exact
 (rscons (rsif (st (rtnot (rt (risi (T := "str") (by decide) m_isinstance m_str (rv 0)))))
 (rsone (rsret (se rbl)))
 rsnil)
 (rscons (rsif (st (rtw (rwor (rtcmp (okO_eq hr) ok_eq (rv 0) rstr) (rwo1 (rtcmp (op_gt) (ok_cmp _) (rcb okO_len ok_len m_len (racons (rv 0) ranil)) (rcst c_MOST_NAME))))))
 (rsone (rsret (se rbl)))
 rsnil)
 (rscons (rsif (st (rtcmp (opo_notin hr) ok_notin (rixs (rv 0) rint) (rcst c_LETTERS)))
 (rsone (rsret (se rbl)))
 rsnil)
 (rscons (rsfor (riseq (rv 0)) (rgn 1 sc_is_name.nd)
 (rsone (rsif (st (rtw (rwand (rtcmp (opo_notin hr) ok_notin (rv 1) (rcst c_LETTERS)) (rw1 (rtcmp (opo_notin hr) ok_notin (rv 1) (rcst c_DIGITS))))))
 (rsone (rsret (se rbl)))
 rsnil)) (passes_of rfl))
 (rsone (rsret (se rbl)))))))
theorem ok_ascending_names (h_is_name : Cal P w K mg base 1 "is_name" f_is_name) (m_isinstance : mg "isinstance" = none) (m_tuple : mg "tuple" = none) {f : Addr} {fd : FuncData} (F : FunD K "ascending_names" "ascending_names" (defArgs s_ascending_names) (defBody s_ascending_names) (defScope s_ascending_names) [] [] f fd) :
    FnOk P w K mg base (L2.CX P w) 2 f fd P_ascending_names (SpF K w mg f_ascending_names) :=
  okD (k := 1) F sc_ascending_names fun cdv A outer s H E hr => by
    have tk := takes_of (X := cxOf (L2.CX P w) P w K mg base N_ascending_names "ascending_names" (defScope s_ascending_names) f cdv A outer s H E) rfl rfl rfl rfl
    exact
 (rscons (rsif (st (rtnot (rt (risi (T := "tuple") (by decide) m_isinstance m_tuple (rv 0)))))
 (rsone (rsret (se rbl)))
 rsnil)
 (rscons (rsset (i := 1) sc_ascending_names.nd (se rstr))
 (rscons (rsfor (riseq (rv 0)) (rgn 2 sc_ascending_names.nd)
 (rscons (rsif (st (rtw (rwor (rtnot (rt (rc h_is_name hr tk (racons (rv 2) ranil)))) (rwo1 (rtnot (rtcmp (okO_lt hr) ok_lt (rv 1) (rv 2)))))))
 (rsone (rsret (se rbl)))
 rsnil)
 (rsone (rsset (i := 1) sc_ascending_names.nd (se (rv 2))))) (passes_of rfl))
 (rsone (rsret (se rbl))))))
theorem ok_is_string (m_isinstance : mg "isinstance" = none) (m_str : mg "str" = none) {f : Addr} {fd : FuncData} (F : FunD K "is_string" "is_string" (defArgs s_is_string) (defBody s_is_string) (defScope s_is_string) [] [] f fd) :
    FnOk P w K mg base (L2.CX P w) 1 f fd P_is_string (SpF K w mg f_is_string) :=
  okD (k := 0) F sc_is_string fun cdv A outer s H E hr => by
    have tk := takes_of (X := cxOf (L2.CX P w) P w K mg base N_is_string "is_string" (defScope s_is_string) f cdv A outer s H E) rfl rfl rfl rfl
    exact
 (rsone (rsret (se (risi (T := "str") (by decide) m_isinstance m_str (rv 0)))))
theorem ok_is_whole (m_bool : mg "bool" = none) (m_int : mg "int" = none) (m_isinstance : mg "isinstance" = none) {f : Addr} {fd : FuncData} (F : FunD K "is_whole" "is_whole" (defArgs s_is_whole) (defBody s_is_whole) (defScope s_is_whole) [] [] f fd) :
    FnOk P w K mg base (L2.CX P w) 1 f fd P_is_whole (SpF K w mg f_is_whole) :=
  okD (k := 0) F sc_is_whole fun cdv A outer s H E hr => by
    have tk := takes_of (X := cxOf (L2.CX P w) P w K mg base N_is_whole "is_whole" (defScope s_is_whole) f cdv A outer s H E) rfl rfl rfl rfl
    exact
 (rsone (rsret (se (rand (risi (T := "int") (by decide) m_isinstance m_int (rv 0)) (rbone (rnot (risi (T := "bool") (by decide) m_isinstance m_bool (rv 0))))))))
theorem ok_is_within (h_is_whole : Cal P w K mg base 1 "is_whole" f_is_whole) {f : Addr} {fd : FuncData} (F : FunD K "is_within" "is_within" (defArgs s_is_within) (defBody s_is_within) (defScope s_is_within) [] [] f fd) :
    FnOk P w K mg base (L2.CX P w) 2 f fd P_is_within (SpF K w mg f_is_within) :=
  okD (k := 1) F sc_is_within fun cdv A outer s H E hr => by
    have tk := takes_of (X := cxOf (L2.CX P w) P w K mg base N_is_within "is_within" (defScope s_is_within) f cdv A outer s H E) rfl rfl rfl rfl
    exact
 (rsone (rsret (se (rand (rc h_is_whole hr tk (racons (rv 2) ranil)) (rbone (rchain (op_le) (ok_cmp _) (op_le) (ok_cmp _) (rv 0) (rv 2) (rv 1)))))))
theorem ok_names_field (h_is_name : Cal P w K mg base 1 "is_name" f_is_name) (m_enumerate : mg "enumerate" = none) (m_isinstance : mg "isinstance" = none) (m_len : mg "len" = none) (m_tuple : mg "tuple" = none) {f : Addr} {fd : FuncData} (F : FunD K "names_field" "names_field" (defArgs s_names_field) (defBody s_names_field) (defScope s_names_field) [] [] f fd) :
    FnOk P w K mg base (L2.CX P w) 2 f fd P_names_field (SpF K w mg f_names_field) :=
  okD (k := 1) F sc_names_field fun cdv A outer s H E hr => by
    have tk := takes_of (X := cxOf (L2.CX P w) P w K mg base N_names_field "names_field" (defScope s_names_field) f cdv A outer s H E) rfl rfl rfl rfl
    exact
 (rscons (rsif (st (rtw (rwor (rtnot (rt (risi (T := "tuple") (by decide) m_isinstance m_tuple (rv 2)))) (rwo1 (rtnot (rtchain (op_le) (ok_cmp _) (op_le) (ok_cmp _) (rv 0) (rcb okO_len ok_len m_len (racons (rv 2) ranil)) (rv 1)))))))
 (rsone (rsret (se rbl)))
 rsnil)
 (rscons (rsfor (rienum m_enumerate (rv 2)) (rgtup rfl (rgcons (rgn 3 sc_names_field.nd) (rgcons (rgn 4 sc_names_field.nd) rgnil)))
 (rsone (rsif (st (rtw (rwor (rtnot (rt (rc h_is_name hr tk (racons (rv 4) ranil)))) (rwo1 (rtcmp (opo_in hr) ok_in (rv 4) (rsl (rv 2) rpnone (rpsome (rv 3))))))))
 (rsone (rsret (se rbl)))
 rsnil)) (passes_of rfl))
 (rsone (rsret (se rbl)))))
theorem ok_compare_ratios  {f : Addr} {fd : FuncData} (F : FunD K "compare_ratios" "compare_ratios" (defArgs s_compare_ratios) (defBody s_compare_ratios) (defScope s_compare_ratios) [] [] f fd) :
    FnOk P w K mg base (L2.CX P w) 1 f fd P_compare_ratios (SpF K w mg f_compare_ratios) :=
  okD (k := 0) F sc_compare_ratios fun cdv A outer s H E hr => by
    have tk := takes_of (X := cxOf (L2.CX P w) P w K mg base N_compare_ratios "compare_ratios" (defScope s_compare_ratios) f cdv A outer s H E) rfl rfl rfl rfl
    exact
 (rscons (rsset (i := 2) sc_compare_ratios.nd (se (rmul (rixs (rv 0) rint) (rixs (rv 1) rint))))
 (rscons (rsset (i := 3) sc_compare_ratios.nd (se (rmul (rixs (rv 1) rint) (rixs (rv 0) rint))))
 (rscons (rsif (st (rtcmp (okO_lt hr) ok_lt (rv 2) (rv 3)))
 (rsone (rsret (se (rneg rint))))
 rsnil)
 (rscons (rsif (st (rtcmp (op_gt) (ok_cmp _) (rv 2) (rv 3)))
 (rsone (rsret (se rint)))
 rsnil)
 (rsone (rsret (se rint)))))))
theorem ok_common_divisor (m_abs : mg "abs" = none) (m_int : mg "int" = none) {f : Addr} {fd : FuncData} (F : FunD K "common_divisor" "common_divisor" (defArgs s_common_divisor) (defBody s_common_divisor) (defScope s_common_divisor) [] [] f fd) :
    FnOk P w K mg base (L2.CX P w) 1 f fd P_common_divisor (SpF K w mg f_common_divisor) :=
  okD (k := 0) F sc_common_divisor fun cdv A outer s H E hr => by
    have tk := takes_of (X := cxOf (L2.CX P w) P w K mg base N_common_divisor "common_divisor" (defScope s_common_divisor) f cdv A outer s H E) rfl rfl rfl rfl
    exact
 (rscons (rsset (i := 0) sc_common_divisor.nd (se (rcb call_abs ok_abs m_abs (racons (rv 0) ranil))))
 (rscons (rsset (i := 1) sc_common_divisor.nd (se (rcb call_abs ok_abs m_abs (racons (rv 1) ranil))))
 (rscons (rswhile 100000 (st (rtcmp (okO_ne hr) ok_ne (rv 1) rint))
 (rsone (rspar (i := 0) (j := 1) sc_common_divisor.nd (racons (rv 1) (racons (rmod (rct call_int1 ok_int m_int (racons (rv 0) ranil)) (rv 1)) ranil)))) (passes_of rfl))
 (rsone (rsret (se (rv 0)))))))
theorem ok_is_row (m_isinstance : mg "isinstance" = none) (m_len : mg "len" = none) (m_tuple : mg "tuple" = none) {f : Addr} {fd : FuncData} (F : FunD K "is_row" "is_row" (defArgs s_is_row) (defBody s_is_row) (defScope s_is_row) [] [] f fd) :
    FnOk P w K mg base (L2.CX P w) 1 f fd P_is_row (SpF K w mg f_is_row) :=
  okD (k := 0) F sc_is_row fun cdv A outer s H E hr => by
    have tk := takes_of (X := cxOf (L2.CX P w) P w K mg base N_is_row "is_row" (defScope s_is_row) f cdv A outer s H E) rfl rfl rfl rfl
    exact
 (rsone (rsret (se (rand (risi (T := "tuple") (by decide) m_isinstance m_tuple (rv 1)) (rbone (rcmp (okO_eq hr) ok_eq (rcb okO_len ok_len m_len (racons (rv 1) ranil)) (rv 0)))))))
theorem ok_is_ratio (h_common_divisor : Cal P w K mg base 1 "common_divisor" f_common_divisor) (h_is_row : Cal P w K mg base 1 "is_row" f_is_row) (h_is_whole : Cal P w K mg base 1 "is_whole" f_is_whole) {f : Addr} {fd : FuncData} (F : FunD K "is_ratio" "is_ratio" (defArgs s_is_ratio) (defBody s_is_ratio) (defScope s_is_ratio) [] [] f fd) :
    FnOk P w K mg base (L2.CX P w) 2 f fd P_is_ratio (SpF K w mg f_is_ratio) :=
  okD (k := 1) F sc_is_ratio fun cdv A outer s H E hr => by
    have tk := takes_of (X := cxOf (L2.CX P w) P w K mg base N_is_ratio "is_ratio" (defScope s_is_ratio) f cdv A outer s H E) rfl rfl rfl rfl
    exact
 (rscons (rsif (st (rtnot (rt (rc h_is_row hr tk (racons rint (racons (rv 0) ranil))))))
 (rsone (rsret (se rbl)))
 rsnil)
 (rscons (rssett (se (rv 0)) (rgtup rfl (rgcons (rgn 1 sc_is_ratio.nd) (rgcons (rgn 2 sc_is_ratio.nd) rgnil))))
 (rscons (rsif (st (rtw (rwor (rtnot (rt (rc h_is_whole hr tk (racons (rv 1) ranil)))) (rwo1 (rtnot (rt (rc h_is_whole hr tk (racons (rv 2) ranil))))))))
 (rsone (rsret (se rbl)))
 rsnil)
 (rsone (rsret (se (rand (rcmp (op_gt) (ok_cmp _) (rv 2) rint) (rbone (rcmp (okO_eq hr) ok_eq (rc h_common_divisor hr tk (racons (rv 1) (racons (rv 2) ranil))) rint)))))))))
theorem ok_short_ratio (h_is_ratio : Cal P w K mg base 2 "is_ratio" f_is_ratio) (h_is_within : Cal P w K mg base 2 "is_within" f_is_within) (c_MOST_NUMBER : Cst K w mg "MOST_NUMBER" k_MOST_NUMBER) {f : Addr} {fd : FuncData} (F : FunD K "short_ratio" "short_ratio" (defArgs s_short_ratio) (defBody s_short_ratio) (defScope s_short_ratio) [] [] f fd) :
    FnOk P w K mg base (L2.CX P w) 3 f fd P_short_ratio (SpF K w mg f_short_ratio) :=
  okD (k := 2) F sc_short_ratio fun cdv A outer s H E hr => by
    have tk := takes_of (X := cxOf (L2.CX P w) P w K mg base N_short_ratio "short_ratio" (defScope s_short_ratio) f cdv A outer s H E) rfl rfl rfl rfl
    exact
 (rsone (rsret (se (rand (rc h_is_ratio hr tk (racons (rv 0) ranil)) (rand (rc h_is_within hr tk (racons (rneg (rcst c_MOST_NUMBER)) (racons (rcst c_MOST_NUMBER) (racons (rixs (rv 0) rint) ranil)))) (rbone (rcmp (op_le) (ok_cmp _) (rixs (rv 0) rint) (rcst c_MOST_NUMBER))))))))
theorem ok_whole_ratio  {f : Addr} {fd : FuncData} (F : FunD K "whole_ratio" "whole_ratio" (defArgs s_whole_ratio) (defBody s_whole_ratio) (defScope s_whole_ratio) [] [] f fd) :
    FnOk P w K mg base (L2.CX P w) 1 f fd P_whole_ratio (SpF K w mg f_whole_ratio) :=
  okD (k := 0) F sc_whole_ratio fun cdv A outer s H E hr => by
    have tk := takes_of (X := cxOf (L2.CX P w) P w K mg base N_whole_ratio "whole_ratio" (defScope s_whole_ratio) f cdv A outer s H E) rfl rfl rfl rfl
    exact
 (rsone (rsret (se (rtup (racons (rv 0) (racons rint ranil))))))
theorem ok_ratio_within (h_compare_ratios : Cal P w K mg base 1 "compare_ratios" f_compare_ratios) (h_short_ratio : Cal P w K mg base 3 "short_ratio" f_short_ratio) (h_whole_ratio : Cal P w K mg base 1 "whole_ratio" f_whole_ratio) {f : Addr} {fd : FuncData} (F : FunD K "ratio_within" "ratio_within" (defArgs s_ratio_within) (defBody s_ratio_within) (defScope s_ratio_within) [] [] f fd) :
    FnOk P w K mg base (L2.CX P w) 4 f fd P_ratio_within (SpF K w mg f_ratio_within) :=
  okD (k := 3) F sc_ratio_within fun cdv A outer s H E hr => by
    have tk := takes_of (X := cxOf (L2.CX P w) P w K mg base N_ratio_within "ratio_within" (defScope s_ratio_within) f cdv A outer s H E) rfl rfl rfl rfl
    exact
 (rscons (rsif (st (rtnot (rt (rc h_short_ratio hr tk (racons (rv 2) ranil)))))
 (rsone (rsret (se rbl)))
 rsnil)
 (rsone (rsret (se (rand (rcmp (op_le) (ok_cmp _) (rc h_compare_ratios hr tk (racons (rc h_whole_ratio hr tk (racons (rv 0) ranil)) (racons (rv 2) ranil))) rint) (rbone (rcmp (op_le) (ok_cmp _) (rc h_compare_ratios hr tk (racons (rv 2) (racons (rc h_whole_ratio hr tk (racons (rv 1) ranil)) ranil))) rint)))))))
theorem ok_is_rule (h_compare_ratios : Cal P w K mg base 1 "compare_ratios" f_compare_ratios) (h_is_ratio : Cal P w K mg base 2 "is_ratio" f_is_ratio) (m_isinstance : mg "isinstance" = none) (m_len : mg "len" = none) (m_tuple : mg "tuple" = none) (c_MOST_RULE : Cst K w mg "MOST_RULE" k_MOST_RULE) (c_ZERO : Cst K w mg "ZERO" k_ZERO) {f : Addr} {fd : FuncData} (F : FunD K "is_rule" "is_rule" (defArgs s_is_rule) (defBody s_is_rule) (defScope s_is_rule) [] [] f fd) :
    FnOk P w K mg base (L2.CX P w) 3 f fd P_is_rule (SpF K w mg f_is_rule) :=
  okD (k := 2) F sc_is_rule fun cdv A outer s H E hr => by
    have tk := takes_of (X := cxOf (L2.CX P w) P w K mg base N_is_rule "is_rule" (defScope s_is_rule) f cdv A outer s H E) rfl rfl rfl rfl
    exact
 (rscons (rsif (st (rtw (rwor (rtnot (rt (risi (T := "tuple") (by decide) m_isinstance m_tuple (rv 0)))) (rwor (rtcmp (okO_lt hr) ok_lt (rcb okO_len ok_len m_len (racons (rv 0) ranil)) rint) (rwo1 (rtcmp (op_gt) (ok_cmp _) (rcb okO_len ok_len m_len (racons (rv 0) ranil)) (rcst c_MOST_RULE)))))))
 (rsone (rsret (se rbl)))
 rsnil)
 (rscons (rsset (i := 1) sc_is_rule.nd (se (rcst c_ZERO)))
 (rscons (rsfor (riseq (rv 0)) (rgn 2 sc_is_rule.nd)
 (rscons (rsif (st (rtw (rwor (rtnot (rt (rc h_is_ratio hr tk (racons (rv 2) ranil)))) (rwo1 (rtcmp (op_le) (ok_cmp _) (rc h_compare_ratios hr tk (racons (rv 2) (racons (rv 1) ranil))) rint)))))
 (rsone (rsret (se rbl)))
 rsnil)
 (rsone (rsset (i := 1) sc_is_rule.nd (se (rv 2))))) (passes_of rfl))
 (rsone (rsret (se rbl))))))
theorem ok_rule_field (h_is_rule : Cal P w K mg base 3 "is_rule" f_is_rule) (h_ratio_within : Cal P w K mg base 4 "ratio_within" f_ratio_within) (c_MOST_STRAIN : Cst K w mg "MOST_STRAIN" k_MOST_STRAIN) {f : Addr} {fd : FuncData} (F : FunD K "rule_field" "rule_field" (defArgs s_rule_field) (defBody s_rule_field) (defScope s_rule_field) [] [] f fd) :
    FnOk P w K mg base (L2.CX P w) 5 f fd P_rule_field (SpF K w mg f_rule_field) :=
  okD (k := 4) F sc_rule_field fun cdv A outer s H E hr => by
    have tk := takes_of (X := cxOf (L2.CX P w) P w K mg base N_rule_field "rule_field" (defScope s_rule_field) f cdv A outer s H E) rfl rfl rfl rfl
    exact
 (rscons (rsif (st (rtnot (rt (rc h_is_rule hr tk (racons (rv 0) ranil)))))
 (rsone (rsret (se rbl)))
 rsnil)
 (rscons (rsfor (riseq (rv 0)) (rgn 1 sc_rule_field.nd)
 (rsone (rsif (st (rtnot (rt (rc h_ratio_within hr tk (racons rint (racons (rcst c_MOST_STRAIN) (racons (rv 1) ranil)))))))
 (rsone (rsret (se rbl)))
 rsnil)) (passes_of rfl))
 (rsone (rsret (se rbl)))))
theorem ok_is_grain (h_common_divisor : Cal P w K mg base 1 "common_divisor" f_common_divisor) (h_is_row : Cal P w K mg base 1 "is_row" f_is_row) (h_is_whole : Cal P w K mg base 1 "is_whole" f_is_whole) {f : Addr} {fd : FuncData} (F : FunD K "is_grain" "is_grain" (defArgs s_is_grain) (defBody s_is_grain) (defScope s_is_grain) [] [] f fd) :
    FnOk P w K mg base (L2.CX P w) 2 f fd P_is_grain (SpF K w mg f_is_grain) :=
  okD (k := 1) F sc_is_grain fun cdv A outer s H E hr => by
    have tk := takes_of (X := cxOf (L2.CX P w) P w K mg base N_is_grain "is_grain" (defScope s_is_grain) f cdv A outer s H E) rfl rfl rfl rfl
    exact
 (rscons (rsif (st (rtnot (rt (rc h_is_row hr tk (racons rint (racons (rv 0) ranil))))))
 (rsone (rsret (se rbl)))
 rsnil)
 (rscons (rssett (se (rv 0)) (rgtup rfl (rgcons (rgn 1 sc_is_grain.nd) (rgcons (rgn 2 sc_is_grain.nd) rgnil))))
 (rscons (rsif (st (rtw (rwor (rtnot (rt (rc h_is_whole hr tk (racons (rv 1) ranil)))) (rwo1 (rtnot (rt (rc h_is_whole hr tk (racons (rv 2) ranil))))))))
 (rsone (rsret (se rbl)))
 rsnil)
 (rscons (rsif (st (rtcmp (okO_eq hr) ok_eq (rv 1) rint))
 (rsone (rsret (se (rcmp (okO_eq hr) ok_eq (rv 2) rint))))
 rsnil)
 (rsone (rsret (se (rand (rcmp (op_gt) (ok_cmp _) (rv 1) rint) (rbone (rcmp (okO_eq hr) ok_eq (rc h_common_divisor hr tk (racons (rv 1) (racons (rv 2) ranil))) rint))))))))))
theorem ok_grain_field (h_is_grain : Cal P w K mg base 2 "is_grain" f_is_grain) (h_is_within : Cal P w K mg base 2 "is_within" f_is_within) (c_MOST_GRAIN : Cst K w mg "MOST_GRAIN" k_MOST_GRAIN) {f : Addr} {fd : FuncData} (F : FunD K "grain_field" "grain_field" (defArgs s_grain_field) (defBody s_grain_field) (defScope s_grain_field) [] [] f fd) :
    FnOk P w K mg base (L2.CX P w) 3 f fd P_grain_field (SpF K w mg f_grain_field) :=
  okD (k := 2) F sc_grain_field fun cdv A outer s H E hr => by
    have tk := takes_of (X := cxOf (L2.CX P w) P w K mg base N_grain_field "grain_field" (defScope s_grain_field) f cdv A outer s H E) rfl rfl rfl rfl
    exact
 (rscons (rsif (st (rtnot (rt (rc h_is_grain hr tk (racons (rv 0) ranil)))))
 (rsone (rsret (se rbl)))
 rsnil)
 (rsone (rsret (se (rand (rc h_is_within hr tk (racons (rneg (rcst c_MOST_GRAIN)) (racons (rcst c_MOST_GRAIN) (racons (rixs (rv 0) rint) ranil)))) (rbone (rc h_is_within hr tk (racons (rneg (rcst c_MOST_GRAIN)) (racons (rcst c_MOST_GRAIN) (racons (rixs (rv 0) rint) ranil))))))))))
theorem ok_is_pull (h_is_row : Cal P w K mg base 1 "is_row" f_is_row) (h_is_within : Cal P w K mg base 2 "is_within" f_is_within) (c_MOST_PULL : Cst K w mg "MOST_PULL" k_MOST_PULL) {f : Addr} {fd : FuncData} (F : FunD K "is_pull" "is_pull" (defArgs s_is_pull) (defBody s_is_pull) (defScope s_is_pull) [] [] f fd) :
    FnOk P w K mg base (L2.CX P w) 3 f fd P_is_pull (SpF K w mg f_is_pull) :=
  okD (k := 2) F sc_is_pull fun cdv A outer s H E hr => by
    have tk := takes_of (X := cxOf (L2.CX P w) P w K mg base N_is_pull "is_pull" (defScope s_is_pull) f cdv A outer s H E) rfl rfl rfl rfl
    exact
 (rscons (rsif (st (rtnot (rt (rc h_is_row hr tk (racons rint (racons (rv 0) ranil))))))
 (rsone (rsret (se rbl)))
 rsnil)
 (rscons (rssett (se (rv 0)) (rgtup rfl (rgcons (rgn 1 sc_is_pull.nd) (rgcons (rgn 2 sc_is_pull.nd) rgnil))))
 (rscons (rsif (st (rtw (rwor (rtnot (rt (rc h_is_within hr tk (racons (rneg (rcst c_MOST_PULL)) (racons (rcst c_MOST_PULL) (racons (rv 1) ranil)))))) (rwo1 (rtnot (rt (rc h_is_within hr tk (racons (rneg (rcst c_MOST_PULL)) (racons (rcst c_MOST_PULL) (racons (rv 2) ranil))))))))))
 (rsone (rsret (se rbl)))
 rsnil)
 (rsone (rsret (se (ror (rcmp (okO_ne hr) ok_ne (rv 1) rint) (rbone (rcmp (okO_ne hr) ok_ne (rv 2) rint)))))))))
theorem ok_is_point (h_is_ratio : Cal P w K mg base 2 "is_ratio" f_is_ratio) (h_is_row : Cal P w K mg base 1 "is_row" f_is_row) {f : Addr} {fd : FuncData} (F : FunD K "is_point" "is_point" (defArgs s_is_point) (defBody s_is_point) (defScope s_is_point) [] [] f fd) :
    FnOk P w K mg base (L2.CX P w) 3 f fd P_is_point (SpF K w mg f_is_point) :=
  okD (k := 2) F sc_is_point fun cdv A outer s H E hr => by
    have tk := takes_of (X := cxOf (L2.CX P w) P w K mg base N_is_point "is_point" (defScope s_is_point) f cdv A outer s H E) rfl rfl rfl rfl
    exact
 (rsone (rsret (se (rand (rc h_is_row hr tk (racons rint (racons (rv 0) ranil))) (rand (rc h_is_ratio hr tk (racons (rixs (rv 0) rint) ranil)) (rbone (rc h_is_ratio hr tk (racons (rixs (rv 0) rint) ranil))))))))
theorem ok_is_spot (h_is_point : Cal P w K mg base 3 "is_point" f_is_point) (h_ratio_within : Cal P w K mg base 4 "ratio_within" f_ratio_within) (c_MOST_BELOW : Cst K w mg "MOST_BELOW" k_MOST_BELOW) (c_MOST_PLACE : Cst K w mg "MOST_PLACE" k_MOST_PLACE) {f : Addr} {fd : FuncData} (F : FunD K "is_spot" "is_spot" (defArgs s_is_spot) (defBody s_is_spot) (defScope s_is_spot) [] [] f fd) :
    FnOk P w K mg base (L2.CX P w) 5 f fd P_is_spot (SpF K w mg f_is_spot) :=
  okD (k := 4) F sc_is_spot fun cdv A outer s H E hr => by
    have tk := takes_of (X := cxOf (L2.CX P w) P w K mg base N_is_spot "is_spot" (defScope s_is_spot) f cdv A outer s H E) rfl rfl rfl rfl
    exact
 (rscons (rsif (st (rtnot (rt (rc h_is_point hr tk (racons (rv 0) ranil)))))
 (rsone (rsret (se rbl)))
 rsnil)
 (rscons (rsfor (riseq (rv 0)) (rgn 1 sc_is_spot.nd)
 (rsone (rsif (st (rtw (rwor (rtnot (rt (rc h_ratio_within hr tk (racons (rneg (rcst c_MOST_PLACE)) (racons (rcst c_MOST_PLACE) (racons (rv 1) ranil)))))) (rwo1 (rtcmp (op_gt) (ok_cmp _) (rixs (rv 1) rint) (rcst c_MOST_BELOW))))))
 (rsone (rsret (se rbl)))
 rsnil)) (passes_of rfl))
 (rsone (rsret (se rbl)))))
theorem ok_line_field (h_is_row : Cal P w K mg base 1 "is_row" f_is_row) (h_is_spot : Cal P w K mg base 5 "is_spot" f_is_spot) {f : Addr} {fd : FuncData} (F : FunD K "line_field" "line_field" (defArgs s_line_field) (defBody s_line_field) (defScope s_line_field) [] [] f fd) :
    FnOk P w K mg base (L2.CX P w) 6 f fd P_line_field (SpF K w mg f_line_field) :=
  okD (k := 5) F sc_line_field fun cdv A outer s H E hr => by
    have tk := takes_of (X := cxOf (L2.CX P w) P w K mg base N_line_field "line_field" (defScope s_line_field) f cdv A outer s H E) rfl rfl rfl rfl
    exact
 (rscons (rsif (st (rtw (rwor (rtnot (rt (rc h_is_row hr tk (racons rint (racons (rv 0) ranil))))) (rwor (rtnot (rt (rc h_is_spot hr tk (racons (rixs (rv 0) rint) ranil)))) (rwo1 (rtnot (rt (rc h_is_spot hr tk (racons (rixs (rv 0) rint) ranil)))))))))
 (rsone (rsret (se rbl)))
 rsnil)
 (rsone (rsret (se (rcmp (okO_ne hr) ok_ne (rixs (rv 0) rint) (rixs (rv 0) rint))))))
theorem ok_all_points (h_is_point : Cal P w K mg base 3 "is_point" f_is_point) (m_isinstance : mg "isinstance" = none) (m_tuple : mg "tuple" = none) {f : Addr} {fd : FuncData} (F : FunD K "all_points" "all_points" (defArgs s_all_points) (defBody s_all_points) (defScope s_all_points) [] [] f fd) :
    FnOk P w K mg base (L2.CX P w) 4 f fd P_all_points (SpF K w mg f_all_points) :=
  okD (k := 3) F sc_all_points fun cdv A outer s H E hr => by
    have tk := takes_of (X := cxOf (L2.CX P w) P w K mg base N_all_points "all_points" (defScope s_all_points) f cdv A outer s H E) rfl rfl rfl rfl
    exact
 (rscons (rsif (st (rtnot (rt (risi (T := "tuple") (by decide) m_isinstance m_tuple (rv 0)))))
 (rsone (rsret (se rbl)))
 rsnil)
 (rscons (rsfor (riseq (rv 0)) (rgn 1 sc_all_points.nd)
 (rsone (rsif (st (rtnot (rt (rc h_is_point hr tk (racons (rv 1) ranil)))))
 (rsone (rsret (se rbl)))
 rsnil)) (passes_of rfl))
 (rsone (rsret (se rbl)))))
theorem ok_make_ratio (h_common_divisor : Cal P w K mg base 1 "common_divisor" f_common_divisor) {f : Addr} {fd : FuncData} (F : FunD K "make_ratio" "make_ratio" (defArgs s_make_ratio) (defBody s_make_ratio) (defScope s_make_ratio) [] [] f fd) :
    FnOk P w K mg base (L2.CX P w) 2 f fd P_make_ratio (SpF K w mg f_make_ratio) :=
  okD (k := 1) F sc_make_ratio fun cdv A outer s H E hr => by
    have tk := takes_of (X := cxOf (L2.CX P w) P w K mg base N_make_ratio "make_ratio" (defScope s_make_ratio) f cdv A outer s H E) rfl rfl rfl rfl
    exact
 (rscons (rsif (st (rtcmp (okO_eq hr) ok_eq (rv 1) rint))
 (rsone rsno)
 rsnil)
 (rscons (rsset (i := 2) sc_make_ratio.nd (se (rc h_common_divisor hr tk (racons (rv 0) (racons (rv 1) ranil)))))
 (rscons (rsif (st (rtcmp (okO_lt hr) ok_lt (rv 1) rint))
 (rsone (rsset (i := 2) sc_make_ratio.nd (se (rneg (rv 2)))))
 rsnil)
 (rsone (rsret (se (rtup (racons (rdiv (rv 0) (rv 2)) (racons (rdiv (rv 1) (rv 2)) ranil)))))))))
theorem ok_add_ratios (h_make_ratio : Cal P w K mg base 2 "make_ratio" f_make_ratio) {f : Addr} {fd : FuncData} (F : FunD K "add_ratios" "add_ratios" (defArgs s_add_ratios) (defBody s_add_ratios) (defScope s_add_ratios) [] [] f fd) :
    FnOk P w K mg base (L2.CX P w) 3 f fd P_add_ratios (SpF K w mg f_add_ratios) :=
  okD (k := 2) F sc_add_ratios fun cdv A outer s H E hr => by
    have tk := takes_of (X := cxOf (L2.CX P w) P w K mg base N_add_ratios "add_ratios" (defScope s_add_ratios) f cdv A outer s H E) rfl rfl rfl rfl
    exact
 (rsone (rsret (se (rc h_make_ratio hr tk (racons (radd (rmul (rixs (rv 0) rint) (rixs (rv 1) rint)) (rmul (rixs (rv 1) rint) (rixs (rv 0) rint))) (racons (rmul (rixs (rv 0) rint) (rixs (rv 1) rint)) ranil))))))
theorem ok_take_ratios (h_make_ratio : Cal P w K mg base 2 "make_ratio" f_make_ratio) {f : Addr} {fd : FuncData} (F : FunD K "take_ratios" "take_ratios" (defArgs s_take_ratios) (defBody s_take_ratios) (defScope s_take_ratios) [] [] f fd) :
    FnOk P w K mg base (L2.CX P w) 3 f fd P_take_ratios (SpF K w mg f_take_ratios) :=
  okD (k := 2) F sc_take_ratios fun cdv A outer s H E hr => by
    have tk := takes_of (X := cxOf (L2.CX P w) P w K mg base N_take_ratios "take_ratios" (defScope s_take_ratios) f cdv A outer s H E) rfl rfl rfl rfl
    exact
 (rsone (rsret (se (rc h_make_ratio hr tk (racons (rsub (rmul (rixs (rv 0) rint) (rixs (rv 1) rint)) (rmul (rixs (rv 1) rint) (rixs (rv 0) rint))) (racons (rmul (rixs (rv 0) rint) (rixs (rv 1) rint)) ranil))))))
theorem ok_times_ratios (h_make_ratio : Cal P w K mg base 2 "make_ratio" f_make_ratio) {f : Addr} {fd : FuncData} (F : FunD K "times_ratios" "times_ratios" (defArgs s_times_ratios) (defBody s_times_ratios) (defScope s_times_ratios) [] [] f fd) :
    FnOk P w K mg base (L2.CX P w) 3 f fd P_times_ratios (SpF K w mg f_times_ratios) :=
  okD (k := 2) F sc_times_ratios fun cdv A outer s H E hr => by
    have tk := takes_of (X := cxOf (L2.CX P w) P w K mg base N_times_ratios "times_ratios" (defScope s_times_ratios) f cdv A outer s H E) rfl rfl rfl rfl
    exact
 (rsone (rsret (se (rc h_make_ratio hr tk (racons (rmul (rixs (rv 0) rint) (rixs (rv 1) rint)) (racons (rmul (rixs (rv 0) rint) (rixs (rv 1) rint)) ranil))))))
theorem ok_cross_product (h_take_ratios : Cal P w K mg base 3 "take_ratios" f_take_ratios) (h_times_ratios : Cal P w K mg base 3 "times_ratios" f_times_ratios) {f : Addr} {fd : FuncData} (F : FunD K "cross_product" "cross_product" (defArgs s_cross_product) (defBody s_cross_product) (defScope s_cross_product) [] [] f fd) :
    FnOk P w K mg base (L2.CX P w) 4 f fd P_cross_product (SpF K w mg f_cross_product) :=
  okD (k := 3) F sc_cross_product fun cdv A outer s H E hr => by
    have tk := takes_of (X := cxOf (L2.CX P w) P w K mg base N_cross_product "cross_product" (defScope s_cross_product) f cdv A outer s H E) rfl rfl rfl rfl
    exact
 (rsone (rsret (se (rc h_take_ratios hr tk (racons (rc h_times_ratios hr tk (racons (rixs (rv 0) rint) (racons (rixs (rv 1) rint) ranil))) (racons (rc h_times_ratios hr tk (racons (rixs (rv 0) rint) (racons (rixs (rv 1) rint) ranil))) ranil))))))
theorem ok_double_area (h_add_ratios : Cal P w K mg base 3 "add_ratios" f_add_ratios) (h_cross_product : Cal P w K mg base 4 "cross_product" f_cross_product) (m_len : mg "len" = none) (m_range : mg "range" = none) (c_ZERO : Cst K w mg "ZERO" k_ZERO) {f : Addr} {fd : FuncData} (F : FunD K "double_area" "double_area" (defArgs s_double_area) (defBody s_double_area) (defScope s_double_area) [] [] f fd) :
    FnOk P w K mg base (L2.CX P w) 5 f fd P_double_area (SpF K w mg f_double_area) :=
  okD (k := 4) F sc_double_area fun cdv A outer s H E hr => by
    have tk := takes_of (X := cxOf (L2.CX P w) P w K mg base N_double_area "double_area" (defScope s_double_area) f cdv A outer s H E) rfl rfl rfl rfl
    exact
 (rscons (rsset (i := 1) sc_double_area.nd (se (rcst c_ZERO)))
 (rscons (rsfor (rirange1 m_range (rcb okO_len ok_len m_len (racons (rv 0) ranil))) (rgn 2 sc_double_area.nd)
 (rsone (rsset (i := 1) sc_double_area.nd (se (rc h_add_ratios hr tk (racons (rv 1) (racons (rc h_cross_product hr tk (racons (rixs (rv 0) (rsub (rv 2) rint)) (racons (rixs (rv 0) (rv 2)) ranil))) ranil)))))) (passes_of rfl))
 (rsone (rsret (se (rv 1))))))
theorem ok_compare_points (h_compare_ratios : Cal P w K mg base 1 "compare_ratios" f_compare_ratios) {f : Addr} {fd : FuncData} (F : FunD K "compare_points" "compare_points" (defArgs s_compare_points) (defBody s_compare_points) (defScope s_compare_points) [] [] f fd) :
    FnOk P w K mg base (L2.CX P w) 2 f fd P_compare_points (SpF K w mg f_compare_points) :=
  okD (k := 1) F sc_compare_points fun cdv A outer s H E hr => by
    have tk := takes_of (X := cxOf (L2.CX P w) P w K mg base N_compare_points "compare_points" (defScope s_compare_points) f cdv A outer s H E) rfl rfl rfl rfl
    exact
 (rscons (rsset (i := 2) sc_compare_points.nd (se (rc h_compare_ratios hr tk (racons (rixs (rv 0) rint) (racons (rixs (rv 1) rint) ranil)))))
 (rscons (rsif (st (rtcmp (okO_ne hr) ok_ne (rv 2) rint))
 (rsone (rsret (se (rv 2))))
 rsnil)
 (rsone (rsret (se (rc h_compare_ratios hr tk (racons (rixs (rv 0) rint) (racons (rixs (rv 1) rint) ranil))))))))
theorem ok_from_least (h_compare_points : Cal P w K mg base 2 "compare_points" f_compare_points) (m_len : mg "len" = none) (m_range : mg "range" = none) {f : Addr} {fd : FuncData} (F : FunD K "from_least" "from_least" (defArgs s_from_least) (defBody s_from_least) (defScope s_from_least) [] [] f fd) :
    FnOk P w K mg base (L2.CX P w) 3 f fd P_from_least (SpF K w mg f_from_least) :=
  okD (k := 2) F sc_from_least fun cdv A outer s H E hr => by
    have tk := takes_of (X := cxOf (L2.CX P w) P w K mg base N_from_least "from_least" (defScope s_from_least) f cdv A outer s H E) rfl rfl rfl rfl
    exact
 (rscons (rsset (i := 1) sc_from_least.nd (se rint))
 (rscons (rsfor (rirange2 m_range rint (rcb okO_len ok_len m_len (racons (rv 0) ranil))) (rgn 2 sc_from_least.nd)
 (rsone (rsif (st (rtcmp (okO_lt hr) ok_lt (rc h_compare_points hr tk (racons (rixs (rv 0) (rv 2)) (racons (rixs (rv 0) (rv 1)) ranil))) rint))
 (rsone (rsset (i := 1) sc_from_least.nd (se (rv 2))))
 rsnil)) (passes_of rfl))
 (rsone (rsret (se (radd (rsl (rv 0) (rpsome (rv 1)) rpnone) (rsl (rv 0) rpnone (rpsome (rv 1)))))))))
theorem ok_sign_ratio  {f : Addr} {fd : FuncData} (F : FunD K "sign_ratio" "sign_ratio" (defArgs s_sign_ratio) (defBody s_sign_ratio) (defScope s_sign_ratio) [] [] f fd) :
    FnOk P w K mg base (L2.CX P w) 1 f fd P_sign_ratio (SpF K w mg f_sign_ratio) :=
  okD (k := 0) F sc_sign_ratio fun cdv A outer s H E hr => by
    have tk := takes_of (X := cxOf (L2.CX P w) P w K mg base N_sign_ratio "sign_ratio" (defScope s_sign_ratio) f cdv A outer s H E) rfl rfl rfl rfl
    exact
 (rscons (rsif (st (rtcmp (op_gt) (ok_cmp _) (rixs (rv 0) rint) rint))
 (rsone (rsret (se rint)))
 rsnil)
 (rscons (rsif (st (rtcmp (okO_lt hr) ok_lt (rixs (rv 0) rint) rint))
 (rsone (rsret (se (rneg rint))))
 rsnil)
 (rsone (rsret (se rint)))))
theorem ok_take_points (h_take_ratios : Cal P w K mg base 3 "take_ratios" f_take_ratios) {f : Addr} {fd : FuncData} (F : FunD K "take_points" "take_points" (defArgs s_take_points) (defBody s_take_points) (defScope s_take_points) [] [] f fd) :
    FnOk P w K mg base (L2.CX P w) 4 f fd P_take_points (SpF K w mg f_take_points) :=
  okD (k := 3) F sc_take_points fun cdv A outer s H E hr => by
    have tk := takes_of (X := cxOf (L2.CX P w) P w K mg base N_take_points "take_points" (defScope s_take_points) f cdv A outer s H E) rfl rfl rfl rfl
    exact
 (rsone (rsret (se (rtup (racons (rc h_take_ratios hr tk (racons (rixs (rv 0) rint) (racons (rixs (rv 1) rint) ranil))) (racons (rc h_take_ratios hr tk (racons (rixs (rv 0) rint) (racons (rixs (rv 1) rint) ranil))) ranil))))))
theorem ok_turn_sign (h_cross_product : Cal P w K mg base 4 "cross_product" f_cross_product) (h_sign_ratio : Cal P w K mg base 1 "sign_ratio" f_sign_ratio) (h_take_points : Cal P w K mg base 4 "take_points" f_take_points) {f : Addr} {fd : FuncData} (F : FunD K "turn_sign" "turn_sign" (defArgs s_turn_sign) (defBody s_turn_sign) (defScope s_turn_sign) [] [] f fd) :
    FnOk P w K mg base (L2.CX P w) 5 f fd P_turn_sign (SpF K w mg f_turn_sign) :=
  okD (k := 4) F sc_turn_sign fun cdv A outer s H E hr => by
    have tk := takes_of (X := cxOf (L2.CX P w) P w K mg base N_turn_sign "turn_sign" (defScope s_turn_sign) f cdv A outer s H E) rfl rfl rfl rfl
    exact
 (rsone (rsret (se (rc h_sign_ratio hr tk (racons (rc h_cross_product hr tk (racons (rc h_take_points hr tk (racons (rv 1) (racons (rv 0) ranil))) (racons (rc h_take_points hr tk (racons (rv 2) (racons (rv 0) ranil))) ranil))) ranil)))))
theorem ok_corners_turn (h_turn_sign : Cal P w K mg base 5 "turn_sign" f_turn_sign) (m_len : mg "len" = none) (m_range : mg "range" = none) {f : Addr} {fd : FuncData} (F : FunD K "corners_turn" "corners_turn" (defArgs s_corners_turn) (defBody s_corners_turn) (defScope s_corners_turn) [] [] f fd) :
    FnOk P w K mg base (L2.CX P w) 6 f fd P_corners_turn (SpF K w mg f_corners_turn) :=
  okD (k := 5) F sc_corners_turn fun cdv A outer s H E hr => by
    have tk := takes_of (X := cxOf (L2.CX P w) P w K mg base N_corners_turn "corners_turn" (defScope s_corners_turn) f cdv A outer s H E) rfl rfl rfl rfl
    exact
 (rscons (rsset (i := 1) sc_corners_turn.nd (se (rcb okO_len ok_len m_len (racons (rv 0) ranil))))
 (rscons (rsfor (rirange1 m_range (rv 1)) (rgn 2 sc_corners_turn.nd)
 (rsone (rsif (st (rtcmp (okO_eq hr) ok_eq (rc h_turn_sign hr tk (racons (rixs (rv 0) (rsub (rv 2) rint)) (racons (rixs (rv 0) (rv 2)) (racons (rixs (rv 0) (rmod (radd (rv 2) rint) (rv 1))) ranil)))) rint))
 (rsone (rsret (se rbl)))
 rsnil)) (passes_of rfl))
 (rsone (rsret (se rbl)))))
theorem ok_row_sides (m_tuple : mg "tuple" = none) (m_zip : mg "zip" = none) {f : Addr} {fd : FuncData} (F : FunD K "row_sides" "row_sides" (defArgs s_row_sides) (defBody s_row_sides) (defScope s_row_sides) [] [] f fd) :
    FnOk P w K mg base (L2.CX P w) 1 f fd P_row_sides (SpF K w mg f_row_sides) :=
  okD (k := 0) F sc_row_sides fun cdv A outer s H E hr => by
    have tk := takes_of (X := cxOf (L2.CX P w) P w K mg base N_row_sides "row_sides" (defScope s_row_sides) f cdv A outer s H E) rfl rfl rfl rfl
    exact
 (rscons (rsset (i := 1) sc_row_sides.nd (se (radd (rsl (rv 0) (rpsome rint) rpnone) (rsl (rv 0) rpnone (rpsome rint)))))
 (rsone (rsret (se (rct call_tuple_of ok_tuple m_tuple (racons (rfz (rlc (Lc.mk (own := [("start", 2), ("end", 3)]) (rizip m_zip (rv 0) (rv 1)) (blkOk_by (N := N_row_sides) (sc := defScope s_row_sides) (by decide +kernel)) (fun _ _ _ _ _ => (rgtup rfl (rgcons (rgn 2 sc_row_sides.nd) (rgcons (rgn 3 sc_row_sides.nd) rgnil)))) (fun _ _ _ _ _ => pts_yes) (fun _ _ _ _ _ => (rtup (racons (rv 2) (racons (rv 3) ranil)))) (by decide)) sc_row_sides.nd)) ranil))))))
theorem ok_lies_between (h_compare_ratios : Cal P w K mg base 1 "compare_ratios" f_compare_ratios) {f : Addr} {fd : FuncData} (F : FunD K "lies_between" "lies_between" (defArgs s_lies_between) (defBody s_lies_between) (defScope s_lies_between) [] [] f fd) :
    FnOk P w K mg base (L2.CX P w) 2 f fd P_lies_between (SpF K w mg f_lies_between) :=
  okD (k := 1) F sc_lies_between fun cdv A outer s H E hr => by
    have tk := takes_of (X := cxOf (L2.CX P w) P w K mg base N_lies_between "lies_between" (defScope s_lies_between) f cdv A outer s H E) rfl rfl rfl rfl
    exact
 (rscons (rsif (st (rtcmp (op_le) (ok_cmp _) (rc h_compare_ratios hr tk (racons (rv 0) (racons (rv 1) ranil))) rint))
 (rsone (rsret (se (rand (rcmp (op_le) (ok_cmp _) (rc h_compare_ratios hr tk (racons (rv 0) (racons (rv 2) ranil))) rint) (rbone (rcmp (op_le) (ok_cmp _) (rc h_compare_ratios hr tk (racons (rv 2) (racons (rv 1) ranil))) rint))))))
 rsnil)
 (rsone (rsret (se (rand (rcmp (op_le) (ok_cmp _) (rc h_compare_ratios hr tk (racons (rv 1) (racons (rv 2) ranil))) rint) (rbone (rcmp (op_le) (ok_cmp _) (rc h_compare_ratios hr tk (racons (rv 2) (racons (rv 0) ranil))) rint)))))))
theorem ok_on_segment (h_lies_between : Cal P w K mg base 2 "lies_between" f_lies_between) (h_turn_sign : Cal P w K mg base 5 "turn_sign" f_turn_sign) {f : Addr} {fd : FuncData} (F : FunD K "on_segment" "on_segment" (defArgs s_on_segment) (defBody s_on_segment) (defScope s_on_segment) [] [] f fd) :
    FnOk P w K mg base (L2.CX P w) 6 f fd P_on_segment (SpF K w mg f_on_segment) :=
  okD (k := 5) F sc_on_segment fun cdv A outer s H E hr => by
    have tk := takes_of (X := cxOf (L2.CX P w) P w K mg base N_on_segment "on_segment" (defScope s_on_segment) f cdv A outer s H E) rfl rfl rfl rfl
    exact
 (rscons (rsif (st (rtcmp (okO_ne hr) ok_ne (rc h_turn_sign hr tk (racons (rv 0) (racons (rv 1) (racons (rv 2) ranil)))) rint))
 (rsone (rsret (se rbl)))
 rsnil)
 (rsone (rsret (se (rand (rc h_lies_between hr tk (racons (rixs (rv 0) rint) (racons (rixs (rv 1) rint) (racons (rixs (rv 2) rint) ranil)))) (rbone (rc h_lies_between hr tk (racons (rixs (rv 0) rint) (racons (rixs (rv 1) rint) (racons (rixs (rv 2) rint) ranil))))))))))
theorem ok_sides_meet (h_on_segment : Cal P w K mg base 6 "on_segment" f_on_segment) (h_turn_sign : Cal P w K mg base 5 "turn_sign" f_turn_sign) {f : Addr} {fd : FuncData} (F : FunD K "sides_meet" "sides_meet" (defArgs s_sides_meet) (defBody s_sides_meet) (defScope s_sides_meet) [] [] f fd) :
    FnOk P w K mg base (L2.CX P w) 7 f fd P_sides_meet (SpF K w mg f_sides_meet) :=
  okD (k := 6) F sc_sides_meet fun cdv A outer s H E hr => by
    have tk := takes_of (X := cxOf (L2.CX P w) P w K mg base N_sides_meet "sides_meet" (defScope s_sides_meet) f cdv A outer s H E) rfl rfl rfl rfl
    exact
 (rscons (rssett (se (rv 0)) (rgtup rfl (rgcons (rgn 2 sc_sides_meet.nd) (rgcons (rgn 3 sc_sides_meet.nd) rgnil))))
 (rscons (rssett (se (rv 1)) (rgtup rfl (rgcons (rgn 4 sc_sides_meet.nd) (rgcons (rgn 5 sc_sides_meet.nd) rgnil))))
 (rscons (rsif (st (rtw (rwor (rt (rc h_on_segment hr tk (racons (rv 2) (racons (rv 3) (racons (rv 4) ranil))))) (rwo1 (rt (rc h_on_segment hr tk (racons (rv 2) (racons (rv 3) (racons (rv 5) ranil)))))))))
 (rsone (rsret (se rbl)))
 rsnil)
 (rscons (rsif (st (rtw (rwor (rt (rc h_on_segment hr tk (racons (rv 4) (racons (rv 5) (racons (rv 2) ranil))))) (rwo1 (rt (rc h_on_segment hr tk (racons (rv 4) (racons (rv 5) (racons (rv 3) ranil)))))))))
 (rsone (rsret (se rbl)))
 rsnil)
 (rscons (rsif (st (rtcmp (op_ge) (ok_cmp _) (rmul (rc h_turn_sign hr tk (racons (rv 2) (racons (rv 3) (racons (rv 4) ranil)))) (rc h_turn_sign hr tk (racons (rv 2) (racons (rv 3) (racons (rv 5) ranil))))) rint))
 (rsone (rsret (se rbl)))
 rsnil)
 (rsone (rsret (se (rcmp (okO_lt hr) ok_lt (rmul (rc h_turn_sign hr tk (racons (rv 4) (racons (rv 5) (racons (rv 2) ranil)))) (rc h_turn_sign hr tk (racons (rv 4) (racons (rv 5) (racons (rv 3) ranil))))) rint)))))))))
theorem ok_sides_part (h_row_sides : Cal P w K mg base 1 "row_sides" f_row_sides) (h_sides_meet : Cal P w K mg base 7 "sides_meet" f_sides_meet) (m_len : mg "len" = none) (m_range : mg "range" = none) {f : Addr} {fd : FuncData} (F : FunD K "sides_part" "sides_part" (defArgs s_sides_part) (defBody s_sides_part) (defScope s_sides_part) [] [] f fd) :
    FnOk P w K mg base (L2.CX P w) 8 f fd P_sides_part (SpF K w mg f_sides_part) :=
  okD (k := 7) F sc_sides_part fun cdv A outer s H E hr => by
    have tk := takes_of (X := cxOf (L2.CX P w) P w K mg base N_sides_part "sides_part" (defScope s_sides_part) f cdv A outer s H E) rfl rfl rfl rfl
    exact
 (rscons (rsset (i := 1) sc_sides_part.nd (se (rc h_row_sides hr tk (racons (rv 0) ranil))))
 (rscons (rsset (i := 2) sc_sides_part.nd (se (rsub (rcb okO_len ok_len m_len (racons (rv 1) ranil)) rint)))
 (rscons (rsfor (rirange1 m_range (rcb okO_len ok_len m_len (racons (rv 1) ranil))) (rgn 3 sc_sides_part.nd)
 (rsone (rsfor (rirange2 m_range (radd (rv 3) rint) (rcb okO_len ok_len m_len (racons (rv 1) ranil))) (rgn 4 sc_sides_part.nd)
 (rscons (rsif (st (rtw (rwand (rtcmp (okO_eq hr) ok_eq (rv 3) rint) (rw1 (rtcmp (okO_eq hr) ok_eq (rv 4) (rv 2))))))
 (rsone rscont)
 rsnil)
 (rsone (rsif (st (rt (rc h_sides_meet hr tk (racons (rixs (rv 1) (rv 3)) (racons (rixs (rv 1) (rv 4)) ranil)))))
 (rsone (rsret (se rbl)))
 rsnil))) (passes_of rfl))) (passes_of rfl))
 (rsone (rsret (se rbl))))))
theorem ok_simple_row (h_corners_turn : Cal P w K mg base 6 "corners_turn" f_corners_turn) (h_sides_part : Cal P w K mg base 8 "sides_part" f_sides_part) (m_len : mg "len" = none) (c_FEWEST_CORNERS : Cst K w mg "FEWEST_CORNERS" k_FEWEST_CORNERS) (c_MOST_CORNERS : Cst K w mg "MOST_CORNERS" k_MOST_CORNERS) {f : Addr} {fd : FuncData} (F : FunD K "simple_row" "simple_row" (defArgs s_simple_row) (defBody s_simple_row) (defScope s_simple_row) [] [] f fd) :
    FnOk P w K mg base (L2.CX P w) 9 f fd P_simple_row (SpF K w mg f_simple_row) :=
  okD (k := 8) F sc_simple_row fun cdv A outer s H E hr => by
    have tk := takes_of (X := cxOf (L2.CX P w) P w K mg base N_simple_row "simple_row" (defScope s_simple_row) f cdv A outer s H E) rfl rfl rfl rfl
    exact
 (rscons (rsif (st (rtnot (rtchain (op_le) (ok_cmp _) (op_le) (ok_cmp _) (rcst c_FEWEST_CORNERS) (rcb okO_len ok_len m_len (racons (rv 0) ranil)) (rcst c_MOST_CORNERS))))
 (rsone (rsret (se rbl)))
 rsnil)
 (rsone (rsret (se (rand (rc h_corners_turn hr tk (racons (rv 0) ranil)) (rbone (rc h_sides_part hr tk (racons (rv 0) ranil))))))))
theorem ok_is_piece (h_all_points : Cal P w K mg base 4 "all_points" f_all_points) (h_double_area : Cal P w K mg base 5 "double_area" f_double_area) (h_from_least : Cal P w K mg base 3 "from_least" f_from_least) (h_sign_ratio : Cal P w K mg base 1 "sign_ratio" f_sign_ratio) (h_simple_row : Cal P w K mg base 9 "simple_row" f_simple_row) {f : Addr} {fd : FuncData} (F : FunD K "is_piece" "is_piece" (defArgs s_is_piece) (defBody s_is_piece) (defScope s_is_piece) [] [] f fd) :
    FnOk P w K mg base (L2.CX P w) 10 f fd P_is_piece (SpF K w mg f_is_piece) :=
  okD (k := 9) F sc_is_piece fun cdv A outer s H E hr => by
    have tk := takes_of (X := cxOf (L2.CX P w) P w K mg base N_is_piece "is_piece" (defScope s_is_piece) f cdv A outer s H E) rfl rfl rfl rfl
    exact
 (rscons (rsif (st (rtw (rwor (rtnot (rt (rc h_all_points hr tk (racons (rv 0) ranil)))) (rwo1 (rtnot (rt (rc h_simple_row hr tk (racons (rv 0) ranil))))))))
 (rsone (rsret (se rbl)))
 rsnil)
 (rsone (rsret (se (rand (rcmp (op_gt) (ok_cmp _) (rc h_sign_ratio hr tk (racons (rc h_double_area hr tk (racons (rv 0) ranil)) ranil)) rint) (rbone (rcmp (okO_eq hr) ok_eq (rc h_from_least hr tk (racons (rv 0) ranil)) (rv 0))))))))
theorem ok_piece_field (h_is_piece : Cal P w K mg base 10 "is_piece" f_is_piece) (h_is_spot : Cal P w K mg base 5 "is_spot" f_is_spot) (m_len : mg "len" = none) {f : Addr} {fd : FuncData} (F : FunD K "piece_field" "piece_field" (defArgs s_piece_field) (defBody s_piece_field) (defScope s_piece_field) [] [] f fd) :
    FnOk P w K mg base (L2.CX P w) 11 f fd P_piece_field (SpF K w mg f_piece_field) :=
  okD (k := 10) F sc_piece_field fun cdv A outer s H E hr => by
    have tk := takes_of (X := cxOf (L2.CX P w) P w K mg base N_piece_field "piece_field" (defScope s_piece_field) f cdv A outer s H E) rfl rfl rfl rfl
    exact
 (rscons (rsif (st (rtw (rwor (rtnot (rt (rc h_is_piece hr tk (racons (rv 1) ranil)))) (rwo1 (rtcmp (op_gt) (ok_cmp _) (rcb okO_len ok_len m_len (racons (rv 1) ranil)) (rv 0))))))
 (rsone (rsret (se rbl)))
 rsnil)
 (rscons (rsfor (riseq (rv 1)) (rgn 2 sc_piece_field.nd)
 (rsone (rsif (st (rtnot (rt (rc h_is_spot hr tk (racons (rv 2) ranil)))))
 (rsone (rsret (se rbl)))
 rsnil)) (passes_of rfl))
 (rsone (rsret (se rbl)))))
theorem ok_shape_field (h_grain_field : Cal P w K mg base 3 "grain_field" f_grain_field) (h_is_pull : Cal P w K mg base 3 "is_pull" f_is_pull) (h_line_field : Cal P w K mg base 6 "line_field" f_line_field) (h_piece_field : Cal P w K mg base 11 "piece_field" f_piece_field) {f : Addr} {fd : FuncData} (F : FunD K "shape_field" "shape_field" (defArgs s_shape_field) (defBody s_shape_field) (defScope s_shape_field) [] [] f fd) :
    FnOk P w K mg base (L2.CX P w) 12 f fd P_shape_field (SpF K w mg f_shape_field) :=
  okD (k := 11) F sc_shape_field fun cdv A outer s H E hr => by
    have tk := takes_of (X := cxOf (L2.CX P w) P w K mg base N_shape_field "shape_field" (defScope s_shape_field) f cdv A outer s H E) rfl rfl rfl rfl
    exact
 (rscons (rsif (st (rtcmp (okO_eq hr) ok_eq (rixs (rv 0) rint) rstr))
 (rsone (rsret (se (rc h_piece_field hr tk (racons (rixs (rv 0) rint) (racons (rv 1) ranil))))))
 rsnil)
 (rscons (rsif (st (rtcmp (okO_eq hr) ok_eq (rixs (rv 0) rint) rstr))
 (rsone (rsret (se (rc h_line_field hr tk (racons (rv 1) ranil)))))
 rsnil)
 (rscons (rsif (st (rtcmp (okO_eq hr) ok_eq (rixs (rv 0) rint) rstr))
 (rsone (rsret (se (rc h_grain_field hr tk (racons (rv 1) ranil)))))
 rsnil)
 (rsone (rsret (se (rc h_is_pull hr tk (racons (rv 1) ranil))))))))
theorem ok_spans_field (h_is_row : Cal P w K mg base 1 "is_row" f_is_row) (h_is_within : Cal P w K mg base 2 "is_within" f_is_within) (m_isinstance : mg "isinstance" = none) (m_len : mg "len" = none) (m_tuple : mg "tuple" = none) (c_MOST_SPANS : Cst K w mg "MOST_SPANS" k_MOST_SPANS) (c_MOST_WORN : Cst K w mg "MOST_WORN" k_MOST_WORN) {f : Addr} {fd : FuncData} (F : FunD K "spans_field" "spans_field" (defArgs s_spans_field) (defBody s_spans_field) (defScope s_spans_field) [] [] f fd) :
    FnOk P w K mg base (L2.CX P w) 3 f fd P_spans_field (SpF K w mg f_spans_field) :=
  okD (k := 2) F sc_spans_field fun cdv A outer s H E hr => by
    have tk := takes_of (X := cxOf (L2.CX P w) P w K mg base N_spans_field "spans_field" (defScope s_spans_field) f cdv A outer s H E) rfl rfl rfl rfl
    exact
 (rscons (rsif (st (rtw (rwor (rtnot (rt (risi (T := "tuple") (by decide) m_isinstance m_tuple (rv 0)))) (rwo1 (rtnot (rtchain (op_le) (ok_cmp _) (op_le) (ok_cmp _) rint (rcb okO_len ok_len m_len (racons (rv 0) ranil)) (rcst c_MOST_SPANS)))))))
 (rsone (rsret (se rbl)))
 rsnil)
 (rscons (rsfor (riseq (rv 0)) (rgn 1 sc_spans_field.nd)
 (rscons (rsif (st (rtw (rwor (rtnot (rt (rc h_is_row hr tk (racons rint (racons (rv 1) ranil))))) (rwo1 (rtnot (rt (rc h_is_within hr tk (racons rint (racons (rcst c_MOST_WORN) (racons (rixs (rv 1) rint) ranil))))))))))
 (rsone (rsret (se rbl)))
 rsnil)
 (rsone (rsif (st (rtnot (rt (rc h_is_within hr tk (racons (rixs (rv 1) rint) (racons (rcst c_MOST_WORN) (racons (rixs (rv 1) rint) ranil)))))))
 (rsone (rsret (se rbl)))
 rsnil))) (passes_of rfl))
 (rsone (rsret (se rbl)))))
theorem ok_is_field (h_ascending_names : Cal P w K mg base 2 "ascending_names" f_ascending_names) (h_is_name : Cal P w K mg base 1 "is_name" f_is_name) (h_is_string : Cal P w K mg base 1 "is_string" f_is_string) (h_is_within : Cal P w K mg base 2 "is_within" f_is_within) (h_names_field : Cal P w K mg base 2 "names_field" f_names_field) (h_ratio_within : Cal P w K mg base 4 "ratio_within" f_ratio_within) (h_rule_field : Cal P w K mg base 5 "rule_field" f_rule_field) (h_shape_field : Cal P w K mg base 12 "shape_field" f_shape_field) (h_spans_field : Cal P w K mg base 3 "spans_field" f_spans_field) (c_MOST_RATIO : Cst K w mg "MOST_RATIO" k_MOST_RATIO) (c_ZERO : Cst K w mg "ZERO" k_ZERO) {f : Addr} {fd : FuncData} (F : FunD K "is_field" "is_field" (defArgs s_is_field) (defBody s_is_field) (defScope s_is_field) [] [] f fd) :
    FnOk P w K mg base (L2.CX P w) 13 f fd P_is_field (SpF K w mg f_is_field) :=
  okD (k := 12) F sc_is_field fun cdv A outer s H E hr => by
    have tk := takes_of (X := cxOf (L2.CX P w) P w K mg base N_is_field "is_field" (defScope s_is_field) f cdv A outer s H E) rfl rfl rfl rfl
    exact
 (rscons (rsset (i := 2) sc_is_field.nd (se (rixs (rv 0) rint)))
 (rscons (rsif (st (rtcmp (okO_eq hr) ok_eq (rv 2) rstr))
 (rsone (rsret (se (rc h_is_name hr tk (racons (rv 1) ranil)))))
 rsnil)
 (rscons (rsif (st (rtcmp (okO_eq hr) ok_eq (rv 2) rstr))
 (rsone (rsret (se (rc h_is_within hr tk (racons (rixs (rv 0) rint) (racons (rixs (rv 0) rint) (racons (rv 1) ranil)))))))
 rsnil)
 (rscons (rsif (st (rtcmp (okO_eq hr) ok_eq (rv 2) rstr))
 (rsone (rsret (se (rc h_ratio_within hr tk (racons (rixs (rv 0) rint) (racons (rixs (rv 0) rint) (racons (rv 1) ranil)))))))
 rsnil)
 (rscons (rsif (st (rtcmp (okO_eq hr) ok_eq (rv 2) rstr))
 (rsone (rsret (se (rand (rc h_ratio_within hr tk (racons rint (racons (rcst c_MOST_RATIO) (racons (rv 1) ranil)))) (rbone (rcmp (okO_ne hr) ok_ne (rv 1) (rcst c_ZERO)))))))
 rsnil)
 (rscons (rsif (st (rtcmp (okO_eq hr) ok_eq (rv 2) rstr))
 (rsone (rsret (se (rand (rc h_is_string hr tk (racons (rv 1) ranil)) (rbone (rcmp (opo_in hr) ok_in (rv 1) (rsl (rv 0) (rpsome rint) rpnone)))))))
 rsnil)
 (rscons (rsif (st (rtcmp (okO_eq hr) ok_eq (rv 2) rstr))
 (rsone (rsret (se (rc h_names_field hr tk (racons (rixs (rv 0) rint) (racons (rixs (rv 0) rint) (racons (rv 1) ranil)))))))
 rsnil)
 (rscons (rsif (st (rtcmp (okO_eq hr) ok_eq (rv 2) rstr))
 (rsone (rsret (se (rand (rc h_names_field hr tk (racons (rixs (rv 0) rint) (racons (rixs (rv 0) rint) (racons (rv 1) ranil)))) (rbone (rc h_ascending_names hr tk (racons (rv 1) ranil)))))))
 rsnil)
 (rscons (rsif (st (rtcmp (okO_eq hr) ok_eq (rv 2) rstr))
 (rsone (rsret (se (rc h_rule_field hr tk (racons (rv 1) ranil)))))
 rsnil)
 (rscons (rsif (st (rtcmp (okO_eq hr) ok_eq (rv 2) rstr))
 (rsone (rsret (se (rc h_spans_field hr tk (racons (rv 1) ranil)))))
 rsnil)
 (rsone (rsret (se (rc h_shape_field hr tk (racons (rv 0) (racons (rv 1) ranil))))))))))))))))
theorem ok_row_fits (h_compare_ratios : Cal P w K mg base 1 "compare_ratios" f_compare_ratios) (m_len : mg "len" = none) (c_ONE : Cst K w mg "ONE" k_ONE) {f : Addr} {fd : FuncData} (F : FunD K "row_fits" "row_fits" (defArgs s_row_fits) (defBody s_row_fits) (defScope s_row_fits) [] [] f fd) :
    FnOk P w K mg base (L2.CX P w) 2 f fd P_row_fits (SpF K w mg f_row_fits) :=
  okD (k := 1) F sc_row_fits fun cdv A outer s H E hr => by
    have tk := takes_of (X := cxOf (L2.CX P w) P w K mg base N_row_fits "row_fits" (defScope s_row_fits) f cdv A outer s H E) rfl rfl rfl rfl
    exact
 (rscons (rsset (i := 1) sc_row_fits.nd (se (rixs (rv 0) rint)))
 (rscons (rsif (st (rtcmp (okO_eq hr) ok_eq (rv 1) rstr))
 (rsone (rsret (se (rcmp (op_le) (ok_cmp _) (rc h_compare_ratios hr tk (racons (rixs (rv 0) rint) (racons (rixs (rv 0) rint) ranil))) rint))))
 rsnil)
 (rscons (rsif (st (rtcmp (okO_eq hr) ok_eq (rv 1) rstr))
 (rsone (rsret (se (rcmp (op_le) (ok_cmp _) (rc h_compare_ratios hr tk (racons (rixs (rv 0) rint) (racons (rixs (rv 0) rint) ranil))) rint))))
 rsnil)
 (rscons (rsif (st (rtcmp (okO_eq hr) ok_eq (rv 1) rstr))
 (rsone (rsret (se (rand (rcmp (op_le) (ok_cmp _) (rixs (rv 0) rint) (rixs (rv 0) rint)) (rbone (rcmp (op_le) (ok_cmp _) (rixs (rv 0) rint) (rixs (rv 0) rint)))))))
 rsnil)
 (rscons (rsif (st (rtcmp (okO_eq hr) ok_eq (rv 1) rstr))
 (rsone (rsret (se (rcmp (okO_lt hr) ok_lt (rc h_compare_ratios hr tk (racons (rixs (rv 0) rint) (racons (rcst c_ONE) ranil))) rint))))
 rsnil)
 (rscons (rsif (st (rtcmp (okO_eq hr) ok_eq (rv 1) rstr))
 (rscons (rsset (i := 2) sc_row_fits.nd (se (rcb okO_len ok_len m_len (racons (rixs (rv 0) rint) ranil))))
 (rsone (rsret (se (rand (rcmp (okO_lt hr) ok_lt (rixs (rv 0) rint) (rv 2)) (rand (rcmp (okO_lt hr) ok_lt (rixs (rv 0) rint) (rv 2)) (rbone (rcmp (okO_ne hr) ok_ne (rixs (rv 0) rint) (rixs (rv 0) rint)))))))))
 rsnil)
 (rsone (rsret (se rbl)))))))))
theorem ok_is_book_row (h_is_field : Cal P w K mg base 13 "is_field" f_is_field) (h_is_name : Cal P w K mg base 1 "is_name" f_is_name) (h_is_string : Cal P w K mg base 1 "is_string" f_is_string) (h_row_fits : Cal P w K mg base 2 "row_fits" f_row_fits) (m_isinstance : mg "isinstance" = none) (m_len : mg "len" = none) (m_tuple : mg "tuple" = none) (m_zip : mg "zip" = none) (c_FIELDS : Cst K w mg "FIELDS" k_FIELDS) (c_KIND_NAMES : Cst K w mg "KIND_NAMES" k_KIND_NAMES) {f : Addr} {fd : FuncData} (F : FunD K "is_book_row" "is_book_row" (defArgs s_is_book_row) (defBody s_is_book_row) (defScope s_is_book_row) [] [] f fd) :
    FnOk P w K mg base (L2.CX P w) 14 f fd P_is_book_row (SpF K w mg f_is_book_row) :=
  okD (k := 13) F sc_is_book_row fun cdv A outer s H E hr => by
    have tk := takes_of (X := cxOf (L2.CX P w) P w K mg base N_is_book_row "is_book_row" (defScope s_is_book_row) f cdv A outer s H E) rfl rfl rfl rfl
    exact
 (rscons (rsif (st (rtw (rwor (rtnot (rt (risi (T := "tuple") (by decide) m_isinstance m_tuple (rv 0)))) (rwo1 (rtcmp (okO_lt hr) ok_lt (rcb okO_len ok_len m_len (racons (rv 0) ranil)) rint)))))
 (rsone (rsret (se rbl)))
 rsnil)
 (rscons (rsif (st (rtw (rwor (rtnot (rt (rc h_is_string hr tk (racons (rixs (rv 0) rint) ranil)))) (rwor (rtcmp (opo_notin hr) ok_notin (rixs (rv 0) rint) (rcst c_KIND_NAMES)) (rwo1 (rtnot (rt (rc h_is_name hr tk (racons (rixs (rv 0) rint) ranil)))))))))
 (rsone (rsret (se rbl)))
 rsnil)
 (rscons (rsset (i := 1) sc_is_book_row.nd (se (rixd (rcst c_FIELDS) (rixs (rv 0) rint))))
 (rscons (rsif (st (rtcmp (okO_ne hr) ok_ne (rcb okO_len ok_len m_len (racons (rv 0) ranil)) (radd (rcb okO_len ok_len m_len (racons (rv 1) ranil)) rint)))
 (rsone (rsret (se rbl)))
 rsnil)
 (rscons (rsfor (rizip m_zip (rv 1) (rsl (rv 0) (rpsome rint) rpnone)) (rgtup rfl (rgcons (rgn 2 sc_is_book_row.nd) (rgcons (rgn 3 sc_is_book_row.nd) rgnil)))
 (rsone (rsif (st (rtnot (rt (rc h_is_field hr tk (racons (rv 2) (racons (rv 3) ranil))))))
 (rsone (rsret (se rbl)))
 rsnil)) (passes_of rfl))
 (rsone (rsret (se (rc h_row_fits hr tk (racons (rv 0) ranil))))))))))
theorem ok_is_edit (h_is_book_row : Cal P w K mg base 14 "is_book_row" f_is_book_row) (h_is_name : Cal P w K mg base 1 "is_name" f_is_name) (h_is_row : Cal P w K mg base 1 "is_row" f_is_row) (h_is_string : Cal P w K mg base 1 "is_string" f_is_string) (c_KIND_NAMES : Cst K w mg "KIND_NAMES" k_KIND_NAMES) {f : Addr} {fd : FuncData} (F : FunD K "is_edit" "is_edit" (defArgs s_is_edit) (defBody s_is_edit) (defScope s_is_edit) [] [] f fd) :
    FnOk P w K mg base (L2.CX P w) 15 f fd P_is_edit (SpF K w mg f_is_edit) :=
  okD (k := 14) F sc_is_edit fun cdv A outer s H E hr => by
    have tk := takes_of (X := cxOf (L2.CX P w) P w K mg base N_is_edit "is_edit" (defScope s_is_edit) f cdv A outer s H E) rfl rfl rfl rfl
    exact
 (rscons (rsif (st (rt (rc h_is_row hr tk (racons rint (racons (rv 0) ranil)))))
 (rsone (rsret (se (rand (rcmp (okO_eq hr) ok_eq (rixs (rv 0) rint) rstr) (rbone (rc h_is_book_row hr tk (racons (rixs (rv 0) rint) ranil)))))))
 rsnil)
 (rscons (rsif (st (rtw (rwor (rtnot (rt (rc h_is_row hr tk (racons rint (racons (rv 0) ranil))))) (rwo1 (rtcmp (okO_ne hr) ok_ne (rixs (rv 0) rint) rstr)))))
 (rsone (rsret (se rbl)))
 rsnil)
 (rsone (rsret (se (rand (rc h_is_string hr tk (racons (rixs (rv 0) rint) ranil)) (rand (rcmp (opo_in hr) ok_in (rixs (rv 0) rint) (rcst c_KIND_NAMES)) (rbone (rc h_is_name hr tk (racons (rixs (rv 0) rint) ranil))))))))))
theorem ok__law_forms (h_is_edit : Cal P w K mg base 15 "is_edit" f_is_edit) (m_len : mg "len" = none) (m_list : mg "list" = none) {f : Addr} {fd : FuncData} (F : FunD K "_law_forms" "_law_forms" (defArgs s__law_forms) (defBody s__law_forms) (defScope s__law_forms) [] [] f fd) :
    FnOk P w K mg base (L2.CX P w) 16 f fd P__law_forms (SpF K w mg f__law_forms) :=
  okD (k := 15) F sc__law_forms fun cdv A outer s H E hr => by
    have tk := takes_of (X := cxOf (L2.CX P w) P w K mg base N__law_forms "_law_forms" (defScope s__law_forms) f cdv A outer s H E) rfl rfl rfl rfl
    exact
 (rscons (rsset (i := 1) sc__law_forms.nd (se (rlst (racons (rct call_list_of ok_list m_list (racons (rv 0) ranil)) (racons (rsl (rv 0) rpnone (rpsome rint)) (racons (radd (rv 0) (rtup (racons rint ranil))) (racons (radd (rtup (racons rstr ranil)) (rsl (rv 0) (rpsome rint) rpnone)) (racons (radd (rtup (racons rint ranil)) (rsl (rv 0) (rpsome rint) rpnone)) (racons rnone (racons (rtup (racons rstr (racons rstr ranil))) (racons (rtup (racons rstr (racons rstr (racons rstr ranil)))) ranil)))))))))))
 (rscons (rsset (i := 1) sc__law_forms.nd (se (radd (rv 1) (rlst (racons (rtup (racons rstr (racons rstr (racons rstr ranil)))) (racons (rtup (racons rstr (racons rnone ranil))) (racons (rtup (racons rstr (racons (rtup (racons rstr (racons rstr ranil))) ranil))) (racons (rtup (racons rstr (racons rstr (racons rstr ranil)))) (racons (rtup (racons rstr (racons rnone (racons rstr ranil)))) ranil)))))))))
 (rsone (rsret (se (rcmp (okO_eq hr) ok_eq (rcb okO_len ok_len m_len (racons (rfz (rlc (Lc.mk (own := [("row", 2)]) (riseq (rv 1)) (blkOk_by (N := N__law_forms) (sc := defScope s__law_forms) (by decide +kernel)) (fun _ _ _ _ _ => (rgn 2 sc__law_forms.nd)) (fun _ _ _ _ _ => (pts_if (rtcmp (okO_isnot) ok_isnot (rc h_is_edit hr tk0 (racons (rv 2) ranil)) rbl))) (fun _ _ _ _ _ => (rv 2)) (by decide)) sc__law_forms.nd)) ranil)) rint))))))
theorem ok_row_key  {f : Addr} {fd : FuncData} (F : FunD K "row_key" "row_key" (defArgs s_row_key) (defBody s_row_key) (defScope s_row_key) [] [] f fd) :
    FnOk P w K mg base (L2.CX P w) 1 f fd P_row_key (SpF K w mg f_row_key) :=
  okD (k := 0) F sc_row_key fun cdv A outer s H E hr => by
    have tk := takes_of (X := cxOf (L2.CX P w) P w K mg base N_row_key "row_key" (defScope s_row_key) f cdv A outer s H E) rfl rfl rfl rfl
    exact
 (rsone (rsret (se (rtup (racons (rixs (rv 0) rint) (racons (rixs (rv 0) rint) ranil))))))
theorem ok_edit_key (h_row_key : Cal P w K mg base 1 "row_key" f_row_key) {f : Addr} {fd : FuncData} (F : FunD K "edit_key" "edit_key" (defArgs s_edit_key) (defBody s_edit_key) (defScope s_edit_key) [] [] f fd) :
    FnOk P w K mg base (L2.CX P w) 2 f fd P_edit_key (SpF K w mg f_edit_key) :=
  okD (k := 1) F sc_edit_key fun cdv A outer s H E hr => by
    have tk := takes_of (X := cxOf (L2.CX P w) P w K mg base N_edit_key "edit_key" (defScope s_edit_key) f cdv A outer s H E) rfl rfl rfl rfl
    exact
 (rscons (rsif (st (rtcmp (okO_eq hr) ok_eq (rixs (rv 0) rint) rstr))
 (rsone (rsret (se (rc h_row_key hr tk (racons (rixs (rv 0) rint) ranil)))))
 rsnil)
 (rsone (rsret (se (rtup (racons (rixs (rv 0) rint) (racons (rixs (rv 0) rint) ranil)))))))
theorem ok_find_row (x_Unknown : Ex1 P K mg "Unknown" "name") {f : Addr} {fd : FuncData} (F : FunD K "find_row" "find_row" (defArgs s_find_row) (defBody s_find_row) (defScope s_find_row) [] [] f fd) :
    FnOk P w K mg base (L2.CX P w) 1 f fd P_find_row (SpF K w mg f_find_row) :=
  okD (k := 0) F sc_find_row fun cdv A outer s H E hr => by
    have tk := takes_of (X := cxOf (L2.CX P w) P w K mg base N_find_row "find_row" (defScope s_find_row) f cdv A outer s H E) rfl rfl rfl rfl
    exact
 (rscons (rsfor (riseq (rv 0)) (rgn 3 sc_find_row.nd)
 (rsone (rsif (st (rtw (rwand (rtcmp (okO_eq hr) ok_eq (rixs (rv 3) rint) (rv 1)) (rw1 (rtcmp (okO_eq hr) ok_eq (rixs (rv 3) rint) (rv 2))))))
 (rsone (rsret (se (rv 3))))
 rsnil)) (passes_of rfl))
 (rsone (rsraise1 x_Unknown hr tk (se (rv 2)))))
theorem ok_has_row  {f : Addr} {fd : FuncData} (F : FunD K "has_row" "has_row" (defArgs s_has_row) (defBody s_has_row) (defScope s_has_row) [] [] f fd) :
    FnOk P w K mg base (L2.CX P w) 1 f fd P_has_row (SpF K w mg f_has_row) :=
  okD (k := 0) F sc_has_row fun cdv A outer s H E hr => by
    have tk := takes_of (X := cxOf (L2.CX P w) P w K mg base N_has_row "has_row" (defScope s_has_row) f cdv A outer s H E) rfl rfl rfl rfl
    exact
 (rscons (rsfor (riseq (rv 0)) (rgn 3 sc_has_row.nd)
 (rsone (rsif (st (rtw (rwand (rtcmp (okO_eq hr) ok_eq (rixs (rv 3) rint) (rv 1)) (rw1 (rtcmp (okO_eq hr) ok_eq (rixs (rv 3) rint) (rv 2))))))
 (rsone (rsret (se rbl)))
 rsnil)) (passes_of rfl))
 (rsone (rsret (se rbl))))
theorem ok_kind_rows (m_tuple : mg "tuple" = none) {f : Addr} {fd : FuncData} (F : FunD K "kind_rows" "kind_rows" (defArgs s_kind_rows) (defBody s_kind_rows) (defScope s_kind_rows) [] [] f fd) :
    FnOk P w K mg base (L2.CX P w) 1 f fd P_kind_rows (SpF K w mg f_kind_rows) :=
  okD (k := 0) F sc_kind_rows fun cdv A outer s H E hr => by
    have tk := takes_of (X := cxOf (L2.CX P w) P w K mg base N_kind_rows "kind_rows" (defScope s_kind_rows) f cdv A outer s H E) rfl rfl rfl rfl
    exact
 (rsone (rsret (se (rct call_tuple_of ok_tuple m_tuple (racons (rfz (rlc (Lc.mk (own := [("row", 2)]) (riseq (rv 0)) (blkOk_by (N := N_kind_rows) (sc := defScope s_kind_rows) (by decide +kernel)) (fun _ _ _ _ _ => (rgn 2 sc_kind_rows.nd)) (fun _ _ _ _ _ => (pts_if (rtcmp (okO_eq hr) ok_eq (rixs (rv 2) rint) (rv 1)))) (fun _ _ _ _ _ => (rv 2)) (by decide)) sc_kind_rows.nd)) ranil)))))
theorem ok_put_into (h_row_key : Cal P w K mg base 1 "row_key" f_row_key) (m_tuple : mg "tuple" = none) {f : Addr} {fd : FuncData} (F : FunD K "put_into" "put_into" (defArgs s_put_into) (defBody s_put_into) (defScope s_put_into) [] [] f fd) :
    FnOk P w K mg base (L2.CX P w) 2 f fd P_put_into (SpF K w mg f_put_into) :=
  okD (k := 1) F sc_put_into fun cdv A outer s H E hr => by
    have tk := takes_of (X := cxOf (L2.CX P w) P w K mg base N_put_into "put_into" (defScope s_put_into) f cdv A outer s H E) rfl rfl rfl rfl
    exact
 (rscons (rslaylc (i := 2) (Lc.mk (own := [("old", 4)]) (riseq (rv 0)) (blkOk_by (N := N_put_into) (sc := defScope s_put_into) (by decide +kernel)) (fun _ _ _ _ _ => (rgn 4 sc_put_into.nd)) (fun _ _ _ _ _ => (pts_if (rtcmp (okO_lt hr) ok_lt (rc h_row_key hr tk0 (racons (rv 4) ranil)) (rc h_row_key hr tk0 (racons (rv 1) ranil))))) (fun _ _ _ _ _ => (rv 4)) (by decide)) sc_put_into.nd)
 (rscons (rslaylc (i := 3) (Lc.mk (own := [("old", 4)]) (riseq (rv 0)) (blkOk_by (N := N_put_into) (sc := defScope s_put_into) (by decide +kernel)) (fun _ _ _ _ _ => (rgn 4 sc_put_into.nd)) (fun _ _ _ _ _ => (pts_if (rtcmp (okO_lt hr) ok_lt (rc h_row_key hr tk0 (racons (rv 1) ranil)) (rc h_row_key hr tk0 (racons (rv 4) ranil))))) (fun _ _ _ _ _ => (rv 4)) (by decide)) sc_put_into.nd)
 (rsone (rsret (se (rct call_tuple_of ok_tuple m_tuple (racons (radd (radd (rv 2) (rlst (racons (rv 1) ranil))) (rv 3)) ranil)))))))
theorem ok_apply_edit (h_edit_key : Cal P w K mg base 2 "edit_key" f_edit_key) (h_find_row : Cal P w K mg base 1 "find_row" f_find_row) (h_has_row : Cal P w K mg base 1 "has_row" f_has_row) (h_kind_rows : Cal P w K mg base 1 "kind_rows" f_kind_rows) (h_put_into : Cal P w K mg base 2 "put_into" f_put_into) (h_row_key : Cal P w K mg base 1 "row_key" f_row_key) (m_len : mg "len" = none) (m_tuple : mg "tuple" = none) (c_MOST_ROWS : Cst K w mg "MOST_ROWS" k_MOST_ROWS) (x_OutOfRange : Ex0 K mg "OutOfRange") {f : Addr} {fd : FuncData} (F : FunD K "apply_edit" "apply_edit" (defArgs s_apply_edit) (defBody s_apply_edit) (defScope s_apply_edit) [] [] f fd) :
    FnOk P w K mg base (L2.CX P w) 3 f fd P_apply_edit (SpF K w mg f_apply_edit) :=
  okD (k := 2) F sc_apply_edit fun cdv A outer s H E hr => by
    have tk := takes_of (X := cxOf (L2.CX P w) P w K mg base N_apply_edit "apply_edit" (defScope s_apply_edit) f cdv A outer s H E) rfl rfl rfl rfl
    exact
 (rscons (rssett (se (rc h_edit_key hr tk (racons (rv 1) ranil))) (rgtup rfl (rgcons (rgn 2 sc_apply_edit.nd) (rgcons (rgn 3 sc_apply_edit.nd) rgnil))))
 (rscons (rsif (st (rtcmp (okO_eq hr) ok_eq (rixs (rv 1) rint) rstr))
 (rscons (rsdrop (se (rc h_find_row hr tk (racons (rv 0) (racons (rv 2) (racons (rv 3) ranil))))))
 (rsone (rsret (se (rct call_tuple_of ok_tuple m_tuple (racons (rfz (rlc (Lc.mk (own := [("row", 4)]) (riseq (rv 0)) (blkOk_by (N := N_apply_edit) (sc := defScope s_apply_edit) (by decide +kernel)) (fun _ _ _ _ _ => (rgn 4 sc_apply_edit.nd)) (fun _ _ _ _ _ => (pts_if (rtcmp (okO_ne hr) ok_ne (rc h_row_key hr tk0 (racons (rv 4) ranil)) (rtup (racons (rv 2) (racons (rv 3) ranil)))))) (fun _ _ _ _ _ => (rv 4)) (by decide)) sc_apply_edit.nd)) ranil))))))
 rsnil)
 (rscons (rsif (st (rtw (rwand (rtnot (rt (rc h_has_row hr tk (racons (rv 0) (racons (rv 2) (racons (rv 3) ranil)))))) (rw1 (rtcmp (op_ge) (ok_cmp _) (rcb okO_len ok_len m_len (racons (rc h_kind_rows hr tk (racons (rv 0) (racons (rv 2) ranil))) ranil)) (rcst c_MOST_ROWS))))))
 (rsone (rsraise0 x_OutOfRange tk))
 rsnil)
 (rsone (rsret (se (rc h_put_into hr tk (racons (rv 0) (racons (rixs (rv 1) rint) ranil)))))))))
theorem ok_apply_edits (h_apply_edit : Cal P w K mg base 3 "apply_edit" f_apply_edit) {f : Addr} {fd : FuncData} (F : FunD K "apply_edits" "apply_edits" (defArgs s_apply_edits) (defBody s_apply_edits) (defScope s_apply_edits) [] [] f fd) :
    FnOk P w K mg base (L2.CX P w) 4 f fd P_apply_edits (SpF K w mg f_apply_edits) :=
  okD (k := 3) F sc_apply_edits fun cdv A outer s H E hr => by
    have tk := takes_of (X := cxOf (L2.CX P w) P w K mg base N_apply_edits "apply_edits" (defScope s_apply_edits) f cdv A outer s H E) rfl rfl rfl rfl
    exact
 (rscons (rsfor (riseq (rv 1)) (rgn 2 sc_apply_edits.nd)
 (rsone (rsset (i := 0) sc_apply_edits.nd (se (rc h_apply_edit hr tk (racons (rv 0) (racons (rv 2) ranil)))))) (passes_of rfl))
 (rsone (rsret (se (rv 0)))))
theorem ok_undo_edit (h_apply_edit : Cal P w K mg base 3 "apply_edit" f_apply_edit) (h_edit_key : Cal P w K mg base 2 "edit_key" f_edit_key) (h_find_row : Cal P w K mg base 1 "find_row" f_find_row) (h_has_row : Cal P w K mg base 1 "has_row" f_has_row) {f : Addr} {fd : FuncData} (F : FunD K "undo_edit" "undo_edit" (defArgs s_undo_edit) (defBody s_undo_edit) (defScope s_undo_edit) [] [] f fd) :
    FnOk P w K mg base (L2.CX P w) 4 f fd P_undo_edit (SpF K w mg f_undo_edit) :=
  okD (k := 3) F sc_undo_edit fun cdv A outer s H E hr => by
    have tk := takes_of (X := cxOf (L2.CX P w) P w K mg base N_undo_edit "undo_edit" (defScope s_undo_edit) f cdv A outer s H E) rfl rfl rfl rfl
    exact
 (rscons (rsdrop (se (rc h_apply_edit hr tk (racons (rv 0) (racons (rv 1) ranil)))))
 (rscons (rssett (se (rc h_edit_key hr tk (racons (rv 1) ranil))) (rgtup rfl (rgcons (rgn 2 sc_undo_edit.nd) (rgcons (rgn 3 sc_undo_edit.nd) rgnil))))
 (rscons (rsif (st (rt (rc h_has_row hr tk (racons (rv 0) (racons (rv 2) (racons (rv 3) ranil))))))
 (rsone (rsret (se (rtup (racons rstr (racons (rc h_find_row hr tk (racons (rv 0) (racons (rv 2) (racons (rv 3) ranil)))) ranil))))))
 rsnil)
 (rsone (rsret (se (rtup (racons rstr (racons (rv 2) (racons (rv 3) ranil))))))))))
theorem ok__law_raised (h_apply_edit : Cal P w K mg base 3 "apply_edit" f_apply_edit) (h_apply_edits : Cal P w K mg base 4 "apply_edits" f_apply_edits) (h_undo_edit : Cal P w K mg base 4 "undo_edit" f_undo_edit) (m_int : mg "int" = none) (m_isinstance : mg "isinstance" = none) (m_range : mg "range" = none) (e_F : FdT K mg k_F) (e_T : ExT K mg k_T) {f : Addr} {fd : FuncData} (F : FunD K "_law_raised" "_law_raised" (defArgs s__law_raised) (defBody s__law_raised) (defScope s__law_raised) [] [] f fd) :
    FnOk P w K mg base (L2.CX P w) 5 f fd P__law_raised (SpF K w mg f__law_raised) :=
  okD (k := 4) F sc__law_raised fun cdv A outer s H E hr => by
    have tk := takes_of (X := cxOf (L2.CX P w) P w K mg base N__law_raised "_law_raised" (defScope s__law_raised) f cdv A outer s H E) rfl rfl rfl rfl
    exact
 (rscons (rsown (i := 2) sc__law_raised.nd (sf (rflst ranil)))
 (rscons (rsfor (rirange1 m_range rint) (rgn 3 sc__law_raised.nd)
 (rsone (rstry e_T rfl rfl sc__law_raised.nd tk (fun _ _ _ tk pz => (rscons (rsif (st (rtcmp (okO_eq hr) ok_eq (rv 3) rint))
 (rsone (rsdrop (se (rc h_apply_edit hr tk (racons (rv 0) (racons (rv 1) ranil))))))
 (rsone (rsif (st (rtcmp (okO_eq hr) ok_eq (rv 3) rint))
 (rsone (rsdrop (se (rc h_undo_edit hr tk (racons (rv 0) (racons (rv 1) ranil))))))
 (rsone (rsdrop (se (rc h_apply_edits hr tk (racons (rv 0) (racons (rtup (racons (rv 1) (racons (rv 1) ranil))) ranil)))))))))
 (rsone (rsapp (i := 2) (se rstr)))))
 (.named (by decide) (by rfl) (by decide) (by rfl) (by rfl) (by rfl) (fun _ _ _ _ _ er hz hf => (rsone (rsapp (i := 2) (se (refx e_F hz hf)))))
 (.named (by decide) (by rfl) (by decide) (by rfl) (by rfl) (by rfl) (fun _ _ _ _ _ er hz hf => (rsone (rsapp (i := 2) (se (rixs (rlst (racons rstr (racons rstr ranil))) (rct call_int1 ok_int m_int (racons (risx e_T m_isinstance hz hf) ranil)))))))
 .nil)))) (passes_of rfl))
 (rsone (rsfrz 2 (rsret (se (rv 2)))))))
theorem on__law_same {j : Nat} (hj : 0 ≤ j) {f__law_same : List D → Res D} (h__law_same : Cal P w K mg base j "_law_same" f__law_same) (m_bool : mg "bool" = none) (m_int : mg "int" = none) (m_isinstance : mg "isinstance" = none) (m_len : mg "len" = none) (m_range : mg "range" = none) (m_str : mg "str" = none) (m_tuple : mg "tuple" = none) {f : Addr} {fd : FuncData} (F : FunD K "_law_same" "_law_same" (defArgs s__law_same) (defBody s__law_same) (defScope s__law_same) [] [] f fd) :
    FnOk P w K mg base (L2.CX P w) (j + 1) f fd P__law_same (SpF K w mg (fD P__law_same.length N__law_same.length (b__law_same f__law_same))) :=
  okD (k := j) F sc__law_same fun cdv A outer s H E hr => by
    have tk := takes_of (X := cxOf (L2.CX P w) P w K mg base N__law_same "_law_same" (defScope s__law_same) f cdv A outer s H E) rfl rfl rfl rfl
    exact
 (rscons (rsif (st (rt (risi (T := "tuple") (by decide) m_isinstance m_tuple (rv 1))))
 (rscons (rsif (st (rtw (rwor (rtnot (rt (risi (T := "tuple") (by decide) m_isinstance m_tuple (rv 0)))) (rwo1 (rtcmp (okO_ne hr) ok_ne (rcb okO_len ok_len m_len (racons (rv 0) ranil)) (rcb okO_len ok_len m_len (racons (rv 1) ranil)))))))
 (rsone (rsret (se rbl)))
 rsnil)
 (rsone (rsret (se (rcmp (okO_eq hr) ok_eq (rcb okO_len ok_len m_len (racons (rfz (rlc (Lc.mk (own := [("k", 2)]) (rirange1 m_range (rcb okO_len ok_len m_len (racons (rv 1) ranil))) (blkOk_by (N := N__law_same) (sc := defScope s__law_same) (by decide +kernel)) (fun _ _ _ _ _ => (rgn 2 sc__law_same.nd)) (fun _ _ _ _ _ => (pts_if (rtnot (rt (rc h__law_same hr tk0 (racons (rixs (rv 0) (rv 2)) (racons (rixs (rv 1) (rv 2)) ranil)) (hk := Nat.le_refl _)))))) (fun _ _ _ _ _ => (rv 2)) (by decide)) sc__law_same.nd)) ranil)) rint)))))
 rsnil)
 (rscons (rsif (st (rtw (rwor (rt (risi (T := "bool") (by decide) m_isinstance m_bool (rv 1))) (rwo1 (rt (risi (T := "bool") (by decide) m_isinstance m_bool (rv 0)))))))
 (rsone (rsret (se (rand (risi (T := "bool") (by decide) m_isinstance m_bool (rv 0)) (rand (risi (T := "bool") (by decide) m_isinstance m_bool (rv 1)) (rbone (rcmp (okO_eq hr) ok_eq (rv 0) (rv 1))))))))
 rsnil)
 (rscons (rsif (st (rt (risi (T := "str") (by decide) m_isinstance m_str (rv 1))))
 (rsone (rsret (se (rand (risi (T := "str") (by decide) m_isinstance m_str (rv 0)) (rbone (rcmp (okO_eq hr) ok_eq (rv 0) (rv 1)))))))
 rsnil)
 (rscons (rsif (st (rtcmp (okO_is) ok_is (rv 1) rnone))
 (rsone (rsret (se (rcmp (okO_is) ok_is (rv 0) rnone))))
 rsnil)
 (rsone (rsret (se (rand (risi (T := "int") (by decide) m_isinstance m_int (rv 0)) (rbone (rcmp (okO_eq hr) ok_eq (rv 0) (rv 1)))))))))))
theorem ok__law_same (m_bool : mg "bool" = none) (m_int : mg "int" = none) (m_isinstance : mg "isinstance" = none) (m_len : mg "len" = none) (m_range : mg "range" = none) (m_str : mg "str" = none) (m_tuple : mg "tuple" = none) {f : Addr} {fd : FuncData} (F : FunD K "_law_same" "_law_same" (defArgs s__law_same) (defBody s__law_same) (defScope s__law_same) [] [] f fd) (g : mg "_law_same" = some (.ref f)) (b : Binds K fd P__law_same []) : ∀ n : Nat, FnOk P w K mg base (L2.CX P w) (0 + n) f fd P__law_same (SpF K w mg (F__law_same n))
  | 0 => okNo
  | n + 1 => on__law_same (Nat.le_add_right _ _) ⟨f, fd, P__law_same, ok__law_same m_bool m_int m_isinstance m_len m_range m_str m_tuple F g b n, g, F.kp, b⟩ m_bool m_int m_isinstance m_len m_range m_str m_tuple F
theorem ok__law_step (h__law_after : Cal P w K mg base 3 "_law_after" f__law_after) (h__law_find : Cal P w K mg base 1 "_law_find" f__law_find) (h__law_same : Cal P w K mg base 12 "_law_same" f__law_same) (h_apply_edit : Cal P w K mg base 3 "apply_edit" f_apply_edit) (h_is_edit : Cal P w K mg base 15 "is_edit" f_is_edit) (h_undo_edit : Cal P w K mg base 4 "undo_edit" f_undo_edit) (m_tuple : mg "tuple" = none) {f : Addr} {fd : FuncData} (F : FunD K "_law_step" "_law_step" (defArgs s__law_step) (defBody s__law_step) (defScope s__law_step) [] [] f fd) :
    FnOk P w K mg base (L2.CX P w) 16 f fd P__law_step (SpF K w mg f__law_step) :=
  okD (k := 15) F sc__law_step fun cdv A outer s H E hr => by
    have tk := takes_of (X := cxOf (L2.CX P w) P w K mg base N__law_step "_law_step" (defScope s__law_step) f cdv A outer s H E) rfl rfl rfl rfl
    exact
 (rscons (rsset (i := 2) sc__law_step.nd (se (rct call_tuple_of ok_tuple m_tuple (racons (rv 0) ranil))))
 (rscons (rsset (i := 3) sc__law_step.nd (se (rc h__law_after hr tk (racons (rv 0) (racons (rv 1) ranil)))))
 (rscons (rsif (st (rtw (rwor (rtnot (rt (rc h__law_same hr tk (racons (rc h_apply_edit hr tk (racons (rv 2) (racons (rv 1) ranil))) (racons (rct call_tuple_of ok_tuple m_tuple (racons (rv 3) ranil)) ranil))))) (rwo1 (rtcmp (okO_isnot) ok_isnot (rc h_is_edit hr tk (racons (rv 1) ranil)) rbl)))))
 (rsone (rsret (se rbl)))
 rsnil)
 (rscons (rsset (i := 4) sc__law_step.nd (se (rc h_undo_edit hr tk (racons (rv 2) (racons (rv 1) ranil)))))
 (rscons (rsset (i := 5) sc__law_step.nd (se (rsl (rv 1) (rpsome rint) rpnone)))
 (rscons (rsif (st (rtcmp (okO_eq hr) ok_eq (rixs (rv 1) rint) rstr))
 (rsone (rsset (i := 5) sc__law_step.nd (se (rsl (rixs (rv 1) rint) rpnone (rpsome rint)))))
 rsnil)
 (rscons (rsset (i := 6) sc__law_step.nd (se (rc h__law_find hr tk (racons (rv 0) (racons (rixs (rv 5) rint) (racons (rixs (rv 5) rint) ranil))))))
 (rscons (rsset (i := 7) sc__law_step.nd (se (rtup (racons rstr (racons (rv 6) ranil)))))
 (rscons (rsif (st (rtcmp (okO_is) ok_is (rv 6) rnone))
 (rsone (rsset (i := 7) sc__law_step.nd (se (rtup (racons rstr (racons (rixs (rv 5) rint) (racons (rixs (rv 5) rint) ranil)))))))
 rsnil)
 (rsone (rsret (se (rand (rc h__law_same hr tk (racons (rv 4) (racons (rv 7) ranil))) (rbone (rc h__law_same hr tk (racons (rc h_apply_edit hr tk (racons (rct call_tuple_of ok_tuple m_tuple (racons (rv 3) ranil)) (racons (rv 4) ranil))) (racons (rv 2) ranil)))))))))))))))))
theorem ok__law_full (h__law_placed : Cal P w K mg base 2 "_law_placed" f__law_placed) (h__law_raised : Cal P w K mg base 5 "_law_raised" f__law_raised) (h__law_step : Cal P w K mg base 16 "_law_step" f__law_step) (m_range : mg "range" = none) (m_tuple : mg "tuple" = none) {f : Addr} {fd : FuncData} (F : FunD K "_law_full" "_law_full" (defArgs s__law_full) (defBody s__law_full) (defScope s__law_full) [] [] f fd) :
    FnOk P w K mg base (L2.CX P w) 17 f fd P__law_full (SpF K w mg f__law_full) :=
  okD (k := 16) F sc__law_full fun cdv A outer s H E hr => by
    have tk := takes_of (X := cxOf (L2.CX P w) P w K mg base N__law_full "_law_full" (defScope s__law_full) f cdv A outer s H E) rfl rfl rfl rfl
    exact
 (rscons (rslaylc (i := 2) (Lc.mk (own := [("row", 5)]) (riseq (rv 0)) (blkOk_by (N := N__law_full) (sc := defScope s__law_full) (by decide +kernel)) (fun _ _ _ _ _ => (rgn 5 sc__law_full.nd)) (fun _ _ _ _ _ => (pts_if (rtcmp (okO_ne hr) ok_ne (rixs (rv 5) rint) rstr))) (fun _ _ _ _ _ => (rv 5)) (by decide)) sc__law_full.nd)
 (rscons (rsfor (rirange1 m_range rint) (rgn 3 sc__law_full.nd)
 (rsone (rsset (i := 2) sc__law_full.nd (se (rc h__law_placed hr tk (racons (rv 2) (racons (rtup (racons rstr (racons (rixs rstr (rv 3)) (racons (rmod (rv 3) rint) (racons (rmod (rv 1) rint) ranil))))) ranil)))))) (passes_of rfl))
 (rscons (rsset (i := 4) sc__law_full.nd (se (rtup (racons rstr (racons (rtup (racons rstr (racons (radd (rixs rstr (rmod (rv 1) rint)) rstr) (racons rint (racons rint ranil))))) ranil)))))
 (rscons (rsif (st (rtcmp (okO_ne hr) ok_ne (rc h__law_raised hr tk (racons (rct call_tuple_of ok_tuple m_tuple (racons (rv 2) ranil)) (racons (rv 4) ranil))) (rlst (racons rstr (racons rstr (racons rstr ranil))))))
 (rsone (rsret (se rbl)))
 rsnil)
 (rsone (rsret (se (rand (rc h__law_step hr tk (racons (rv 2) (racons (rtup (racons rstr (racons (rtup (racons rstr (racons (rixs rstr (rmod (rv 1) rint)) (racons rint (racons rint ranil))))) ranil))) ranil))) (rbone (rc h__law_step hr tk (racons (rv 2) (racons (rtup (racons rstr (racons (rtup (racons rstr (racons rstr (racons rint (racons rint ranil))))) ranil))) ranil))))))))))))
theorem ok__law_name  {f : Addr} {fd : FuncData} (F : FunD K "_law_name" "_law_name" (defArgs s__law_name) (defBody s__law_name) (defScope s__law_name) [] [] f fd) :
    FnOk P w K mg base (L2.CX P w) 1 f fd P__law_name (SpF K w mg f__law_name) :=
  okD (k := 0) F sc__law_name fun cdv A outer s H E hr => by
    have tk := takes_of (X := cxOf (L2.CX P w) P w K mg base N__law_name "_law_name" (defScope s__law_name) f cdv A outer s H E) rfl rfl rfl rfl
    exact
 (rscons (rsset (i := 1) sc__law_name.nd (se rstr))
 (rsone (rsret (se (radd (rixs (rv 1) (rmod (rv 0) rint)) (rixs (rlst (racons rstr (racons rstr (racons rstr (racons rstr ranil))))) (rmod (rdiv (rv 0) rint) rint)))))))
theorem ok__law_names (h__law_name : Cal P w K mg base 1 "_law_name" f__law_name) (m_range : mg "range" = none) {f : Addr} {fd : FuncData} (F : FunD K "_law_names" "_law_names" (defArgs s__law_names) (defBody s__law_names) (defScope s__law_names) [] [] f fd) :
    FnOk P w K mg base (L2.CX P w) 2 f fd P__law_names (SpF K w mg f__law_names) :=
  okD (k := 1) F sc__law_names fun cdv A outer s H E hr => by
    have tk := takes_of (X := cxOf (L2.CX P w) P w K mg base N__law_names "_law_names" (defScope s__law_names) f cdv A outer s H E) rfl rfl rfl rfl
    exact
 (rsone (rsret (se (rfz (rlc (Lc.mk (own := [("k", 1)]) (rirange1 m_range rint) (blkOk_by (N := N__law_names) (sc := defScope s__law_names) (by decide +kernel)) (fun _ _ _ _ _ => (rgn 1 sc__law_names.nd)) (fun _ _ _ _ _ => pts_yes) (fun _ _ _ _ _ => (radd (rc h__law_name hr tk0 (racons (rixs (rv 0) (rv 1)) ranil)) (rixs rstr (rv 1)))) (by decide)) sc__law_names.nd)))))
theorem ok__law_numbers (m_int : mg "int" = none) (m_len : mg "len" = none) (m_range : mg "range" = none) {f : Addr} {fd : FuncData} (F : FunD K "_law_numbers" "_law_numbers" (defArgs s__law_numbers) (defBody s__law_numbers) (defScope s__law_numbers) [] [] f fd) :
    FnOk P w K mg base (L2.CX P w) 1 f fd P__law_numbers (SpF K w mg f__law_numbers) :=
  okD (k := 0) F sc__law_numbers fun cdv A outer s H E hr => by
    have tk := takes_of (X := cxOf (L2.CX P w) P w K mg base N__law_numbers "_law_numbers" (defScope s__law_numbers) f cdv A outer s H E) rfl rfl rfl rfl
    exact
 (rscons (rsownlc (i := 2) (Lc.mk (own := [("cell", 9)]) (riseq (rsl (rv 0) rpnone (rpsome rint))) (blkOk_by (N := N__law_numbers) (sc := defScope s__law_numbers) (by decide +kernel)) (fun _ _ _ _ _ => (rgn 9 sc__law_numbers.nd)) (fun _ _ _ _ _ => pts_yes) (fun _ _ _ _ _ => (rct call_int1 ok_int m_int (racons (rv 9) ranil))) (by decide)) sc__law_numbers.nd)
 (rscons (rsif (stb (rtcmp (okO_eq hr) ok_eq (rcb okO_len ok_len m_len (racons (rv 2) ranil)) rint))
 (rsone (rsown (i := 2) sc__law_numbers.nd (sf (rflst (racons rint ranil)))))
 rsnil)
 (rscons (rsset (i := 3) sc__law_numbers.nd (seb (rcb okO_len ok_len m_len (racons (rv 2) ranil))))
 (rscons (rslaylcb (i := 4) (Lc.mk (own := [("cell", 9)]) (riseq (rv 2)) (blkOk_by (N := N__law_numbers) (sc := defScope s__law_numbers) (by decide +kernel)) (fun _ _ _ _ _ => (rgn 9 sc__law_numbers.nd)) (fun _ _ _ _ _ => pts_yes) (fun _ _ _ _ _ => (rcmp (op_ge) (ok_cmp _) (rv 9) (rpow rint rint))) (by decide)) sc__law_numbers.nd)
 (rscons (rsown (i := 5) sc__law_numbers.nd (sf (rflst ranil)))
 (rscons (rsfor (rirange1 m_range (rv 1)) (rgn 6 sc__law_numbers.nd)
 (rscons (rsset (i := 7) sc__law_numbers.nd (se (rmod (rv 6) (rv 3))))
 (rsone (rsif (stb (rtw (rwand (rt (rixs (rv 4) (rv 7))) (rw1 (rtcmp (op_gt) (ok_cmp _) (rixs (rv 2) (rv 7)) rint)))))
 (rscons (rsapp (i := 5) (seb (rmod (rct call_int1 ok_int m_int (racons (rixs (rv 2) (rv 7)) ranil)) rint)))
 (rsone (rsseti (i := 2) (seb (rdiv (rixs (rv 2) (rv 7)) rint)) (se (rv 7)))))
 (rscons (rsset (i := 8) sc__law_numbers.nd (seb (rmod (rmul (radd (radd (rmod (rct call_int1 ok_int m_int (racons (rixs (rv 2) (rv 7)) ranil)) rint) (rmul rint (rv 6))) rint) rint) rint)))
 (rscons (rsset (i := 8) sc__law_numbers.nd (se (rmod (rmul (rct call_int1 ok_int m_int (racons (radd (radd (rv 8) (rmul (rmul (rv 6) (rv 6)) rint)) rint) ranil)) rint) rint)))
 (rsone (rsapp (i := 5) (se (rmod (rdiv (rv 8) rint) rint))))))))) (passes_of rfl))
 (rsone (rsfrz 5 (rsret (se (rv 5)))))))))))
theorem ok_law (h__law_after : Cal P w K mg base 3 "_law_after" f__law_after) (h__law_book : Cal P w K mg base 5 "_law_book" f__law_book) (h__law_edit : Cal P w K mg base 5 "_law_edit" f__law_edit) (h__law_find : Cal P w K mg base 1 "_law_find" f__law_find) (h__law_forms : Cal P w K mg base 16 "_law_forms" f__law_forms) (h__law_full : Cal P w K mg base 17 "_law_full" f__law_full) (h__law_names : Cal P w K mg base 2 "_law_names" f__law_names) (h__law_numbers : Cal P w K mg base 1 "_law_numbers" f__law_numbers) (h__law_raised : Cal P w K mg base 5 "_law_raised" f__law_raised) (h__law_same : Cal P w K mg base 12 "_law_same" f__law_same) (h__law_step : Cal P w K mg base 16 "_law_step" f__law_step) (h_apply_edits : Cal P w K mg base 4 "apply_edits" f_apply_edits) (h_is_edit : Cal P w K mg base 15 "is_edit" f_is_edit) (m_range : mg "range" = none) (m_tuple : mg "tuple" = none) {f : Addr} {fd : FuncData} (F : FunD K "law" "law" (defArgs s_law) (defBody s_law) (defScope s_law) [] [] f fd) :
    FnOk P w K mg base (L2.CX P w) 18 f fd P_law (SpF K w mg f_law) :=
  okD (k := 17) F sc_law fun cdv A outer s H E hr => by
    have tk := takes_of (X := cxOf (L2.CX P w) P w K mg base N_law "law" (defScope s_law) f cdv A outer s H E) rfl rfl rfl rfl
    exact
 (rscons (rsset (i := 1) sc_law.nd (se (rc h__law_numbers hr tk (racons (rv 0) (racons rint ranil)))))
 (rscons (rsset (i := 2) sc_law.nd (se (rc h__law_names hr tk (racons (rv 1) ranil))))
 (rscons (rsset (i := 3) sc_law.nd (se (rc h__law_book hr tk (racons (rv 1) (racons rint (racons (rmod (rixs (rv 1) rint) rint) (racons (rv 2) (racons (rlst (racons rint (racons rint (racons rint (racons rint (racons rint (racons (rmod (rixs (rv 1) rint) rint) ranil))))))) ranil))))))))
 (rscons (rsset (i := 4) sc_law.nd (se (rct call_tuple_of ok_tuple m_tuple (racons (rv 3) ranil))))
 (rscons (rsown (i := 5) sc_law.nd (sf (rflst ranil)))
 (rscons (rsfor (rirange1 m_range rint) (rgn 6 sc_law.nd)
 (rscons (rsset (i := 7) sc_law.nd (se (rc h__law_edit hr tk (racons (rv 3) (racons (rv 2) (racons (rv 1) (racons (rv 6) ranil)))))))
 (rsone (rsif (st (rtw (rwand (rtcmp (okO_eq hr) ok_eq (rixs (rv 7) rint) rstr) (rw1 (rtcmp (okO_is) ok_is (rc h__law_find hr tk (racons (rv 3) (racons (rixs (rv 7) rint) (racons (rixs (rv 7) rint) ranil)))) rnone)))))
 (rsone (rsif (st (rtw (rwor (rtcmp (okO_ne hr) ok_ne (rc h__law_raised hr tk (racons (rct call_tuple_of ok_tuple m_tuple (racons (rv 3) ranil)) (racons (rv 7) ranil))) (rmul (rlst (racons (rixs (rv 7) rint) ranil)) rint)) (rwo1 (rtcmp (okO_isnot) ok_isnot (rc h_is_edit hr tk (racons (rv 7) ranil)) rbl)))))
 (rsone (rsret (se rbl)))
 rsnil))
 (rscons (rsif (st (rtw (rwor (rtnot (rt (rc h__law_step hr tk (racons (rv 3) (racons (rv 7) ranil))))) (rwo1 (rtnot (rt (rc h__law_forms hr tk (racons (rv 7) ranil))))))))
 (rsone (rsret (se rbl)))
 rsnil)
 (rscons (rsset (i := 3) sc_law.nd (se (rc h__law_after hr tk (racons (rv 3) (racons (rv 7) ranil)))))
 (rsone (rsapp (i := 5) (se (rv 7))))))))) (passes_of rfl))
 (rscons (rsif (stb (rtnot (rt (rc h__law_same hr tk (racons (rc h_apply_edits hr tk (racons (rv 4) (racons (rct call_tuple_of ok_tuple m_tuple (racons (rv 5) ranil)) ranil))) (racons (rct call_tuple_of ok_tuple m_tuple (racons (rv 3) ranil)) ranil))))))
 (rsone (rsret (se rbl)))
 rsnil)
 (rscons (rsif (st (rtw (rwand (rtcmp (okO_eq hr) ok_eq (rmod (rixs (rv 1) rint) rint) rint) (rw1 (rtnot (rt (rc h__law_full hr tk (racons (rv 3) (racons (rixs (rv 1) rint) ranil)))))))))
 (rsone (rsret (se rbl)))
 rsnil)
 (rsone (rsret (se (rcmp (okO_eq hr) ok_eq (rc h__law_raised hr tk (racons (rct call_tuple_of ok_tuple m_tuple (racons (rv 3) ranil)) (racons (rtup (racons rstr (racons rstr (racons rstr ranil)))) ranil))) (rmul (rlst (racons rstr ranil)) rint)))))))))))))
end
end K68

namespace K68
open PySem PySem.Spec PyProof.Rows L2 DL Cm Cr
def d__law_before : He.DefD := ⟨("_law_before", none), "_law_before", "_law_before", defArgs s__law_before, defBody s__law_before, defScope s__law_before, [], []⟩
def d__law_placed : He.DefD := ⟨("_law_placed", none), "_law_placed", "_law_placed", defArgs s__law_placed, defBody s__law_placed, defScope s__law_placed, [], []⟩
def d__law_after : He.DefD := ⟨("_law_after", none), "_law_after", "_law_after", defArgs s__law_after, defBody s__law_after, defScope s__law_after, [], []⟩
def d__law_kinds : He.DefD := ⟨("_law_kinds", none), "_law_kinds", "_law_kinds", defArgs s__law_kinds, defBody s__law_kinds, defScope s__law_kinds, [], []⟩
def d__law_lowest : He.DefD := ⟨("_law_lowest", none), "_law_lowest", "_law_lowest", defArgs s__law_lowest, defBody s__law_lowest, defScope s__law_lowest, [], []⟩
def d__law_grain : He.DefD := ⟨("_law_grain", none), "_law_grain", "_law_grain", defArgs s__law_grain, defBody s__law_grain, defScope s__law_grain, [], []⟩
def d__law_line : He.DefD := ⟨("_law_line", none), "_law_line", "_law_line", defArgs s__law_line, defBody s__law_line, defScope s__law_line, [], []⟩
def d__law_piece : He.DefD := ⟨("_law_piece", none), "_law_piece", "_law_piece", defArgs s__law_piece, defBody s__law_piece, defScope s__law_piece, [], []⟩
def d__law_shape_row : He.DefD := ⟨("_law_shape_row", none), "_law_shape_row", "_law_shape_row", defArgs s__law_shape_row, defBody s__law_shape_row, defScope s__law_shape_row, [], []⟩
def d__law_row : He.DefD := ⟨("_law_row", none), "_law_row", "_law_row", defArgs s__law_row, defBody s__law_row, defScope s__law_row, [], []⟩
def d__law_book : He.DefD := ⟨("_law_book", none), "_law_book", "_law_book", defArgs s__law_book, defBody s__law_book, defScope s__law_book, [], []⟩
def d__law_edit : He.DefD := ⟨("_law_edit", none), "_law_edit", "_law_edit", defArgs s__law_edit, defBody s__law_edit, defScope s__law_edit, [], []⟩
def d__law_find : He.DefD := ⟨("_law_find", none), "_law_find", "_law_find", defArgs s__law_find, defBody s__law_find, defScope s__law_find, [], []⟩
def d_is_name : He.DefD := ⟨("is_name", none), "is_name", "is_name", defArgs s_is_name, defBody s_is_name, defScope s_is_name, [], []⟩
def d_ascending_names : He.DefD := ⟨("ascending_names", none), "ascending_names", "ascending_names", defArgs s_ascending_names, defBody s_ascending_names, defScope s_ascending_names, [], []⟩
def d_is_string : He.DefD := ⟨("is_string", none), "is_string", "is_string", defArgs s_is_string, defBody s_is_string, defScope s_is_string, [], []⟩
def d_is_whole : He.DefD := ⟨("is_whole", none), "is_whole", "is_whole", defArgs s_is_whole, defBody s_is_whole, defScope s_is_whole, [], []⟩
def d_is_within : He.DefD := ⟨("is_within", none), "is_within", "is_within", defArgs s_is_within, defBody s_is_within, defScope s_is_within, [], []⟩
def d_names_field : He.DefD := ⟨("names_field", none), "names_field", "names_field", defArgs s_names_field, defBody s_names_field, defScope s_names_field, [], []⟩
def d_compare_ratios : He.DefD := ⟨("compare_ratios", none), "compare_ratios", "compare_ratios", defArgs s_compare_ratios, defBody s_compare_ratios, defScope s_compare_ratios, [], []⟩
def d_common_divisor : He.DefD := ⟨("common_divisor", none), "common_divisor", "common_divisor", defArgs s_common_divisor, defBody s_common_divisor, defScope s_common_divisor, [], []⟩
def d_is_row : He.DefD := ⟨("is_row", none), "is_row", "is_row", defArgs s_is_row, defBody s_is_row, defScope s_is_row, [], []⟩
def d_is_ratio : He.DefD := ⟨("is_ratio", none), "is_ratio", "is_ratio", defArgs s_is_ratio, defBody s_is_ratio, defScope s_is_ratio, [], []⟩
def d_short_ratio : He.DefD := ⟨("short_ratio", none), "short_ratio", "short_ratio", defArgs s_short_ratio, defBody s_short_ratio, defScope s_short_ratio, [], []⟩
def d_whole_ratio : He.DefD := ⟨("whole_ratio", none), "whole_ratio", "whole_ratio", defArgs s_whole_ratio, defBody s_whole_ratio, defScope s_whole_ratio, [], []⟩
def d_ratio_within : He.DefD := ⟨("ratio_within", none), "ratio_within", "ratio_within", defArgs s_ratio_within, defBody s_ratio_within, defScope s_ratio_within, [], []⟩
def d_is_rule : He.DefD := ⟨("is_rule", none), "is_rule", "is_rule", defArgs s_is_rule, defBody s_is_rule, defScope s_is_rule, [], []⟩
def d_rule_field : He.DefD := ⟨("rule_field", none), "rule_field", "rule_field", defArgs s_rule_field, defBody s_rule_field, defScope s_rule_field, [], []⟩
def d_is_grain : He.DefD := ⟨("is_grain", none), "is_grain", "is_grain", defArgs s_is_grain, defBody s_is_grain, defScope s_is_grain, [], []⟩
def d_grain_field : He.DefD := ⟨("grain_field", none), "grain_field", "grain_field", defArgs s_grain_field, defBody s_grain_field, defScope s_grain_field, [], []⟩
def d_is_pull : He.DefD := ⟨("is_pull", none), "is_pull", "is_pull", defArgs s_is_pull, defBody s_is_pull, defScope s_is_pull, [], []⟩
def d_is_point : He.DefD := ⟨("is_point", none), "is_point", "is_point", defArgs s_is_point, defBody s_is_point, defScope s_is_point, [], []⟩
def d_is_spot : He.DefD := ⟨("is_spot", none), "is_spot", "is_spot", defArgs s_is_spot, defBody s_is_spot, defScope s_is_spot, [], []⟩
def d_line_field : He.DefD := ⟨("line_field", none), "line_field", "line_field", defArgs s_line_field, defBody s_line_field, defScope s_line_field, [], []⟩
def d_all_points : He.DefD := ⟨("all_points", none), "all_points", "all_points", defArgs s_all_points, defBody s_all_points, defScope s_all_points, [], []⟩
def d_make_ratio : He.DefD := ⟨("make_ratio", none), "make_ratio", "make_ratio", defArgs s_make_ratio, defBody s_make_ratio, defScope s_make_ratio, [], []⟩
def d_add_ratios : He.DefD := ⟨("add_ratios", none), "add_ratios", "add_ratios", defArgs s_add_ratios, defBody s_add_ratios, defScope s_add_ratios, [], []⟩
def d_take_ratios : He.DefD := ⟨("take_ratios", none), "take_ratios", "take_ratios", defArgs s_take_ratios, defBody s_take_ratios, defScope s_take_ratios, [], []⟩
def d_times_ratios : He.DefD := ⟨("times_ratios", none), "times_ratios", "times_ratios", defArgs s_times_ratios, defBody s_times_ratios, defScope s_times_ratios, [], []⟩
def d_cross_product : He.DefD := ⟨("cross_product", none), "cross_product", "cross_product", defArgs s_cross_product, defBody s_cross_product, defScope s_cross_product, [], []⟩
def d_double_area : He.DefD := ⟨("double_area", none), "double_area", "double_area", defArgs s_double_area, defBody s_double_area, defScope s_double_area, [], []⟩
def d_compare_points : He.DefD := ⟨("compare_points", none), "compare_points", "compare_points", defArgs s_compare_points, defBody s_compare_points, defScope s_compare_points, [], []⟩
def d_from_least : He.DefD := ⟨("from_least", none), "from_least", "from_least", defArgs s_from_least, defBody s_from_least, defScope s_from_least, [], []⟩
def d_sign_ratio : He.DefD := ⟨("sign_ratio", none), "sign_ratio", "sign_ratio", defArgs s_sign_ratio, defBody s_sign_ratio, defScope s_sign_ratio, [], []⟩
def d_take_points : He.DefD := ⟨("take_points", none), "take_points", "take_points", defArgs s_take_points, defBody s_take_points, defScope s_take_points, [], []⟩
def d_turn_sign : He.DefD := ⟨("turn_sign", none), "turn_sign", "turn_sign", defArgs s_turn_sign, defBody s_turn_sign, defScope s_turn_sign, [], []⟩
def d_corners_turn : He.DefD := ⟨("corners_turn", none), "corners_turn", "corners_turn", defArgs s_corners_turn, defBody s_corners_turn, defScope s_corners_turn, [], []⟩
def d_row_sides : He.DefD := ⟨("row_sides", none), "row_sides", "row_sides", defArgs s_row_sides, defBody s_row_sides, defScope s_row_sides, [], []⟩
def d_lies_between : He.DefD := ⟨("lies_between", none), "lies_between", "lies_between", defArgs s_lies_between, defBody s_lies_between, defScope s_lies_between, [], []⟩
def d_on_segment : He.DefD := ⟨("on_segment", none), "on_segment", "on_segment", defArgs s_on_segment, defBody s_on_segment, defScope s_on_segment, [], []⟩
def d_sides_meet : He.DefD := ⟨("sides_meet", none), "sides_meet", "sides_meet", defArgs s_sides_meet, defBody s_sides_meet, defScope s_sides_meet, [], []⟩
def d_sides_part : He.DefD := ⟨("sides_part", none), "sides_part", "sides_part", defArgs s_sides_part, defBody s_sides_part, defScope s_sides_part, [], []⟩
def d_simple_row : He.DefD := ⟨("simple_row", none), "simple_row", "simple_row", defArgs s_simple_row, defBody s_simple_row, defScope s_simple_row, [], []⟩
def d_is_piece : He.DefD := ⟨("is_piece", none), "is_piece", "is_piece", defArgs s_is_piece, defBody s_is_piece, defScope s_is_piece, [], []⟩
def d_piece_field : He.DefD := ⟨("piece_field", none), "piece_field", "piece_field", defArgs s_piece_field, defBody s_piece_field, defScope s_piece_field, [], []⟩
def d_shape_field : He.DefD := ⟨("shape_field", none), "shape_field", "shape_field", defArgs s_shape_field, defBody s_shape_field, defScope s_shape_field, [], []⟩
def d_spans_field : He.DefD := ⟨("spans_field", none), "spans_field", "spans_field", defArgs s_spans_field, defBody s_spans_field, defScope s_spans_field, [], []⟩
def d_is_field : He.DefD := ⟨("is_field", none), "is_field", "is_field", defArgs s_is_field, defBody s_is_field, defScope s_is_field, [], []⟩
def d_row_fits : He.DefD := ⟨("row_fits", none), "row_fits", "row_fits", defArgs s_row_fits, defBody s_row_fits, defScope s_row_fits, [], []⟩
def d_is_book_row : He.DefD := ⟨("is_book_row", none), "is_book_row", "is_book_row", defArgs s_is_book_row, defBody s_is_book_row, defScope s_is_book_row, [], []⟩
def d_is_edit : He.DefD := ⟨("is_edit", none), "is_edit", "is_edit", defArgs s_is_edit, defBody s_is_edit, defScope s_is_edit, [], []⟩
def d__law_forms : He.DefD := ⟨("_law_forms", none), "_law_forms", "_law_forms", defArgs s__law_forms, defBody s__law_forms, defScope s__law_forms, [], []⟩
def d_row_key : He.DefD := ⟨("row_key", none), "row_key", "row_key", defArgs s_row_key, defBody s_row_key, defScope s_row_key, [], []⟩
def d_edit_key : He.DefD := ⟨("edit_key", none), "edit_key", "edit_key", defArgs s_edit_key, defBody s_edit_key, defScope s_edit_key, [], []⟩
def d_find_row : He.DefD := ⟨("find_row", none), "find_row", "find_row", defArgs s_find_row, defBody s_find_row, defScope s_find_row, [], []⟩
def d_has_row : He.DefD := ⟨("has_row", none), "has_row", "has_row", defArgs s_has_row, defBody s_has_row, defScope s_has_row, [], []⟩
def d_kind_rows : He.DefD := ⟨("kind_rows", none), "kind_rows", "kind_rows", defArgs s_kind_rows, defBody s_kind_rows, defScope s_kind_rows, [], []⟩
def d_put_into : He.DefD := ⟨("put_into", none), "put_into", "put_into", defArgs s_put_into, defBody s_put_into, defScope s_put_into, [], []⟩
def d_apply_edit : He.DefD := ⟨("apply_edit", none), "apply_edit", "apply_edit", defArgs s_apply_edit, defBody s_apply_edit, defScope s_apply_edit, [], []⟩
def d_apply_edits : He.DefD := ⟨("apply_edits", none), "apply_edits", "apply_edits", defArgs s_apply_edits, defBody s_apply_edits, defScope s_apply_edits, [], []⟩
def d_undo_edit : He.DefD := ⟨("undo_edit", none), "undo_edit", "undo_edit", defArgs s_undo_edit, defBody s_undo_edit, defScope s_undo_edit, [], []⟩
def d__law_raised : He.DefD := ⟨("_law_raised", none), "_law_raised", "_law_raised", defArgs s__law_raised, defBody s__law_raised, defScope s__law_raised, [], []⟩
def d__law_same : He.DefD := ⟨("_law_same", none), "_law_same", "_law_same", defArgs s__law_same, defBody s__law_same, defScope s__law_same, [], []⟩
def d__law_step : He.DefD := ⟨("_law_step", none), "_law_step", "_law_step", defArgs s__law_step, defBody s__law_step, defScope s__law_step, [], []⟩
def d__law_full : He.DefD := ⟨("_law_full", none), "_law_full", "_law_full", defArgs s__law_full, defBody s__law_full, defScope s__law_full, [], []⟩
def d__law_name : He.DefD := ⟨("_law_name", none), "_law_name", "_law_name", defArgs s__law_name, defBody s__law_name, defScope s__law_name, [], []⟩
def d__law_names : He.DefD := ⟨("_law_names", none), "_law_names", "_law_names", defArgs s__law_names, defBody s__law_names, defScope s__law_names, [], []⟩
def d__law_numbers : He.DefD := ⟨("_law_numbers", none), "_law_numbers", "_law_numbers", defArgs s__law_numbers, defBody s__law_numbers, defScope s__law_numbers, [], []⟩
def d_law : He.DefD := ⟨("law", none), "law", "law", defArgs s_law, defBody s_law, defScope s_law, [], []⟩
def fn : List He.DefD := [d__law_before, d__law_placed, d__law_after, d__law_kinds, d__law_lowest, d__law_grain, d__law_line, d__law_piece, d__law_shape_row, d__law_row, d__law_book, d__law_edit, d__law_find, d_is_name, d_ascending_names, d_is_string, d_is_whole, d_is_within, d_names_field, d_compare_ratios, d_common_divisor, d_is_row, d_is_ratio, d_short_ratio, d_whole_ratio, d_ratio_within, d_is_rule, d_rule_field, d_is_grain, d_grain_field, d_is_pull, d_is_point, d_is_spot, d_line_field, d_all_points, d_make_ratio, d_add_ratios, d_take_ratios, d_times_ratios, d_cross_product, d_double_area, d_compare_points, d_from_least, d_sign_ratio, d_take_points, d_turn_sign, d_corners_turn, d_row_sides, d_lies_between, d_on_segment, d_sides_meet, d_sides_part, d_simple_row, d_is_piece, d_piece_field, d_shape_field, d_spans_field, d_is_field, d_row_fits, d_is_book_row, d_is_edit, d__law_forms, d_row_key, d_edit_key, d_find_row, d_has_row, d_kind_rows, d_put_into, d_apply_edit, d_apply_edits, d_undo_edit, d__law_raised, d__law_same, d__law_step, d__law_full, d__law_name, d__law_names, d__law_numbers, d_law]
def fa : List He.Fa := [.glo "_law_before", .glo "_law_placed", .glo "_law_after", .glo "_law_kinds", .glo "_law_lowest", .glo "_law_grain", .glo "_law_line", .glo "_law_piece", .glo "_law_shape_row", .glo "_law_row", .glo "_law_book", .glo "_law_edit", .glo "_law_find", .glo "is_name", .glo "ascending_names", .glo "is_string", .glo "is_whole", .glo "is_within", .glo "names_field", .glo "compare_ratios", .glo "common_divisor", .glo "is_row", .glo "is_ratio", .glo "short_ratio", .glo "whole_ratio", .glo "ratio_within", .glo "is_rule", .glo "rule_field", .glo "is_grain", .glo "grain_field", .glo "is_pull", .glo "is_point", .glo "is_spot", .glo "line_field", .glo "all_points", .glo "make_ratio", .glo "add_ratios", .glo "take_ratios", .glo "times_ratios", .glo "cross_product", .glo "double_area", .glo "compare_points", .glo "from_least", .glo "sign_ratio", .glo "take_points", .glo "turn_sign", .glo "corners_turn", .glo "row_sides", .glo "lies_between", .glo "on_segment", .glo "sides_meet", .glo "sides_part", .glo "simple_row", .glo "is_piece", .glo "piece_field", .glo "shape_field", .glo "spans_field", .glo "is_field", .glo "row_fits", .glo "is_book_row", .glo "is_edit", .glo "_law_forms", .glo "row_key", .glo "edit_key", .glo "find_row", .glo "has_row", .glo "kind_rows", .glo "put_into", .glo "apply_edit", .glo "apply_edits", .glo "undo_edit", .glo "_law_raised", .glo "_law_same", .glo "_law_step", .glo "_law_full", .glo "_law_name", .glo "_law_names", .glo "_law_numbers", .glo "law", .free "abs", .free "bool", .free "enumerate", .free "int", .free "isinstance", .free "len", .free "list", .free "min", .free "range", .free "sorted", .free "str", .free "tuple", .free "zip", .str "DIGITS" "0123456789", .int "FEWEST_CORNERS" (3), .str "LETTERS" "abcdefghijklmnopqrstuvwxyz", .int "MOST_BELOW" (100), .int "MOST_CORNERS" (8), .int "MOST_GRAIN" (100), .int "MOST_NAME" (12), .int "MOST_NUMBER" (999999999), .int "MOST_PLACE" (1000), .int "MOST_PULL" (100), .int "MOST_RATIO" (100000), .int "MOST_ROWS" (12), .int "MOST_RULE" (3), .int "MOST_SPANS" (4), .int "MOST_STRAIN" (1000), .int "MOST_WORN" (6)]
def loose0 : List Str := ["is_whole", "is_within", "is_string", "is_row", "LoftError", "OutOfRange", "Unknown", "LETTERS", "DIGITS", "MOST_NAME", "is_name", "ZERO", "ONE", "common_divisor", "is_ratio", "make_ratio", "whole_ratio", "add_ratios", "take_ratios", "times_ratios", "sign_ratio", "compare_ratios", "is_point", "is_grain", "take_points", "cross_product", "turn_sign", "lies_between", "on_segment", "compare_points"]
def loose1 : List Str := ["FEWEST_CORNERS", "MOST_CORNERS", "double_area", "all_points", "row_sides", "from_least", "sides_meet", "corners_turn", "sides_part", "simple_row", "is_piece", "MOST_PULL", "is_pull", "ascending_names", "MOST_RULE", "is_rule", "MOST_ROWS", "MOST_NUMBER", "MOST_RATIO", "MOST_STRAIN", "MOST_PLACE", "MOST_BELOW", "MOST_GRAIN", "MOST_WORN", "MOST_SPANS", "KIND_NAMES", "FIELDS", "short_ratio", "ratio_within", "is_spot"]
def loose2 : List Str := ["piece_field", "line_field", "grain_field", "rule_field", "spans_field", "names_field", "shape_field", "is_field", "row_fits", "is_book_row", "row_key", "kind_rows", "has_row", "find_row", "is_edit", "edit_key", "put_into", "apply_edit", "apply_edits", "undo_edit", "_law_numbers", "_law_name", "_law_lowest", "_law_grain", "_law_piece", "_law_line", "_law_names", "_law_row", "_law_shape_row", "_law_kinds"]
def loose3 : List Str := ["_law_same", "_law_before", "_law_placed", "_law_book", "_law_find", "_law_after", "_law_edit", "_law_raised", "_law_step", "_law_full", "_law_forms"]
def loose : List Str := loose0 ++ loose1 ++ loose2 ++ loose3
def ex (K : PySem.W.Frag) : Bool := dicB "FIELDS" p_FIELDS K && (cstB "KIND_NAMES" k_KIND_NAMES K && (cstB "ONE" k_ONE K && (cstB "ZERO" k_ZERO K && (fdTB k_F K && (ex0B "OutOfRange" K && (exTB k_T K && (supB PySem.Challenge.rw_sailloft_k68_edits_and_undoing.prog "Unknown" "name" K)))))))
def ts : List He.Tab := [(fun K => He.ga K "FIELDS", ["bolt", "claim", "class", "cloth", "day", "grant", "hand", "master", "measurer", "order", "panel", "reef", "repair", "revoke", "rig", "sail", "seen", "share", "table", "wind"])]
def as0 : List Addr := [2, 3, 6, 4, 21, 28, 35, 42, 52, 65, 86, 95, 96, 97, 104, 111, 118, 125, 132, 139, 146, 153, 160, 167, 174, 181, 188, 195, 202, 209, 216, 223, 230, 235, 242, 249, 256, 263, 270, 277, 284, 291, 298, 299, 300, 398, 405, 412, 419, 426, 433, 440, 447, 454, 461, 468, 475, 482, 489, 494, 501, 508, 515, 522, 527, 532, 539, 546, 551, 558, 565, 572, 579, 586, 591, 598, 603, 610, 615, 622, 627, 632, 639, 644, 649, 656, 663, 668, 673, 680, 0, 20, 27, 34, 41, 51, 64, 85, 94, 103, 110, 117, 124, 131, 138, 145, 152, 159, 166, 173, 180, 187, 194, 201, 208, 215, 222, 229, 234, 241, 248, 255, 262, 269, 276, 283, 290, 297, 305, 310, 316, 322, 327, 334, 337, 338, 340, 349, 354, 356, 361, 366, 368, 377, 379, 385, 388, 391, 397, 404, 411, 418, 425, 432, 439, 446, 453, 460, 467, 474, 481, 488, 493, 500, 507, 514, 521, 526, 531, 538, 545, 550, 557, 564, 571, 578, 585, 590, 597, 602, 609, 614, 621, 626, 631, 638, 643, 648, 655, 662, 667, 672, 679, 15, 16, 17, 18, 19, 22, 23, 24, 25, 26, 29, 30, 31, 32, 33, 36, 37, 38, 39, 40, 50, 53, 63, 83, 84, 89, 90, 91, 92, 93, 98, 99, 100, 101, 102, 105, 106, 107, 108, 109, 112, 113, 114, 115, 116, 119, 120, 121, 122, 123, 126, 127, 128, 129, 130, 133, 134, 135, 136, 137, 140, 141, 142, 143, 144, 147, 148, 149, 150, 151, 154, 155, 156, 157, 158, 161, 162, 163, 164, 165, 168, 169, 170, 171, 172, 175, 176, 177, 178, 179, 182, 183, 184, 185, 186, 189, 190, 191, 192, 193, 196, 197, 198, 199, 200, 203, 204, 205, 206, 207, 210, 211, 212, 213, 214, 217, 218, 219, 220, 221, 224, 225, 226, 227, 228, 231, 232, 233, 236, 237, 238, 239, 240, 243, 244, 245, 246, 247, 250, 251, 252, 253, 254, 257, 258, 259, 260, 261, 264, 265, 266, 267, 268, 271, 272, 273, 274, 275, 278, 279, 280, 281, 282, 285, 286, 287, 288, 289, 292, 293, 294, 295, 296, 301, 302, 303, 304, 306, 307, 308, 309, 311, 312, 313, 314, 315, 317, 318, 319, 320, 321, 323, 324, 325, 326, 328, 329, 330, 331, 332, 333, 335, 336, 339, 341, 342, 343, 344, 345, 346, 347, 348, 350, 351, 352, 353, 355, 357, 358, 359, 360, 362, 363, 364, 365, 367, 369, 370, 371, 372, 373, 374, 375, 376, 378, 381, 382, 383, 384, 386, 387, 389, 390, 392, 393, 394, 395, 396, 399, 400, 401, 402, 403, 406, 407, 408, 409, 410, 413, 414, 415, 416, 417, 420, 421, 422, 423, 424, 427, 428, 429, 430, 431, 434, 435, 436, 437, 438, 441, 442, 443, 444, 445, 448, 449, 450, 451, 452, 455, 456, 457, 458, 459, 462, 463, 464, 465, 466, 469, 470, 471, 472, 473, 476, 477, 478, 479, 480, 483, 484, 485, 486, 487, 490, 491, 492, 495, 496, 497, 498, 499, 502, 503, 504, 505, 506, 509, 510, 511, 512, 513, 516, 517, 518, 519, 520, 523, 524, 525, 528, 529, 530, 533, 534, 535, 536, 537, 540, 541, 542, 543, 544, 547, 548, 549, 552, 553, 554, 555, 556, 559, 560, 561, 562, 563, 566, 567, 568, 569, 570, 573, 574, 575, 576, 577, 580, 581, 582, 583, 584, 587, 588, 589, 592, 593, 594, 595, 596, 599, 600, 601, 604, 605, 606, 607, 608, 611, 612, 613, 616, 617, 618, 619, 620, 623, 624, 625, 628, 629, 630, 633, 634, 635, 636, 637, 640, 641, 642, 645, 646, 647, 650, 651, 652, 653, 654, 657, 658, 659, 660, 661, 664, 665, 666, 669, 670, 671, 674, 675, 676, 677, 678, 82, 71]
abbrev R : PySem.W.OpenRow := PySem.W.OpenLaw.row PySem.Challenge.rw_sailloft_k68_edits_and_undoing
abbrev hk : PySem.W.Hook := hookE as0 fa fn ts ex
def ob (s : PySem.W.SharedT) : AlE := obsE as0 fa fn ts ex (HandSHeadRun.getT s)
theorem ob_eq (s : PySem.W.SharedT) : ob s = hk.obs s.abs := obsE_eq (HandSHeadRun.getT_eq s)
theorem runT (w : World) : HandSHeadRun.RunEq R (PySem.W.view R.prog [113]) hk ob 6000 loose (wf w true) := by
  intro os
  kernel_rfl
theorem runF (w : World) : HandSHeadRun.RunEq R (PySem.W.view R.prog [113]) hk ob 6000 loose (wf w false) := by
  intro os
  kernel_rfl
theorem run (w : World) : HandSHeadRun.RunEq R (PySem.W.view R.prog [113]) hk ob 6000 loose w := run_of (P := fun w => HandSHeadRun.RunEq R (PySem.W.view R.prog [113]) hk ob 6000 loose w) runT runF w
theorem facts {w : World} {K : PySem.W.Frag} {h : Heap} {mg : Str → Option Value} {f : Addr} (X : K.In h) (G : h.Ns mainGlobals mg) (hfa : mg ("law" : Str) = some (.ref f)) (c : SaysEx fa fn ts ex w K) :
    ∃ fd : FuncData, (∀ (s : Shared) (v : Value), BindsTo s fd ⟨[v], []⟩ [("script", v)]) ∧ ∀ base : Heap, K.In base → base.Ns mainGlobals mg → FnOk PySem.Challenge.rw_sailloft_k68_edits_and_undoing.prog w K mg base CXa 18 f fd ["script"] (SpF K w mg f_law) := by
  have more : ex K = true := c.more
  unfold ex at more
  simp only [Bool.and_eq_true] at more
  obtain ⟨q_FIELDS, q_KIND_NAMES, q_ONE, q_ZERO, z_F, z_OutOfRange, z_T, z_Unknown⟩ := more
  have t_FIELDS := c.t.tab 0 (t := (fun K => He.ga K "FIELDS", _)) rfl
  have c := c.t.d
  have m_abs := He.free_ok X G (c.fact 79 (f := .free "abs") rfl)
  have m_bool := He.free_ok X G (c.fact 80 (f := .free "bool") rfl)
  have m_enumerate := He.free_ok X G (c.fact 81 (f := .free "enumerate") rfl)
  have m_int := He.free_ok X G (c.fact 82 (f := .free "int") rfl)
  have m_isinstance := He.free_ok X G (c.fact 83 (f := .free "isinstance") rfl)
  have m_len := He.free_ok X G (c.fact 84 (f := .free "len") rfl)
  have m_list := He.free_ok X G (c.fact 85 (f := .free "list") rfl)
  have m_min := He.free_ok X G (c.fact 86 (f := .free "min") rfl)
  have m_range := He.free_ok X G (c.fact 87 (f := .free "range") rfl)
  have m_sorted := He.free_ok X G (c.fact 88 (f := .free "sorted") rfl)
  have m_str := He.free_ok X G (c.fact 89 (f := .free "str") rfl)
  have m_tuple := He.free_ok X G (c.fact 90 (f := .free "tuple") rfl)
  have m_zip := He.free_ok X G (c.fact 91 (f := .free "zip") rfl)
  have c_FIELDS : Cst K w mg "FIELDS" k_FIELDS := dicB_ok X G q_FIELDS t_FIELDS
  have c_KIND_NAMES : Cst K w mg "KIND_NAMES" k_KIND_NAMES := cstB_ok X G q_KIND_NAMES
  have c_ONE : Cst K w mg "ONE" k_ONE := cstB_ok X G q_ONE
  have c_ZERO : Cst K w mg "ZERO" k_ZERO := cstB_ok X G q_ZERO
  have e_F : FdT K mg k_F := fdTB_ok X G z_F
  have x_OutOfRange : Ex0 K mg "OutOfRange" := ex0B_ok X G z_OutOfRange
  have e_T : ExT K mg k_T := exTB_ok X G z_T
  have x_Unknown : Ex1 PySem.Challenge.rw_sailloft_k68_edits_and_undoing.prog K mg "Unknown" "name" := supB_ok X G PySem.SupX.fname_name z_Unknown
  have c_DIGITS : Cst K w mg "DIGITS" k_DIGITS := cstS (He.str_ok X G (c.fact 92 (f := .str "DIGITS" "0123456789") rfl))
  have c_FEWEST_CORNERS : Cst K w mg "FEWEST_CORNERS" k_FEWEST_CORNERS := cstI (He.int_ok X G (c.fact 93 (f := .int "FEWEST_CORNERS" (3)) rfl))
  have c_LETTERS : Cst K w mg "LETTERS" k_LETTERS := cstS (He.str_ok X G (c.fact 94 (f := .str "LETTERS" "abcdefghijklmnopqrstuvwxyz") rfl))
  have c_MOST_BELOW : Cst K w mg "MOST_BELOW" k_MOST_BELOW := cstI (He.int_ok X G (c.fact 95 (f := .int "MOST_BELOW" (100)) rfl))
  have c_MOST_CORNERS : Cst K w mg "MOST_CORNERS" k_MOST_CORNERS := cstI (He.int_ok X G (c.fact 96 (f := .int "MOST_CORNERS" (8)) rfl))
  have c_MOST_GRAIN : Cst K w mg "MOST_GRAIN" k_MOST_GRAIN := cstI (He.int_ok X G (c.fact 97 (f := .int "MOST_GRAIN" (100)) rfl))
  have c_MOST_NAME : Cst K w mg "MOST_NAME" k_MOST_NAME := cstI (He.int_ok X G (c.fact 98 (f := .int "MOST_NAME" (12)) rfl))
  have c_MOST_NUMBER : Cst K w mg "MOST_NUMBER" k_MOST_NUMBER := cstI (He.int_ok X G (c.fact 99 (f := .int "MOST_NUMBER" (999999999)) rfl))
  have c_MOST_PLACE : Cst K w mg "MOST_PLACE" k_MOST_PLACE := cstI (He.int_ok X G (c.fact 100 (f := .int "MOST_PLACE" (1000)) rfl))
  have c_MOST_PULL : Cst K w mg "MOST_PULL" k_MOST_PULL := cstI (He.int_ok X G (c.fact 101 (f := .int "MOST_PULL" (100)) rfl))
  have c_MOST_RATIO : Cst K w mg "MOST_RATIO" k_MOST_RATIO := cstI (He.int_ok X G (c.fact 102 (f := .int "MOST_RATIO" (100000)) rfl))
  have c_MOST_ROWS : Cst K w mg "MOST_ROWS" k_MOST_ROWS := cstI (He.int_ok X G (c.fact 103 (f := .int "MOST_ROWS" (12)) rfl))
  have c_MOST_RULE : Cst K w mg "MOST_RULE" k_MOST_RULE := cstI (He.int_ok X G (c.fact 104 (f := .int "MOST_RULE" (3)) rfl))
  have c_MOST_SPANS : Cst K w mg "MOST_SPANS" k_MOST_SPANS := cstI (He.int_ok X G (c.fact 105 (f := .int "MOST_SPANS" (4)) rfl))
  have c_MOST_STRAIN : Cst K w mg "MOST_STRAIN" k_MOST_STRAIN := cstI (He.int_ok X G (c.fact 106 (f := .int "MOST_STRAIN" (1000)) rfl))
  have c_MOST_WORN : Cst K w mg "MOST_WORN" k_MOST_WORN := cstI (He.int_ok X G (c.fact 107 (f := .int "MOST_WORN" (6)) rfl))
  have g__law_before := He.glo_ok X G (c.fact 0 (f := .glo "_law_before") rfl)
  obtain ⟨fd__law_before, F__law_before⟩ := c.def_ 0 (d := d__law_before) rfl
  have b__law_before : Binds K fd__law_before P__law_before [] := F__law_before.bindsN fun _ _ _ _ _ _ us hl => match us, hl with | [_, _], _ => rfl
  have g__law_placed := He.glo_ok X G (c.fact 1 (f := .glo "_law_placed") rfl)
  obtain ⟨fd__law_placed, F__law_placed⟩ := c.def_ 1 (d := d__law_placed) rfl
  have b__law_placed : Binds K fd__law_placed P__law_placed [] := F__law_placed.bindsN fun _ _ _ _ _ _ us hl => match us, hl with | [_, _], _ => rfl
  have g__law_after := He.glo_ok X G (c.fact 2 (f := .glo "_law_after") rfl)
  obtain ⟨fd__law_after, F__law_after⟩ := c.def_ 2 (d := d__law_after) rfl
  have b__law_after : Binds K fd__law_after P__law_after [] := F__law_after.bindsN fun _ _ _ _ _ _ us hl => match us, hl with | [_, _], _ => rfl
  have g__law_kinds := He.glo_ok X G (c.fact 3 (f := .glo "_law_kinds") rfl)
  obtain ⟨fd__law_kinds, F__law_kinds⟩ := c.def_ 3 (d := d__law_kinds) rfl
  have b__law_kinds : Binds K fd__law_kinds P__law_kinds [] := F__law_kinds.bindsN fun _ _ _ _ _ _ us hl => match us, hl with | [], _ => rfl
  have g__law_lowest := He.glo_ok X G (c.fact 4 (f := .glo "_law_lowest") rfl)
  obtain ⟨fd__law_lowest, F__law_lowest⟩ := c.def_ 4 (d := d__law_lowest) rfl
  have b__law_lowest : Binds K fd__law_lowest P__law_lowest [] := F__law_lowest.bindsN fun _ _ _ _ _ _ us hl => match us, hl with | [_, _], _ => rfl
  have g__law_grain := He.glo_ok X G (c.fact 5 (f := .glo "_law_grain") rfl)
  obtain ⟨fd__law_grain, F__law_grain⟩ := c.def_ 5 (d := d__law_grain) rfl
  have b__law_grain : Binds K fd__law_grain P__law_grain [] := F__law_grain.bindsN fun _ _ _ _ _ _ us hl => match us, hl with | [_, _], _ => rfl
  have g__law_line := He.glo_ok X G (c.fact 6 (f := .glo "_law_line") rfl)
  obtain ⟨fd__law_line, F__law_line⟩ := c.def_ 6 (d := d__law_line) rfl
  have b__law_line : Binds K fd__law_line P__law_line [] := F__law_line.bindsN fun _ _ _ _ _ _ us hl => match us, hl with | [_, _], _ => rfl
  have g__law_piece := He.glo_ok X G (c.fact 7 (f := .glo "_law_piece") rfl)
  obtain ⟨fd__law_piece, F__law_piece⟩ := c.def_ 7 (d := d__law_piece) rfl
  have b__law_piece : Binds K fd__law_piece P__law_piece [] := F__law_piece.bindsN fun _ _ _ _ _ _ us hl => match us, hl with | [_, _], _ => rfl
  have g__law_shape_row := He.glo_ok X G (c.fact 8 (f := .glo "_law_shape_row") rfl)
  obtain ⟨fd__law_shape_row, F__law_shape_row⟩ := c.def_ 8 (d := d__law_shape_row) rfl
  have b__law_shape_row : Binds K fd__law_shape_row P__law_shape_row [] := F__law_shape_row.bindsN fun _ _ _ _ _ _ us hl => match us, hl with | [_, _, _, _], _ => rfl
  have g__law_row := He.glo_ok X G (c.fact 9 (f := .glo "_law_row") rfl)
  obtain ⟨fd__law_row, F__law_row⟩ := c.def_ 9 (d := d__law_row) rfl
  have b__law_row : Binds K fd__law_row P__law_row [] := F__law_row.bindsN fun _ _ _ _ _ _ us hl => match us, hl with | [_, _, _, _], _ => rfl
  have g__law_book := He.glo_ok X G (c.fact 10 (f := .glo "_law_book") rfl)
  obtain ⟨fd__law_book, F__law_book⟩ := c.def_ 10 (d := d__law_book) rfl
  have b__law_book : Binds K fd__law_book P__law_book [] := F__law_book.bindsN fun _ _ _ _ _ _ us hl => match us, hl with | [_, _, _, _, _], _ => rfl
  have g__law_edit := He.glo_ok X G (c.fact 11 (f := .glo "_law_edit") rfl)
  obtain ⟨fd__law_edit, F__law_edit⟩ := c.def_ 11 (d := d__law_edit) rfl
  have b__law_edit : Binds K fd__law_edit P__law_edit [] := F__law_edit.bindsN fun _ _ _ _ _ _ us hl => match us, hl with | [_, _, _, _], _ => rfl
  have g__law_find := He.glo_ok X G (c.fact 12 (f := .glo "_law_find") rfl)
  obtain ⟨fd__law_find, F__law_find⟩ := c.def_ 12 (d := d__law_find) rfl
  have b__law_find : Binds K fd__law_find P__law_find [] := F__law_find.bindsN fun _ _ _ _ _ _ us hl => match us, hl with | [_, _, _], _ => rfl
  have g_is_name := He.glo_ok X G (c.fact 13 (f := .glo "is_name") rfl)
  obtain ⟨fd_is_name, F_is_name⟩ := c.def_ 13 (d := d_is_name) rfl
  have b_is_name : Binds K fd_is_name P_is_name [] := F_is_name.bindsN fun _ _ _ _ _ _ us hl => match us, hl with | [_], _ => rfl
  have g_ascending_names := He.glo_ok X G (c.fact 14 (f := .glo "ascending_names") rfl)
  obtain ⟨fd_ascending_names, F_ascending_names⟩ := c.def_ 14 (d := d_ascending_names) rfl
  have b_ascending_names : Binds K fd_ascending_names P_ascending_names [] := F_ascending_names.bindsN fun _ _ _ _ _ _ us hl => match us, hl with | [_], _ => rfl
  have g_is_string := He.glo_ok X G (c.fact 15 (f := .glo "is_string") rfl)
  obtain ⟨fd_is_string, F_is_string⟩ := c.def_ 15 (d := d_is_string) rfl
  have b_is_string : Binds K fd_is_string P_is_string [] := F_is_string.bindsN fun _ _ _ _ _ _ us hl => match us, hl with | [_], _ => rfl
  have g_is_whole := He.glo_ok X G (c.fact 16 (f := .glo "is_whole") rfl)
  obtain ⟨fd_is_whole, F_is_whole⟩ := c.def_ 16 (d := d_is_whole) rfl
  have b_is_whole : Binds K fd_is_whole P_is_whole [] := F_is_whole.bindsN fun _ _ _ _ _ _ us hl => match us, hl with | [_], _ => rfl
  have g_is_within := He.glo_ok X G (c.fact 17 (f := .glo "is_within") rfl)
  obtain ⟨fd_is_within, F_is_within⟩ := c.def_ 17 (d := d_is_within) rfl
  have b_is_within : Binds K fd_is_within P_is_within [] := F_is_within.bindsN fun _ _ _ _ _ _ us hl => match us, hl with | [_, _, _], _ => rfl
  have g_names_field := He.glo_ok X G (c.fact 18 (f := .glo "names_field") rfl)
  obtain ⟨fd_names_field, F_names_field⟩ := c.def_ 18 (d := d_names_field) rfl
  have b_names_field : Binds K fd_names_field P_names_field [] := F_names_field.bindsN fun _ _ _ _ _ _ us hl => match us, hl with | [_, _, _], _ => rfl
  have g_compare_ratios := He.glo_ok X G (c.fact 19 (f := .glo "compare_ratios") rfl)
  obtain ⟨fd_compare_ratios, F_compare_ratios⟩ := c.def_ 19 (d := d_compare_ratios) rfl
  have b_compare_ratios : Binds K fd_compare_ratios P_compare_ratios [] := F_compare_ratios.bindsN fun _ _ _ _ _ _ us hl => match us, hl with | [_, _], _ => rfl
  have g_common_divisor := He.glo_ok X G (c.fact 20 (f := .glo "common_divisor") rfl)
  obtain ⟨fd_common_divisor, F_common_divisor⟩ := c.def_ 20 (d := d_common_divisor) rfl
  have b_common_divisor : Binds K fd_common_divisor P_common_divisor [] := F_common_divisor.bindsN fun _ _ _ _ _ _ us hl => match us, hl with | [_, _], _ => rfl
  have g_is_row := He.glo_ok X G (c.fact 21 (f := .glo "is_row") rfl)
  obtain ⟨fd_is_row, F_is_row⟩ := c.def_ 21 (d := d_is_row) rfl
  have b_is_row : Binds K fd_is_row P_is_row [] := F_is_row.bindsN fun _ _ _ _ _ _ us hl => match us, hl with | [_, _], _ => rfl
  have g_is_ratio := He.glo_ok X G (c.fact 22 (f := .glo "is_ratio") rfl)
  obtain ⟨fd_is_ratio, F_is_ratio⟩ := c.def_ 22 (d := d_is_ratio) rfl
  have b_is_ratio : Binds K fd_is_ratio P_is_ratio [] := F_is_ratio.bindsN fun _ _ _ _ _ _ us hl => match us, hl with | [_], _ => rfl
  have g_short_ratio := He.glo_ok X G (c.fact 23 (f := .glo "short_ratio") rfl)
  obtain ⟨fd_short_ratio, F_short_ratio⟩ := c.def_ 23 (d := d_short_ratio) rfl
  have b_short_ratio : Binds K fd_short_ratio P_short_ratio [] := F_short_ratio.bindsN fun _ _ _ _ _ _ us hl => match us, hl with | [_], _ => rfl
  have g_whole_ratio := He.glo_ok X G (c.fact 24 (f := .glo "whole_ratio") rfl)
  obtain ⟨fd_whole_ratio, F_whole_ratio⟩ := c.def_ 24 (d := d_whole_ratio) rfl
  have b_whole_ratio : Binds K fd_whole_ratio P_whole_ratio [] := F_whole_ratio.bindsN fun _ _ _ _ _ _ us hl => match us, hl with | [_], _ => rfl
  have g_ratio_within := He.glo_ok X G (c.fact 25 (f := .glo "ratio_within") rfl)
  obtain ⟨fd_ratio_within, F_ratio_within⟩ := c.def_ 25 (d := d_ratio_within) rfl
  have b_ratio_within : Binds K fd_ratio_within P_ratio_within [] := F_ratio_within.bindsN fun _ _ _ _ _ _ us hl => match us, hl with | [_, _, _], _ => rfl
  have g_is_rule := He.glo_ok X G (c.fact 26 (f := .glo "is_rule") rfl)
  obtain ⟨fd_is_rule, F_is_rule⟩ := c.def_ 26 (d := d_is_rule) rfl
  have b_is_rule : Binds K fd_is_rule P_is_rule [] := F_is_rule.bindsN fun _ _ _ _ _ _ us hl => match us, hl with | [_], _ => rfl
  have g_rule_field := He.glo_ok X G (c.fact 27 (f := .glo "rule_field") rfl)
  obtain ⟨fd_rule_field, F_rule_field⟩ := c.def_ 27 (d := d_rule_field) rfl
  have b_rule_field : Binds K fd_rule_field P_rule_field [] := F_rule_field.bindsN fun _ _ _ _ _ _ us hl => match us, hl with | [_], _ => rfl
  have g_is_grain := He.glo_ok X G (c.fact 28 (f := .glo "is_grain") rfl)
  obtain ⟨fd_is_grain, F_is_grain⟩ := c.def_ 28 (d := d_is_grain) rfl
  have b_is_grain : Binds K fd_is_grain P_is_grain [] := F_is_grain.bindsN fun _ _ _ _ _ _ us hl => match us, hl with | [_], _ => rfl
  have g_grain_field := He.glo_ok X G (c.fact 29 (f := .glo "grain_field") rfl)
  obtain ⟨fd_grain_field, F_grain_field⟩ := c.def_ 29 (d := d_grain_field) rfl
  have b_grain_field : Binds K fd_grain_field P_grain_field [] := F_grain_field.bindsN fun _ _ _ _ _ _ us hl => match us, hl with | [_], _ => rfl
  have g_is_pull := He.glo_ok X G (c.fact 30 (f := .glo "is_pull") rfl)
  obtain ⟨fd_is_pull, F_is_pull⟩ := c.def_ 30 (d := d_is_pull) rfl
  have b_is_pull : Binds K fd_is_pull P_is_pull [] := F_is_pull.bindsN fun _ _ _ _ _ _ us hl => match us, hl with | [_], _ => rfl
  have g_is_point := He.glo_ok X G (c.fact 31 (f := .glo "is_point") rfl)
  obtain ⟨fd_is_point, F_is_point⟩ := c.def_ 31 (d := d_is_point) rfl
  have b_is_point : Binds K fd_is_point P_is_point [] := F_is_point.bindsN fun _ _ _ _ _ _ us hl => match us, hl with | [_], _ => rfl
  have g_is_spot := He.glo_ok X G (c.fact 32 (f := .glo "is_spot") rfl)
  obtain ⟨fd_is_spot, F_is_spot⟩ := c.def_ 32 (d := d_is_spot) rfl
  have b_is_spot : Binds K fd_is_spot P_is_spot [] := F_is_spot.bindsN fun _ _ _ _ _ _ us hl => match us, hl with | [_], _ => rfl
  have g_line_field := He.glo_ok X G (c.fact 33 (f := .glo "line_field") rfl)
  obtain ⟨fd_line_field, F_line_field⟩ := c.def_ 33 (d := d_line_field) rfl
  have b_line_field : Binds K fd_line_field P_line_field [] := F_line_field.bindsN fun _ _ _ _ _ _ us hl => match us, hl with | [_], _ => rfl
  have g_all_points := He.glo_ok X G (c.fact 34 (f := .glo "all_points") rfl)
  obtain ⟨fd_all_points, F_all_points⟩ := c.def_ 34 (d := d_all_points) rfl
  have b_all_points : Binds K fd_all_points P_all_points [] := F_all_points.bindsN fun _ _ _ _ _ _ us hl => match us, hl with | [_], _ => rfl
  have g_make_ratio := He.glo_ok X G (c.fact 35 (f := .glo "make_ratio") rfl)
  obtain ⟨fd_make_ratio, F_make_ratio⟩ := c.def_ 35 (d := d_make_ratio) rfl
  have b_make_ratio : Binds K fd_make_ratio P_make_ratio [] := F_make_ratio.bindsN fun _ _ _ _ _ _ us hl => match us, hl with | [_, _], _ => rfl
  have g_add_ratios := He.glo_ok X G (c.fact 36 (f := .glo "add_ratios") rfl)
  obtain ⟨fd_add_ratios, F_add_ratios⟩ := c.def_ 36 (d := d_add_ratios) rfl
  have b_add_ratios : Binds K fd_add_ratios P_add_ratios [] := F_add_ratios.bindsN fun _ _ _ _ _ _ us hl => match us, hl with | [_, _], _ => rfl
  have g_take_ratios := He.glo_ok X G (c.fact 37 (f := .glo "take_ratios") rfl)
  obtain ⟨fd_take_ratios, F_take_ratios⟩ := c.def_ 37 (d := d_take_ratios) rfl
  have b_take_ratios : Binds K fd_take_ratios P_take_ratios [] := F_take_ratios.bindsN fun _ _ _ _ _ _ us hl => match us, hl with | [_, _], _ => rfl
  have g_times_ratios := He.glo_ok X G (c.fact 38 (f := .glo "times_ratios") rfl)
  obtain ⟨fd_times_ratios, F_times_ratios⟩ := c.def_ 38 (d := d_times_ratios) rfl
  have b_times_ratios : Binds K fd_times_ratios P_times_ratios [] := F_times_ratios.bindsN fun _ _ _ _ _ _ us hl => match us, hl with | [_, _], _ => rfl
  have g_cross_product := He.glo_ok X G (c.fact 39 (f := .glo "cross_product") rfl)
  obtain ⟨fd_cross_product, F_cross_product⟩ := c.def_ 39 (d := d_cross_product) rfl
  have b_cross_product : Binds K fd_cross_product P_cross_product [] := F_cross_product.bindsN fun _ _ _ _ _ _ us hl => match us, hl with | [_, _], _ => rfl
  have g_double_area := He.glo_ok X G (c.fact 40 (f := .glo "double_area") rfl)
  obtain ⟨fd_double_area, F_double_area⟩ := c.def_ 40 (d := d_double_area) rfl
  have b_double_area : Binds K fd_double_area P_double_area [] := F_double_area.bindsN fun _ _ _ _ _ _ us hl => match us, hl with | [_], _ => rfl
  have g_compare_points := He.glo_ok X G (c.fact 41 (f := .glo "compare_points") rfl)
  obtain ⟨fd_compare_points, F_compare_points⟩ := c.def_ 41 (d := d_compare_points) rfl
  have b_compare_points : Binds K fd_compare_points P_compare_points [] := F_compare_points.bindsN fun _ _ _ _ _ _ us hl => match us, hl with | [_, _], _ => rfl
  have g_from_least := He.glo_ok X G (c.fact 42 (f := .glo "from_least") rfl)
  obtain ⟨fd_from_least, F_from_least⟩ := c.def_ 42 (d := d_from_least) rfl
  have b_from_least : Binds K fd_from_least P_from_least [] := F_from_least.bindsN fun _ _ _ _ _ _ us hl => match us, hl with | [_], _ => rfl
  have g_sign_ratio := He.glo_ok X G (c.fact 43 (f := .glo "sign_ratio") rfl)
  obtain ⟨fd_sign_ratio, F_sign_ratio⟩ := c.def_ 43 (d := d_sign_ratio) rfl
  have b_sign_ratio : Binds K fd_sign_ratio P_sign_ratio [] := F_sign_ratio.bindsN fun _ _ _ _ _ _ us hl => match us, hl with | [_], _ => rfl
  have g_take_points := He.glo_ok X G (c.fact 44 (f := .glo "take_points") rfl)
  obtain ⟨fd_take_points, F_take_points⟩ := c.def_ 44 (d := d_take_points) rfl
  have b_take_points : Binds K fd_take_points P_take_points [] := F_take_points.bindsN fun _ _ _ _ _ _ us hl => match us, hl with | [_, _], _ => rfl
  have g_turn_sign := He.glo_ok X G (c.fact 45 (f := .glo "turn_sign") rfl)
  obtain ⟨fd_turn_sign, F_turn_sign⟩ := c.def_ 45 (d := d_turn_sign) rfl
  have b_turn_sign : Binds K fd_turn_sign P_turn_sign [] := F_turn_sign.bindsN fun _ _ _ _ _ _ us hl => match us, hl with | [_, _, _], _ => rfl
  have g_corners_turn := He.glo_ok X G (c.fact 46 (f := .glo "corners_turn") rfl)
  obtain ⟨fd_corners_turn, F_corners_turn⟩ := c.def_ 46 (d := d_corners_turn) rfl
  have b_corners_turn : Binds K fd_corners_turn P_corners_turn [] := F_corners_turn.bindsN fun _ _ _ _ _ _ us hl => match us, hl with | [_], _ => rfl
  have g_row_sides := He.glo_ok X G (c.fact 47 (f := .glo "row_sides") rfl)
  obtain ⟨fd_row_sides, F_row_sides⟩ := c.def_ 47 (d := d_row_sides) rfl
  have b_row_sides : Binds K fd_row_sides P_row_sides [] := F_row_sides.bindsN fun _ _ _ _ _ _ us hl => match us, hl with | [_], _ => rfl
  have g_lies_between := He.glo_ok X G (c.fact 48 (f := .glo "lies_between") rfl)
  obtain ⟨fd_lies_between, F_lies_between⟩ := c.def_ 48 (d := d_lies_between) rfl
  have b_lies_between : Binds K fd_lies_between P_lies_between [] := F_lies_between.bindsN fun _ _ _ _ _ _ us hl => match us, hl with | [_, _, _], _ => rfl
  have g_on_segment := He.glo_ok X G (c.fact 49 (f := .glo "on_segment") rfl)
  obtain ⟨fd_on_segment, F_on_segment⟩ := c.def_ 49 (d := d_on_segment) rfl
  have b_on_segment : Binds K fd_on_segment P_on_segment [] := F_on_segment.bindsN fun _ _ _ _ _ _ us hl => match us, hl with | [_, _, _], _ => rfl
  have g_sides_meet := He.glo_ok X G (c.fact 50 (f := .glo "sides_meet") rfl)
  obtain ⟨fd_sides_meet, F_sides_meet⟩ := c.def_ 50 (d := d_sides_meet) rfl
  have b_sides_meet : Binds K fd_sides_meet P_sides_meet [] := F_sides_meet.bindsN fun _ _ _ _ _ _ us hl => match us, hl with | [_, _], _ => rfl
  have g_sides_part := He.glo_ok X G (c.fact 51 (f := .glo "sides_part") rfl)
  obtain ⟨fd_sides_part, F_sides_part⟩ := c.def_ 51 (d := d_sides_part) rfl
  have b_sides_part : Binds K fd_sides_part P_sides_part [] := F_sides_part.bindsN fun _ _ _ _ _ _ us hl => match us, hl with | [_], _ => rfl
  have g_simple_row := He.glo_ok X G (c.fact 52 (f := .glo "simple_row") rfl)
  obtain ⟨fd_simple_row, F_simple_row⟩ := c.def_ 52 (d := d_simple_row) rfl
  have b_simple_row : Binds K fd_simple_row P_simple_row [] := F_simple_row.bindsN fun _ _ _ _ _ _ us hl => match us, hl with | [_], _ => rfl
  have g_is_piece := He.glo_ok X G (c.fact 53 (f := .glo "is_piece") rfl)
  obtain ⟨fd_is_piece, F_is_piece⟩ := c.def_ 53 (d := d_is_piece) rfl
  have b_is_piece : Binds K fd_is_piece P_is_piece [] := F_is_piece.bindsN fun _ _ _ _ _ _ us hl => match us, hl with | [_], _ => rfl
  have g_piece_field := He.glo_ok X G (c.fact 54 (f := .glo "piece_field") rfl)
  obtain ⟨fd_piece_field, F_piece_field⟩ := c.def_ 54 (d := d_piece_field) rfl
  have b_piece_field : Binds K fd_piece_field P_piece_field [] := F_piece_field.bindsN fun _ _ _ _ _ _ us hl => match us, hl with | [_, _], _ => rfl
  have g_shape_field := He.glo_ok X G (c.fact 55 (f := .glo "shape_field") rfl)
  obtain ⟨fd_shape_field, F_shape_field⟩ := c.def_ 55 (d := d_shape_field) rfl
  have b_shape_field : Binds K fd_shape_field P_shape_field [] := F_shape_field.bindsN fun _ _ _ _ _ _ us hl => match us, hl with | [_, _], _ => rfl
  have g_spans_field := He.glo_ok X G (c.fact 56 (f := .glo "spans_field") rfl)
  obtain ⟨fd_spans_field, F_spans_field⟩ := c.def_ 56 (d := d_spans_field) rfl
  have b_spans_field : Binds K fd_spans_field P_spans_field [] := F_spans_field.bindsN fun _ _ _ _ _ _ us hl => match us, hl with | [_], _ => rfl
  have g_is_field := He.glo_ok X G (c.fact 57 (f := .glo "is_field") rfl)
  obtain ⟨fd_is_field, F_is_field⟩ := c.def_ 57 (d := d_is_field) rfl
  have b_is_field : Binds K fd_is_field P_is_field [] := F_is_field.bindsN fun _ _ _ _ _ _ us hl => match us, hl with | [_, _], _ => rfl
  have g_row_fits := He.glo_ok X G (c.fact 58 (f := .glo "row_fits") rfl)
  obtain ⟨fd_row_fits, F_row_fits⟩ := c.def_ 58 (d := d_row_fits) rfl
  have b_row_fits : Binds K fd_row_fits P_row_fits [] := F_row_fits.bindsN fun _ _ _ _ _ _ us hl => match us, hl with | [_], _ => rfl
  have g_is_book_row := He.glo_ok X G (c.fact 59 (f := .glo "is_book_row") rfl)
  obtain ⟨fd_is_book_row, F_is_book_row⟩ := c.def_ 59 (d := d_is_book_row) rfl
  have b_is_book_row : Binds K fd_is_book_row P_is_book_row [] := F_is_book_row.bindsN fun _ _ _ _ _ _ us hl => match us, hl with | [_], _ => rfl
  have g_is_edit := He.glo_ok X G (c.fact 60 (f := .glo "is_edit") rfl)
  obtain ⟨fd_is_edit, F_is_edit⟩ := c.def_ 60 (d := d_is_edit) rfl
  have b_is_edit : Binds K fd_is_edit P_is_edit [] := F_is_edit.bindsN fun _ _ _ _ _ _ us hl => match us, hl with | [_], _ => rfl
  have g__law_forms := He.glo_ok X G (c.fact 61 (f := .glo "_law_forms") rfl)
  obtain ⟨fd__law_forms, F__law_forms⟩ := c.def_ 61 (d := d__law_forms) rfl
  have b__law_forms : Binds K fd__law_forms P__law_forms [] := F__law_forms.bindsN fun _ _ _ _ _ _ us hl => match us, hl with | [_], _ => rfl
  have g_row_key := He.glo_ok X G (c.fact 62 (f := .glo "row_key") rfl)
  obtain ⟨fd_row_key, F_row_key⟩ := c.def_ 62 (d := d_row_key) rfl
  have b_row_key : Binds K fd_row_key P_row_key [] := F_row_key.bindsN fun _ _ _ _ _ _ us hl => match us, hl with | [_], _ => rfl
  have g_edit_key := He.glo_ok X G (c.fact 63 (f := .glo "edit_key") rfl)
  obtain ⟨fd_edit_key, F_edit_key⟩ := c.def_ 63 (d := d_edit_key) rfl
  have b_edit_key : Binds K fd_edit_key P_edit_key [] := F_edit_key.bindsN fun _ _ _ _ _ _ us hl => match us, hl with | [_], _ => rfl
  have g_find_row := He.glo_ok X G (c.fact 64 (f := .glo "find_row") rfl)
  obtain ⟨fd_find_row, F_find_row⟩ := c.def_ 64 (d := d_find_row) rfl
  have b_find_row : Binds K fd_find_row P_find_row [] := F_find_row.bindsN fun _ _ _ _ _ _ us hl => match us, hl with | [_, _, _], _ => rfl
  have g_has_row := He.glo_ok X G (c.fact 65 (f := .glo "has_row") rfl)
  obtain ⟨fd_has_row, F_has_row⟩ := c.def_ 65 (d := d_has_row) rfl
  have b_has_row : Binds K fd_has_row P_has_row [] := F_has_row.bindsN fun _ _ _ _ _ _ us hl => match us, hl with | [_, _, _], _ => rfl
  have g_kind_rows := He.glo_ok X G (c.fact 66 (f := .glo "kind_rows") rfl)
  obtain ⟨fd_kind_rows, F_kind_rows⟩ := c.def_ 66 (d := d_kind_rows) rfl
  have b_kind_rows : Binds K fd_kind_rows P_kind_rows [] := F_kind_rows.bindsN fun _ _ _ _ _ _ us hl => match us, hl with | [_, _], _ => rfl
  have g_put_into := He.glo_ok X G (c.fact 67 (f := .glo "put_into") rfl)
  obtain ⟨fd_put_into, F_put_into⟩ := c.def_ 67 (d := d_put_into) rfl
  have b_put_into : Binds K fd_put_into P_put_into [] := F_put_into.bindsN fun _ _ _ _ _ _ us hl => match us, hl with | [_, _], _ => rfl
  have g_apply_edit := He.glo_ok X G (c.fact 68 (f := .glo "apply_edit") rfl)
  obtain ⟨fd_apply_edit, F_apply_edit⟩ := c.def_ 68 (d := d_apply_edit) rfl
  have b_apply_edit : Binds K fd_apply_edit P_apply_edit [] := F_apply_edit.bindsN fun _ _ _ _ _ _ us hl => match us, hl with | [_, _], _ => rfl
  have g_apply_edits := He.glo_ok X G (c.fact 69 (f := .glo "apply_edits") rfl)
  obtain ⟨fd_apply_edits, F_apply_edits⟩ := c.def_ 69 (d := d_apply_edits) rfl
  have b_apply_edits : Binds K fd_apply_edits P_apply_edits [] := F_apply_edits.bindsN fun _ _ _ _ _ _ us hl => match us, hl with | [_, _], _ => rfl
  have g_undo_edit := He.glo_ok X G (c.fact 70 (f := .glo "undo_edit") rfl)
  obtain ⟨fd_undo_edit, F_undo_edit⟩ := c.def_ 70 (d := d_undo_edit) rfl
  have b_undo_edit : Binds K fd_undo_edit P_undo_edit [] := F_undo_edit.bindsN fun _ _ _ _ _ _ us hl => match us, hl with | [_, _], _ => rfl
  have g__law_raised := He.glo_ok X G (c.fact 71 (f := .glo "_law_raised") rfl)
  obtain ⟨fd__law_raised, F__law_raised⟩ := c.def_ 71 (d := d__law_raised) rfl
  have b__law_raised : Binds K fd__law_raised P__law_raised [] := F__law_raised.bindsN fun _ _ _ _ _ _ us hl => match us, hl with | [_, _], _ => rfl
  have g__law_same := He.glo_ok X G (c.fact 72 (f := .glo "_law_same") rfl)
  obtain ⟨fd__law_same, F__law_same⟩ := c.def_ 72 (d := d__law_same) rfl
  have b__law_same : Binds K fd__law_same P__law_same [] := F__law_same.bindsN fun _ _ _ _ _ _ us hl => match us, hl with | [_, _], _ => rfl
  have g__law_step := He.glo_ok X G (c.fact 73 (f := .glo "_law_step") rfl)
  obtain ⟨fd__law_step, F__law_step⟩ := c.def_ 73 (d := d__law_step) rfl
  have b__law_step : Binds K fd__law_step P__law_step [] := F__law_step.bindsN fun _ _ _ _ _ _ us hl => match us, hl with | [_, _], _ => rfl
  have g__law_full := He.glo_ok X G (c.fact 74 (f := .glo "_law_full") rfl)
  obtain ⟨fd__law_full, F__law_full⟩ := c.def_ 74 (d := d__law_full) rfl
  have b__law_full : Binds K fd__law_full P__law_full [] := F__law_full.bindsN fun _ _ _ _ _ _ us hl => match us, hl with | [_, _], _ => rfl
  have g__law_name := He.glo_ok X G (c.fact 75 (f := .glo "_law_name") rfl)
  obtain ⟨fd__law_name, F__law_name⟩ := c.def_ 75 (d := d__law_name) rfl
  have b__law_name : Binds K fd__law_name P__law_name [] := F__law_name.bindsN fun _ _ _ _ _ _ us hl => match us, hl with | [_], _ => rfl
  have g__law_names := He.glo_ok X G (c.fact 76 (f := .glo "_law_names") rfl)
  obtain ⟨fd__law_names, F__law_names⟩ := c.def_ 76 (d := d__law_names) rfl
  have b__law_names : Binds K fd__law_names P__law_names [] := F__law_names.bindsN fun _ _ _ _ _ _ us hl => match us, hl with | [_], _ => rfl
  have g__law_numbers := He.glo_ok X G (c.fact 77 (f := .glo "_law_numbers") rfl)
  obtain ⟨fd__law_numbers, F__law_numbers⟩ := c.def_ 77 (d := d__law_numbers) rfl
  have b__law_numbers : Binds K fd__law_numbers P__law_numbers [] := F__law_numbers.bindsN fun _ _ _ _ _ _ us hl => match us, hl with | [_, _], _ => rfl
  obtain ⟨fd, F⟩ := c.def_ 78 (d := d_law) rfl
  have e := hfa.symm.trans (He.glo_ok X G (c.fact 78 (f := .glo "law") rfl))
  cases e
  have b := FunD.bindsA (ps := ["script"]) F fun _ _ _ _ _ _ us hl => match us, hl with | [_], _ => rfl
  refine ⟨fd, fun s v => b s [v] rfl, fun base _ _ => toAny ?_⟩
  have h__law_before : Cal PySem.Challenge.rw_sailloft_k68_edits_and_undoing.prog w K mg base 1 "_law_before" f__law_before := ⟨_, _, _, ok__law_before  F__law_before, g__law_before, F__law_before.kp, b__law_before⟩
  have h__law_placed : Cal PySem.Challenge.rw_sailloft_k68_edits_and_undoing.prog w K mg base 2 "_law_placed" f__law_placed := ⟨_, _, _, ok__law_placed h__law_before F__law_placed, g__law_placed, F__law_placed.kp, b__law_placed⟩
  have h__law_after : Cal PySem.Challenge.rw_sailloft_k68_edits_and_undoing.prog w K mg base 3 "_law_after" f__law_after := ⟨_, _, _, ok__law_after h__law_placed F__law_after, g__law_after, F__law_after.kp, b__law_after⟩
  have h__law_kinds : Cal PySem.Challenge.rw_sailloft_k68_edits_and_undoing.prog w K mg base 1 "_law_kinds" f__law_kinds := ⟨_, _, _, ok__law_kinds  F__law_kinds, g__law_kinds, F__law_kinds.kp, b__law_kinds⟩
  have h__law_lowest : Cal PySem.Challenge.rw_sailloft_k68_edits_and_undoing.prog w K mg base 1 "_law_lowest" f__law_lowest := ⟨_, _, _, ok__law_lowest m_abs m_int m_range F__law_lowest, g__law_lowest, F__law_lowest.kp, b__law_lowest⟩
  have h__law_grain : Cal PySem.Challenge.rw_sailloft_k68_edits_and_undoing.prog w K mg base 2 "_law_grain" f__law_grain := ⟨_, _, _, ok__law_grain h__law_lowest F__law_grain, g__law_grain, F__law_grain.kp, b__law_grain⟩
  have h__law_line : Cal PySem.Challenge.rw_sailloft_k68_edits_and_undoing.prog w K mg base 1 "_law_line" f__law_line := ⟨_, _, _, ok__law_line  F__law_line, g__law_line, F__law_line.kp, b__law_line⟩
  have h__law_piece : Cal PySem.Challenge.rw_sailloft_k68_edits_and_undoing.prog w K mg base 2 "_law_piece" f__law_piece := ⟨_, _, _, ok__law_piece h__law_lowest F__law_piece, g__law_piece, F__law_piece.kp, b__law_piece⟩
  have h__law_shape_row : Cal PySem.Challenge.rw_sailloft_k68_edits_and_undoing.prog w K mg base 3 "_law_shape_row" f__law_shape_row := ⟨_, _, _, ok__law_shape_row h__law_grain h__law_line h__law_lowest h__law_piece m_range m_sorted m_tuple F__law_shape_row, g__law_shape_row, F__law_shape_row.kp, b__law_shape_row⟩
  have h__law_row : Cal PySem.Challenge.rw_sailloft_k68_edits_and_undoing.prog w K mg base 4 "_law_row" f__law_row := ⟨_, _, _, ok__law_row h__law_lowest h__law_shape_row m_min m_sorted m_tuple F__law_row, g__law_row, F__law_row.kp, b__law_row⟩
  have h__law_book : Cal PySem.Challenge.rw_sailloft_k68_edits_and_undoing.prog w K mg base 5 "_law_book" f__law_book := ⟨_, _, _, ok__law_book h__law_kinds h__law_placed h__law_row m_len m_range F__law_book, g__law_book, F__law_book.kp, b__law_book⟩
  have h__law_edit : Cal PySem.Challenge.rw_sailloft_k68_edits_and_undoing.prog w K mg base 5 "_law_edit" f__law_edit := ⟨_, _, _, ok__law_edit h__law_kinds h__law_row m_len m_range F__law_edit, g__law_edit, F__law_edit.kp, b__law_edit⟩
  have h__law_find : Cal PySem.Challenge.rw_sailloft_k68_edits_and_undoing.prog w K mg base 1 "_law_find" f__law_find := ⟨_, _, _, ok__law_find  F__law_find, g__law_find, F__law_find.kp, b__law_find⟩
  have h_is_name : Cal PySem.Challenge.rw_sailloft_k68_edits_and_undoing.prog w K mg base 1 "is_name" f_is_name := ⟨_, _, _, ok_is_name m_isinstance m_len m_str c_DIGITS c_LETTERS c_MOST_NAME F_is_name, g_is_name, F_is_name.kp, b_is_name⟩
  have h_ascending_names : Cal PySem.Challenge.rw_sailloft_k68_edits_and_undoing.prog w K mg base 2 "ascending_names" f_ascending_names := ⟨_, _, _, ok_ascending_names h_is_name m_isinstance m_tuple F_ascending_names, g_ascending_names, F_ascending_names.kp, b_ascending_names⟩
  have h_is_string : Cal PySem.Challenge.rw_sailloft_k68_edits_and_undoing.prog w K mg base 1 "is_string" f_is_string := ⟨_, _, _, ok_is_string m_isinstance m_str F_is_string, g_is_string, F_is_string.kp, b_is_string⟩
  have h_is_whole : Cal PySem.Challenge.rw_sailloft_k68_edits_and_undoing.prog w K mg base 1 "is_whole" f_is_whole := ⟨_, _, _, ok_is_whole m_bool m_int m_isinstance F_is_whole, g_is_whole, F_is_whole.kp, b_is_whole⟩
  have h_is_within : Cal PySem.Challenge.rw_sailloft_k68_edits_and_undoing.prog w K mg base 2 "is_within" f_is_within := ⟨_, _, _, ok_is_within h_is_whole F_is_within, g_is_within, F_is_within.kp, b_is_within⟩
  have h_names_field : Cal PySem.Challenge.rw_sailloft_k68_edits_and_undoing.prog w K mg base 2 "names_field" f_names_field := ⟨_, _, _, ok_names_field h_is_name m_enumerate m_isinstance m_len m_tuple F_names_field, g_names_field, F_names_field.kp, b_names_field⟩
  have h_compare_ratios : Cal PySem.Challenge.rw_sailloft_k68_edits_and_undoing.prog w K mg base 1 "compare_ratios" f_compare_ratios := ⟨_, _, _, ok_compare_ratios  F_compare_ratios, g_compare_ratios, F_compare_ratios.kp, b_compare_ratios⟩
  have h_common_divisor : Cal PySem.Challenge.rw_sailloft_k68_edits_and_undoing.prog w K mg base 1 "common_divisor" f_common_divisor := ⟨_, _, _, ok_common_divisor m_abs m_int F_common_divisor, g_common_divisor, F_common_divisor.kp, b_common_divisor⟩
  have h_is_row : Cal PySem.Challenge.rw_sailloft_k68_edits_and_undoing.prog w K mg base 1 "is_row" f_is_row := ⟨_, _, _, ok_is_row m_isinstance m_len m_tuple F_is_row, g_is_row, F_is_row.kp, b_is_row⟩
  have h_is_ratio : Cal PySem.Challenge.rw_sailloft_k68_edits_and_undoing.prog w K mg base 2 "is_ratio" f_is_ratio := ⟨_, _, _, ok_is_ratio h_common_divisor h_is_row h_is_whole F_is_ratio, g_is_ratio, F_is_ratio.kp, b_is_ratio⟩
  have h_short_ratio : Cal PySem.Challenge.rw_sailloft_k68_edits_and_undoing.prog w K mg base 3 "short_ratio" f_short_ratio := ⟨_, _, _, ok_short_ratio h_is_ratio h_is_within c_MOST_NUMBER F_short_ratio, g_short_ratio, F_short_ratio.kp, b_short_ratio⟩
  have h_whole_ratio : Cal PySem.Challenge.rw_sailloft_k68_edits_and_undoing.prog w K mg base 1 "whole_ratio" f_whole_ratio := ⟨_, _, _, ok_whole_ratio  F_whole_ratio, g_whole_ratio, F_whole_ratio.kp, b_whole_ratio⟩
  have h_ratio_within : Cal PySem.Challenge.rw_sailloft_k68_edits_and_undoing.prog w K mg base 4 "ratio_within" f_ratio_within := ⟨_, _, _, ok_ratio_within h_compare_ratios h_short_ratio h_whole_ratio F_ratio_within, g_ratio_within, F_ratio_within.kp, b_ratio_within⟩
  have h_is_rule : Cal PySem.Challenge.rw_sailloft_k68_edits_and_undoing.prog w K mg base 3 "is_rule" f_is_rule := ⟨_, _, _, ok_is_rule h_compare_ratios h_is_ratio m_isinstance m_len m_tuple c_MOST_RULE c_ZERO F_is_rule, g_is_rule, F_is_rule.kp, b_is_rule⟩
  have h_rule_field : Cal PySem.Challenge.rw_sailloft_k68_edits_and_undoing.prog w K mg base 5 "rule_field" f_rule_field := ⟨_, _, _, ok_rule_field h_is_rule h_ratio_within c_MOST_STRAIN F_rule_field, g_rule_field, F_rule_field.kp, b_rule_field⟩
  have h_is_grain : Cal PySem.Challenge.rw_sailloft_k68_edits_and_undoing.prog w K mg base 2 "is_grain" f_is_grain := ⟨_, _, _, ok_is_grain h_common_divisor h_is_row h_is_whole F_is_grain, g_is_grain, F_is_grain.kp, b_is_grain⟩
  have h_grain_field : Cal PySem.Challenge.rw_sailloft_k68_edits_and_undoing.prog w K mg base 3 "grain_field" f_grain_field := ⟨_, _, _, ok_grain_field h_is_grain h_is_within c_MOST_GRAIN F_grain_field, g_grain_field, F_grain_field.kp, b_grain_field⟩
  have h_is_pull : Cal PySem.Challenge.rw_sailloft_k68_edits_and_undoing.prog w K mg base 3 "is_pull" f_is_pull := ⟨_, _, _, ok_is_pull h_is_row h_is_within c_MOST_PULL F_is_pull, g_is_pull, F_is_pull.kp, b_is_pull⟩
  have h_is_point : Cal PySem.Challenge.rw_sailloft_k68_edits_and_undoing.prog w K mg base 3 "is_point" f_is_point := ⟨_, _, _, ok_is_point h_is_ratio h_is_row F_is_point, g_is_point, F_is_point.kp, b_is_point⟩
  have h_is_spot : Cal PySem.Challenge.rw_sailloft_k68_edits_and_undoing.prog w K mg base 5 "is_spot" f_is_spot := ⟨_, _, _, ok_is_spot h_is_point h_ratio_within c_MOST_BELOW c_MOST_PLACE F_is_spot, g_is_spot, F_is_spot.kp, b_is_spot⟩
  have h_line_field : Cal PySem.Challenge.rw_sailloft_k68_edits_and_undoing.prog w K mg base 6 "line_field" f_line_field := ⟨_, _, _, ok_line_field h_is_row h_is_spot F_line_field, g_line_field, F_line_field.kp, b_line_field⟩
  have h_all_points : Cal PySem.Challenge.rw_sailloft_k68_edits_and_undoing.prog w K mg base 4 "all_points" f_all_points := ⟨_, _, _, ok_all_points h_is_point m_isinstance m_tuple F_all_points, g_all_points, F_all_points.kp, b_all_points⟩
  have h_make_ratio : Cal PySem.Challenge.rw_sailloft_k68_edits_and_undoing.prog w K mg base 2 "make_ratio" f_make_ratio := ⟨_, _, _, ok_make_ratio h_common_divisor F_make_ratio, g_make_ratio, F_make_ratio.kp, b_make_ratio⟩
  have h_add_ratios : Cal PySem.Challenge.rw_sailloft_k68_edits_and_undoing.prog w K mg base 3 "add_ratios" f_add_ratios := ⟨_, _, _, ok_add_ratios h_make_ratio F_add_ratios, g_add_ratios, F_add_ratios.kp, b_add_ratios⟩
  have h_take_ratios : Cal PySem.Challenge.rw_sailloft_k68_edits_and_undoing.prog w K mg base 3 "take_ratios" f_take_ratios := ⟨_, _, _, ok_take_ratios h_make_ratio F_take_ratios, g_take_ratios, F_take_ratios.kp, b_take_ratios⟩
  have h_times_ratios : Cal PySem.Challenge.rw_sailloft_k68_edits_and_undoing.prog w K mg base 3 "times_ratios" f_times_ratios := ⟨_, _, _, ok_times_ratios h_make_ratio F_times_ratios, g_times_ratios, F_times_ratios.kp, b_times_ratios⟩
  have h_cross_product : Cal PySem.Challenge.rw_sailloft_k68_edits_and_undoing.prog w K mg base 4 "cross_product" f_cross_product := ⟨_, _, _, ok_cross_product h_take_ratios h_times_ratios F_cross_product, g_cross_product, F_cross_product.kp, b_cross_product⟩
  have h_double_area : Cal PySem.Challenge.rw_sailloft_k68_edits_and_undoing.prog w K mg base 5 "double_area" f_double_area := ⟨_, _, _, ok_double_area h_add_ratios h_cross_product m_len m_range c_ZERO F_double_area, g_double_area, F_double_area.kp, b_double_area⟩
  have h_compare_points : Cal PySem.Challenge.rw_sailloft_k68_edits_and_undoing.prog w K mg base 2 "compare_points" f_compare_points := ⟨_, _, _, ok_compare_points h_compare_ratios F_compare_points, g_compare_points, F_compare_points.kp, b_compare_points⟩
  have h_from_least : Cal PySem.Challenge.rw_sailloft_k68_edits_and_undoing.prog w K mg base 3 "from_least" f_from_least := ⟨_, _, _, ok_from_least h_compare_points m_len m_range F_from_least, g_from_least, F_from_least.kp, b_from_least⟩
  have h_sign_ratio : Cal PySem.Challenge.rw_sailloft_k68_edits_and_undoing.prog w K mg base 1 "sign_ratio" f_sign_ratio := ⟨_, _, _, ok_sign_ratio  F_sign_ratio, g_sign_ratio, F_sign_ratio.kp, b_sign_ratio⟩
  have h_take_points : Cal PySem.Challenge.rw_sailloft_k68_edits_and_undoing.prog w K mg base 4 "take_points" f_take_points := ⟨_, _, _, ok_take_points h_take_ratios F_take_points, g_take_points, F_take_points.kp, b_take_points⟩
  have h_turn_sign : Cal PySem.Challenge.rw_sailloft_k68_edits_and_undoing.prog w K mg base 5 "turn_sign" f_turn_sign := ⟨_, _, _, ok_turn_sign h_cross_product h_sign_ratio h_take_points F_turn_sign, g_turn_sign, F_turn_sign.kp, b_turn_sign⟩
  have h_corners_turn : Cal PySem.Challenge.rw_sailloft_k68_edits_and_undoing.prog w K mg base 6 "corners_turn" f_corners_turn := ⟨_, _, _, ok_corners_turn h_turn_sign m_len m_range F_corners_turn, g_corners_turn, F_corners_turn.kp, b_corners_turn⟩
  have h_row_sides : Cal PySem.Challenge.rw_sailloft_k68_edits_and_undoing.prog w K mg base 1 "row_sides" f_row_sides := ⟨_, _, _, ok_row_sides m_tuple m_zip F_row_sides, g_row_sides, F_row_sides.kp, b_row_sides⟩
  have h_lies_between : Cal PySem.Challenge.rw_sailloft_k68_edits_and_undoing.prog w K mg base 2 "lies_between" f_lies_between := ⟨_, _, _, ok_lies_between h_compare_ratios F_lies_between, g_lies_between, F_lies_between.kp, b_lies_between⟩
  have h_on_segment : Cal PySem.Challenge.rw_sailloft_k68_edits_and_undoing.prog w K mg base 6 "on_segment" f_on_segment := ⟨_, _, _, ok_on_segment h_lies_between h_turn_sign F_on_segment, g_on_segment, F_on_segment.kp, b_on_segment⟩
  have h_sides_meet : Cal PySem.Challenge.rw_sailloft_k68_edits_and_undoing.prog w K mg base 7 "sides_meet" f_sides_meet := ⟨_, _, _, ok_sides_meet h_on_segment h_turn_sign F_sides_meet, g_sides_meet, F_sides_meet.kp, b_sides_meet⟩
  have h_sides_part : Cal PySem.Challenge.rw_sailloft_k68_edits_and_undoing.prog w K mg base 8 "sides_part" f_sides_part := ⟨_, _, _, ok_sides_part h_row_sides h_sides_meet m_len m_range F_sides_part, g_sides_part, F_sides_part.kp, b_sides_part⟩
  have h_simple_row : Cal PySem.Challenge.rw_sailloft_k68_edits_and_undoing.prog w K mg base 9 "simple_row" f_simple_row := ⟨_, _, _, ok_simple_row h_corners_turn h_sides_part m_len c_FEWEST_CORNERS c_MOST_CORNERS F_simple_row, g_simple_row, F_simple_row.kp, b_simple_row⟩
  have h_is_piece : Cal PySem.Challenge.rw_sailloft_k68_edits_and_undoing.prog w K mg base 10 "is_piece" f_is_piece := ⟨_, _, _, ok_is_piece h_all_points h_double_area h_from_least h_sign_ratio h_simple_row F_is_piece, g_is_piece, F_is_piece.kp, b_is_piece⟩
  have h_piece_field : Cal PySem.Challenge.rw_sailloft_k68_edits_and_undoing.prog w K mg base 11 "piece_field" f_piece_field := ⟨_, _, _, ok_piece_field h_is_piece h_is_spot m_len F_piece_field, g_piece_field, F_piece_field.kp, b_piece_field⟩
  have h_shape_field : Cal PySem.Challenge.rw_sailloft_k68_edits_and_undoing.prog w K mg base 12 "shape_field" f_shape_field := ⟨_, _, _, ok_shape_field h_grain_field h_is_pull h_line_field h_piece_field F_shape_field, g_shape_field, F_shape_field.kp, b_shape_field⟩
  have h_spans_field : Cal PySem.Challenge.rw_sailloft_k68_edits_and_undoing.prog w K mg base 3 "spans_field" f_spans_field := ⟨_, _, _, ok_spans_field h_is_row h_is_within m_isinstance m_len m_tuple c_MOST_SPANS c_MOST_WORN F_spans_field, g_spans_field, F_spans_field.kp, b_spans_field⟩
  have h_is_field : Cal PySem.Challenge.rw_sailloft_k68_edits_and_undoing.prog w K mg base 13 "is_field" f_is_field := ⟨_, _, _, ok_is_field h_ascending_names h_is_name h_is_string h_is_within h_names_field h_ratio_within h_rule_field h_shape_field h_spans_field c_MOST_RATIO c_ZERO F_is_field, g_is_field, F_is_field.kp, b_is_field⟩
  have h_row_fits : Cal PySem.Challenge.rw_sailloft_k68_edits_and_undoing.prog w K mg base 2 "row_fits" f_row_fits := ⟨_, _, _, ok_row_fits h_compare_ratios m_len c_ONE F_row_fits, g_row_fits, F_row_fits.kp, b_row_fits⟩
  have h_is_book_row : Cal PySem.Challenge.rw_sailloft_k68_edits_and_undoing.prog w K mg base 14 "is_book_row" f_is_book_row := ⟨_, _, _, ok_is_book_row h_is_field h_is_name h_is_string h_row_fits m_isinstance m_len m_tuple m_zip c_FIELDS c_KIND_NAMES F_is_book_row, g_is_book_row, F_is_book_row.kp, b_is_book_row⟩
  have h_is_edit : Cal PySem.Challenge.rw_sailloft_k68_edits_and_undoing.prog w K mg base 15 "is_edit" f_is_edit := ⟨_, _, _, ok_is_edit h_is_book_row h_is_name h_is_row h_is_string c_KIND_NAMES F_is_edit, g_is_edit, F_is_edit.kp, b_is_edit⟩
  have h__law_forms : Cal PySem.Challenge.rw_sailloft_k68_edits_and_undoing.prog w K mg base 16 "_law_forms" f__law_forms := ⟨_, _, _, ok__law_forms h_is_edit m_len m_list F__law_forms, g__law_forms, F__law_forms.kp, b__law_forms⟩
  have h_row_key : Cal PySem.Challenge.rw_sailloft_k68_edits_and_undoing.prog w K mg base 1 "row_key" f_row_key := ⟨_, _, _, ok_row_key  F_row_key, g_row_key, F_row_key.kp, b_row_key⟩
  have h_edit_key : Cal PySem.Challenge.rw_sailloft_k68_edits_and_undoing.prog w K mg base 2 "edit_key" f_edit_key := ⟨_, _, _, ok_edit_key h_row_key F_edit_key, g_edit_key, F_edit_key.kp, b_edit_key⟩
  have h_find_row : Cal PySem.Challenge.rw_sailloft_k68_edits_and_undoing.prog w K mg base 1 "find_row" f_find_row := ⟨_, _, _, ok_find_row x_Unknown F_find_row, g_find_row, F_find_row.kp, b_find_row⟩
  have h_has_row : Cal PySem.Challenge.rw_sailloft_k68_edits_and_undoing.prog w K mg base 1 "has_row" f_has_row := ⟨_, _, _, ok_has_row  F_has_row, g_has_row, F_has_row.kp, b_has_row⟩
  have h_kind_rows : Cal PySem.Challenge.rw_sailloft_k68_edits_and_undoing.prog w K mg base 1 "kind_rows" f_kind_rows := ⟨_, _, _, ok_kind_rows m_tuple F_kind_rows, g_kind_rows, F_kind_rows.kp, b_kind_rows⟩
  have h_put_into : Cal PySem.Challenge.rw_sailloft_k68_edits_and_undoing.prog w K mg base 2 "put_into" f_put_into := ⟨_, _, _, ok_put_into h_row_key m_tuple F_put_into, g_put_into, F_put_into.kp, b_put_into⟩
  have h_apply_edit : Cal PySem.Challenge.rw_sailloft_k68_edits_and_undoing.prog w K mg base 3 "apply_edit" f_apply_edit := ⟨_, _, _, ok_apply_edit h_edit_key h_find_row h_has_row h_kind_rows h_put_into h_row_key m_len m_tuple c_MOST_ROWS x_OutOfRange F_apply_edit, g_apply_edit, F_apply_edit.kp, b_apply_edit⟩
  have h_apply_edits : Cal PySem.Challenge.rw_sailloft_k68_edits_and_undoing.prog w K mg base 4 "apply_edits" f_apply_edits := ⟨_, _, _, ok_apply_edits h_apply_edit F_apply_edits, g_apply_edits, F_apply_edits.kp, b_apply_edits⟩
  have h_undo_edit : Cal PySem.Challenge.rw_sailloft_k68_edits_and_undoing.prog w K mg base 4 "undo_edit" f_undo_edit := ⟨_, _, _, ok_undo_edit h_apply_edit h_edit_key h_find_row h_has_row F_undo_edit, g_undo_edit, F_undo_edit.kp, b_undo_edit⟩
  have h__law_raised : Cal PySem.Challenge.rw_sailloft_k68_edits_and_undoing.prog w K mg base 5 "_law_raised" f__law_raised := ⟨_, _, _, ok__law_raised h_apply_edit h_apply_edits h_undo_edit m_int m_isinstance m_range e_F e_T F__law_raised, g__law_raised, F__law_raised.kp, b__law_raised⟩
  have h__law_same : Cal PySem.Challenge.rw_sailloft_k68_edits_and_undoing.prog w K mg base 12 "_law_same" f__law_same := ⟨_, _, _, ok__law_same m_bool m_int m_isinstance m_len m_range m_str m_tuple F__law_same g__law_same b__law_same 12, g__law_same, F__law_same.kp, b__law_same⟩
  have h__law_step : Cal PySem.Challenge.rw_sailloft_k68_edits_and_undoing.prog w K mg base 16 "_law_step" f__law_step := ⟨_, _, _, ok__law_step h__law_after h__law_find h__law_same h_apply_edit h_is_edit h_undo_edit m_tuple F__law_step, g__law_step, F__law_step.kp, b__law_step⟩
  have h__law_full : Cal PySem.Challenge.rw_sailloft_k68_edits_and_undoing.prog w K mg base 17 "_law_full" f__law_full := ⟨_, _, _, ok__law_full h__law_placed h__law_raised h__law_step m_range m_tuple F__law_full, g__law_full, F__law_full.kp, b__law_full⟩
  have h__law_name : Cal PySem.Challenge.rw_sailloft_k68_edits_and_undoing.prog w K mg base 1 "_law_name" f__law_name := ⟨_, _, _, ok__law_name  F__law_name, g__law_name, F__law_name.kp, b__law_name⟩
  have h__law_names : Cal PySem.Challenge.rw_sailloft_k68_edits_and_undoing.prog w K mg base 2 "_law_names" f__law_names := ⟨_, _, _, ok__law_names h__law_name m_range F__law_names, g__law_names, F__law_names.kp, b__law_names⟩
  have h__law_numbers : Cal PySem.Challenge.rw_sailloft_k68_edits_and_undoing.prog w K mg base 1 "_law_numbers" f__law_numbers := ⟨_, _, _, ok__law_numbers m_int m_len m_range F__law_numbers, g__law_numbers, F__law_numbers.kp, b__law_numbers⟩
  exact ok_law h__law_after h__law_book h__law_edit h__law_find h__law_forms h__law_full h__law_names h__law_numbers h__law_raised h__law_same h__law_step h_apply_edits h_is_edit m_range m_tuple F
end K68
open PySem PySem.W PySem.Calls PyProof.Rows
theorem PySem.Challenge.cw_sailloft_k68_edits_and_undoing_holds : PySem.Challenge.rw_sailloft_k68_edits_and_undoing.Holds := by
  w_on; o_law
  refine HandSHeadRun.head_any (r := OpenLaw.row PySem.Challenge.rw_sailloft_k68_edits_and_undoing) (q := view (OpenLaw.row PySem.Challenge.rw_sailloft_k68_edits_and_undoing).prog [113]) (H := K68.hk) (ob := K68.ob) (M := 6000) (loose := K68.loose) (d := HandSHeadRun.topDef (OpenLaw.row PySem.Challenge.rw_sailloft_k68_edits_and_undoing).prog 113) (kwd := []) K68.ob_eq
    (by kernel_rfl) (fun s => by kernel_rfl) K68.run (by kernel_rfl) (by kernel_rfl) (by kernel_rfl) (by rfl) (by first | assumption | decide +kernel) (by decide +kernel) ⟨rfl, rfl, rfl, rfl, rfl, by decide +kernel⟩ ?hw ?hc
  case hw => w_witness2
  case hc =>
    refine L2.walk_ofE (l := PySem.Challenge.rw_sailloft_k68_edits_and_undoing) (n := 63) (k := 18) (x := "script") (CX := DL.CXa) rfl (by decide) (by kernel_rfl) ⟨rfl, by decide, by decide⟩ ?F DL.CXa_no
    intro w mg fa h Y G hmg0
    obtain ⟨K, KX, c⟩ := Y
    have hmg : mg ("law" : PySem.Str) = some (.ref fa) := by
      have e : (HandSHeadRun.topDef (OpenLaw.row PySem.Challenge.rw_sailloft_k68_edits_and_undoing).prog 113).name = ("law" : PySem.Str) := by kernel_rfl
      rw [← e]
      exact hmg0
    obtain ⟨fd, hb, hF⟩ := K68.facts (w := w) KX G hmg c
    exact ⟨K, fd, _, KX, hb, fun H a ns hl _ hS => DL.spTrue (K68.plain ns hl) hS, hF⟩
