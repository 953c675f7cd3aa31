import PyProof.Rows.All
import Wide.All
import OpenK.AllK
import Wide.FinOn
import HandS.ForMost
import HandS.More
import HandS.Exc
import HandS.ExcOwn
import HandS.TupAny
import HandS.TupLe
import HandS.CallSlots
import HandS.WordsExc
import HandS.IsInst
import HandS.Wide
import HandS.Text
import HandS.Style
import HandS.Defaults
import HandS.HeadHook1
import HandS.HeadHook2
import KE.KStateDown
import HandS.Base
import HandS.Call
import HandS.Ends
import HandS.Words
import HandS.Head0
import HandS.Head1
import HandS.Head2
import HandS.HeadEnd
import PySem.Challenge.RW_sailloft_k69_differences
set_option Elab.async false
set_option linter.all false
set_option maxRecDepth 100000
set_option maxHeartbeats 0
/-! DL1: pure data over the hand layer: representation, growth, results, expressions. -/
namespace DL
open PySem PySem.Spec PyProof.Rows L2

abbrev D := PyData

/-! ### representation -/
/-- a dict with text keys: tracked, or of the written part -/
def DicAt (K : PySem.W.Frag) (w : World) (H : Hp) (a : Addr) (kvs : List (Str × V)) : Prop :=
  H a = some (.dK (kvs.map fun q => ((Sum.inr q.1 : Key), q.2))) ∨
    ∃ es n, L2.KDict K w a es n ∧ ∀ k : Str, ∃ r, PySem.W.nsIn K a k = some r ∧ RelO (kvs.lookup k) r
mutual
inductive Rp (K : PySem.W.Frag) (w : World) (H : Hp) : V → D → Prop
  | non : Rp K w H .non .none
  | bl (b : Bool) : Rp K w H (.bl b) (.bool b)
  | int (i : Int) : Rp K w H (.int i) (.int i)
  | str (x : Str) : Rp K w H (.str x) (.str x)
  | lst {a : Addr} {xs : List V} {ds : List D} : H a = some (.lst xs) → RpAll K w H xs ds → Rp K w H (.ref a) (.list ds)
  | tup {a : Addr} {xs : List V} {ds : List D} : SqT K H a xs → RpAll K w H xs ds → Rp K w H (.ref a) (.tuple ds)
  | scr {a : Addr} {xs : List V} {ds : List D} : SqL K H a xs → RpAll K w H xs ds → Rp K w H (.ref a) (.dict [(.none, .list ds)])
  | dic {a : Addr} {kvs : List (Str × V)} {ds : List D} : DicAt K w H a kvs → RpAll K w H (kvs.map (·.2)) ds → Rp K w H (.ref a) (.dict ((kvs.map fun q => PyData.str q.1).zip ds))
inductive RpAll (K : PySem.W.Frag) (w : World) (H : Hp) : List V → List D → Prop
  | nil : RpAll K w H [] []
  | cons {v : V} {vs : List V} {d : D} {ds : List D} : Rp K w H v d → RpAll K w H vs ds → RpAll K w H (v :: vs) (d :: ds)
end
theorem seqT {K : PySem.W.Frag} {H H' : Hp} {a : Addr} {xs : List V} (e : Same H H') (h : SqT K H a xs) : SqT K H' a xs := by
  rcases h with (h | ⟨o, h⟩) | h
  · exact .inl (.inl (e _ _ h))
  · exact .inl (.inr ⟨o, e _ _ h⟩)
  · exact .inr h
section
variable {K : PySem.W.Frag} {w : World} {H H' : Hp}
mutual
theorem Rp.mono (e : Same H H') : ∀ {v : V} {d : D}, Rp K w H v d → Rp K w H' v d
  | _, _, .non => .non
  | _, _, .bl b => .bl b
  | _, _, .int i => .int i
  | _, _, .str x => .str x
  | _, _, .lst h r => .lst (e _ _ h) (RpAll.mono e r)
  | _, _, .tup h r => .tup (seqT e h) (RpAll.mono e r)
  | _, _, .scr h r => .scr (e.seq h) (RpAll.mono e r)
  | _, _, .dic h r => .dic (h.imp (fun q => e _ _ q) id) (RpAll.mono e r)
theorem RpAll.mono (e : Same H H') : ∀ {vs : List V} {ds : List D}, RpAll K w H vs ds → RpAll K w H' vs ds
  | _, _, .nil => .nil
  | _, _, .cons h r => .cons (Rp.mono e h) (RpAll.mono e r)
end
theorem RpAll.length : ∀ {vs : List V} {ds : List D}, RpAll K w H vs ds → vs.length = ds.length
  | _, _, .nil => rfl
  | _, _, .cons _ r => congrArg Nat.succ r.length
theorem RpAll.get : ∀ {vs : List V} {ds : List D} {i : Nat} {d : D}, RpAll K w H vs ds → ds[i]? = some d → ∃ v, vs[i]? = some v ∧ Rp K w H v d
  | _, _, _, _, .nil, e => by simp at e
  | _, _, 0, _, .cons h _, e => by
    simp at e
    subst e
    exact ⟨_, rfl, h⟩
  | _, _, i + 1, d, .cons _ r, e => by
    obtain ⟨v, h1, h2⟩ := RpAll.get (i := i) (d := d) r (by simpa using e)
    exact ⟨v, by simpa using h1, h2⟩
theorem RpAll.getV : ∀ {vs : List V} {ds : List D} {i : Nat} {v : V}, RpAll K w H vs ds → vs[i]? = some v → ∃ d, ds[i]? = some d ∧ Rp K w H v d
  | _, _, _, _, .nil, e => by simp at e
  | _, _, 0, _, .cons h _, e => by
    simp at e
    subst e
    exact ⟨_, rfl, h⟩
  | _, _, i + 1, d, .cons _ r, e => by
    obtain ⟨v, h1, h2⟩ := RpAll.getV (i := i) (v := d) r (by simpa using e)
    exact ⟨v, by simpa using h1, h2⟩
theorem RpAll.append : ∀ {vs us : List V} {ds es : List D}, RpAll K w H vs ds → RpAll K w H us es → RpAll K w H (vs ++ us) (ds ++ es)
  | _, _, _, _, .nil, s => s
  | _, _, _, _, .cons h r, s => .cons h (RpAll.append r s)
theorem RpAll.take : ∀ {vs : List V} {ds : List D} (n : Nat), RpAll K w H vs ds → RpAll K w H (vs.take n) (ds.take n)
  | _, _, 0, _ => .nil
  | _, _, _ + 1, .nil => .nil
  | _, _, n + 1, .cons h r => .cons h (RpAll.take n r)
theorem RpAll.drop : ∀ {vs : List V} {ds : List D} (n : Nat), RpAll K w H vs ds → RpAll K w H (vs.drop n) (ds.drop n)
  | _, _, 0, r => r
  | _, _, _ + 1, .nil => .nil
  | _, _, n + 1, .cons _ r => RpAll.drop n r
theorem RpAll.set : ∀ {vs : List V} {ds : List D} {v : V} {d : D} (i : Nat), RpAll K w H vs ds → Rp K w H v d → RpAll K w H (vs.set i v) (ds.set i d)
  | _, _, _, _, _, .nil, _ => .nil
  | _, _, _, _, 0, .cons _ r, q => .cons q r
  | _, _, _, _, i + 1, .cons h r, q => .cons h (RpAll.set i r q)
theorem RpAll.reverse {vs : List V} {ds : List D} (h : RpAll K w H vs ds) : RpAll K w H vs.reverse ds.reverse := by
  induction vs generalizing ds with
  | nil => cases h; exact .nil
  | cons v vs ih =>
    cases h with
    | cons h r =>
      rw [List.reverse_cons, List.reverse_cons]
      exact (ih r).append (.cons h .nil)
/-- data without objects: what is true of it in no heap -/
theorem Rp.ints (w : World) (H : Hp) : ∀ ns : List Int, RpAll K w H (ns.map V.int) (ns.map PyData.int)
  | [] => .nil
  | n :: ns => .cons (.int n) (Rp.ints w H ns)
/-! ### as the library has it: data without dicts -/
mutual
theorem Rp.dp : ∀ (d : D) (v : V), Rp K w H v d → d.canLay0 = true → Dp K H v d
  | .none, _, h, _ => by cases h; exact .non
  | .bool b, _, h, _ => by cases h; exact .bl b
  | .int i, _, h, _ => by cases h; exact .int i
  | .str x, _, h, _ => by cases h; exact .str x
  | .list ds, _, h, c => by
    cases h with
    | lst e r => exact .lst (SqL.of e) (Rp.dpAll ds _ r (by simpa only [PyData.canLay0] using c))
  | .tuple ds, _, h, c => by
    cases h with
    | tup e r => exact .tup e (Rp.dpAll ds _ r (by simpa only [PyData.canLay0] using c))
  | .dict _, _, _, c => by simp only [PyData.canLay0] at c; cases c
theorem Rp.dpAll : ∀ (ds : List D) (vs : List V), RpAll K w H vs ds → PyData.canLayAll0 ds = true → DpAll K H vs ds
  | [], _, h, _ => by cases h; exact .nil
  | d :: ds, _, h, c => by
    cases h with
    | cons h1 h2 =>
      have c' : d.canLay0 = true ∧ PyData.canLayAll0 ds = true := by simpa [PyData.canLayAll0] using c
      exact .cons (Rp.dp d _ h1 c'.1) (Rp.dpAll ds _ h2 c'.2)
end
end

/-! ### growth -/
/-- G: what is read for ever; H: all that is tracked -/
structure Gr (G H G' H' : Hp) : Prop where
  g : Same G G'
  s : Same G' H'
  h : Same H H'
  o : ∀ a, H a ≠ none → G a = none → G' a = none
theorem Gr.refl {G H : Hp} (s : Same G H) : Gr G H G H := ⟨Same.refl _, s, Same.refl _, fun _ _ h => h⟩
theorem Gr.trans {G H G1 H1 G2 H2 : Hp} (a : Gr G H G1 H1) (b : Gr G1 H1 G2 H2) : Gr G H G2 H2 :=
  ⟨a.g.trans b.g, b.s, a.h.trans b.h, fun c h1 h2 => b.o c (fun e => by
    cases q : H c with
    | none => exact h1 q
    | some o => rw [a.h c o q] at e; cases e) (a.o c h1 h2)⟩
theorem same_upd {H : Hp} {p : Addr} {o : HO} (h : H p = none) : Same H (upd H p o) := fun b x e => by
  rw [upd_ne (ne_of_none e h)]
  exact e
theorem upd2 {G H : Hp} {p : Addr} {o : HO} (s : Same G H) : Same (upd G p o) (upd H p o) := fun b x e => by
  by_cases hb : b = p
  · subst hb; rw [upd_same] at e ⊢; exact e
  · rw [upd_ne hb] at e ⊢; exact s b x e
theorem Gr.new {G H : Hp} {p : Addr} {o : HO} (s : Same G H) (h : H p = none) : Gr G H (upd G p o) (upd H p o) :=
  ⟨same_upd (s.free h), upd2 s, same_upd h, fun a h1 h2 => by
    have ne : a ≠ p := fun e => h1 (e ▸ h)
    rw [upd_ne ne]; exact h2⟩

/-! ### results -/
structure Er where
  cls : Str
  arg : Option (Str × D) := none
inductive Res (α : Type) where
  | ok (a : α)
  | er (e : Er)
  | no
theorem nr {α : Sort _} {a b : α} (h : a = b) : a = b := h
def Res.bind {α β : Type} : Res α → (α → Res β) → Res β
  | .ok a, f => f a
  | .er e, _ => .er e
  | .no, _ => .no
def Res.of {α : Type} : Option α → Res α
  | some a => .ok a
  | none => .no
@[simp] theorem Res.bind_ok {α β : Type} (a : α) (f : α → Res β) : (Res.ok a).bind f = f a := nr rfl
@[simp] theorem Res.bind_er {α β : Type} (e : Er) (f : α → Res β) : (Res.er e : Res α).bind f = .er e := nr rfl
@[simp] theorem Res.bind_no {α β : Type} (f : α → Res β) : (Res.no : Res α).bind f = .no := nr rfl
@[simp] theorem Res.of_some {α : Type} (a : α) : Res.of (some a) = .ok a := nr rfl
@[simp] theorem Res.of_none {α : Type} : Res.of (none : Option α) = .no := nr rfl
theorem Res.of_ok {α : Type} {o : Option α} {a : α} (h : Res.of o = .ok a) : o = some a := by
  cases o with
  | none => cases h
  | some b => cases h; rfl
theorem Res.of_er {α : Type} {o : Option α} {e : Er} (h : Res.of o = .er e) : False := by
  cases o <;> cases h

/-! ### slots -/
abbrev Bt := List (Option D)
/-- an exception of ours -/
def ErR (K : PySem.W.Frag) (w : World) (mg : Str → Option Value) (e : Er) (cls : Value) (dd : Option Addr) (G H : Hp) : Prop :=
  ∃ C, mg e.cls = some (.ref C) ∧ cls = .ref C ∧ match e.arg with
    | none => dd = none
    | some (f, x) => ∃ a v, dd = some a ∧ H a = some (.xd [(f, v)]) ∧ Rp K w G v x
def Ev (K : PySem.W.Frag) (w : World) (G : Hp) (σ : L2.St) (β : Bt) : Prop := β.length ≤ σ.length ∧ ∀ (i : Nat) (d : D), β[i]? = some (some d) → ∃ v, σ[i]? = some (some v) ∧ Rp K w G v d
theorem Ev.mono {K : PySem.W.Frag} {w : World} {G G' : Hp} {σ : L2.St} {β : Bt} (h : Ev K w G σ β) (e : Same G G') : Ev K w G' σ β := ⟨h.1, fun i d q => by
  obtain ⟨v, h1, h2⟩ := h.2 i d q
  exact ⟨v, h1, h2.mono e⟩⟩
/-- what an expression gives -/
def RP {α : Type} (K : PySem.W.Frag) (w : World) (mg : Str → Option Value) (W : WX) (σ : L2.St) (G H : Hp) (good : α → Hp → Hp → Prop) : Res α → Prop
  | .ok a => ∀ G' H', Gr G H G' H' → good a G' H'
  | .er e => ∀ cls dd G' H', Gr G H G' H' → ErR K w mg e cls dd G' H' → W cls dd σ H'
  | .no => False
def TR (X : Cx) (W : WX) (den : Bt → Res D) : TE := fun σ H Q => ∃ G β, Same G H ∧ Ev X.K X.w G σ β ∧ RP X.K X.w X.mg W σ G H (fun d G' H' => ∀ v, Rp X.K X.w G' v d → Q v H') (den β)
def TRt (X : Cx) (W : WX) (den : Bt → Res Bool) : TT := fun σ H Q => ∃ G β, Same G H ∧ Ev X.K X.w G σ β ∧ RP X.K X.w X.mg W σ G H (fun b _ H' => Q b H') (den β)
def TRa (X : Cx) (W : WX) (den : Bt → Res (List D)) : TA := fun σ H Q => ∃ G β, Same G H ∧ Ev X.K X.w G σ β ∧ RP X.K X.w X.mg W σ G H (fun ds G' H' => ∀ vs, RpAll X.K X.w G' vs ds → Q vs H') (den β)
/-- the expression e gives what den says -/
def RE (X : Cx) (W : WX) (e : Expr) (den : Bt → Res D) : Prop := PE X e (TR X W den)
def RT (X : Cx) (W : WX) (e : Expr) (den : Bt → Res Bool) : Prop := PT X e (TRt X W den)
def RW (X : Cx) (W : WX) (e : Expr) (den : Bt → Res Bool) : Prop := PW X e (TRt X W den)
def RA (X : Cx) (W : WX) (es : List Expr) (den : Bt → Res (List D)) : Prop := PA X es (TRa X W den)
theorem PE.imp {X : Cx} {e : Expr} {t t' : TE} (h : PE X e t) (i : ∀ σ H Q, t' σ H Q → t σ H Q) : PE X e t' := ⟨fun pins s σ H Q I q => h.run pins s σ H Q I (i σ H Q q)⟩
theorem PT.imp {X : Cx} {e : Expr} {t t' : TT} (h : PT X e t) (i : ∀ σ H Q, t' σ H Q → t σ H Q) : PT X e t' := ⟨fun pins s σ H Q I q => h.run pins s σ H Q I (i σ H Q q)⟩
theorem PW.imp {X : Cx} {e : Expr} {t t' : TT} (h : PW X e t) (i : ∀ σ H Q, t' σ H Q → t σ H Q) : PW X e t' := ⟨fun wh pins s σ H Q I q => h.run wh pins s σ H Q I (i σ H Q q)⟩
theorem PA.imp {X : Cx} {es : List Expr} {t t' : TA} (h : PA X es t) (i : ∀ σ H Q, t' σ H Q → t σ H Q) : PA X es t' := ⟨fun pos pins s σ H Q I q => h.run pos pins s σ H Q I (i σ H Q q)⟩
section
variable {K : PySem.W.Frag} {w : World} {mg : Str → Option Value} {W : WX} {σ : L2.St} {G H : Hp}
/-- a bind: the first part's wish from the whole's -/
theorem RP.bind {α β : Type} {good : α → Hp → Hp → Prop} {good2 : β → Hp → Hp → Prop} {r : Res α} {f : α → Res β} (h : RP K w mg W σ G H good2 (r.bind f))
    (k : ∀ a, r = .ok a → ∀ G' H', Gr G H G' H' → RP K w mg W σ G' H' good2 (f a) → good a G' H') : RP K w mg W σ G H good r := by
  cases r with
  | no => exact h
  | er e => exact h
  | ok a =>
    have h' : RP K w mg W σ G H good2 (f a) := h
    intro G' H' g
    refine k a rfl G' H' g ?_
    cases q : f a with
    | no => rw [q] at h'; exact h'
    | er e => rw [q] at h'; exact fun cls dd G2 H2 g2 z => h' cls dd G2 H2 (g.trans g2) z
    | ok b => rw [q] at h'; exact fun G2 H2 g2 => h' G2 H2 (g.trans g2)
theorem RP.here {α : Type} {good : α → Hp → Hp → Prop} {a : α} (h : RP K w mg W σ G H good (.ok a)) {G' H' : Hp} (g : Gr G H G' H') : good a G' H' := h G' H' g
theorem RP.ofOpt {α : Type} {good : α → Hp → Hp → Prop} {o : Option α} (h : RP K w mg W σ G H good (Res.of o)) : ∃ a, o = some a ∧ ∀ G' H', Gr G H G' H' → good a G' H' := by
  cases o with
  | none => exact h.elim
  | some a => exact ⟨a, rfl, h⟩
end
end DL

/-! DL2: expressions: names, constants, operators, comparisons, displays, tests. -/
namespace DL
open PySem PySem.Spec PyProof.Rows L2

/-! ### what they compute -/
def dV (i : Nat) : Bt → Res D := fun β => match β[i]? with
  | some (some d) => .ok d
  | _ => .no
def dC (d : D) : Bt → Res D := fun _ => .ok d
def d1 (f : D → Option D) (a : Bt → Res D) : Bt → Res D := fun β => (a β).bind fun x => Res.of (f x)
def d2 (f : D → D → Option D) (a b : Bt → Res D) : Bt → Res D := fun β => (a β).bind fun x => (b β).bind fun y => Res.of (f x y)
def aNil : Bt → Res (List D) := fun _ => .ok []
def aCons (a : Bt → Res D) (r : Bt → Res (List D)) : Bt → Res (List D) := fun β => (a β).bind fun x => (r β).bind fun xs => .ok (x :: xs)
def dTup (a : Bt → Res (List D)) : Bt → Res D := fun β => (a β).bind fun xs => if xs.length ≤ sizeLine then .ok (.tuple xs) else .no
def dLst (a : Bt → Res (List D)) : Bt → Res D := fun β => (a β).bind fun xs => if xs.length ≤ sizeLine then .ok (.list xs) else .no
def dN (f : List D → Option D) (a : Bt → Res (List D)) : Bt → Res D := fun β => (a β).bind fun xs => Res.of (f xs)
def asB : D → Option Bool
  | .bool b => some b
  | _ => none
def tV (a : Bt → Res D) : Bt → Res Bool := fun β => (a β).bind fun x => Res.of (asB x)
def tNot (a : Bt → Res Bool) : Bt → Res Bool := fun β => (a β).bind fun x => .ok (!x)
def tAnd (a b : Bt → Res Bool) : Bt → Res Bool := fun β => (a β).bind fun x => if x = true then b β else .ok false
def tOr (a b : Bt → Res Bool) : Bt → Res Bool := fun β => (a β).bind fun x => if x = true then .ok true else b β
def dNot (a : Bt → Res D) : Bt → Res D := fun β => (a β).bind fun x => (Res.of (asB x)).bind fun x => .ok (.bool !x)
def dAnd (a b : Bt → Res D) : Bt → Res D := fun β => (a β).bind fun x => (Res.of (asB x)).bind fun x => if x = true then b β else .ok (.bool false)
def dOr (a b : Bt → Res D) : Bt → Res D := fun β => (a β).bind fun x => (Res.of (asB x)).bind fun x => if x = true then .ok (.bool true) else b β
def dIf (t : Bt → Res Bool) (a b : Bt → Res D) : Bt → Res D := fun β => (t β).bind fun x => if x = true then a β else b β

/-! ### the rules' common part -/
section
variable {X : Cx} {W : WX}
/-- r gives what f computes -/
def OkR1 (X : Cx) (r : V → Hp → VK → Prop) (f : D → Option D) : Prop := ∀ x d, f x = some d → ∀ v G H Q, Same G H → Rp X.K X.w G v x → (∀ G' H', Gr G H G' H' → ∀ u, Rp X.K X.w G' u d → Q u H') → r v H Q
def OkR2 (X : Cx) (r : R2) (f : D → D → Option D) : Prop := ∀ x y d, f x y = some d → ∀ v u G H Q, Same G H → Rp X.K X.w G v x → Rp X.K X.w G u y → (∀ G' H', Gr G H G' H' → ∀ u, Rp X.K X.w G' u d → Q u H') → r v u H Q
def OkRN (X : Cx) (r : List V → Hp → VK → Prop) (f : List D → Option D) : Prop := ∀ xs d, f xs = some d → ∀ vs G H Q, Same G H → RpAll X.K X.w G vs xs → (∀ G' H', Gr G H G' H' → ∀ u, Rp X.K X.w G' u d → Q u H') → r vs H Q
theorem op2D {r : R2} {f : D → D → Option D} {da db : Bt → Res D} (k : OkR2 X r f) (σ : L2.St) (H : Hp) (Q : VK) (h : TR X W (d2 f da db) σ H Q) : tOp r (TR X W da) (TR X W db) σ H Q := by
  obtain ⟨G, β, s, ev, rp⟩ := h
  refine ⟨G, β, s, ev, rp.bind fun x ex G1 H1 g1 rp1 v rv => ?_⟩
  refine ⟨G1, β, g1.s, ev.mono g1.g, rp1.bind fun y ey G2 H2 g2 rp2 u ru => ?_⟩
  obtain ⟨d, ed, q⟩ := rp2.ofOpt
  exact k x y d ed v u G2 H2 Q g2.s (rv.mono g2.g) ru q
theorem op1D {r : V → Hp → VK → Prop} {f : D → Option D} {da : Bt → Res D} (k : OkR1 X r f) (σ : L2.St) (H : Hp) (Q : VK) (h : TR X W (d1 f da) σ H Q) : tUn r (TR X W da) σ H Q := by
  obtain ⟨G, β, s, ev, rp⟩ := h
  refine ⟨G, β, s, ev, rp.bind fun x ex G1 H1 g1 rp1 v rv => ?_⟩
  obtain ⟨d, ed, q⟩ := rp1.ofOpt
  exact k x d ed v G1 H1 Q g1.s rv q
theorem opND {r : List V → Hp → VK → Prop} {f : List D → Option D} {da : Bt → Res (List D)} (k : OkRN X r f) (σ : L2.St) (H : Hp) (Q : VK) (h : TR X W (dN f da) σ H Q) : tCB r (TRa X W da) σ H Q := by
  obtain ⟨G, β, s, ev, rp⟩ := h
  refine ⟨G, β, s, ev, rp.bind fun x ex G1 H1 g1 rp1 v rv => ?_⟩
  obtain ⟨d, ed, q⟩ := rp1.ofOpt
  exact k x d ed v G1 H1 Q g1.s rv q
theorem OkR2.or1 {r r' : R2} {f g : D → D → Option D} (h : OkR2 X r f) (h' : OkR2 X r' g) : OkR2 X (fun x y H Q => r x y H Q ∨ r' x y H Q) (fun x y => (f x y).or (g x y)) := fun x y d e0 v u G H Q s rv ru q => by
  have e : (f x y).or (g x y) = some d := e0
  cases ef : f x y with
  | some z =>
    rw [ef] at e
    exact .inl (h x y d (ef.trans e) v u G H Q s rv ru q)
  | none =>
    rw [ef] at e
    exact .inr (h' x y d e v u G H Q s rv ru q)
theorem OkR2.from {r : R2} {f g : D → D → Option D} (h : OkR2 X r f) (e : ∀ x y d, g x y = some d → f x y = some d) : OkR2 X r g := fun x y d q => h x y d (e x y d q)
theorem OkR1.from {r : V → Hp → VK → Prop} {f g : D → Option D} (h : OkR1 X r f) (e : ∀ x d, g x = some d → f x = some d) : OkR1 X r g := fun x d q => h x d (e x d q)

/-! ### names, constants -/
theorem rv (i : Nat) {x : Str} {pos : Pos} (hN : X.N[i]? = some x := by rfl) (hv : Vis X.env.scope x := by first | exact Or.inl rfl | exact Or.inr (Or.inl rfl) | exact Or.inr (Or.inr rfl)) (hd : (x == ("__debug__" : Str)) = false := by decide)
    (hcd : (x == ("__classdict__" : Str)) = false := by decide) : RE X W (.Name x pos) (dV i) := by
  refine PE.imp (pe_var hN hv hd hcd) fun σ H Q h => ?_
  obtain ⟨G, β, s, ev, rp⟩ := h
  unfold dV at rp
  split at rp
  · rename_i d e
    obtain ⟨v, e1, e2⟩ := ev.2 i d e
    exact ⟨v, e1, rp.here (Gr.refl s) v e2⟩
  · exact rp.elim
theorem rconst {e : Expr} {v : V} {d : D} (h : PE X e (tC v)) (r : ∀ G, Rp X.K X.w G v d) : RE X W e (dC d) := by
  refine PE.imp h fun σ H Q h => ?_
  obtain ⟨G, β, s, ev, rp⟩ := h
  exact rp.here (Gr.refl s) v (r G)
theorem rint {i j pos} : RE X W (.Constant (.int i) j pos) (dC (.int i)) := rconst pe_int fun _ => .int _
theorem rstr {i j pos} : RE X W (.Constant (.str i) j pos) (dC (.str i)) := rconst pe_str fun _ => .str _
theorem rbl {i j pos} : RE X W (.Constant (.bool i) j pos) (dC (.bool i)) := rconst pe_bl fun _ => .bl _
theorem rnone {j pos} : RE X W (.Constant .none j pos) (dC .none) := rconst pe_non fun _ => .non
/-- a constant of the module -/
theorem rglob {x : Str} {v : V} {u : Value} {d : D} {pos : Pos} (hm : X.mg x = some u) (r : RelV v u) (rp : ∀ G, Rp X.K X.w G v d) (hg : Gl X x := by rfl) (hd : (x == ("__debug__" : Str)) = false := by decide) : RE X W (.Name x pos) (dC d) :=
  rconst (pe_glob hg hm r hd) rp

/-! ### operators -/
theorem rop {a b : Expr} {da db : Bt → Res D} {op : Operator} {pos : Pos} {r : R2} {f : D → D → Option D} (ho : OpR X (binaryOp op) r) (k : OkR2 X r f) (ha : RE X W a da) (hb : RE X W b db) : RE X W (.BinOp a op b pos) (d2 f da db) :=
  PE.imp (pe_op ho ha hb) (op2D k)
theorem rcmp {a b : Expr} {da db : Bt → Res D} {op : CmpOp} {pos : Pos} {r : R2} {f : D → D → Option D} (ho : OpR X (compareOp op) r) (k : OkR2 X r f) (ha : RE X W a da) (hb : RE X W b db) (hm : behindInMarks op b = false := by rfl) : RE X W (.Compare a [op] [b] pos) (d2 f da db) :=
  PE.imp (pe_cmpR ho ha hb hm) (op2D k)
theorem rix {a b : Expr} {da db : Bt → Res D} {pos : Pos} {r : R2} {f : D → D → Option D} (ho : IxR X r) (k : OkR2 X r f) (ha : RE X W a da) (hb : RE X W b db) (hs : PlainIx b := by exact fun _ _ => rfl) : RE X W (.Subscript a b pos) (d2 f da db) :=
  PE.imp (pe_ix ho ha hb hs) (op2D k)
theorem runo {a : Expr} {da : Bt → Res D} {op : UnaryOp} {pos : Pos} {r : V → Hp → VK → Prop} {f : D → Option D} (ho : UnR X (unaryOp op) r) (k : OkR1 X r f) (ha : RE X W a da) : RE X W (.UnaryOp op a pos) (d1 f da) :=
  PE.imp (pe_un ho ha) (op1D k)

/-! ### arguments, displays -/
theorem ranil : RA X W [] aNil := PA.imp pa_nil fun σ H Q h => by
  obtain ⟨G, β, s, ev, rp⟩ := h
  exact rp.here (Gr.refl s) [] .nil
theorem racons {e : Expr} {es : List Expr} {da : Bt → Res D} {dr : Bt → Res (List D)} (ha : RE X W e da) (hr : RA X W es dr) (hs : starEach (e :: es) X.env = (false, eval e X.env) :: starEach es X.env := by rfl) : RA X W (e :: es) (aCons da dr) :=
  PA.imp (pa_cons ha hr hs) fun σ H Q h => by
    obtain ⟨G, β, s, ev, rp⟩ := h
    refine ⟨G, β, s, ev, rp.bind fun x ex G1 H1 g1 rp1 v rv => ?_⟩
    refine ⟨G1, β, g1.s, ev.mono g1.g, rp1.bind fun y ey G2 H2 g2 rp2 u ru => ?_⟩
    exact rp2.here (Gr.refl g2.s) (v :: u) (.cons (rv.mono g2.g) ru)
theorem rtup {es : List Expr} {da : Bt → Res (List D)} {x1} {pos : Pos} (h : RA X W es da) : RE X W (.Tuple es x1 pos) (dTup da) :=
  PE.imp (pe_tup h) fun σ H Q h => by
    obtain ⟨G, β, s, ev, rp⟩ := h
    refine ⟨G, β, s, ev, rp.bind fun x ex G1 H1 g1 rp1 vs rv => ?_⟩
    have hl := rv.length
    by_cases hz : x.length ≤ sizeLine
    · rw [if_pos hz] at rp1
      refine ⟨by omega, fun p hp => ?_⟩
      exact rp1.here (Gr.new g1.s hp) (.ref p) (.tup (.inl (.inl upd_same)) (RpAll.mono (same_upd (g1.s.free hp)) rv))
    · rw [if_neg hz] at rp1
      exact rp1.elim
theorem rlst {es : List Expr} {da : Bt → Res (List D)} {pos : Pos} (h : RA X W es da) : RE X W (.List es pos) (dLst da) :=
  PE.imp (pe_lst h) fun σ H Q h => by
    obtain ⟨G, β, s, ev, rp⟩ := h
    refine ⟨G, β, s, ev, rp.bind fun x ex G1 H1 g1 rp1 vs rv => ?_⟩
    have hl := rv.length
    by_cases hz : x.length ≤ sizeLine
    · rw [if_pos hz] at rp1
      refine ⟨by omega, fun p hp => ?_⟩
      exact rp1.here (Gr.new g1.s hp) (.ref p) (.lst upd_same (RpAll.mono (same_upd (g1.s.free hp)) rv))
    · rw [if_neg hz] at rp1
      exact rp1.elim

/-! ### tests and bools -/
theorem asB_ok {d : D} {b : Bool} (h : asB d = some b) : d = .bool b := by
  cases d <;> simp [asB] at h
  rw [h]
theorem rt {e : Expr} {da : Bt → Res D} (h : RE X W e da) (he : ∀ whole, isTrue e X.env whole = (do let v ← whole; standAt e.pos; holding [v] (truthy v)) := by intro _; rfl) : RT X W e (tV da) :=
  PT.imp (pt_val h he) fun σ H Q h => by
    obtain ⟨G, β, s, ev, rp⟩ := h
    refine ⟨G, β, s, ev, rp.bind fun x ex G1 H1 g1 rp1 v rv => ?_⟩
    obtain ⟨b, eb, q⟩ := rp1.ofOpt
    cases asB_ok eb
    cases rv
    exact ⟨b, rfl, q _ _ (Gr.refl g1.s)⟩
theorem rtcmp {a b : Expr} {da db : Bt → Res D} {op : CmpOp} {pos : Pos} {r : R2} {f : D → D → Option D} (ho : OpR X (compareOp op) r) (k : OkR2 X r f) (ha : RE X W a da) (hb : RE X W b db) (hm : behindInMarks op b = false := by rfl) : RT X W (.Compare a [op] [b] pos) (tV (d2 f da db)) :=
  PT.imp (pt_cmpR ho ha hb hm) fun σ H Q h => by
    obtain ⟨G, β, s, ev, rp⟩ := h
    refine op2D (W := W) (da := da) (db := db) k σ H (fun x H' => ∃ k, x = .bl k ∧ Q k H') ⟨G, β, s, ev, rp.bind fun x ex G1 H1 g1 rp1 v rv => ?_⟩
    obtain ⟨b, eb, q⟩ := rp1.ofOpt
    cases asB_ok eb
    cases rv
    exact ⟨b, rfl, q _ _ (Gr.refl g1.s)⟩
theorem rtnot {a : Expr} {da : Bt → Res Bool} {pos : Pos} (h : RT X W a da) : RT X W (.UnaryOp .Not a pos) (tNot da) :=
  PT.imp (pt_not h) fun σ H Q h => by
    obtain ⟨G, β, s, ev, rp⟩ := h
    refine ⟨G, β, s, ev, rp.bind fun x ex G1 H1 g1 rp1 => ?_⟩
    exact rp1.here (Gr.refl g1.s)
theorem rw1 {a : Expr} {da : Bt → Res Bool} {pos : Pos} (h : RT X W a da) : RW X W (.BoolOp .And [a] pos) da := pw_and1 h
theorem rwo1 {a : Expr} {da : Bt → Res Bool} {pos : Pos} (h : RT X W a da) : RW X W (.BoolOp .Or [a] pos) da := pw_or1 h
theorem rwand {a b : Expr} {rest : List Expr} {da db : Bt → Res Bool} {pos : Pos} (ha : RT X W a da) (hb : RW X W (.BoolOp .And (b :: rest) pos) db) : RW X W (.BoolOp .And (a :: b :: rest) pos) (tAnd da db) :=
  PW.imp (pw_and ha hb) fun σ H Q h => by
    obtain ⟨G, β, s, ev, rp⟩ := h
    refine ⟨G, β, s, ev, rp.bind fun x ex G1 H1 g1 rp1 => ?_⟩
    cases x with
    | true => exact ⟨G1, β, g1.s, ev.mono g1.g, rp1⟩
    | false => exact rp1.here (Gr.refl g1.s)
theorem rwor {a b : Expr} {rest : List Expr} {da db : Bt → Res Bool} {pos : Pos} (ha : RT X W a da) (hb : RW X W (.BoolOp .Or (b :: rest) pos) db) : RW X W (.BoolOp .Or (a :: b :: rest) pos) (tOr da db) :=
  PW.imp (pw_or ha hb) fun σ H Q h => by
    obtain ⟨G, β, s, ev, rp⟩ := h
    refine ⟨G, β, s, ev, rp.bind fun x ex G1 H1 g1 rp1 => ?_⟩
    cases x with
    | true => exact rp1.here (Gr.refl g1.s)
    | false => exact ⟨G1, β, g1.s, ev.mono g1.g, rp1⟩
theorem rtw {e : Expr} {d : Bt → Res Bool} (h : RW X W e d) : RT X W e d := PW.pt h
theorem rnot {a : Expr} {da : Bt → Res D} {pos : Pos} (h : RE X W a da) : RE X W (.UnaryOp .Not a pos) (dNot da) :=
  PE.imp (pe_not h) fun σ H Q h => by
    obtain ⟨G, β, s, ev, rp⟩ := h
    refine ⟨G, β, s, ev, rp.bind fun x ex G1 H1 g1 rp1 v rv => ?_⟩
    cases eb : asB x with
    | none => rw [eb] at rp1; exact rp1.elim
    | some b =>
      rw [eb] at rp1
      cases asB_ok eb
      cases rv
      exact ⟨b, rfl, rp1.here (Gr.refl g1.s) _ (.bl _)⟩
theorem rbone {op} {a : Expr} {da : Bt → Res D} {pos : Pos} (h : RE X W a da) : RE X W (.BoolOp op [a] pos) da := pe_one h
theorem rand {a b : Expr} {rest : List Expr} {da db : Bt → Res D} {pos : Pos} (ha : RE X W a da) (hb : RE X W (.BoolOp .And (b :: rest) pos) db) : RE X W (.BoolOp .And (a :: b :: rest) pos) (dAnd da db) :=
  PE.imp (pe_and ha hb) fun σ H Q h => by
    obtain ⟨G, β, s, ev, rp⟩ := h
    refine ⟨G, β, s, ev, rp.bind fun x ex G1 H1 g1 rp1 v rv => ?_⟩
    cases eb : asB x with
    | none => rw [eb] at rp1; exact rp1.elim
    | some b =>
      rw [eb] at rp1
      cases asB_ok eb
      cases rv
      refine ⟨b, rfl, ?_⟩
      cases b with
      | true => exact ⟨G1, β, g1.s, ev.mono g1.g, rp1⟩
      | false => exact rp1.here (Gr.refl g1.s) _ (.bl _)
theorem ror {a b : Expr} {rest : List Expr} {da db : Bt → Res D} {pos : Pos} (ha : RE X W a da) (hb : RE X W (.BoolOp .Or (b :: rest) pos) db) : RE X W (.BoolOp .Or (a :: b :: rest) pos) (dOr da db) :=
  PE.imp (pe_or ha hb) fun σ H Q h => by
    obtain ⟨G, β, s, ev, rp⟩ := h
    refine ⟨G, β, s, ev, rp.bind fun x ex G1 H1 g1 rp1 v rv => ?_⟩
    cases eb : asB x with
    | none => rw [eb] at rp1; exact rp1.elim
    | some b =>
      rw [eb] at rp1
      cases asB_ok eb
      cases rv
      refine ⟨b, rfl, ?_⟩
      cases b with
      | true => exact rp1.here (Gr.refl g1.s) _ (.bl _)
      | false => exact ⟨G1, β, g1.s, ev.mono g1.g, rp1⟩
theorem rif {c a b : Expr} {dc : Bt → Res Bool} {da db : Bt → Res D} {pos : Pos} (hc : RT X W c dc) (ha : RE X W a da) (hb : RE X W b db) : RE X W (.IfExp c a b pos) (dIf dc da db) :=
  PE.imp (pe_ifExp hc ha hb) fun σ H Q h => by
    obtain ⟨G, β, s, ev, rp⟩ := h
    refine ⟨G, β, s, ev, rp.bind fun x ex G1 H1 g1 rp1 => ?_⟩
    cases x with
    | true => exact ⟨G1, β, g1.s, ev.mono g1.g, rp1⟩
    | false => exact ⟨G1, β, g1.s, ev.mono g1.g, rp1⟩
end
end DL

/-! DL3: the operators on data. -/
namespace DL
open PySem PySem.Spec PyProof.Rows L2
section
variable {X : Cx} {W : WX} {a b : Expr} {da db : Bt → Res D} {pos : Pos}
/-! ### arithmetic -/
def fAdd : D → D → Option D
  | .int i, .int j => some (.int (i + j))
  | .str x, .str y => if x.length + y.length ≤ sizeLine then some (.str (x ++ y)) else none
  | .tuple xs, .tuple ys => if xs.length + ys.length ≤ sizeLine then some (.tuple (xs ++ ys)) else none
  | .list xs, .list ys => if xs.length + ys.length ≤ sizeLine then some (.list (xs ++ ys)) else none
  | _, _ => none
abbrev rAddStr : R2 := fun x y H Q => ∃ i j, x = .str i ∧ y = .str j ∧ i.length + j.length ≤ sizeLine ∧ Q (.str (i ++ j)) H
theorem ok_add : OkR2 X (fun x y H Q => rI0 (fun i j => .int (i + j)) x y H Q ∨ (rAddStr x y H Q ∨ (rCatA X.K x y H Q ∨ rCat x y H Q))) fAdd := by
  intro x y d e v u G H Q s rv ru q
  cases rv with
  | int i =>
    cases ru <;> simp only [fAdd, Option.some.injEq, reduceCtorEq] at e
    subst e
    exact .inl ⟨_, _, rfl, rfl, q _ _ (Gr.refl s) _ (.int _)⟩
  | str i =>
    cases ru <;> simp only [fAdd, reduceCtorEq] at e
    split at e
    · cases e
      rename_i h
      exact .inr (.inl ⟨_, _, rfl, rfl, h, q _ _ (Gr.refl s) _ (.str _)⟩)
    · cases e
  | tup hx rx =>
    cases ru with
    | tup hy ry =>
      simp only [fAdd] at e
      split at e
      · cases e
        rename_i h
        have l1 := rx.length
        have l2 := ry.length
        refine .inr (.inr (.inl ⟨_, _, _, _, rfl, rfl, seqT s hx, seqT s hy, by omega, fun e0 => ?_, fun _ e0 => ?_, fun _ _ p hp => ?_⟩))
        · subst e0
          cases rx
          exact q _ _ (Gr.refl s) _ (.tup hy ry)
        · subst e0
          cases ry
          rw [List.append_nil] at q
          exact q _ _ (Gr.refl s) _ (.tup hx rx)
        · exact q _ _ (Gr.new s hp) _ (.tup (.inl (.inl upd_same)) (RpAll.mono (same_upd (s.free hp)) (rx.append ry)))
      · cases e
    | _ => simp only [fAdd, reduceCtorEq] at e
  | lst hx rx =>
    cases ru with
    | lst hy ry =>
      simp only [fAdd] at e
      split at e
      · cases e
        rename_i h
        have l1 := rx.length
        have l2 := ry.length
        refine .inr (.inr (.inr ⟨_, _, _, _, rfl, rfl, s _ _ hx, s _ _ hy, by omega, fun p hp => ?_⟩))
        exact q _ _ (Gr.new s hp) _ (.lst upd_same (RpAll.mono (same_upd (s.free hp)) (rx.append ry)))
      · cases e
    | _ => simp only [fAdd, reduceCtorEq] at e
  | _ => cases ru <;> simp only [fAdd, reduceCtorEq] at e
theorem radd (ha : RE X W a da) (hb : RE X W b db) : RE X W (.BinOp a .Add b pos) (d2 fAdd da db) := rop (op_add.or (op_add_str.or (op_catA.or op_cat))) ok_add ha hb
def fSub : D → D → Option D
  | .int i, .int j => some (.int (i - j))
  | _, _ => none
theorem ok_sub : OkR2 X (rI0 fun i j => .int (i - j)) fSub := by
  intro x y d e v u G H Q s rv ru q
  cases rv <;> cases ru <;> simp only [fSub, Option.some.injEq, reduceCtorEq] at e
  subst e
  exact ⟨_, _, rfl, rfl, q _ _ (Gr.refl s) _ (.int _)⟩
theorem rsub (ha : RE X W a da) (hb : RE X W b db) : RE X W (.BinOp a .Sub b pos) (d2 fSub da db) := rop op_sub ok_sub ha hb
def small64 (i : Int) : Bool := decide (-(2 ^ 64) < i) && decide (i < 2 ^ 64)
def mulOk (i j : Int) : Bool := small64 i || (small64 j || decide (i.natAbs.log2 + j.natAbs.log2 < 1000000))
def fMul : D → D → Option D
  | .int i, .int j => if mulOk i j = true then some (.int (i * j)) else none
  | .list xs, .int k => if -(2 ^ 63) ≤ k ∧ k < 2 ^ 63 ∧ xs.length * k.toNat ≤ sizeLine then some (.list (List.replicate k.toNat xs).flatten) else none
  | _, _ => none
theorem RpAll.flat {K : PySem.W.Frag} {w : World} {H : Hp} {vs : List V} {ds : List D} (r : RpAll K w H vs ds) : ∀ n : Nat, RpAll K w H (List.replicate n vs).flatten (List.replicate n ds).flatten
  | 0 => .nil
  | n + 1 => by
    rw [List.replicate_succ, List.replicate_succ, List.flatten_cons, List.flatten_cons]
    exact r.append (RpAll.flat r n)
theorem ok_mul : OkR2 X (fun x y H Q => rI CMul (fun i j => .int (i * j)) x y H Q ∨ (rI CMulW (fun i j => .int (i * j)) x y H Q ∨ rRep x y H Q)) fMul := by
  intro x y d e v u G H Q s rv ru q
  cases rv with
  | int i =>
    cases ru with
    | int j =>
      simp only [fMul] at e
      split at e
      · cases e
        rename_i h
        simp only [mulOk, small64, Bool.or_eq_true, Bool.and_eq_true, decide_eq_true_eq] at h
        rcases h with h | h | h
        · exact .inl ⟨_, _, rfl, rfl, .inl h, q _ _ (Gr.refl s) _ (.int _)⟩
        · exact .inl ⟨_, _, rfl, rfl, .inr h, q _ _ (Gr.refl s) _ (.int _)⟩
        · exact .inr (.inl ⟨_, _, rfl, rfl, h, q _ _ (Gr.refl s) _ (.int _)⟩)
      · cases e
    | _ => simp only [fMul, reduceCtorEq] at e
  | lst hx rx =>
    cases ru with
    | int j =>
      simp only [fMul] at e
      split at e
      · cases e
        rename_i h
        have l1 := rx.length
        refine .inr (.inr ⟨_, _, _, rfl, rfl, s _ _ hx, h.1, h.2.1, by rw [l1]; exact h.2.2, fun p hp => ?_⟩)
        exact q _ _ (Gr.new s hp) _ (.lst upd_same (RpAll.mono (same_upd (s.free hp)) (rx.flat _)))
      · cases e
    | _ => simp only [fMul, reduceCtorEq] at e
  | _ => cases ru <;> simp only [fMul, reduceCtorEq] at e
theorem rmul (ha : RE X W a da) (hb : RE X W b db) : RE X W (.BinOp a .Mult b pos) (d2 fMul da db) := rop (op_mul.or (op_mulW.or op_rep)) ok_mul ha hb
def divOk (j : Int) : Bool := (decide (j ≠ 0) && decide (j.natAbs < 1073741824)) || (decide (0 < j) && decide (j.natAbs.log2 < 9000))
def fDiv : D → D → Option D
  | .int i, .int j => if divOk j = true then some (.int (i.fdiv j)) else none
  | _, _ => none
theorem ok_div : OkR2 X (fun x y H Q => rI CDivN (fun i j => .int (i.fdiv j)) x y H Q ∨ rI CDivW (fun i j => .int (i / j)) x y H Q) fDiv := by
  intro x y d e v u G H Q s rv ru q
  cases rv with
  | int i =>
    cases ru with
    | int j =>
      simp only [fDiv] at e
      split at e
      · cases e
        rename_i h
        simp only [divOk, Bool.or_eq_true, Bool.and_eq_true, decide_eq_true_eq] at h
        rcases h with h | h
        · exact .inl ⟨_, _, rfl, rfl, h, q _ _ (Gr.refl s) _ (.int _)⟩
        · refine .inr ⟨_, _, rfl, rfl, h, ?_⟩
          have e2 : i / j = i.fdiv j := (Int.fdiv_eq_ediv_of_nonneg i (by omega)).symm
          show Q (.int (i / j)) H
          rw [e2]
          exact q _ _ (Gr.refl s) _ (.int _)
      · cases e
    | _ => simp only [fDiv, reduceCtorEq] at e
  | _ => cases ru <;> simp only [fDiv, reduceCtorEq] at e
theorem rdiv (ha : RE X W a da) (hb : RE X W b db) : RE X W (.BinOp a .FloorDiv b pos) (d2 fDiv da db) := rop (op_fdivN.or op_fdivW) ok_div ha hb
def fMod : D → D → Option D
  | .int i, .int j => if j ≠ 0 then some (.int (i.fmod j)) else none
  | _, _ => none
theorem ok_mod : OkR2 X (rI (fun _ j => j ≠ 0) fun i j => .int (i.fmod j)) fMod := by
  intro x y d e v u G H Q s rv ru q
  cases rv <;> cases ru <;> simp only [fMod, reduceCtorEq] at e
  split at e
  · cases e
    rename_i h
    exact ⟨_, _, rfl, rfl, h, q _ _ (Gr.refl s) _ (.int _)⟩
  · cases e
theorem rmod (ha : RE X W a da) (hb : RE X W b db) : RE X W (.BinOp a .Mod b pos) (d2 fMod da db) := rop op_modN ok_mod ha hb
def fPow : D → D → Option D
  | .int i, .int j => if 0 ≤ j ∧ j ≤ 1000000 ∧ i.natAbs < 2 ^ 64 then some (.int (i ^ j.toNat)) else none
  | _, _ => none
theorem ok_pow : OkR2 X (rI CPow fun i j => .int (i ^ j.toNat)) fPow := by
  intro x y d e v u G H Q s rv ru q
  cases rv <;> cases ru <;> simp only [fPow, reduceCtorEq] at e
  split at e
  · cases e
    rename_i h
    exact ⟨_, _, rfl, rfl, h, q _ _ (Gr.refl s) _ (.int _)⟩
  · cases e
theorem rpow (ha : RE X W a da) (hb : RE X W b db) : RE X W (.BinOp a .Pow b pos) (d2 fPow da db) := rop op_pow ok_pow ha hb
def fNeg : D → Option D
  | .int i => some (.int (-i))
  | _ => none
theorem ok_neg : OkR1 X (rU fun i => .int (-i)) fNeg := by
  intro x d e v G H Q s rv q
  cases rv <;> simp only [fNeg, Option.some.injEq, reduceCtorEq] at e
  subst e
  exact ⟨_, rfl, q _ _ (Gr.refl s) _ (.int _)⟩
theorem rneg (ha : RE X W a da) : RE X W (.UnaryOp .USub a pos) (d1 fNeg da) := runo un_neg ok_neg ha

/-! ### == and != -/
def eqD : D → D → Option Bool
  | .int i, .int j => some (i == j)
  | .str i, .str j => some (i == j)
  | .bool i, .bool j => some (i == j)
  | x, y => if SeqAt.shaped x = true ∧ SeqAt.shaped y = true then some (PyData.eqv x y) else none
def fEq (x y : D) : Option D := (eqD x y).map .bool
def fNe (x y : D) : Option D := (eqD x y).map fun b => .bool !b
theorem eqD_cases {x y : D} {b : Bool} (h : eqD x y = some b) : (∃ i j, x = .int i ∧ y = .int j ∧ b = (i == j)) ∨ (∃ i j, x = .str i ∧ y = .str j ∧ b = (i == j)) ∨ (∃ i j, x = .bool i ∧ y = .bool j ∧ b = (i == j)) ∨
    (SeqAt.shaped x = true ∧ SeqAt.shaped y = true ∧ b = PyData.eqv x y) := by
  unfold eqD at h
  split at h
  · cases h; exact .inl ⟨_, _, rfl, rfl, rfl⟩
  · cases h; exact .inr (.inl ⟨_, _, rfl, rfl, rfl⟩)
  · cases h; exact .inr (.inr (.inl ⟨_, _, rfl, rfl, rfl⟩))
  · split at h
    · rename_i q
      cases h
      exact .inr (.inr (.inr ⟨q.1, q.2, rfl⟩))
    · cases h
theorem ok_eq : OkR2 X (fun x y H Q => L2.rEq x y H Q ∨ rEqD X.K x y H Q) fEq := by
  intro x y d e v u G H Q s rv ru q
  obtain ⟨b, e1, rfl⟩ := Option.map_eq_some_iff.mp (show (eqD x y).map PyData.bool = some d from e)
  have q' := q _ _ (Gr.refl s) _ (.bl b)
  rcases eqD_cases e1 with ⟨i, j, rfl, rfl, rfl⟩ | ⟨i, j, rfl, rfl, rfl⟩ | ⟨i, j, rfl, rfl, rfl⟩ | ⟨h1, h2, rfl⟩
  · cases rv; cases ru
    exact .inl ⟨rfl, by rw [dec_int]; exact q'⟩
  · cases rv; cases ru
    exact .inl ⟨rfl, by rw [dec_str]; exact q'⟩
  · cases rv; cases ru
    exact .inl ⟨rfl, by rw [dec_bl]; exact q'⟩
  · exact .inr ⟨x, y, (rv.mono s).dp _ _ (SeqAt.canLay_of_shaped h1), (ru.mono s).dp _ _ (SeqAt.canLay_of_shaped h2), h1, h2, q'⟩
theorem ok_ne : OkR2 X (fun x y H Q => L2.rNe x y H Q ∨ rNeD X.K x y H Q) fNe := by
  intro x y d e v u G H Q s rv ru q
  obtain ⟨b, e1, rfl⟩ := Option.map_eq_some_iff.mp (show (eqD x y).map (fun b => PyData.bool !b) = some d from e)
  have q' := q _ _ (Gr.refl s) _ (.bl !b)
  rcases eqD_cases e1 with ⟨i, j, rfl, rfl, rfl⟩ | ⟨i, j, rfl, rfl, rfl⟩ | ⟨i, j, rfl, rfl, rfl⟩ | ⟨h1, h2, rfl⟩
  · cases rv; cases ru
    exact .inl ⟨rfl, by rw [dec_int]; exact q'⟩
  · cases rv; cases ru
    exact .inl ⟨rfl, by rw [dec_str]; exact q'⟩
  · cases rv; cases ru
    exact .inl ⟨rfl, by rw [dec_bl]; exact q'⟩
  · exact .inr ⟨x, y, (rv.mono s).dp _ _ (SeqAt.canLay_of_shaped h1), (ru.mono s).dp _ _ (SeqAt.canLay_of_shaped h2), h1, h2, q'⟩
theorem okO_eq {k : Nat} (hr : Room k X.A) : OpR X (compareOp .Eq) (fun x y H Q => L2.rEq x y H Q ∨ rEqD X.K x y H Q) := op_eq.or (op_eqD hr.units)
theorem okO_ne {k : Nat} (hr : Room k X.A) : OpR X (compareOp .NotEq) (fun x y H Q => L2.rNe x y H Q ∨ rNeD X.K x y H Q) := op_ne.or (op_neD hr.units)

/-! ### order -/
def ltS : D → D → Option Bool
  | .int i, .int j => some (decide (i < j))
  | .str i, .str j => some (decide (i.cps.toList < j.cps.toList))
  | _, _ => none
/-- lexicographic, on numbers and texts that stand on like places -/
def lexD : List D → List D → Option Bool
  | [], [] => some false
  | [], _ :: _ => some true
  | _ :: _, [] => some false
  | x :: xs, y :: ys => match x, y with
    | .int i, .int j => if i = j then lexD xs ys else some (decide (i < j))
    | .str i, .str j => if i = j then lexD xs ys else some (decide (i.cps.toList < j.cps.toList))
    | _, _ => none
def fCmp (f : Int → Int → Bool) : D → D → Option D
  | .int i, .int j => some (.bool (f i j))
  | _, _ => none
theorem ok_cmp (f : Int → Int → Bool) : OkR2 X (rI0 fun i j => .bl (f i j)) (fCmp f) := by
  intro x y d e v u G H Q s rv ru q
  cases rv <;> cases ru <;> simp only [fCmp, Option.some.injEq, reduceCtorEq] at e
  subst e
  exact ⟨_, _, rfl, rfl, q _ _ (Gr.refl s) _ (.bl _)⟩
abbrev fLe : D → D → Option D := fCmp fun i j => decide (i ≤ j)
abbrev fGt : D → D → Option D := fCmp fun i j => decide (j < i)
abbrev fGe : D → D → Option D := fCmp fun i j => decide (j ≤ i)
end
end DL

/-! DL4: order of texts and tuples, is, in, subscripts, slices. -/
namespace DL
open PySem PySem.Spec PyProof.Rows L2
/-! ### < of tuples of numbers and texts -/
def kin : D → D → Bool
  | .int _, .int _ => true
  | .str _, .str _ => true
  | _, _ => false
def eqS : D → D → Bool
  | .int i, .int j => i == j
  | .str i, .str j => i == j
  | _, _ => false
def ltB : D → D → Bool
  | .int i, .int j => decide (i < j)
  | .str i, .str j => decide (i.cps.toList < j.cps.toList)
  | _, _ => false
def lexB : List D → List D → Bool
  | [], [] => false
  | [], _ :: _ => true
  | _ :: _, [] => false
  | x :: xs, y :: ys => if eqS x y = true then lexB xs ys else ltB x y
def kinAll : List D → List D → Bool
  | x :: xs, y :: ys => kin x y && kinAll xs ys
  | _, _ => true
theorem kinAll_at : ∀ {xs ys : List D} {j : Nat} {x y : D}, kinAll xs ys = true → xs[j]? = some x → ys[j]? = some y → kin x y = true
  | [], _, _, _, _, _, h, _ => by simp at h
  | _ :: _, [], _, _, _, _, _, h => by simp at h
  | a :: xs, b :: ys, 0, x, y, k, h1, h2 => by
    simp at h1 h2
    subst h1 h2
    simp only [kinAll, Bool.and_eq_true] at k
    exact k.1
  | a :: xs, b :: ys, j + 1, x, y, k, h1, h2 => by
    simp only [kinAll, Bool.and_eq_true] at k
    exact kinAll_at (j := j) k.2 (by simpa using h1) (by simpa using h2)
theorem lexAt_lex (xs ys : List D) : ∀ k i, k = min xs.length ys.length - i → i ≤ min xs.length ys.length →
    Ob.lexAt (fun j => eqS (xs.getD j .none) (ys.getD j .none)) (fun j => ltB (xs.getD j .none) (ys.getD j .none)) (decide (xs.length < ys.length)) i k = lexB (xs.drop i) (ys.drop i)
  | 0, i, hk, hi => by
    have e : i = min xs.length ys.length := by omega
    rw [Ob.lexAt_zero]
    by_cases h : xs.length < ys.length
    · have h1 : xs.drop i = [] := List.drop_of_length_le (by omega)
      have h2 : i < ys.length := by omega
      rw [h1, List.drop_eq_getElem_cons h2, decide_eq_true h]
      rfl
    · have h1 : ys.drop i = [] := List.drop_of_length_le (by omega)
      rw [h1, decide_eq_false h]
      cases xs.drop i <;> rfl
  | k + 1, i, hk, hi => by
    have h1 : i < xs.length := by omega
    have h2 : i < ys.length := by omega
    rw [Ob.lexAt_succ, List.drop_eq_getElem_cons h1, List.drop_eq_getElem_cons h2]
    have ex : xs.getD i .none = xs[i] := by rw [List.getD_eq_getElem?_getD, List.getElem?_eq_getElem h1]; rfl
    have ey : ys.getD i .none = ys[i] := by rw [List.getD_eq_getElem?_getD, List.getElem?_eq_getElem h2]; rfl
    rw [ex, ey, lexAt_lex xs ys k (i + 1) (by omega) (by omega)]
    rfl
section
variable {X : Cx} {W : WX} {a b : Expr} {da db : Bt → Res D} {pos : Pos}
def rLtD (K : PySem.W.Frag) (w : World) : R2 := fun x y H Q => ∃ p q xs ys ds es, x = .ref p ∧ y = .ref q ∧ SqT K H p xs ∧ SqT K H q ys ∧ RpAll K w H xs ds ∧ RpAll K w H ys es ∧ kinAll ds es = true ∧ Q (.bl (lexB ds es)) H
theorem at_rel {K : PySem.W.Frag} {w : World} {H : Hp} {its : List Value} {xs : List V} {ds : List D} (r : Vals xs its) (h : RpAll K w H xs ds) (j : Nat) (hj : j < its.toArray.size) :
    ∃ v d, ds[j]? = some d ∧ ds.getD j .none = d ∧ Rp K w H v d ∧ RelV v its.toArray[j] := by
  have l1 := r.length
  have l2 := h.length
  have hj' : j < its.length := by simpa using hj
  have hx : j < xs.length := by omega
  have hd : j < ds.length := by omega
  obtain ⟨v, e1, e2⟩ := h.get (List.getElem?_eq_getElem hd)
  obtain ⟨u, e3, e4⟩ := r.get e1
  rw [List.getElem?_eq_getElem hj'] at e3
  cases e3
  exact ⟨v, ds[j], List.getElem?_eq_getElem hd, by rw [List.getD_eq_getElem?_getD, List.getElem?_eq_getElem hd]; rfl, e2, by simpa using e4⟩
theorem lt_strO {A : Around} {s : Shared} (i j : Str) (t u : Tok) : Ob.RcOp .Lt A s (.str i t) (.str j u) (decide (i.cps.toList < j.cps.toList)) := fun prog w E Q h => lt_str h
theorem op_ltD (hu : X.A.units < cLine) : OpR X (compareOp .Lt) (rLtD X.K X.w) := by
  intro pins s σ H x y v u Q I rx ry h
  obtain ⟨p, q, xs, ys, ds, es, rfl, rfl, hp, hq, hd, he, hk, h⟩ := h
  cases rx
  cases ry
  obtain ⟨its, r1, p1, _⟩ := I.tuple hp
  obtain ⟨its2, r2, p2, _⟩ := I.tuple hq
  have l1 : its.toArray.size = ds.length := by rw [List.size_toArray, ← r1.length, hd.length]
  have l2 : its2.toArray.size = es.length := by rw [List.size_toArray, ← r2.length, he.length]
  have R := Ob.RcOp.tuples_lt (A := X.A) (s := s) (e := fun j => eqS (ds.getD j .none) (es.getD j .none)) (r := fun j => ltB (ds.getD j .none) (es.getD j .none)) p1 p2 hu (fun j h1 h2 => by
    obtain ⟨v1, d1, x1, x2, x3, x4⟩ := at_rel r1 hd j h1
    obtain ⟨v2, d2, y1, y2, y3, y4⟩ := at_rel r2 he j h2
    have k := kinAll_at hk x1 y1
    simp only [x2, y2]
    cases x3 with
    | int i =>
      cases y3 <;> simp only [kin, reduceCtorEq] at k
      obtain ⟨t, et⟩ := x4
      obtain ⟨t', et'⟩ := y4
      rw [et, et']
      exact SeqAt.EqAt.int_int _ _ _ _
    | str i =>
      cases y3 <;> simp only [kin, reduceCtorEq] at k
      obtain ⟨t, et⟩ := x4
      obtain ⟨t', et'⟩ := y4
      rw [et, et']
      exact SeqAt.EqAt.str_str _ _ _ _
    | _ => cases y3 <;> simp only [kin, reduceCtorEq] at k) (fun j h1 h2 _ => by
    obtain ⟨v1, d1, x1, x2, x3, x4⟩ := at_rel r1 hd j h1
    obtain ⟨v2, d2, y1, y2, y3, y4⟩ := at_rel r2 he j h2
    have k := kinAll_at hk x1 y1
    simp only [x2, y2]
    cases x3 with
    | int i =>
      cases y3 <;> simp only [kin, reduceCtorEq] at k
      obtain ⟨t, et⟩ := x4
      obtain ⟨t', et'⟩ := y4
      rw [et, et']
      exact Ob.RcOp.lt_int _ _ _ _
    | str i =>
      cases y3 <;> simp only [kin, reduceCtorEq] at k
      obtain ⟨t, et⟩ := x4
      obtain ⟨t', et'⟩ := y4
      rw [et, et']
      exact lt_strO _ _ _ _
    | _ => cases y3 <;> simp only [kin, reduceCtorEq] at k)
  rw [l1, l2] at R
  have e := lexAt_lex ds es (min ds.length es.length) 0 rfl (Nat.zero_le _)
  rw [e] at R
  have z : wpAny (model X.prog X.w) X.A (compareOp .Lt (.ref p) (.ref q)) (EP X pins σ Q) X.xe s := R X.prog X.w X.xe (EP X pins σ Q) ⟨.bl _, H, I, rfl, h⟩
  exact z
def fLt : D → D → Option D
  | .int i, .int j => some (.bool (decide (i < j)))
  | .str i, .str j => some (.bool (decide (i.cps.toList < j.cps.toList)))
  | .tuple xs, .tuple ys => if kinAll xs ys = true then some (.bool (lexB xs ys)) else none
  | _, _ => none
theorem ok_lt : OkR2 X (fun x y H Q => rI0 (fun i j => .bl (decide (i < j))) x y H Q ∨ ((∃ i j, x = .str i ∧ y = .str j ∧ Q (.bl (decide (i.cps.toList < j.cps.toList))) H) ∨ rLtD X.K X.w x y H Q)) fLt := by
  intro x y d e v u G H Q s rv ru q
  cases rv with
  | int i =>
    cases ru <;> simp only [fLt, Option.some.injEq, reduceCtorEq] at e
    subst e
    exact .inl ⟨_, _, rfl, rfl, q _ _ (Gr.refl s) _ (.bl _)⟩
  | str i =>
    cases ru <;> simp only [fLt, Option.some.injEq, reduceCtorEq] at e
    subst e
    exact .inr (.inl ⟨_, _, rfl, rfl, q _ _ (Gr.refl s) _ (.bl _)⟩)
  | tup hx rx =>
    cases ru with
    | tup hy ry =>
      simp only [fLt] at e
      split at e
      · cases e
        rename_i h
        exact .inr (.inr ⟨_, _, _, _, _, _, rfl, rfl, seqT s hx, seqT s hy, RpAll.mono s rx, RpAll.mono s ry, h, q _ _ (Gr.refl s) _ (.bl _)⟩)
      · cases e
    | _ => simp only [fLt, reduceCtorEq] at e
  | _ => cases ru <;> simp only [fLt, reduceCtorEq] at e
theorem okO_lt {k : Nat} (hr : Room k X.A) : OpR X (compareOp .Lt) (fun x y H Q => rI0 (fun i j => .bl (decide (i < j))) x y H Q ∨ ((∃ i j, x = .str i ∧ y = .str j ∧ Q (.bl (decide (i.cps.toList < j.cps.toList))) H) ∨ rLtD X.K X.w x y H Q)) :=
  op_lt.or (op_lt_str.or (op_ltD hr.units0))

/-! ### is -/
def isN : D → Bool
  | .none => true
  | _ => false
def fIs : D → D → Option D
  | x, .none => some (.bool (isN x))
  | .bool i, .bool j => some (.bool (decide (i = j)))
  | _, _ => none
def fIsNot : D → D → Option D
  | x, .none => some (.bool !(isN x))
  | .bool i, .bool j => some (.bool !(decide (i = j)))
  | _, _ => none
theorem isN_eq {K : PySem.W.Frag} {w : World} {H : Hp} {v : V} {d : D} (r : Rp K w H v d) : decide (v = .non) = isN d := by
  cases r <;> simp [isN]
theorem ok_is : OkR2 X (fun x y H Q => (y = .non ∧ Q (.bl (decide (x = .non))) H) ∨ (∃ a b, x = .bl a ∧ y = .bl b ∧ Q (.bl (decide (a = b))) H)) fIs := by
  intro x y d e v u G H Q s rv ru q
  cases ru with
  | non =>
    simp only [fIs, Option.some.injEq] at e
    subst e
    exact .inl ⟨rfl, by rw [isN_eq rv]; exact q _ _ (Gr.refl s) _ (.bl _)⟩
  | bl j =>
    cases rv <;> simp only [fIs, Option.some.injEq, reduceCtorEq] at e
    subst e
    exact .inr ⟨_, _, rfl, rfl, q _ _ (Gr.refl s) _ (.bl _)⟩
  | _ => cases rv <;> simp only [fIs, reduceCtorEq] at e
theorem ok_isnot : OkR2 X (fun x y H Q => (y = .non ∧ Q (.bl (!decide (x = .non))) H) ∨ (∃ a b, x = .bl a ∧ y = .bl b ∧ Q (.bl (!decide (a = b))) H)) fIsNot := by
  intro x y d e v u G H Q s rv ru q
  cases ru with
  | non =>
    simp only [fIsNot, Option.some.injEq] at e
    subst e
    exact .inl ⟨rfl, by rw [isN_eq rv]; exact q _ _ (Gr.refl s) _ (.bl _)⟩
  | bl j =>
    cases rv <;> simp only [fIsNot, Option.some.injEq, reduceCtorEq] at e
    subst e
    exact .inr ⟨_, _, rfl, rfl, q _ _ (Gr.refl s) _ (.bl _)⟩
  | _ => cases rv <;> simp only [fIsNot, reduceCtorEq] at e
theorem okO_is : OpR X (compareOp .Is) (fun x y H Q => (y = .non ∧ Q (.bl (decide (x = .non))) H) ∨ (∃ a b, x = .bl a ∧ y = .bl b ∧ Q (.bl (decide (a = b))) H)) := op_isN.or op_is_bl
theorem okO_isnot : OpR X (compareOp .IsNot) (fun x y H Q => (y = .non ∧ Q (.bl (!decide (x = .non))) H) ∨ (∃ a b, x = .bl a ∧ y = .bl b ∧ Q (.bl (!decide (a = b))) H)) := op_notN.or op_isnot_bl

/-! ### in -/
def seqOf : D → Option (List D)
  | .list xs => some xs
  | .tuple xs => some xs
  | _ => none
def inD (x y : D) : Option Bool := match y with
  | .list ys => if SeqAt.shaped x = true ∧ SeqAt.shaped y = true then some (ys.any fun z => PyData.eqv z x) else none
  | .tuple ys => if SeqAt.shaped x = true ∧ SeqAt.shaped y = true then some (ys.any fun z => PyData.eqv z x) else none
  | .str z => match x with
    | .str c => if c.cps.size = 1 then some (decide (c.cps.getD 0 0 ∈ z.cps.toList)) else none
    | _ => none
  | _ => none
def fIn (x y : D) : Option D := (inD x y).map .bool
def fNotIn (x y : D) : Option D := (inD x y).map fun b => .bool !b
def rInA (K : PySem.W.Frag) (neg : Bool) : R2 := fun x y H Q => (∃ d ds, Dp K H x d ∧ (Dp K H y (.list ds) ∨ Dp K H y (.tuple ds)) ∧ SeqAt.shaped d = true ∧ SeqAt.shaped (.list ds) = true ∧ Q (.bl (if neg then !ds.any fun z => PyData.eqv z d else ds.any fun z => PyData.eqv z d)) H) ∨
  ∃ (c : Nat) (z : Str), x = .str ⟨#[c]⟩ ∧ y = .str z ∧ Q (.bl (if neg then !decide (c ∈ z.cps.toList) else decide (c ∈ z.cps.toList))) H
theorem shaped_lt {ds : List D} (h : SeqAt.shaped (.tuple ds) = true) : SeqAt.shaped (.list ds) = true := by
  have h1 := SeqAt.canLay_of_shaped h
  have h2 := SeqAt.depth_of_shaped h
  refine Bool.and_eq_true_iff.mpr ⟨?_, decide_eq_true ?_⟩
  · simpa only [PyData.canLay0] using h1
  · simpa only [PyData.depth] using h2
theorem opo_in {k : Nat} (hr : Room k X.A) : OpR X (compareOp .In) (rInA X.K false) := by
  have hu : X.A.units + 65 < cLine := by have := hr.un; omega
  intro pins s σ H x y v u Q I rx ry h
  rcases h with ⟨d, ds, hd, he, sd, se, q⟩ | ⟨c, z, e1, e2, q⟩
  · obtain ⟨as, r1⟩ := Dp.reads I d x v hd rx
    rcases he with he | he
    · obtain ⟨bs, r2⟩ := Dp.reads I (.list ds) y u he ry
      exact SeqAt.in_list_reads r2 r1 (SeqAt.canLay_of_shaped se) (SeqAt.canLay_of_shaped sd) (room_in_shaped sd hu) ⟨.bl _, H, I, rfl, q⟩
    · obtain ⟨bs, r2⟩ := Dp.reads I (.tuple ds) y u he ry
      exact SeqAt.in_tuple_reads r2 r1 (SeqAt.canLay_of_shaped se) (SeqAt.canLay_of_shaped sd) (room_in_shaped sd hu) ⟨.bl _, H, I, rfl, q⟩
  · exact op_in_sign pins s σ H x y v u Q I rx ry ⟨c, z, e1, e2, q⟩
theorem opo_notin {k : Nat} (hr : Room k X.A) : OpR X (compareOp .NotIn) (rInA X.K true) := by
  have hu : X.A.units + 65 < cLine := by have := hr.un; omega
  intro pins s σ H x y v u Q I rx ry h
  rcases h with ⟨d, ds, hd, he, sd, se, q⟩ | ⟨c, z, e1, e2, q⟩
  · obtain ⟨as, r1⟩ := Dp.reads I d x v hd rx
    rcases he with he | he
    · obtain ⟨bs, r2⟩ := Dp.reads I (.list ds) y u he ry
      exact SeqAt.notIn_list_reads r2 r1 (SeqAt.canLay_of_shaped se) (SeqAt.canLay_of_shaped sd) (room_in_shaped sd hu) ⟨.bl _, H, I, rfl, q⟩
    · obtain ⟨bs, r2⟩ := Dp.reads I (.tuple ds) y u he ry
      exact SeqAt.notIn_tuple_reads r2 r1 (SeqAt.canLay_of_shaped se) (SeqAt.canLay_of_shaped sd) (room_in_shaped sd hu) ⟨.bl _, H, I, rfl, q⟩
  · exact op_notIn_sign pins s σ H x y v u Q I rx ry ⟨c, z, e1, e2, q⟩
theorem one_sign {c : Str} (h : c.cps.size = 1) : c = ⟨#[c.cps.getD 0 0]⟩ := by
  obtain ⟨⟨l⟩⟩ := c
  cases l with
  | nil => simp at h
  | cons x r =>
    cases r with
    | nil => rfl
    | cons y r => simp at h
theorem in_core {neg : Bool} {x y : D} {b : Bool} (e : inD x y = some b) {v u : V} {G H : Hp} {Q : VK} (s : Same G H) (rv : Rp X.K X.w G v x) (ru : Rp X.K X.w G u y) (q : Q (.bl (if neg then !b else b)) H) : rInA X.K neg v u H Q := by
  cases ru with
  | lst hy ry =>
    simp only [inD] at e
    split at e
    · rename_i h
      cases e
      exact .inl ⟨x, _, (rv.mono s).dp _ _ (SeqAt.canLay_of_shaped h.1), .inl (Rp.dp _ _ (.lst (s _ _ hy) (RpAll.mono s ry)) (SeqAt.canLay_of_shaped h.2)), h.1, h.2, q⟩
    · cases e
  | tup hy ry =>
    simp only [inD] at e
    split at e
    · rename_i h
      cases e
      exact .inl ⟨x, _, (rv.mono s).dp _ _ (SeqAt.canLay_of_shaped h.1), .inr (Rp.dp _ _ (.tup (seqT s hy) (RpAll.mono s ry)) (SeqAt.canLay_of_shaped h.2)), h.1, shaped_lt h.2, q⟩
    · cases e
  | str z =>
    cases rv <;> simp only [inD, reduceCtorEq] at e
    split at e
    · rename_i h
      cases e
      exact .inr ⟨_, z, congrArg V.str (one_sign h), rfl, q⟩
    · cases e
  | _ => cases rv <;> simp only [inD, reduceCtorEq] at e
theorem ok_in : OkR2 X (rInA X.K false) fIn := by
  intro x y d e v u G H Q s rv ru q
  obtain ⟨b, e1, rfl⟩ := Option.map_eq_some_iff.mp (show (inD x y).map PyData.bool = some d from e)
  exact in_core (neg := false) e1 s rv ru (q _ _ (Gr.refl s) _ (.bl b))
theorem ok_notin : OkR2 X (rInA X.K true) fNotIn := by
  intro x y d e v u G H Q s rv ru q
  obtain ⟨b, e1, rfl⟩ := Option.map_eq_some_iff.mp (show (inD x y).map (fun b => PyData.bool !b) = some d from e)
  exact in_core (neg := true) e1 s rv ru (q _ _ (Gr.refl s) _ (.bl !b))
theorem nomarkE {op : CmpOp} (b : Expr) (h : (match b with | .Name .. => true | .Subscript .. => true | .Call .. => true | .BinOp .. => true | .Attribute .. => true | _ => false) = true) : behindInMarks op b = false := by
  cases b <;> first
    | rfl
    | (simp [behindInMarks]; done)
    | cases h

/-! ### subscripts -/
def fIx : D → D → Option D
  | .list xs, .int i => atI xs i
  | .tuple xs, .int i => atI xs i
  | .str z, .int i => if z.length ≤ sizeLine then (atI z.cps.toList i).map fun c => .str ⟨#[c]⟩ else none
  | _, _ => none
theorem atI_rp {K : PySem.W.Frag} {w : World} {H : Hp} {xs : List V} {ds : List D} (r : RpAll K w H xs ds) {i : Int} {d : D} (e : atI ds i = some d) : ∃ v, atI xs i = some v ∧ Rp K w H v d := by
  unfold atI at e ⊢
  rw [r.length]
  cases h : ixN ds.length i with
  | none => rw [h] at e; cases e
  | some j =>
    rw [h] at e
    exact r.get e
theorem ok_ix : OkR2 X (rIx X.K) fIx := by
  intro x y d e v u G H Q s rv ru q
  cases rv with
  | lst hx rx =>
    cases ru <;> simp only [fIx, reduceCtorEq] at e
    obtain ⟨z, e1, e2⟩ := atI_rp rx e
    exact .inl ⟨_, _, _, z, rfl, rfl, SqL.of (s _ _ hx), e1, q _ _ (Gr.refl s) _ e2⟩
  | tup hx rx =>
    cases ru <;> simp only [fIx, reduceCtorEq] at e
    obtain ⟨z, e1, e2⟩ := atI_rp rx e
    exact .inr (.inl ⟨_, _, _, z, rfl, rfl, seqT s hx, e1, q _ _ (Gr.refl s) _ e2⟩)
  | str z =>
    cases ru <;> simp only [fIx, reduceCtorEq] at e
    split at e
    · rename_i h
      obtain ⟨c, e1, rfl⟩ := Option.map_eq_some_iff.mp e
      exact .inr (.inr ⟨_, _, c, rfl, rfl, h, e1, q _ _ (Gr.refl s) _ (.str _)⟩)
    · cases e
  | _ => cases ru <;> simp only [fIx, reduceCtorEq] at e
theorem rixs (ha : RE X W a da) (hb : RE X W b db) (hs : PlainIx b := by exact fun _ _ => rfl) : RE X W (.Subscript a b pos) (d2 fIx da db) := rix ix_seq ok_ix ha hb hs
end
end DL

/-! DL5: slices, built-in calls, calls of defs, iterators, comprehensions. -/
namespace DL
open PySem PySem.Spec PyProof.Rows L2
section
variable {X : Cx} {W : WX} {a b : Expr} {da db : Bt → Res D} {pos : Pos}
/-! ### slices -/
def cutD {α : Type} (xs : List α) (lo hi : Option Int) : List α := (xs.drop (HT.sIx xs.length 0 lo)).take (HT.sIx xs.length xs.length hi - HT.sIx xs.length 0 lo)
theorem RpAll.cut {K : PySem.W.Frag} {w : World} {H : Hp} {xs : List V} {ds : List D} (r : RpAll K w H xs ds) (lo hi : Option Int) : RpAll K w H (cutV xs lo hi) (cutD ds lo hi) := by
  unfold cutV cutD
  rw [r.length]
  exact (r.drop _).take _
def pNone : Bt → Res (Option Int) := fun _ => .ok none
def asI : D → Option Int
  | .int i => some i
  | _ => none
def pSome (a : Bt → Res D) : Bt → Res (Option Int) := fun β => (a β).bind fun x => (Res.of (asI x)).bind fun i => .ok (some i)
def RO (X : Cx) (W : WX) (e : Option Expr) (den : Bt → Res (Option Int)) : Prop := PO X e fun σ H Q => ∃ G β, Same G H ∧ Ev X.K X.w G σ β ∧ RP X.K X.w X.mg W σ G H (fun o _ H' => Q o H') (den β)
theorem asI_ok {d : D} {i : Int} (h : asI d = some i) : d = .int i := by
  cases d <;> simp [asI] at h
  rw [h]
theorem rpnone : RO X W none pNone := ⟨fun pins s σ H Q I h => by
  obtain ⟨G, β, s', ev, rp⟩ := h
  exact po_none.run pins s σ H Q I (rp.here (Gr.refl s'))⟩
theorem rpsome (h : RE X W a da) : RO X W (some a) (pSome da) := ⟨fun pins s σ H Q I hq => by
  refine (po_some h).run pins s σ H Q I ?_
  obtain ⟨G, β, s', ev, rp⟩ := hq
  refine ⟨G, β, s', ev, rp.bind fun x ex G1 H1 g1 rp1 v rv => ?_⟩
  cases e : asI x with
  | none => rw [e] at rp1; exact rp1.elim
  | some i =>
    rw [e] at rp1
    cases asI_ok e
    cases rv
    exact ⟨i, rfl, rp1.here (Gr.refl g1.s)⟩⟩
def fSl : D → Option Int → Option Int → Option D
  | .list xs, lo, hi => some (.list (cutD xs lo hi))
  | .dict [(.none, .list xs)], lo, hi => some (.list (cutD xs lo hi))
  | .tuple xs, lo, hi => some (.tuple (cutD xs lo hi))
  | .str z, lo, hi => if z.length ≤ sizeLine then some (.str (cutS z lo hi)) else none
  | _, _, _ => none
def dSl (a : Bt → Res D) (l h : Bt → Res (Option Int)) : Bt → Res D := fun β => (a β).bind fun x => (l β).bind fun lo => (h β).bind fun hi => Res.of (fSl x lo hi)
theorem cut_whole {xs : List D} {lo hi : Option Int} (h : HT.sIx xs.length 0 lo = 0 ∧ HT.sIx xs.length xs.length hi = xs.length) : cutD xs lo hi = xs := by
  unfold cutD
  rw [h.1, h.2]
  simp
theorem sl_core {x d : D} {lo hi : Option Int} (e : fSl x lo hi = some d) {v : V} {G H : Hp} {Q : VK} (s : Same G H) (rv : Rp X.K X.w G v x) (q : ∀ G' H', Gr G H G' H' → ∀ u, Rp X.K X.w G' u d → Q u H') :
    rSlL X.K v lo hi H Q ∨ (rSlA X.K v lo hi H Q ∨ rSlS v lo hi H Q) := by
  cases rv with
  | lst hx rx =>
    simp only [fSl, Option.some.injEq] at e
    subst e
    exact .inl ⟨_, _, rfl, SqL.of (s _ _ hx), fun p hp => q _ _ (Gr.new s hp) _ (.lst upd_same (RpAll.mono (same_upd (s.free hp)) (rx.cut lo hi)))⟩
  | scr hx rx =>
    simp only [fSl, Option.some.injEq] at e
    subst e
    exact .inl ⟨_, _, rfl, s.seq hx, fun p hp => q _ _ (Gr.new s hp) _ (.lst upd_same (RpAll.mono (same_upd (s.free hp)) (rx.cut lo hi)))⟩
  | tup hx rx =>
    simp only [fSl, Option.some.injEq] at e
    subst e
    refine .inr (.inl ⟨_, _, rfl, seqT s hx, fun h => ?_, fun h p hp => ?_⟩)
    · rw [rx.length] at h
      rw [cut_whole h] at q
      exact q _ _ (Gr.refl s) _ (.tup hx rx)
    · exact q _ _ (Gr.new s hp) _ (.tup (.inl (.inl upd_same)) (RpAll.mono (same_upd (s.free hp)) (rx.cut lo hi)))
  | str z =>
    simp only [fSl] at e
    split at e
    · rename_i h
      cases e
      exact .inr (.inr ⟨_, rfl, h, q _ _ (Gr.refl s) _ (.str _)⟩)
    · cases e
  | @dic _ kvs ds hd hr =>
    cases kvs with
    | nil => simp only [fSl, List.map_nil, List.zip_nil_left, reduceCtorEq] at e
    | cons k r =>
      cases ds with
      | nil => simp only [fSl, List.zip_nil_right, reduceCtorEq] at e
      | cons d0 ds =>
        cases r <;> cases ds <;> simp only [fSl, List.map_cons, List.map_nil, List.zip_cons_cons, List.zip_nil_left, List.zip_nil_right, reduceCtorEq] at e
  | _ => simp only [fSl, reduceCtorEq] at e
theorem rsl {lo hi : Option Expr} {dl dh : Bt → Res (Option Int)} {p2 : Pos} (ha : RE X W a da) (hl : RO X W lo dl) (hh : RO X W hi dh) : RE X W (.Subscript a (.Slice lo hi none p2) pos) (dSl da dl dh) :=
  PE.imp (pe_slice (sl_list.or (sl_tupA.or sl_str)) ha hl hh) fun σ H Q h => by
    obtain ⟨G, β, s, ev, rp⟩ := h
    refine ⟨G, β, s, ev, rp.bind fun x ex G1 H1 g1 rp1 v rv => ?_⟩
    refine ⟨G1, β, g1.s, ev.mono g1.g, rp1.bind fun l el G2 H2 g2 rp2 => ?_⟩
    refine ⟨G2, β, g2.s, (ev.mono g1.g).mono g2.g, rp2.bind fun u eu G3 H3 g3 rp3 => ?_⟩
    obtain ⟨d, ed, q⟩ := rp3.ofOpt
    exact sl_core ed g3.s ((rv.mono g2.g).mono g3.g) q
/-! ### xs[::-1] -/
def fRev : D → Option D
  | .list xs => some (.list xs.reverse)
  | .tuple xs => if xs.length = 1 ∨ xs.length = 0 then none else some (.tuple xs.reverse)
  | _ => none

/-! ### built-in calls -/
def fLen : List D → Option D
  | [.list xs] => some (.int xs.length)
  | [.tuple xs] => some (.int xs.length)
  | [.str z] => if z.length ≤ sizeLine then some (.int z.length) else none
  | _ => none
theorem ok_len : OkRN X (fun xs H Q => (∃ p ys, xs = [.ref p] ∧ (SqL X.K H p ys ∨ SqT X.K H p ys) ∧ Q (.int ys.length) H) ∨ (∃ z, xs = [.str z] ∧ z.length ≤ sizeLine ∧ Q (.int z.length) H)) fLen := by
  intro xs d e vs G H Q s rv q
  cases rv with
  | nil => cases e
  | cons r1 rr =>
    cases rr with
    | cons r2 rr => cases r1 <;> cases e
    | nil =>
      cases r1 with
      | lst hx rx =>
        simp only [fLen, Option.some.injEq] at e
        subst e
        rw [← rx.length] at q
        exact .inl ⟨_, _, rfl, .inl (SqL.of (s _ _ hx)), q _ _ (Gr.refl s) _ (.int _)⟩
      | tup hx rx =>
        simp only [fLen, Option.some.injEq] at e
        subst e
        rw [← rx.length] at q
        exact .inl ⟨_, _, rfl, .inr (seqT s hx), q _ _ (Gr.refl s) _ (.int _)⟩
      | str z =>
        simp only [fLen] at e
        split at e
        · rename_i h
          cases e
          exact .inr ⟨_, rfl, h, q _ _ (Gr.refl s) _ (.int _)⟩
        · cases e
      | _ => simp only [fLen, reduceCtorEq] at e
/-- a built-in function, a built-in type, called -/
theorem rcb {id : String} {r : List V → Hp → VK → Prop} {f : List D → Option D} {x : Str} {p : Pos} {e : Expr} {es : List Expr} {dd : Bt → Res (List D)} (hc : CallR X (.builtin id) r) (k : OkRN X r f) (hm : X.mg x = none) (ha : RA X W (e :: es) dd)
    (hv : bootBuiltins x = some (.builtin id) := by decide +kernel) (hg : Gl X x := by rfl) (hn : x ≠ "__name__" := by decide) (hdb : (x == ("__debug__" : Str)) = false := by decide)
    (he : starEach (e :: es) X.env = (false, eval e X.env) :: starEach es X.env := by rfl) (hpl : (backTo pos (starEach es X.env)).any (·.1) = false := by rfl) : RE X W (.Call (.Name x p) (e :: es) [] pos) (dN f dd) :=
  PE.imp (pe_callB hc hg hm hv ha hn hdb he hpl) (opND k)
theorem rct {T : String} {r : List V → Hp → VK → Prop} {f : List D → Option D} {x : Str} {p : Pos} {e : Expr} {es : List Expr} {dd : Bt → Res (List D)} (hc : CallR X (.type T) r) (k : OkRN X r f) (hm : X.mg x = none) (ha : RA X W (e :: es) dd)
    (hv : bootBuiltins x = some (.type T) := by decide +kernel) (hg : Gl X x := by rfl) (hn : x ≠ "__name__" := by decide) (hdb : (x == ("__debug__" : Str)) = false := by decide)
    (he : starEach (e :: es) X.env = (false, eval e X.env) :: starEach es X.env := by rfl) (hpl : (backTo pos (starEach es X.env)).any (·.1) = false := by rfl) : RE X W (.Call (.Name x p) (e :: es) [] pos) (dN f dd) :=
  PE.imp (pe_callTy hc hg hm hv ha hn hdb he hpl) (opND k)
theorem okO_len : CallR X (.builtin "len") (fun xs H Q => (∃ p ys, xs = [.ref p] ∧ (SqL X.K H p ys ∨ SqT X.K H p ys) ∧ Q (.int ys.length) H) ∨ (∃ z, xs = [.str z] ∧ z.length ≤ sizeLine ∧ Q (.int z.length) H)) := call_len_seq.or call_len_str
def fAbs : List D → Option D
  | [.int i] => some (.int (if i < 0 then -i else i))
  | _ => none
theorem ok_abs : OkRN X (fun xs H Q => ∃ i, xs = [.int i] ∧ Q (.int (if i < 0 then -i else i)) H) fAbs := by
  intro xs d e vs G H Q s rv q
  cases rv with
  | nil => cases e
  | cons r1 rr =>
    cases rr with
    | cons r2 rr => cases r1 <;> cases e
    | nil =>
      cases r1 <;> simp only [fAbs, Option.some.injEq, reduceCtorEq] at e
      subst e
      exact ⟨_, rfl, q _ _ (Gr.refl s) _ (.int _)⟩
def fInt : List D → Option D
  | [.int i] => some (.int i)
  | [.bool k] => some (.int (if k then 1 else 0))
  | _ => none
theorem ok_int : OkRN X (fun xs H Q => (∃ i, xs = [.int i] ∧ Q (.int i) H) ∨ ∃ k, xs = [.bl k] ∧ Q (.int (if k then 1 else 0)) H) fInt := by
  intro xs d e vs G H Q s rv q
  cases rv with
  | nil => cases e
  | cons r1 rr =>
    cases rr with
    | cons r2 rr => cases r1 <;> cases e
    | nil =>
      cases r1 with
      | int i =>
        simp only [fInt, Option.some.injEq] at e
        subst e
        exact .inl ⟨_, rfl, q _ _ (Gr.refl s) _ (.int _)⟩
      | bl i =>
        simp only [fInt, Option.some.injEq] at e
        subst e
        exact .inr ⟨_, rfl, q _ _ (Gr.refl s) _ (.int _)⟩
      | _ => simp only [fInt, reduceCtorEq] at e
def fMin2 : List D → Option D
  | [.int i, .int j] => some (.int (if j < i then j else i))
  | _ => none
def fMax2 : List D → Option D
  | [.int i, .int j] => some (.int (if j > i then j else i))
  | _ => none
theorem two_ints {f : List D → Option D} {g : Int → Int → Int} (h1 : ∀ i j, f [.int i, .int j] = some (.int (g i j))) (h2 : ∀ xs d, f xs = some d → ∃ i j, xs = [.int i, .int j]) :
    OkRN X (fun xs H Q => ∃ i j, xs = [.int i, .int j] ∧ Q (.int (g i j)) H) f := by
  intro xs d e vs G H Q s rv q
  obtain ⟨i, j, rfl⟩ := h2 xs d e
  rw [h1] at e
  cases e
  cases rv with
  | cons r1 rr =>
    cases rr with
    | cons r2 rr =>
      cases rr
      cases r1
      cases r2
      exact ⟨_, _, rfl, q _ _ (Gr.refl s) _ (.int _)⟩
theorem ok_min2 : OkRN X (fun xs H Q => ∃ i j, xs = [.int i, .int j] ∧ Q (.int (if j < i then j else i)) H) fMin2 := two_ints (fun _ _ => rfl) fun xs d e => by
  unfold fMin2 at e
  split at e
  · exact ⟨_, _, rfl⟩
  · cases e
theorem ok_max2 : OkRN X (fun xs H Q => ∃ i j, xs = [.int i, .int j] ∧ Q (.int (if j > i then j else i)) H) fMax2 := two_ints (fun _ _ => rfl) fun xs d e => by
  unfold fMax2 at e
  split at e
  · exact ⟨_, _, rfl⟩
  · cases e
def fTuple : List D → Option D
  | [.list xs] => some (.tuple xs)
  | [.tuple xs] => some (.tuple xs)
  | _ => none
theorem ok_tuple : OkRN X (fun xs H Q => ∃ p ys, xs = [.ref p] ∧ ((SqL X.K H p ys ∧ ∀ l, H l = none → Q (.ref l) (upd H l (.tup ys))) ∨ (SqT X.K H p ys ∧ Q (.ref p) H))) fTuple := by
  intro xs d e vs G H Q s rv q
  cases rv with
  | nil => cases e
  | cons r1 rr =>
    cases rr with
    | cons r2 rr => cases r1 <;> cases e
    | nil =>
      cases r1 with
      | lst hx rx =>
        simp only [fTuple, Option.some.injEq] at e
        subst e
        exact ⟨_, _, rfl, .inl ⟨SqL.of (s _ _ hx), fun l hl => q _ _ (Gr.new s hl) _ (.tup (.inl (.inl upd_same)) (RpAll.mono (same_upd (s.free hl)) rx))⟩⟩
      | tup hx rx =>
        simp only [fTuple, Option.some.injEq] at e
        subst e
        exact ⟨_, _, rfl, .inr ⟨seqT s hx, q _ _ (Gr.refl s) _ (.tup hx rx)⟩⟩
      | _ => simp only [fTuple, reduceCtorEq] at e
def fList : List D → Option D
  | [.list xs] => some (.list xs)
  | [.tuple xs] => some (.list xs)
  | _ => none
theorem ok_list : OkRN X (fun xs H Q => ∃ p ys, xs = [.ref p] ∧ (SqL X.K H p ys ∨ SqT X.K H p ys) ∧ ∀ l, H l = none → Q (.ref l) (upd H l (.lst ys))) fList := by
  intro xs d e vs G H Q s rv q
  cases rv with
  | nil => cases e
  | cons r1 rr =>
    cases rr with
    | cons r2 rr => cases r1 <;> cases e
    | nil =>
      cases r1 with
      | lst hx rx =>
        simp only [fList, Option.some.injEq] at e
        subst e
        exact ⟨_, _, rfl, .inl (SqL.of (s _ _ hx)), fun l hl => q _ _ (Gr.new s hl) _ (.lst upd_same (RpAll.mono (same_upd (s.free hl)) rx))⟩
      | tup hx rx =>
        simp only [fList, Option.some.injEq] at e
        subst e
        exact ⟨_, _, rfl, .inr (seqT s hx), fun l hl => q _ _ (Gr.new s hl) _ (.lst upd_same (RpAll.mono (same_upd (s.free hl)) rx))⟩
      | _ => simp only [fList, reduceCtorEq] at e

/-! ### isinstance -/
def tyD : D → String
  | .none => "NoneType"
  | .bool _ => "bool"
  | .int _ => "int"
  | .str _ => "str"
  | .list _ => "list"
  | .tuple _ => "tuple"
  | .dict [(.none, .list _)] => "list"
  | .dict _ => "dict"
/-- is a value of type a one of type b? -/
def subB (a b : String) : Bool := decide (a = b) || (decide (a = "bool") && decide (b = "int"))
def dIsi (T : String) (a : Bt → Res D) : Bt → Res D := fun β => (a β).bind fun x => match x with
  | .dict _ => .no
  | x => .ok (.bool (subB (tyD x) T))
def tyNames : List String := ["int", "bool", "str", "tuple", "list", "dict"]
theorem kit_all : ∀ b ∈ tyNames, ∀ a ∈ ["NoneType", "bool", "int", "str", "list", "tuple"], kitB a b = some (subB a b) := by decide +kernel
theorem SqT.ty {K : PySem.W.Frag} {H : Hp} {a : Addr} {xs : List V} (h : SqT K H a xs) : TyX K H (.ref a) (.type "tuple") := by
  rcases h with (h | ⟨o, h⟩) | ⟨o, its, n, h, hc, _⟩
  · exact .base (.tup h)
  · exact .fTuple h
  · exact .kTuple h hc
theorem risi {T : String} {x : Str} {p p2 : Pos} (hT : T ∈ tyNames) (hm : X.mg "isinstance" = none) (hm2 : X.mg x = none) (ha : RE X W a da) (hv2 : bootBuiltins x = some (.type T) := by decide +kernel) (hg : Gl X "isinstance" := by rfl) (hg2 : Gl X x := by rfl)
    (hn : x ≠ "__name__" := by decide) (hd : (x == ("__debug__" : Str)) = false := by decide) (he : starEach [a, .Name x p2] X.env = (false, eval a X.env) :: starEach [.Name x p2] X.env := by rfl) : RE X W (.Call (.Name "isinstance" p) [a, .Name x p2] [] pos) (dIsi T da) :=
  PE.imp (pe_callB call_isi hg hm (by decide +kernel) (pa_cons ha (pa_cons (pe_bltn (v := .ty T) hg2 hm2 hv2 rfl hn hd) pa_nil) he) (he := he)) fun σ H Q h => by
    obtain ⟨G, β, s, ev, rp⟩ := h
    refine ⟨G, β, s, ev, rp.bind fun x ex G1 H1 g1 rp1 v rv => ?_⟩
    have key : ∀ t, t ∈ ["NoneType", "bool", "int", "str", "list", "tuple"] → TyX X.K H1 v (.type t) → (Q (.bl (subB t T)) H1) → rIsi X.K [v, .ty T] H1 Q := fun t ht ty q =>
      ⟨v, .ty T, .type t, .type T, _, rfl, .ty T, ty, kit_ty (kit_all T hT t ht), q⟩
    cases rv with
    | non => exact key "NoneType" (by decide) (.base .non) (rp1.here (Gr.refl g1.s) _ (.bl _))
    | bl b => exact key "bool" (by decide) (.base (.bl b)) (rp1.here (Gr.refl g1.s) _ (.bl _))
    | int i => exact key "int" (by decide) (.base (.int i)) (rp1.here (Gr.refl g1.s) _ (.bl _))
    | str z => exact key "str" (by decide) (.base (.str z)) (rp1.here (Gr.refl g1.s) _ (.bl _))
    | lst hx rx => exact key "list" (by decide) (.base (.lst (g1.s _ _ hx))) (rp1.here (Gr.refl g1.s) _ (.bl _))
    | tup hx rx => exact key "tuple" (by decide) (SqT.ty (seqT g1.s hx)) (rp1.here (Gr.refl g1.s) _ (.bl _))
    | scr hx rx => exact rp1.elim
    | dic hx rx => exact rp1.elim
end
end DL

/-! DL6: t[::-1], calls of defs, iterators, comprehensions. -/
namespace DL
open PySem PySem.Spec PyProof.Rows L2
open HT (sIx)
/-! ### [::-1] of a tuple -/
theorem rev_places (n : Nat) : Builtin.Slice.slicePlaces ((n : Int) - 1) (-1) (-1) = n := by
  unfold Builtin.Slice.slicePlaces
  rw [if_neg (show ¬ ((-1 : Int) > 0) by omega)]
  split
  · have e : ((n : Int) - 1 - -1 - 1) / (- -1) + 1 = (n : Int) := by
      rw [show (- -1 : Int) = 1 by omega, Int.ediv_one]
      omega
    rw [e]
    omega
  · omega
theorem rev_pick (xs : Array Value) : ((List.range xs.size).filterMap fun (m : Nat) => xs[((xs.size : Int) - 1 + (m : Int) * -1).toNat]?).toArray = xs.toList.reverse.toArray := by
  have e : ∀ m, m ∈ List.range xs.size → xs[((xs.size : Int) - 1 + (m : Int) * -1).toNat]? = some (xs.toList.reverse.getD m .none) := fun m hm => by
    have h : m < xs.size := List.mem_range.mp hm
    have i1 : ((xs.size : Int) - 1 + (m : Int) * -1).toNat = xs.size - 1 - m := by omega
    rw [i1, Array.getElem?_eq_getElem (by omega), List.getD_eq_getElem?_getD, List.getElem?_reverse (by simpa using h)]
    simp only [Array.length_toList]
    rw [List.getElem?_eq_getElem (by rw [Array.length_toList]; omega)]
    simp
  have go : ∀ l : List Nat, (∀ m ∈ l, m ∈ List.range xs.size) → (l.filterMap fun (m : Nat) => xs[((xs.size : Int) - 1 + (m : Int) * -1).toNat]?) = l.map fun m => xs.toList.reverse.getD m .none := fun l => by
    induction l with
    | nil => intro _; rfl
    | cons m l ih =>
      intro h
      rw [List.filterMap_cons, e m (h m List.mem_cons_self), List.map_cons, ih fun k hk => h k (List.mem_cons_of_mem _ hk)]
  rw [go _ fun _ h => h]
  congr 1
  apply List.ext_getElem?
  intro i
  rw [List.getElem?_map]
  by_cases h : i < xs.size
  · rw [List.getElem?_range h, List.getElem?_eq_getElem (by simpa using h)]
    simp only [Option.map_some, List.getD_eq_getElem?_getD]
    rw [List.getElem?_eq_getElem (by simpa using h)]
    rfl
  · rw [List.getElem?_eq_none (by simpa using h), List.getElem?_eq_none (by simpa using h)]
    rfl
section
variable {prog : Program} {w : World} {A : Around} {E : Value → Shared → Prop} {s : Shared}
theorem rev_applied {sl : Addr} {vs : Value} {n : Nat} {Q : Int × Int × Nat → Shared → Prop} (hs : s.heap.IsSliceOf sl .none .none vs) (ps : IsPart vs (some (-1)))
    (h : Q ((n : Int) - 1, -1, n) s) : wpAny (model prog w) A (Builtin.Slice.sliceApplied (.ref sl) (pure (n : Int))) Q E s := by
  obtain ⟨os, hos, hcs, hds⟩ := id hs
  unfold Builtin.Slice.sliceApplied Builtin.Slice.sliceFields
  refine wpAny_bind (wpAny_bind (wpAny_field hos hds (x := .none) rfl (wpAny_bind (wpAny_field hos hds (x := .none) rfl (wpAny_bind (wpAny_field hos hds (x := vs) rfl (wpAny_pure ?_)))))))
  refine wpAny_bind (HT.slicePart_ ps ?_)
  show wpAny _ _ (if ((-1 : Int) == 0) = true then _ else _) _ _ s
  rw [if_neg (by decide)]
  refine wpAny_bind (HT.slicePart_ .none (wpAny_bind (HT.slicePart_ .none (wpAny_bind (wpAny_pure ?_)))))
  show wpAny _ _ (pure ((n : Int) - 1, (-1 : Int), Builtin.Slice.slicePlaces ((n : Int) - 1) (-1) (-1))) _ _ s
  rw [rev_places]
  exact wpAny_pure h
theorem getItem_tuple_rev {t sl : Addr} {items : Array Value} {vs : Value} {Q : Value → Shared → Prop} (ht : IsTup s.heap t items) (hs : s.heap.IsSliceOf sl .none .none vs) (ps : IsPart vs (some (-1)))
    (h : Q (.ref s.heap.objs.size) { s with heap := s.heap.push { cls := .type "tuple", data := .seq items.toList.reverse.toArray } })
    (hsz : items.size ≤ sizeLine) : wpAny (model prog w) A (getItem (.ref t) (.ref sl)) Q E s := by
  have hz : sizeOk (.seq items.toList.reverse.toArray) := by
    show items.toList.reverse.toArray.size ≤ sizeLine
    simpa using hsz
  obtain ⟨os, hos, hcs, hds⟩ := id hs
  have hTs : s.TypeIs (.ref sl) "slice" := ⟨os, hos, hcs⟩
  unfold getItem
  try with_reducible refine wpAny_holding ?_
  first | refine wpAny_bind (wpAny_pure ?_) | skip
  refine wpAny_bind (wpAny_sequenceKey ht.typeIs (by decide) ?_)
  refine wpAny_bind (wpAny_callSpecial?_slot (name := Str.ofString "__getitem__") ht.typeIs PyProof.Rows.slot_tuple_getitem
    (wpAny_call_entry PyProof.Rows.slot_tuple_getitem ht.typeIs entry_tuple_getitem ?_ (args_tuple_getitem _ _)))
  show wpAny _ _ (Builtin.Tuple.tupleItemsOf (.ref t) >>= _) _ _ s
  refine wpAny_bind (tupleItemsOf_ ht ?_)
  refine wpAny_bind (wpAny_typeOf hTs ?_)
  rw [if_pos (by decide)]
  refine wpAny_bind (rev_applied hs ps ?_)
  show wpAny _ _ (if (((items.size : Int) - 1) == 0 && (-1 : Int) == 1 && items.size == items.size) = true then _ else _) _ _ s
  rw [if_neg (by simp), rev_pick]
  first
    | exact wpAny_bind (m := Builtin.Tuple.tupleExact _) (wpAny_newObj_type (wpAny_pure ⟨_, rfl, wpAny_pure h⟩) hz)
    | exact wpAny_bind (m := Builtin.Tuple.tupleExact _) (wpAny_newObj_type (wpAny_bind (wpAny_pure (wpAny_pure ⟨_, rfl, wpAny_pure h⟩))) hz)
    | exact wpAny_bind (wpAny_bind (m := Builtin.Tuple.tupleExact _) (wpAny_newObj_type (wpAny_pure (wpAny_pure ⟨_, rfl, wpAny_pure h⟩)) hz))
    | exact wpAny_bind (wpAny_bind (m := Builtin.Tuple.tupleExact _) (wpAny_newObj_type (wpAny_pure ⟨_, rfl, wpAny_pure h⟩) hz))
end
section
variable {X : Cx} {W : WX} {a b : Expr} {da db : Bt → Res D} {pos : Pos}
def tRevA (K : PySem.W.Frag) (te : TE) : TE := fun σ H Q => te σ H fun x H1 => ∃ a xs, x = .ref a ∧ ((SqL K H1 a xs ∧ ∀ p, H1 p = none → Q (.ref p) (upd H1 p (.lst xs.reverse))) ∨ (SqT K H1 a xs ∧ ∀ p, H1 p = none → Q (.ref p) (upd H1 p (.tup xs.reverse))))
theorem pe_revA {e : Expr} {te : TE} {k : Nat} {p1 p2 p3 pos : Pos} (he : PE X e te) : PE X (.Subscript e (.Slice none none (some (.UnaryOp .USub (.Constant (.int 1) k p1) p2)) p3) pos) (tRevA X.K te) := by
  refine ⟨fun pins s σ H Q I h => ?_⟩
  refine Subscript_ (thn (he.run pins s σ H _ I h) fun v s1 ⟨x, H1, I1, r1, q1⟩ => ?_)
  obtain ⟨a, xs, ex, q⟩ := q1
  subst ex
  cases r1
  have step : PO X (some (.UnaryOp .USub (.Constant (.int 1) k p1) p2)) (tPart (tUn (rU fun i => .int (-i)) (tC (.int 1)))) := po_some (pe_un un_neg pe_int)
  refine wpAny_Slice (thn (po_none.run pins s1 σ H1 (fun o H2 => o = none ∧ H2 = H1) I1 ⟨rfl, rfl⟩) fun vl s2 ⟨l, H2, I2, pl, el, e2⟩ => ?_)
  subst el e2
  refine thn (po_none.run pins s2 σ H2 (fun o H3 => o = none ∧ H3 = H2) I2 ⟨rfl, rfl⟩) fun vu s3 ⟨u, H3, I3, pu, eu, e3⟩ => ?_
  subst eu e3
  refine thn (step.run pins s3 σ H3 (fun o H4 => o = some (-1) ∧ H4 = H3) I3 ⟨1, rfl, -1, rfl, rfl, rfl⟩) fun vs s4 ⟨o, H4, I4, ps, eo, e4⟩ => ?_
  subst eo e4
  have I5 : Inv X pins σ H4 { s4 with heap := s4.heap.push { cls := .type "slice", data := .fields #[vl, vu, vs] } } := I4.kept (t' := s4.toks) fun b ob q => Heap.get?_push_of_some _ q
  cases pl
  cases pu
  show wpAny (model X.prog X.w) X.A (subscriptTail e (.Slice none none (some (.UnaryOp .USub (.Constant (.int 1) k p1) p2)) p3) (.ref a) (.ref s4.heap.objs.size)) (EP X pins σ Q) X.xe { s4 with heap := s4.heap.push { cls := .type "slice", data := .fields #[.none, .none, vs] } }
  rcases q with ⟨hx, q⟩ | ⟨hx, q⟩
  · obtain ⟨its, r, ht, hz⟩ := I5.list hx
    have hlen := r.length
    refine tail_any (ops := [.ref a, .ref s4.heap.objs.size]) ht.isList.typeIs (PySem.slot_list_getitem.lookup) ?_ (by with_unfolding_all rfl)
    refine wpAny_getItem_list_slice ht.isList (Heap.IsSliceOf.new _ .none .none vs) .none .none ps (by decide) ?_ (by rw [List.size_toArray]; omega)
    rw [PySem.W.krv_pick]
    refine ⟨.ref _, _, I5.laid (t' := s4.toks) (o := .lst xs.reverse) (fun b ob q => Heap.get?_push_of_some _ q) (Nat.le_refl _) ?_, rfl, q _ (I5.hok.fresh (Nat.le_refl _))⟩
    exact ⟨by rw [List.length_reverse]; exact hz, _, 0, r.reverse, Heap.get?_push_size _ rfl⟩
  · obtain ⟨its, r, ht, hz⟩ := I5.tuple hx
    have hlen := r.length
    refine tail_any (ops := [.ref a, .ref s4.heap.objs.size]) ht.typeIs (PyProof.Rows.slot_tuple_getitem.lookup) ?_ (by with_unfolding_all rfl)
    refine getItem_tuple_rev ht (Heap.IsSliceOf.new _ .none .none vs) ps ?_ (by rw [List.size_toArray]; omega)
    refine ⟨.ref _, _, I5.laid (t' := s4.toks) (o := .tup xs.reverse) (fun b ob q => Heap.get?_push_of_some _ q) (Nat.le_refl _) ?_, rfl, q _ (I5.hok.fresh (Nat.le_refl _))⟩
    exact ⟨by rw [List.length_reverse]; exact hz, _, r.reverse, ⟨_, Heap.get?_push_size _ rfl, rfl, _, rfl⟩⟩
def fRevA : D → Option D
  | .list xs => some (.list xs.reverse)
  | .tuple xs => some (.tuple xs.reverse)
  | _ => none
theorem rrev {k : Nat} {p1 p2 p3 : Pos} (ha : RE X W a da) : RE X W (.Subscript a (.Slice none none (some (.UnaryOp .USub (.Constant (.int 1) k p1) p2)) p3) pos) (d1 fRevA da) :=
  PE.imp (pe_revA ha) fun σ H Q h => by
    obtain ⟨G, β, s, ev, rp⟩ := h
    refine ⟨G, β, s, ev, rp.bind fun x ex G1 H1 g1 rp1 v rv => ?_⟩
    obtain ⟨d, ed, q⟩ := rp1.ofOpt
    cases rv with
    | lst hx rx =>
      simp only [fRevA, Option.some.injEq] at ed
      subst ed
      exact ⟨_, _, rfl, .inl ⟨SqL.of (g1.s _ _ hx), fun p hp => q _ _ (Gr.new g1.s hp) _ (.lst upd_same (RpAll.mono (same_upd (g1.s.free hp)) rx.reverse))⟩⟩
    | tup hx rx =>
      simp only [fRevA, Option.some.injEq] at ed
      subst ed
      exact ⟨_, _, rfl, .inr ⟨seqT g1.s hx, fun p hp => q _ _ (Gr.new g1.s hp) _ (.tup (.inl (.inl upd_same)) (RpAll.mono (same_upd (g1.s.free hp)) rx.reverse))⟩⟩
    | _ => simp only [fRevA, reduceCtorEq] at ed

end

/-! ### an order of texts -/
theorem ltc_irr : ∀ a : List Nat, ltCps a a = false
  | [] => rfl
  | x :: r => by simp [ltCps, ltc_irr r]
theorem ltc_eq : ∀ a b : List Nat, ltCps a b = false → ltCps b a = false → a = b
  | [], [], _, _ => rfl
  | [], _ :: _, h, _ => by simp [ltCps] at h
  | _ :: _, [], _, h => by simp [ltCps] at h
  | x :: r, y :: t, h1, h2 => by
    simp only [ltCps, Bool.or_eq_false_iff, decide_eq_false_iff_not, Bool.and_eq_false_iff, beq_eq_false_iff_ne] at h1 h2
    have e : x = y := by omega
    subst e
    have q1 : ltCps r t = false := h1.2.resolve_left fun z => z rfl
    have q2 : ltCps t r = false := h2.2.resolve_left fun z => z rfl
    rw [ltc_eq r t q1 q2]
theorem ltc_neg : ∀ a b c : List Nat, ltCps b a = false → ltCps c b = false → ltCps c a = false
  | _, _, [], h1, h2 => by
    rename_i a b
    cases b with
    | nil => exact h1
    | cons y t => simp [ltCps] at h2
  | [], _, _ :: _, _, _ => rfl
  | x :: r, [], z :: q, h1, _ => by simp [ltCps] at h1
  | x :: r, y :: t, z :: q, h1, h2 => by
    simp only [ltCps, Bool.or_eq_false_iff, decide_eq_false_iff_not, Bool.and_eq_false_iff, beq_eq_false_iff_ne] at h1 h2 ⊢
    refine ⟨by omega, ?_⟩
    by_cases e : z = x
    · refine .inr ?_
      have e1 : y = x := by omega
      have e2 : z = y := by omega
      exact ltc_neg r t q (h1.2.resolve_left fun w => w e1) (h2.2.resolve_left fun w => w e2)
    · exact .inl e
theorem ltc_lt : ∀ a b : List Nat, ltCps a b = decide (a < b)
  | [], [] => by simp [ltCps]
  | [], _ :: _ => by simp [ltCps]
  | _ :: _, [] => by simp [ltCps]
  | x :: r, y :: t => by
    simp only [ltCps, ltc_lt r t, List.cons_lt_cons_iff]
    by_cases h : x < y
    · simp [h]
    · by_cases e : x = y
      · simp [e]
      · simp [h, e]
theorem perm_same {α : Type} {le : α → α → Prop} (as : ∀ a b, le a b → le b a → a = b) : ∀ (l1 l2 : List α), l1.Perm l2 → l1.Pairwise le → l2.Pairwise le → l1 = l2
  | [], l2, p, _, _ => (List.nil_perm.mp p).symm
  | a :: t1, [], p, _, _ => by
    have h := p.length_eq
    simp at h
  | a :: t1, b :: t2, p, h1, h2 => by
    have e : a = b := by
      have ha : a ∈ b :: t2 := p.subset List.mem_cons_self
      have hb : b ∈ a :: t1 := p.symm.subset List.mem_cons_self
      rcases List.mem_cons.mp ha with e | ha
      · exact e
      · rcases List.mem_cons.mp hb with e | hb
        · exact e.symm
        · exact as a b ((List.pairwise_cons.mp h1).1 b hb) ((List.pairwise_cons.mp h2).1 a ha)
    subst e
    rw [perm_same as t1 t2 p.cons_inv (List.pairwise_cons.mp h1).2 (List.pairwise_cons.mp h2).2]
/-- insertion by a test «is less than» -/
def insBy {α : Type} (lt : α → α → Bool) (x : α) : List α → List α
  | [] => [x]
  | y :: r => if lt y x = true then y :: insBy lt x r else x :: y :: r
def sortBy {α : Type} (lt : α → α → Bool) : List α → List α
  | [] => []
  | x :: r => insBy lt x (sortBy lt r)
section
variable {α : Type} {lt : α → α → Bool}
theorem insBy_perm (x : α) : ∀ l : List α, (insBy lt x l).Perm (x :: l)
  | [] => List.Perm.refl _
  | y :: r => by
    unfold insBy
    split
    · exact ((insBy_perm x r).cons y).trans (List.Perm.swap x y r)
    · exact List.Perm.refl _
theorem sortBy_perm : ∀ l : List α, (sortBy lt l).Perm l
  | [] => List.Perm.refl _
  | x :: r => (insBy_perm x _).trans ((sortBy_perm r).cons x)
theorem insBy_ord (asy : ∀ a b, lt a b = true → lt b a = false) (tr : ∀ a b c, lt b a = false → lt c b = false → lt c a = false) (x : α) : ∀ l : List α, l.Pairwise (fun a b => lt b a = false) → (insBy lt x l).Pairwise fun a b => lt b a = false
  | [], _ => by simp [insBy]
  | y :: r, h => by
    obtain ⟨h1, h2⟩ := List.pairwise_cons.mp h
    unfold insBy
    split
    · rename_i q
      refine List.pairwise_cons.mpr ⟨fun z hz => ?_, insBy_ord asy tr x r h2⟩
      rcases List.mem_cons.mp ((insBy_perm x r).subset hz) with e | hz
      · rw [e]; exact asy _ _ q
      · exact h1 z hz
    · rename_i q
      have q' : lt y x = false := by simpa using q
      refine List.pairwise_cons.mpr ⟨fun z hz => ?_, h⟩
      rcases List.mem_cons.mp hz with e | hz
      · rw [e]; exact q'
      · exact tr x y z q' (h1 z hz)
theorem sortBy_ord (asy : ∀ a b, lt a b = true → lt b a = false) (tr : ∀ a b c, lt b a = false → lt c b = false → lt c a = false) : ∀ l : List α, (sortBy lt l).Pairwise fun a b => lt b a = false
  | [] => List.Pairwise.nil
  | x :: r => insBy_ord asy tr x _ (sortBy_ord asy tr r)
end
abbrev ltT (x y : Str) : Bool := ltCps x.cps.toList y.cps.toList
theorem ltT_asy (a b : Str) (h : ltT a b = true) : ltT b a = false := by
  cases e : ltT b a with
  | false => rfl
  | true =>
    exfalso
    have key : ∀ x y : List Nat, ltCps x y = true → ltCps y x = true → False := fun x => by
      induction x with
      | nil => intro y h1 h2; cases y <;> simp [ltCps] at h1 h2
      | cons a r ih =>
        intro y h1 h2
        cases y with
        | nil => simp [ltCps] at h1
        | cons b t =>
          simp only [ltCps, Bool.or_eq_true, decide_eq_true_eq, Bool.and_eq_true, beq_iff_eq] at h1 h2
          rcases h1 with h1 | ⟨h1, q1⟩
          · rcases h2 with h2 | ⟨h2, q2⟩
            · omega
            · omega
          · rcases h2 with h2 | ⟨h2, q2⟩
            · omega
            · exact ih t q1 q2
    exact key _ _ h e
theorem str_of {a b : Str} (h : a.cps.toList = b.cps.toList) : a = b := by
  obtain ⟨⟨x⟩⟩ := a
  obtain ⟨⟨y⟩⟩ := b
  simpa using h
theorem risingS_pw : ∀ (l : List Str) (p : Str), risingS p l = true → (p :: l).Pairwise fun a b => ltT b a = false
  | [], p, _ => by simp
  | x :: r, p, h => by
    simp only [risingS, Bool.and_eq_true, Bool.not_eq_true'] at h
    have ih := risingS_pw r x h.2
    refine List.pairwise_cons.mpr ⟨fun z hz => ?_, ih⟩
    rcases List.mem_cons.mp hz with e | hz
    · rw [e]; exact h.1
    · exact ltc_neg _ _ _ h.1 ((List.pairwise_cons.mp ih).1 z hz)
theorem sorted_same {ys xs : List Str} (p : ys.Perm xs) (h : sortedS ys = true) : ys = sortBy ltT xs := by
  refine perm_same (le := fun a b => ltT b a = false) (fun a b h1 h2 => str_of (ltc_eq _ _ h2 h1)) _ _ (p.trans (sortBy_perm xs).symm) ?_ (sortBy_ord ltT_asy (fun a b c h1 h2 => ltc_neg _ _ _ h1 h2) xs)
  cases ys with
  | nil => exact List.Pairwise.nil
  | cons x r => exact risingS_pw r x h
def strsOf : List D → Option (List Str)
  | [] => some []
  | .str x :: r => (strsOf r).map (x :: ·)
  | _ => none
def intsOf : List D → Option (List Int)
  | [] => some []
  | .int x :: r => (intsOf r).map (x :: ·)
  | _ => none
theorem strsOf_eq : ∀ {ds : List D} {xs : List Str}, strsOf ds = some xs → ds = xs.map PyData.str
  | [], _, h => by cases h; rfl
  | d :: r, xs, h => by
    cases d <;> simp only [strsOf, reduceCtorEq] at h
    obtain ⟨t, e, rfl⟩ := Option.map_eq_some_iff.mp h
    rw [strsOf_eq e]; rfl
theorem intsOf_eq : ∀ {ds : List D} {xs : List Int}, intsOf ds = some xs → ds = xs.map PyData.int
  | [], _, h => by cases h; rfl
  | d :: r, xs, h => by
    cases d <;> simp only [intsOf, reduceCtorEq] at h
    obtain ⟨t, e, rfl⟩ := Option.map_eq_some_iff.mp h
    rw [intsOf_eq e]; rfl
theorem rpAll_strs {K : PySem.W.Frag} {w : World} {H : Hp} : ∀ {xs : List Str} {vs : List V}, RpAll K w H vs (xs.map PyData.str) → vs = xs.map V.str
  | [], _, h => by cases h; rfl
  | x :: r, _, h => by
    cases h with
    | cons h1 h2 => cases h1; rw [rpAll_strs h2]; rfl
theorem strs_rp {K : PySem.W.Frag} {w : World} {H : Hp} : ∀ xs : List Str, RpAll K w H (xs.map V.str) (xs.map PyData.str)
  | [] => .nil
  | x :: r => .cons (.str x) (strs_rp r)
theorem rpAll_ints {K : PySem.W.Frag} {w : World} {H : Hp} : ∀ {xs : List Int} {vs : List V}, RpAll K w H vs (xs.map PyData.int) → vs = xs.map V.int
  | [], _, h => by cases h; rfl
  | x :: r, _, h => by
    cases h with
    | cons h1 h2 => cases h1; rw [rpAll_ints h2]; rfl
section
variable {X : Cx}
def fSorted : List D → Option D
  | [.list ds] => match strsOf ds with
    | some xs => if xs.length < 64 then some (.list ((sortBy ltT xs).map PyData.str)) else none
    | none => match intsOf ds with
      | some ns => if ns.length < 64 then some (.list ((sortBy (fun i j => decide (i < j)) ns).map PyData.int)) else none
      | none => none
  | _ => none
theorem ok_sorted : OkRN X (fun vs H Q => rSortedS X.K vs H Q ∨ rSorted X.K vs H Q) fSorted := by
  intro xs d e vs G H Q s rv q
  cases rv with
  | nil => cases e
  | cons r1 rr =>
    cases rr with
    | cons r2 rr => cases r1 <;> cases e
    | nil =>
      cases r1 with
      | lst hx rx =>
        simp only [fSorted] at e
        split at e
        · rename_i zs hz
          split at e
          · rename_i h64
            cases e
            have e1 := strsOf_eq hz
            subst e1
            have e2 := rpAll_strs rx
            subst e2
            refine .inl ⟨_, _, rfl, SqL.of (s _ _ hx), h64, fun ys p h1 h2 hp => ?_⟩
            rw [sorted_same h1 h2]
            exact q _ _ (Gr.new s hp) _ (.lst upd_same (strs_rp _))
          · cases e
        · split at e
          · rename_i zs hz
            split at e
            · rename_i h64
              cases e
              have e1 := intsOf_eq hz
              subst e1
              have e2 := rpAll_ints rx
              subst e2
              refine .inr ⟨_, _, rfl, SqL.of (s _ _ hx), h64, fun ys p h1 h2 hp => ?_⟩
              have e3 : ys = sortBy (fun i j => decide (i < j)) zs := by
                refine perm_same (le := fun a b : Int => a ≤ b) (fun a b => Int.le_antisymm) _ _ (h1.trans (sortBy_perm zs).symm) h2 ?_
                have := sortBy_ord (lt := fun i j : Int => decide (i < j)) (fun a b h => by simp at h ⊢; omega) (fun a b c h h' => by simp at h h' ⊢; omega) zs
                exact this.imp fun {a b} h => by simp at h; omega
              rw [e3]
              exact q _ _ (Gr.new s hp) _ (.lst upd_same (Rp.ints _ _ _))
            · cases e
          · cases e
      | _ => simp only [fSorted, reduceCtorEq] at e
theorem okO_sorted : CallR X (.builtin "sorted") (fun vs H Q => rSortedS X.K vs H Q ∨ rSorted X.K vs H Q) := cr_sortedS.or cr_sorted
end
end DL

/-! DL7: calls of defs, targets, iterators, comprehensions. -/
namespace DL
open PySem PySem.Spec PyProof.Rows L2
/-! ### calls of defs -/
/-- the promise: what f computes -/
def SpF (K : PySem.W.Frag) (w : World) (mg : Str → Option Value) (f : List D → Res D) : Sp := fun vs H Q E => ∃ G ds, Same G H ∧ RpAll K w G vs ds ∧ RP K w mg (fun cls dd _ H' => E cls dd H') [] G H (fun d G' H' => ∀ v, Rp K w G' v d → Q v H') (f ds)
def dCall (f : List D → Res D) (a : Bt → Res (List D)) : Bt → Res D := fun β => (a β).bind f
theorem SpF.len {K : PySem.W.Frag} {w : World} {mg : Str → Option Value} {f : List D → Res D} {n : Nat} (hf : ∀ ds, ds.length ≠ n → f ds = .no) (vs : List V) (H : Hp) (Q : VK) (E : XK) (h : SpF K w mg f vs H Q E) : vs.length = n := by
  obtain ⟨G, ds, s, r, rp⟩ := h
  rw [r.length]
  by_cases e : ds.length = n
  · exact e
  · rw [hf ds e] at rp
    exact rp.elim
section
variable {X : Cx} {W : WX} {k : Nat} {f : Addr} {fd : FuncData} {ps : List Str} {g : List D → Res D} {x : Str} {p pos : Pos} {e : Expr} {es : List Expr} {da : Bt → Res (List D)}
theorem rcall (F : FnOk X.prog X.w X.K X.mg X.base (L2.CX X.prog X.w) k f fd ps (SpF X.K X.w X.mg g)) (hr : Room k X.A) (hm : X.mg x = some (.ref f)) (kp : PySem.W.keepIn X.K (.ref f) = true) (hb : Binds X.K fd ps []) (tk : Takes X W) (ha : RA X W (e :: es) da)
    (hg : Gl X x := by rfl) (hdb : (x == ("__debug__" : Str)) = false := by decide) (he : starEach (e :: es) X.env = (false, eval e X.env) :: starEach es X.env := by rfl) (hpl : (backTo pos (starEach es X.env)).any (·.1) = false := by rfl) :
    RE X W (.Call (.Name x p) (e :: es) [] pos) (dCall g da) :=
  PE.imp (pe_callSD (E := fun σ => WE W σ) F hr hg hm kp hb .nil (passAt tk) ha hdb he hpl) fun σ H Q h => by
    obtain ⟨G, β, s, ev, rp⟩ := h
    refine ⟨G, β, s, ev, rp.bind fun ds ed G1 H1 g1 rp1 vs rv => ?_⟩
    show SpF X.K X.w X.mg g (vs ++ []) H1 Q (WE W σ)
    rw [List.append_nil]
    refine ⟨G1, ds, g1.s, rv, ?_⟩
    cases q : g ds with
    | no => rw [q] at rp1; exact rp1
    | er e => rw [q] at rp1; exact rp1
    | ok d => rw [q] at rp1; exact rp1
theorem rcall0 (F : FnOk X.prog X.w X.K X.mg X.base (L2.CX X.prog X.w) k f fd ps (SpF X.K X.w X.mg g)) (hr : Room k X.A) (hm : X.mg x = some (.ref f)) (kp : PySem.W.keepIn X.K (.ref f) = true) (hb : Binds X.K fd ps []) (tk : Takes X W)
    (hg : Gl X x := by rfl) (hdb : (x == ("__debug__" : Str)) = false := by decide) : RE X W (.Call (.Name x p) [] [] pos) (dCall g aNil) := by
  refine ⟨fun pins s σ H Q I h => ?_⟩
  refine wpAny_Call_Name_kw (ld_glob I hg hm ?_ hdb)
  refine PySem.W.callWith_K0 I.kIn kp (run_fnSD (E := fun σ => WE W σ) (us := []) (vs := []) (dvs := []) (ds := []) F hr hb .nil (passAt tk σ) I .nil ?_)
  obtain ⟨G, β, s', ev, rp⟩ := h
  exact ⟨G, [], s', .nil, rp⟩
end

/-! ### targets: a name, a flat tuple of names -/
inductive Tgt where
  | nm (i : Nat)
  | tup (is : List Nat)
def gNames : List Nat → TGs
  | [] => gNil
  | i :: r => gCons (gName i) (gNames r)
def tgt (K : PySem.W.Frag) : Tgt → TG
  | .nm i => gName i
  | .tup is => gTup K is.length (gNames is)
def Tgt.slots : Tgt → List Nat
  | .nm i => [i]
  | .tup is => is
def setAll : List Nat → List D → Bt → Option Bt
  | [], [], β => some β
  | i :: is, d :: ds, β => setAll is ds (β.set i (some d))
  | _, _, _ => none
def setT : Tgt → D → Bt → Option Bt
  | .nm i, d, β => some (β.set i (some d))
  | .tup is, .tuple ds, β => setAll is ds β
  | _, _, _ => none
theorem wipe_set (σ : L2.St) (i : Nat) (x : Option V) : ∀ vs : List Nat, wipe (σ.set i x) vs = if i ∈ vs then wipe σ vs else (wipe σ vs).set i x
  | [] => by simp [wipe]
  | v :: vs => by
    show (wipe (σ.set i x) vs).set v none = _
    rw [wipe_set σ i x vs]
    by_cases h : i ∈ vs
    · rw [if_pos h, if_pos (List.mem_cons_of_mem _ h)]; rfl
    · rw [if_neg h]
      by_cases e : i = v
      · subst e
        rw [if_pos List.mem_cons_self, List.set_set]; rfl
      · rw [if_neg (by simp [e, h]), List.set_comm _ _ e]; rfl
theorem wipe_in {σ : L2.St} {i : Nat} {x : Option V} {vs : List Nat} (h : i ∈ vs) : wipe (σ.set i x) vs = wipe σ vs := by rw [wipe_set, if_pos h]
theorem wipe_idem (σ : L2.St) : ∀ vs us : List Nat, (∀ i ∈ us, i ∈ vs) → wipe (wipe σ us) vs = wipe σ vs
  | vs, [], _ => rfl
  | vs, u :: us, h => by
    show wipe ((wipe σ us).set u none) vs = _
    rw [wipe_in (h u List.mem_cons_self)]
    exact wipe_idem σ vs us fun i hi => h i (List.mem_cons_of_mem _ hi)
section
variable {K : PySem.W.Frag} {w : World} {G H : Hp} {σ : L2.St} {β β' : Bt}
theorem Ev.set {v : V} {d : D} (h : Ev K w G σ β) (r : Rp K w G v d) (i : Nat) : Ev K w G (σ.set i (some v)) (β.set i (some d)) := by
  refine ⟨by simpa using h.1, fun j x e => ?_⟩
  by_cases q : j = i
  · subst q
    by_cases hl : j < β.length
    · rw [List.getElem?_set_self hl] at e
      cases e
      exact ⟨v, List.getElem?_set_self (Nat.lt_of_lt_of_le hl h.1), r⟩
    · rw [List.getElem?_eq_none (by simpa using hl)] at e
      cases e
  · rw [List.getElem?_set_ne (Ne.symm q)] at e
    obtain ⟨u, e1, e2⟩ := h.2 j x e
    exact ⟨u, by rw [List.getElem?_set_ne (Ne.symm q)]; exact e1, e2⟩
theorem names_run {Q : L2.St → Hp → Prop} : ∀ {is : List Nat} {ds : List D} {xs : List V} {σ : L2.St} {β : Bt}, RpAll K w G xs ds → Ev K w G σ β → setAll is ds β = some β' →
    (∀ σ', Ev K w G σ' β' → (∀ vs : List Nat, (∀ i ∈ is, i ∈ vs) → wipe σ' vs = wipe σ vs) → Q σ' H) → gNames is xs σ H Q
  | [], _, _, σ, β, r, ev, e, q => by
    cases r with
    | nil =>
      cases e
      exact ⟨rfl, q σ ev fun _ _ => rfl⟩
    | cons _ _ => cases e
  | i :: is, _, _, σ, β, r, ev, e, q => by
    cases r with
    | nil => cases e
    | cons h t =>
      refine ⟨_, _, rfl, names_run t (ev.set h i) e fun σ' ev' hw => q σ' ev' fun vs hv => ?_⟩
      rw [hw vs fun j hj => hv j (List.mem_cons_of_mem _ hj)]
      exact wipe_in (hv i List.mem_cons_self)
theorem tgt_run {Q : L2.St → Hp → Prop} {t : Tgt} {d : D} {v : V} (s : Same G H) (r : Rp K w G v d) (ev : Ev K w G σ β) (e : setT t d β = some β')
    (q : ∀ σ', Ev K w G σ' β' → (∀ vs : List Nat, (∀ i ∈ t.slots, i ∈ vs) → wipe σ' vs = wipe σ vs) → Q σ' H) : tgt K t v σ H Q := by
  cases t with
  | nm i =>
    cases e
    exact q _ (ev.set r i) fun vs hv => wipe_in (hv i List.mem_cons_self)
  | tup is =>
    cases r with
    | @tup a xs ds hx rx =>
      have e' : setAll is ds β = some β' := e
      refine ⟨_, _, rfl, seqT s hx, ?_, names_run rx ev e' q⟩
      rw [rx.length]
      have key : ∀ {is : List Nat} {ds : List D} {β : Bt}, setAll is ds β = some β' → ds.length = is.length := fun {is} => by
        induction is with
        | nil => intro ds β e; cases ds <;> first | rfl | cases e
        | cons i is ih =>
          intro ds β e
          cases ds with
          | nil => cases e
          | cons d ds => exact congrArg Nat.succ (ih e)
      exact key e'
    | _ => cases e
end
def RG (X : Cx) (tg : Expr) (t : Tgt) : Prop := PG X tg (tgt X.K t)
theorem rgn {X : Cx} (i : Nat) {x : Str} {pos : Pos} (hN : X.N.Nodup) (hi : X.N[i]? = some x := by rfl) (hx : Loc X.env.scope x := by first | exact Or.inl rfl | exact Or.inr rfl) (hf : X.fn x = true ∨ X.env.scope.names.lookup x = some .local := by first | exact .inl rfl | exact .inr rfl | assumption) : RG X (.Name x pos) (.nm i) :=
  pg_name hN hi hx hf
def RGs (X : Cx) (ts : List Expr) (is : List Nat) : Prop := PGs X ts (gNames is)
theorem rgnil {X : Cx} : RGs X [] [] := pgs_nil
theorem rgcons {X : Cx} {e : Expr} {es : List Expr} {i : Nat} {is : List Nat} (h : RG X e (.nm i)) (r : RGs X es is) (hs : (assignEach (e :: es) X.env).map (·.2) = assign e X.env :: (assignEach es X.env).map (·.2) := by rfl) : RGs X (e :: es) (i :: is) := pgs_cons h r hs
theorem rgtup {X : Cx} {es : List Expr} {k : Nat} {is : List Nat} {pos : Pos} (hc : X.calm = true) (h : RGs X es is) (hn : (assignEach es X.env).length = is.length := by rfl) (hst : (assignEach es X.env).findIdx? (·.1) = none := by rfl) : RG X (.Tuple es k pos) (.tup is) :=
  pg_tup hc h hn hst

/-! ### iterators -/
/-- J walks the items ds, as long as what is in G stands -/
structure ItD (K : PySem.W.Frag) (w : World) (G : Hp) (J : It) (ds : List D) : Prop where
  go : ∀ i H, Same G H → i < ds.length → J.go i H
  stop : ∀ i H, Same G H → ds.length ≤ i → J.stop i H
  yld : ∀ i d G1 H x H', ds[i]? = some d → Same G G1 → Same G1 H → J.yld i H x H' → ∃ G2, Gr G1 H G2 H' ∧ Rp K w G2 x d
def TRi (X : Cx) (W : WX) (den : Bt → Res (List D)) : TI := fun σ H R => ∃ G β, Same G H ∧ Ev X.K X.w G σ β ∧ RP X.K X.w X.mg W σ G H (fun ds G' H' => ∀ J, ItD X.K X.w G' J ds → R J H') (den β)
def RI (X : Cx) (W : WX) (tg e : Expr) (den : Bt → Res (List D)) : Prop := PI X tg e (TRi X W den)
theorem PI.imp {X : Cx} {tg e : Expr} {t t' : TI} (h : PI X tg e t) (i : ∀ σ H Q, t' σ H Q → t σ H Q) : PI X tg e t' := ⟨fun pins s σ H Q I q => h.run pins s σ H Q I (i σ H Q q)⟩
theorem pior {X : Cx} {tg e : Expr} {t t' : TI} (h : PI X tg e t) (h' : PI X tg e t') : PI X tg e fun σ H R => t σ H R ∨ t' σ H R := ⟨fun pins s σ H Q I q => q.elim (h.run pins s σ H Q I) (h'.run pins s σ H Q I)⟩
def signs (z : Str) : List D := z.cps.toList.map fun c => .str ⟨#[c]⟩
def itemsOf : D → Option (List D)
  | .list xs => some xs
  | .tuple xs => some xs
  | .str z => some (signs z)
  | _ => none
def iSeq (a : Bt → Res D) : Bt → Res (List D) := fun β => (a β).bind fun x => Res.of (itemsOf x)
section
variable {X : Cx} {W : WX} {a : Expr} {da : Bt → Res D} {tg : Expr}
theorem itd_list {K : PySem.W.Frag} {w : World} {G : Hp} {p : Addr} {xs : List V} {ds : List D} (h : SqL K G p xs) (r : RpAll K w G xs ds) : ItD K w G (Itl K p) ds where
  go := fun i H s hi => by
    obtain ⟨v, e1, _⟩ := r.get (List.getElem?_eq_getElem hi)
    exact ⟨xs, v, s.seq h, e1⟩
  stop := fun i H s hi => ⟨xs, s.seq h, by rw [r.length]; exact hi⟩
  yld := fun i d G1 H x H' hd s1 s2 y => by
    obtain ⟨v, e1, e2⟩ := r.get hd
    obtain ⟨e, y⟩ := y
    subst e
    have e3 := y xs ((s1.trans s2).seq h)
    rw [e1] at e3
    cases e3
    exact ⟨G1, Gr.refl s2, e2.mono s1⟩
theorem itd_tup {K : PySem.W.Frag} {w : World} {G : Hp} {p : Addr} {xs : List V} {ds : List D} (h : SqT K G p xs) (r : RpAll K w G xs ds) : ItD K w G (Itt K p) ds where
  go := fun i H s hi => by
    obtain ⟨v, e1, _⟩ := r.get (List.getElem?_eq_getElem hi)
    exact ⟨xs, v, seqT s h, e1⟩
  stop := fun i H s hi => ⟨xs, seqT s h, by rw [r.length]; exact hi⟩
  yld := fun i d G1 H x H' hd s1 s2 y => by
    obtain ⟨v, e1, e2⟩ := r.get hd
    obtain ⟨e, y⟩ := y
    subst e
    have e3 := y xs (seqT (s1.trans s2) h)
    rw [e1] at e3
    cases e3
    exact ⟨G1, Gr.refl s2, e2.mono s1⟩
theorem itd_str {K : PySem.W.Frag} {w : World} {G : Hp} (z : Str) : ItD K w G (Its z) (signs z) where
  go := fun i H s hi => show i < z.cps.size by simpa [signs] using hi
  stop := fun i H s hi => show z.cps.size ≤ i by simpa [signs] using hi
  yld := fun i d G1 H x H' hd s1 s2 y => by
    obtain ⟨e, c, e1, e2⟩ := y
    subst e e2
    have e3 : (signs z)[i]? = some (.str ⟨#[c]⟩) := by
      unfold signs
      rw [List.getElem?_map, Array.getElem?_toList, e1]
      rfl
    rw [e3] at hd
    cases hd
    exact ⟨G1, Gr.refl s2, .str _⟩
theorem riseq (ha : RE X W a da) : RI X W tg a (iSeq da) :=
  PI.imp (pior (pi_list ha) (pior (pi_tup ha) (pi_str ha))) fun σ H R h => by
    obtain ⟨G, β, s, ev, rp⟩ := h
    cases q : da β with
    | no => unfold iSeq at rp; rw [q] at rp; exact rp.elim
    | er e =>
      refine Or.inl ⟨G, β, s, ev, ?_⟩
      unfold iSeq at rp
      rw [q] at rp ⊢
      exact rp
    | ok x =>
      have rp' : RP X.K X.w X.mg W σ G H (fun ds G' H' => ∀ (J : It), ItD X.K X.w G' J ds → R J H') (Res.of (itemsOf x)) := by
        unfold iSeq at rp
        rw [q] at rp
        exact rp
      obtain ⟨ds, eds, qq⟩ := RP.ofOpt rp'
      cases x with
      | list xs =>
        cases eds
        refine Or.inl ⟨G, β, s, ev, ?_⟩
        rw [q]
        intro G' H' g v rv
        cases rv with
        | lst hx rx => exact ⟨_, rfl, ⟨_, SqL.of (g.s _ _ hx)⟩, qq G' H' g _ (itd_list (SqL.of hx) rx)⟩
      | tuple xs =>
        cases eds
        refine Or.inr (Or.inl ⟨G, β, s, ev, ?_⟩)
        rw [q]
        intro G' H' g v rv
        cases rv with
        | tup hx rx => exact ⟨_, rfl, ⟨_, seqT g.s hx⟩, qq G' H' g _ (itd_tup hx rx)⟩
      | str z =>
        cases eds
        refine Or.inr (Or.inr ⟨G, β, s, ev, ?_⟩)
        rw [q]
        intro G' H' g v rv
        cases rv
        exact ⟨z, rfl, qq G' H' g _ (itd_str z)⟩
      | _ => cases eds
end
end DL

/-! DL8: ranges, comprehensions. -/
namespace DL
open PySem PySem.Spec PyProof.Rows L2
section
variable {X : Cx} {W : WX} {a b : Expr} {da db : Bt → Res D} {tg : Expr} {p pos : Pos}
/-! ### ranges -/
def rangeL (lo : Int) (n : Nat) : List D := (List.range n).map fun (i : Nat) => PyData.int (lo + (i : Int))
theorem rangeL_length (lo : Int) (n : Nat) : (rangeL lo n).length = n := by simp [rangeL]
theorem rangeL_get (lo : Int) (n i : Nat) (h : i < n) : (rangeL lo n)[i]? = some (.int (lo + i)) := by
  unfold rangeL
  rw [List.getElem?_map, List.getElem?_range h]
  rfl
theorem itd_range {K : PySem.W.Frag} {w : World} {G : Hp} (lo : Int) (n : Nat) : ItD K w G (Itr lo n) (rangeL lo n) where
  go := fun i H s hi => by rw [rangeL_length] at hi; exact hi
  stop := fun i H s hi => by rw [rangeL_length] at hi; exact hi
  yld := fun i d G1 H x H' hd s1 s2 y => by
    obtain ⟨e, y⟩ := y
    subst e y
    have hi : i < n := by
      have := (List.getElem?_eq_some_iff.mp hd).1
      rwa [rangeL_length] at this
    rw [rangeL_get lo n i hi] at hd
    cases hd
    exact ⟨G1, Gr.refl s2, .int _⟩
def inR (i : Int) : Bool := decide (-(2 ^ 62) ≤ i) && decide (i < 2 ^ 62)
def iRange1 (a : Bt → Res D) : Bt → Res (List D) := fun β => (a β).bind fun x => match x with
  | .int n => if inR n = true then .ok (rangeL 0 n.toNat) else .no
  | _ => .no
def iRange2 (a b : Bt → Res D) : Bt → Res (List D) := fun β => (a β).bind fun x => (b β).bind fun y => match x, y with
  | .int m, .int n => if inR m = true ∧ inR n = true then .ok (rangeL m (n - m).toNat) else .no
  | _, _ => .no
theorem inR_ok {i : Int} (h : inR i = true) : -(2 ^ 62) ≤ i ∧ i < 2 ^ 62 := by
  simpa only [inR, Bool.and_eq_true, decide_eq_true_eq] using h
theorem rirange1 (hm : X.mg "range" = none) (ha : RE X W a da) (hg : Gl X "range" := by rfl) (hs1 : starEach [a] X.env = (false, eval a X.env) :: starEach [] X.env := by rfl) (hs : starEach [a] X.env = [(false, eval a X.env)] := by rfl) : RI X W tg (.Call (.Name "range" p) [a] [] pos) (iRange1 da) :=
  PI.imp (pi_range1 hg hm (pa_cons ha pa_nil hs1) hs) fun σ H R h => by
    obtain ⟨G, β, s, ev, rp⟩ := h
    refine ⟨G, β, s, ev, rp.bind fun x ex G1 H1 g1 rp1 v rv => ?_⟩
    cases rv with
    | int n =>
      simp only at rp1
      split at rp1
      · rename_i hn
        obtain ⟨h1, h2⟩ := inR_ok hn
        exact ⟨n, rfl, h1, h2, rp1.here (Gr.refl g1.s) _ (itd_range 0 _)⟩
      · exact rp1.elim
    | _ => exact rp1.elim
theorem rirange2 (hm : X.mg "range" = none) (ha : RE X W a da) (hb : RE X W b db) (hg : Gl X "range" := by rfl) (hs1 : starEach [a, b] X.env = (false, eval a X.env) :: starEach [b] X.env := by rfl) (hs3 : starEach [b] X.env = (false, eval b X.env) :: starEach [] X.env := by rfl)
    (hs : starEach [a, b] X.env = [(false, eval a X.env), (false, eval b X.env)] := by rfl) (hs2 : starEach [b] X.env = [(false, eval b X.env)] := by rfl) : RI X W tg (.Call (.Name "range" p) [a, b] [] pos) (iRange2 da db) :=
  PI.imp (pi_range2 hg hm (pa_cons ha (pa_cons hb pa_nil hs3) hs1) hs hs2) fun σ H R h => by
    obtain ⟨G, β, s, ev, rp⟩ := h
    refine ⟨G, β, s, ev, rp.bind fun x ex G1 H1 g1 rp1 v rv => ?_⟩
    refine ⟨G1, β, g1.s, ev.mono g1.g, rp1.bind fun y ey G2 H2 g2 rp2 u ru => ?_⟩
    cases rv with
    | int m =>
      cases ru with
      | int n =>
        simp only at rp2
        split at rp2
        · rename_i hn
          obtain ⟨h1, h2⟩ := inR_ok hn.1
          obtain ⟨h3, h4⟩ := inR_ok hn.2
          exact ⟨m, n, rfl, ⟨h1, h2, h3, h4⟩, rp2.here (Gr.refl g2.s) _ (itd_range m _)⟩
        · exact rp2.elim
      | _ => exact rp2.elim
    | _ => exact rp2.elim

/-! ### new lists -/
theorem Gr.put {G H G' H' : Hp} {a : Addr} {o : HO} (g : Gr G H G' H') (h1 : H a = none) (h2 : G' a = none) : Gr G H G' (upd H' a o) :=
  ⟨g.g, fun b x e => by
    have ne : b ≠ a := fun z => by rw [z, h2] at e; cases e
    rw [upd_ne ne]; exact g.s b x e, fun b x e => by
    have ne : b ≠ a := fun z => by rw [z, h1] at e; cases e
    rw [upd_ne ne]; exact g.h b x e, g.o⟩
/-- the expression gives a new list of these -/
def TRf (X : Cx) (W : WX) (den : Bt → Res (List D)) : TE := fun σ H Q => ∃ G β, Same G H ∧ Ev X.K X.w G σ β ∧
  RP X.K X.w X.mg W σ G H (fun ds G' H' => ∀ a vs, H a = none → G' a = none → H' a = some (.lst vs) → RpAll X.K X.w G' vs ds → Q (.ref a) H') (den β)
def RF (X : Cx) (W : WX) (e : Expr) (den : Bt → Res (List D)) : Prop := PE X e (TRf X W den)
def dFz (a : Bt → Res (List D)) : Bt → Res D := fun β => (a β).bind fun ds => .ok (.list ds)
/-- the new list is laid into what is read -/
theorem Gr.lay {G H G' H' : Hp} {a : Addr} {o : HO} (g : Gr G H G' H') (h1 : H a = none) (h2 : G' a = none) (h3 : H' a = some o) : Gr G H (upd G' a o) H' :=
  ⟨g.g.trans (same_upd h2), fun b x e => by
    by_cases hb : b = a
    · subst hb; rw [upd_same] at e; cases e; exact h3
    · rw [upd_ne hb] at e; exact g.s b x e, g.h, fun b n1 n2 => by
    have ne : b ≠ a := fun z => n1 (z ▸ h1)
    rw [upd_ne ne]; exact g.o b n1 n2⟩
theorem rfz {e : Expr} {d : Bt → Res (List D)} (h : RF X W e d) : RE X W e (dFz d) :=
  PE.imp h fun σ H Q h => by
    obtain ⟨G, β, s, ev, rp⟩ := h
    refine ⟨G, β, s, ev, ?_⟩
    unfold dFz at rp
    cases q : d β with
    | no => rw [q] at rp; exact rp
    | er e => rw [q] at rp; exact rp
    | ok ds =>
      rw [q] at rp
      intro G' H' g a vs h1 h2 h3 r
      exact rp _ _ (g.lay h1 h2 h3) _ (.lst upd_same (RpAll.mono (same_upd h2) r))
def fLst (a : Bt → Res (List D)) : Bt → Res (List D) := fun β => (a β).bind fun xs => if xs.length ≤ sizeLine then .ok xs else .no
theorem rflst {es : List Expr} {da : Bt → Res (List D)} (h : RA X W es da) : RF X W (.List es pos) (fLst da) :=
  PE.imp (pe_lst h) fun σ H Q h => by
    obtain ⟨G, β, s, ev, rp⟩ := h
    refine ⟨G, β, s, ev, rp.bind fun x ex G1 H1 g1 rp1 vs rv => ?_⟩
    have hl := rv.length
    by_cases hz : x.length ≤ sizeLine
    · rw [if_pos hz] at rp1
      refine ⟨by omega, fun p hp => ?_⟩
      have g2 : Gr G1 H1 G1 (upd H1 p (.lst vs)) := ⟨Same.refl _, g1.s.trans (same_upd hp), same_upd hp, fun _ _ h => h⟩
      exact rp1.here g2 p vs (g1.h.free hp) (g1.s.free hp) upd_same rv
    · rw [if_neg hz] at rp1
      exact rp1.elim
def iSq (a : Bt → Res D) : Bt → Res (List D) := fun β => (a β).bind fun x => match x with
  | .list xs => .ok xs
  | .tuple xs => .ok xs
  | _ => .no
theorem rflist {e : Expr} (hm : X.mg "list" = none) (ha : RE X W e da) (hg : Gl X "list" := by rfl) (hs : starEach [e] X.env = (false, eval e X.env) :: starEach [] X.env := by rfl) : RF X W (.Call (.Name "list" p) [e] [] pos) (iSq da) :=
  PE.imp (pe_callTy call_list_of hg hm (by decide +kernel) (pa_cons ha pa_nil hs) (he := hs)) fun σ H Q h => by
    obtain ⟨G, β, s, ev, rp⟩ := h
    refine ⟨G, β, s, ev, rp.bind fun x ex G1 H1 g1 rp1 v rv => ?_⟩
    cases rv with
    | lst hx rx =>
      refine ⟨_, _, rfl, .inl (SqL.of (g1.s _ _ hx)), fun p hp => ?_⟩
      exact rp1.here ((Gr.refl g1.s).put hp (g1.s.free hp)) p _ (g1.h.free hp) (g1.s.free hp) upd_same rx
    | tup hx rx =>
      refine ⟨_, _, rfl, .inr (seqT g1.s hx), fun p hp => ?_⟩
      exact rp1.here ((Gr.refl g1.s).put hp (g1.s.free hp)) p _ (g1.h.free hp) (g1.s.free hp) upd_same rx
    | _ => exact rp1.elim
end

/-! ### comprehensions -/
def W0 : WX := fun _ _ _ _ => False
def noEr {α : Type} : Res α → Res α
  | .er _ => .no
  | r => r
def wipeB (β : Bt) : List Nat → Bt
  | [] => β
  | v :: vs => (wipeB β vs).set v none
theorem wipeB_length (β : Bt) : ∀ vs : List Nat, (wipeB β vs).length = β.length
  | [] => rfl
  | v :: vs => by unfold wipeB; rw [List.length_set, wipeB_length β vs]
theorem Ev.wipe {K : PySem.W.Frag} {w : World} {G : Hp} {σ : L2.St} {β : Bt} (h : Ev K w G σ β) : ∀ vs : List Nat, Ev K w G (L2.wipe σ vs) (wipeB β vs)
  | [] => h
  | v :: vs => by
    have ih := h.wipe vs
    refine ⟨by rw [wipe_length, wipeB_length]; exact h.1, fun i d e => ?_⟩
    have e' : ((wipeB β vs).set v none)[i]? = some (some d) := e
    by_cases q : i = v
    · subst q
      by_cases hl : i < (wipeB β vs).length
      · rw [List.getElem?_set_self hl] at e'; cases e'
      · rw [List.getElem?_eq_none (by simpa using hl)] at e'; cases e'
    · rw [List.getElem?_set_ne (Ne.symm q)] at e'
      obtain ⟨u, e1, e2⟩ := ih.2 i d e'
      exact ⟨u, by show ((L2.wipe σ vs).set v none)[i]? = _; rw [List.getElem?_set_ne (Ne.symm q)]; exact e1, e2⟩
/-- one turn: the target, the test, the element -/
def cmD (tg : Tgt) (t : Bt → Res Bool) (e : Bt → Res D) (β : Bt) (d : D) : Res (Option D) := match setT tg d β with
  | none => .no
  | some β' => noEr ((t β').bind fun b => if b = true then (e β').bind fun y => .ok (some y) else .ok none)
def lcD (f : D → Res (Option D)) : List D → Res (List D)
  | [] => .ok []
  | d :: ds => (f d).bind fun o => (lcD f ds).bind fun r => .ok (o.toList ++ r)
def dLc (it : Bt → Res (List D)) (tg : Tgt) (t : Bt → Res Bool) (e : Bt → Res D) (vs : List Nat) : Bt → Res (List D) := fun β => (it β).bind fun ds => if ds.length ≤ sizeLine then lcD (cmD tg t e (wipeB β vs)) ds else .no
theorem cmD_er {tg t e β d x} (h : cmD tg t e β d = .er x) : False := by
  unfold cmD at h
  split at h
  · cases h
  · unfold noEr at h
    split at h
    · cases h
    · rename_i hh
      exact hh _ h
theorem lcD_er {f : D → Res (Option D)} (hf : ∀ d x, f d = .er x → False) : ∀ {ds : List D} {x : Er}, lcD f ds = .er x → False
  | [], _, h => by cases h
  | d :: ds, x, h => by
    unfold lcD at h
    cases q : f d with
    | no => rw [q] at h; cases h
    | er e => exact hf d e q
    | ok o =>
      rw [q] at h
      have h' : ((lcD f ds).bind fun r => Res.ok (o.toList ++ r)) = .er x := h
      cases q2 : lcD f ds with
      | no => rw [q2] at h'; cases h'
      | er e => exact lcD_er hf q2
      | ok r => rw [q2] at h'; cases h'
theorem lcD_cons {f : D → Res (Option D)} {d : D} {ds r : List D} (h : lcD f (d :: ds) = .ok r) : ∃ o r', f d = .ok o ∧ lcD f ds = .ok r' ∧ r = o.toList ++ r' := by
  unfold lcD at h
  cases q : f d with
  | no => rw [q] at h; cases h
  | er e => rw [q] at h; cases h
  | ok o =>
    rw [q] at h
    have h' : ((lcD f ds).bind fun r => Res.ok (o.toList ++ r)) = .ok r := h
    cases q2 : lcD f ds with
    | no => rw [q2] at h'; cases h'
    | er e => rw [q2] at h'; cases h'
    | ok r' => rw [q2] at h'; cases h'; exact ⟨o, r', rfl, rfl, rfl⟩
/-- the reading of a list comprehension -/
theorem lc_rd {X : Cx} {W : WX} {dit : Bt → Res (List D)} {tg : Tgt} {t : Bt → Res Bool} {e : Bt → Res D} {vs : List Nat} (hv : ∀ i ∈ tg.slots, i ∈ vs) (σ : L2.St) (H : Hp) (Q : VK) (h : TRf X W (dLc dit tg t e vs) σ H Q) :
    tLc (TRi X W dit) (tgt X.K tg) (TRt X W0 t) (TR X W0 e) vs σ H Q := by
  obtain ⟨G, β, s, ev, rp⟩ := h
  refine ⟨G, β, s, ev, rp.bind fun ds ed G1 H1 g1 rp1 J hJ P hP => ?_⟩
  by_cases hz : ds.length ≤ sizeLine
  · rw [if_pos hz] at rp1
    cases hr : lcD (cmD tg t e (wipeB β vs)) ds with
    | no => rw [hr] at rp1; exact rp1.elim
    | er x => exact (lcD_er (fun d x => cmD_er) hr).elim
    | ok rs =>
      rw [hr] at rp1
      refine ⟨fun i m H2 => m = ds.length - i ∧ i ≤ ds.length ∧ ∃ G2 acc accD r, Gr G1 H1 G2 H2 ∧ G2 P = none ∧ H2 P = some (.lst acc) ∧ RpAll X.K X.w G2 acc accD ∧ accD.length ≤ i ∧ lcD (cmD tg t e (wipeB β vs)) (ds.drop i) = .ok r ∧ accD ++ r = rs,
        ⟨ds.length, rfl, Nat.zero_le _, G1, [], [], rs, (Gr.refl g1.s).put hP (g1.s.free hP), g1.s.free hP, upd_same, .nil, Nat.le_refl _, hr, rfl⟩, fun i m H2 hI => ?_⟩
      obtain ⟨rfl, hi, G2, acc, accD, r, g2, hG, hA, ra, hl, hd, he⟩ := hI
      by_cases hlt : i < ds.length
      · refine .inr ⟨hJ.go i H2 (g2.g.trans g2.s) hlt, fun H' => ∃ m', m' < ds.length - i ∧ (m' = ds.length - (i + 1) ∧ i + 1 ≤ ds.length ∧ ∃ G2 acc accD r, Gr G1 H1 G2 H' ∧ G2 P = none ∧ H' P = some (.lst acc) ∧ RpAll X.K X.w G2 acc accD ∧ accD.length ≤ i + 1 ∧ lcD (cmD tg t e (wipeB β vs)) (ds.drop (i + 1)) = .ok r ∧ accD ++ r = rs),
          fun H' q => q, fun x H' hy => ?_⟩
        rw [List.drop_eq_getElem_cons hlt] at hd
        obtain ⟨o, r', ho, hr', e3⟩ := lcD_cons hd
        obtain ⟨G3, g3, rx⟩ := hJ.yld i _ G2 H2 x H' (List.getElem?_eq_getElem hlt) g2.g g2.s hy
        have ev3 : Ev X.K X.w G3 (wipe σ vs) (wipeB β vs) := (((ev.mono g1.g).mono g2.g).mono g3.g).wipe vs
        have hP2 : H2 P ≠ none := by rw [hA]; exact fun z => nomatch z
        have noW : ∀ {α : Type} {good : α → Hp → Hp → Prop} {r : Res α} {σ' : L2.St} {Ga Ha : Hp}, (∀ x, r ≠ .er x) → (∀ a, r = .ok a → ∀ G' H', Gr Ga Ha G' H' → good a G' H') → r ≠ .no → RP X.K X.w X.mg W0 σ' Ga Ha good r := fun {α good r σ' Ga Ha} h1 h2 h3 => by
          cases r with
          | no => exact absurd rfl h3
          | er x => exact absurd rfl (h1 x)
          | ok a => exact h2 a rfl
        unfold cmD at ho
        cases hs : setT tg ds[i] (wipeB β vs) with
        | none => rw [hs] at ho; cases ho
        | some β' =>
          rw [hs] at ho
          have ho : noEr ((t β').bind fun b => if b = true then (e β').bind fun y => .ok (some y) else .ok none) = .ok o := ho
          refine tgt_run (g3.s) rx ev3 hs fun σ2 ev2 hw => ⟨?_, ?_⟩
          · rw [hw vs hv, wipe_idem σ vs vs fun _ h => h]
          · cases ht : t β' with
            | no => rw [ht] at ho; cases ho
            | er x => rw [ht] at ho; cases ho
            | ok b =>
              rw [ht] at ho
              refine ⟨G3, β', g3.s, ev2, noW (fun x z => by rw [ht] at z; cases z) (fun b' eb G4 H4 g4 => ?_) (by rw [ht]; exact fun z => nomatch z)⟩
              rw [ht] at eb
              cases eb
              have g24 := g3.trans g4
              have hP4 : G4 P = none := g24.o P hP2 hG
              have hA4 : H4 P = some (.lst acc) := g24.h _ _ hA
              cases b with
              | false =>
                rw [if_neg Bool.false_ne_true]
                have e4 : o = none := by
                  have z : noEr (Res.ok (none : Option D)) = .ok o := ho
                  cases z; rfl
                subst e4
                exact ⟨ds.length - (i + 1), by omega, rfl, hlt, G4, acc, accD, r', g2.trans g24, hP4, hA4, RpAll.mono g24.g ra, by omega, hr', by rw [← he, e3]; rfl⟩
              | true =>
                rw [if_pos rfl]
                have ho' : noEr ((e β').bind fun y => Res.ok (some y)) = .ok o := ho
                cases hee : e β' with
                | no => rw [hee] at ho'; cases ho'
                | er x => rw [hee] at ho'; cases ho'
                | ok y =>
                  rw [hee] at ho'
                  have e4 : o = some y := by
                    have z : noEr (Res.ok (some y)) = .ok o := ho'
                    cases z; rfl
                  subst e4
                  refine ⟨G4, β', g4.s, ev2.mono g4.g, noW (fun x z => by rw [hee] at z; cases z) (fun y' ey G5 H5 g5 u ru => ?_) (by rw [hee]; exact fun z => nomatch z)⟩
                  rw [hee] at ey
                  cases ey
                  have g25 := g24.trans g5
                  have hP5 : G5 P = none := g25.o P hP2 hG
                  have hA5 : H5 P = some (.lst acc) := g25.h _ _ hA
                  refine ⟨acc, hA5, by rw [ra.length]; omega, ds.length - (i + 1), by omega, rfl, hlt, G5, acc ++ [u], accD ++ [y], r', (g2.trans g25).put hP hP5, hP5, upd_same, (RpAll.mono g25.g ra).append (.cons ru .nil), ?_, hr', ?_⟩
                  · rw [List.length_append]
                    show accD.length + 1 ≤ i + 1
                    omega
                  · rw [← he, e3, List.append_assoc]
                    rfl
      · have e1 : i = ds.length := by omega
        subst e1
        refine .inl ⟨hJ.stop _ H2 (g2.g.trans g2.s) (Nat.le_refl _), ?_⟩
        rw [List.drop_length] at hd
        cases hd
        rw [List.append_nil] at he
        subst he
        exact rp1.here g2 P acc (g1.h.free hP) hG hA ra
  · rw [if_neg hz] at rp1
    exact rp1.elim
section
variable {X : Cx} {W : WX} {tg elt iter : Expr} {dit : Bt → Res (List D)} {tgd : Tgt} {t : Bt → Res Bool} {de : Bt → Res D} {own : List (Str × Nat)} {scope : Scope} {ifs : List Expr} {pos : Pos}
def yesT : Bt → Res Bool := fun _ => .ok true
theorem pts_yes {X : Cx} : PTs X [] (TRt X W0 yesT) := ⟨fun pins s σ H Q I h => by
  obtain ⟨G, β, s', ev, rp⟩ := h
  exact pts_nil.run pins s σ H Q I (rp.here (Gr.refl s'))⟩
theorem pts_if {X : Cx} {c : Expr} {t : Bt → Res Bool} (h : RT X W0 c t) : PTs X [c] (TRt X W0 t) := pts_one h
theorem rflc (hi : RI X W tg iter dit) (ok : BlkOk X.N X.env.scope scope own) (hN : X.N.Nodup)
    (hg : ∀ (s : Shared) (H : Hp) (C : Addr) (cl : List (Str × Addr)) (fp : List Addr), RG (X.blk s H scope (compEnvC scope cl C X.env) fp) tg tgd)
    (ht : ∀ (s : Shared) (H : Hp) (C : Addr) (cl : List (Str × Addr)) (fp : List Addr), PTs (X.blk s H scope (compEnvC scope cl C X.env) fp) ifs (TRt (X.blk s H scope (compEnvC scope cl C X.env) fp) W0 t))
    (he : ∀ (s : Shared) (H : Hp) (C : Addr) (cl : List (Str × Addr)) (fp : List Addr), RE (X.blk s H scope (compEnvC scope cl C X.env) fp) W0 elt de)
    (hv : ∀ i ∈ tgd.slots, i ∈ own.map (·.2)) (hc : X.calm = true := by rfl) (hs : ∀ x, foldedSetIterable iter X.env x = pure x := by intro _; rfl) : RF X W (.ListComp elt [⟨tg, iter, ifs, 0⟩] scope pos) (dLc dit tgd t de (own.map (·.2))) :=
  PE.imp (pe_lc (g := tgt X.K tgd) (tt := TRt X W0 t) (te := TR X W0 de) hc hN hi ok hg ht he hs) (lc_rd hv)
end
end DL

/-! DL9: statements. -/
namespace DL
open PySem PySem.Spec PyProof.Rows L2
/-! ### the slots of a def: data, or a list of its own that it may change -/
inductive AV where
  | un
  | dat (d : D)
  | own (ds : List D)
abbrev At := List AV
def AV.dt : AV → Option D
  | .dat d => some d
  | _ => none
def AV.vw : AV → Option D
  | .dat d => some d
  | .own ds => some (.list ds)
  | .un => none
def dats (α : At) : Bt := α.map AV.dt
def view (α : At) : Bt := α.map AV.vw
structure Sv (K : PySem.W.Frag) (w : World) (G0 H0 G H : Hp) (σ : L2.St) (α : At) : Prop where
  gr : Gr G0 H0 G H
  len : α.length ≤ σ.length
  dat : ∀ (i : Nat) (d : D), α[i]? = some (.dat d) → ∃ v, σ[i]? = some (some v) ∧ Rp K w G v d
  own : ∀ (i : Nat) (ds : List D), α[i]? = some (.own ds) → ∃ p vs, σ[i]? = some (some (.ref p)) ∧ H0 p = none ∧ G p = none ∧ H p = some (.lst vs) ∧ RpAll K w G vs ds
  sep : ∀ (i j : Nat) (ds es : List D) (p : Addr), i ≠ j → α[i]? = some (.own ds) → α[j]? = some (.own es) → σ[i]? = some (some (.ref p)) → σ[j]? = some (some (.ref p)) → False
/-! ### data without lists -/
mutual
def noL : D → Bool
  | .list _ => false
  | .dict _ => false
  | .tuple ds => noLs ds
  | _ => true
def noLs : List D → Bool
  | [] => true
  | d :: ds => noL d && noLs ds
end
section
variable {K : PySem.W.Frag} {w : World} {G G' : Hp}
mutual
theorem Rp.noL (t : ∀ a xs, SqT K G a xs → SqT K G' a xs) : ∀ {v : V} {d : D}, Rp K w G v d → noL d = true → Rp K w G' v d
  | _, _, .non, _ => .non
  | _, _, .bl b, _ => .bl b
  | _, _, .int i, _ => .int i
  | _, _, .str x, _ => .str x
  | _, _, .lst h r, n => by simp [DL.noL] at n
  | _, _, .tup h r, n => .tup (t _ _ h) (RpAll.noL t r (by simpa [DL.noL] using n))
  | _, _, .scr h r, n => by simp [DL.noL] at n
  | _, _, .dic h r, n => by simp [DL.noL] at n
theorem RpAll.noL (t : ∀ a xs, SqT K G a xs → SqT K G' a xs) : ∀ {vs : List V} {ds : List D}, RpAll K w G vs ds → noLs ds = true → RpAll K w G' vs ds
  | _, _, .nil, _ => .nil
  | _, _, .cons h r, n => by
    simp only [noLs, Bool.and_eq_true] at n
    exact .cons (Rp.noL t h n.1) (RpAll.noL t r n.2)
end
end
section
variable {K : PySem.W.Frag} {w : World} {G0 H0 G H : Hp} {σ : L2.St} {α : At}
theorem Sv.ev (S : Sv K w G0 H0 G H σ α) : Ev K w G σ (dats α) := by
  refine ⟨by unfold dats; rw [List.length_map]; exact S.len, fun i d e => ?_⟩
  unfold dats at e
  rw [List.getElem?_map] at e
  cases q : α[i]? with
  | none => rw [q] at e; cases e
  | some a =>
    rw [q] at e
    cases a with
    | dat d' => cases e; exact S.dat i d q
    | un => cases e
    | own ds => cases e
theorem Sv.grow {G' H' : Hp} (S : Sv K w G0 H0 G H σ α) (g : Gr G H G' H') : Sv K w G0 H0 G' H' σ α :=
  ⟨S.gr.trans g, S.len, fun i d e => by
    obtain ⟨v, h1, h2⟩ := S.dat i d e
    exact ⟨v, h1, h2.mono g.g⟩, fun i ds e => by
    obtain ⟨p, vs, h1, h2, h3, h4, h5⟩ := S.own i ds e
    exact ⟨p, vs, h1, h2, g.o p (by rw [h4]; exact fun z => nomatch z) h3, g.h _ _ h4, RpAll.mono g.g h5⟩, S.sep⟩
/-- an address of a list of our own -/
def Ow (σ : L2.St) (α : At) (a : Addr) : Prop := ∃ (i : Nat) (ds : List D), α[i]? = some (.own ds) ∧ σ[i]? = some (some (.ref a))
theorem Sv.ow (S : Sv K w G0 H0 G H σ α) {a : Addr} (h : Ow σ α a) : G a = none ∧ ∃ vs, H a = some (.lst vs) := by
  obtain ⟨i, ds, e1, e2⟩ := h
  obtain ⟨p, vs, h1, h2, h3, h4, h5⟩ := S.own i ds e1
  rw [e2] at h1
  cases h1
  exact ⟨h3, vs, h4⟩
open Classical in
noncomputable def frz (G H : Hp) (σ : L2.St) (α : At) : Hp := fun a => if Ow σ α a then H a else G a
open Classical in
noncomputable def thaw (G : Hp) (σ : L2.St) (α : At) : Hp := fun a => if Ow σ α a then none else G a
theorem frz_yes {a : Addr} (h : Ow σ α a) : frz G H σ α a = H a := by unfold frz; exact if_pos h
theorem frz_no {a : Addr} (h : ¬ Ow σ α a) : frz G H σ α a = G a := by unfold frz; exact if_neg h
theorem thaw_yes {a : Addr} (h : Ow σ α a) : thaw G σ α a = none := by unfold thaw; exact if_pos h
theorem thaw_no {a : Addr} (h : ¬ Ow σ α a) : thaw G σ α a = G a := by unfold thaw; exact if_neg h
theorem Sv.frzG (S : Sv K w G0 H0 G H σ α) : Same G (frz G H σ α) := fun a o e => by
  by_cases h : Ow σ α a
  · rw [(S.ow h).1] at e; cases e
  · rw [frz_no h]; exact e
theorem Sv.frzH (S : Sv K w G0 H0 G H σ α) : Same (frz G H σ α) H := fun a o e => by
  by_cases h : Ow σ α a
  · rw [frz_yes h] at e; exact e
  · rw [frz_no h] at e; exact S.gr.s a o e
theorem Sv.view (S : Sv K w G0 H0 G H σ α) : Ev K w (frz G H σ α) σ (view α) := by
  refine ⟨by unfold DL.view; rw [List.length_map]; exact S.len, fun i d e => ?_⟩
  unfold DL.view at e
  rw [List.getElem?_map] at e
  cases q : α[i]? with
  | none => rw [q] at e; cases e
  | some a =>
    rw [q] at e
    cases a with
    | dat d' =>
      cases e
      obtain ⟨v, h1, h2⟩ := S.dat i d q
      exact ⟨v, h1, h2.mono S.frzG⟩
    | un => cases e
    | own ds =>
      cases e
      obtain ⟨p, vs, h1, h2, h3, h4, h5⟩ := S.own i ds q
      exact ⟨.ref p, h1, .lst (by rw [frz_yes ⟨i, ds, q, h1⟩]; exact h4) (RpAll.mono S.frzG h5)⟩
theorem Sv.thawG {G1 H1 : Hp} (S : Sv K w G0 H0 G H σ α) (g : Gr (frz G H σ α) H G1 H1) : Gr G H (thaw G1 σ α) H1 :=
  ⟨fun a o e => by
    by_cases h : Ow σ α a
    · rw [(S.ow h).1] at e; cases e
    · rw [thaw_no h]; exact g.g a o (by rw [frz_no h]; exact e), fun a o e => by
    by_cases h : Ow σ α a
    · rw [thaw_yes h] at e; cases e
    · rw [thaw_no h] at e; exact g.s a o e, g.h, fun a n1 n2 => by
    by_cases h : Ow σ α a
    · exact thaw_yes h
    · rw [thaw_no h]; exact g.o a n1 (by rw [frz_no h]; exact n2)⟩
theorem Sv.thawT {G1 H1 : Hp} (S : Sv K w G0 H0 G H σ α) (g : Gr (frz G H σ α) H G1 H1) (a : Addr) (xs : List V) (h : SqT K G1 a xs) : SqT K (thaw G1 σ α) a xs := by
  have no : ∀ o, G1 a = some o → (∀ vs, o ≠ .lst vs) → ¬ Ow σ α a := fun o e n q => by
    obtain ⟨_, vs, hv⟩ := S.ow q
    have e1 := g.s a o e
    have e2 := g.h _ _ hv
    rw [e1] at e2
    cases e2
    exact n vs rfl
  rcases h with (h | ⟨o, h⟩) | h
  · exact .inl (.inl (by rw [thaw_no (no _ h fun vs z => nomatch z)]; exact h))
  · exact .inl (.inr ⟨o, by rw [thaw_no (no _ h fun vs z => nomatch z)]; exact h⟩)
  · exact .inr h
end

/-! ### expressions of a statement -/
def TSe (X : Cx) (W : WX) (den : At → Res D) : TE := fun σ H Q => ∃ G0 H0 G α, Sv X.K X.w G0 H0 G H σ α ∧ RP X.K X.w X.mg W σ G H (fun d G' H' => ∀ v, Rp X.K X.w G' v d → Q v H') (den α)
def TSt (X : Cx) (W : WX) (den : At → Res Bool) : TT := fun σ H Q => ∃ G0 H0 G α, Sv X.K X.w G0 H0 G H σ α ∧ RP X.K X.w X.mg W σ G H (fun b _ H' => Q b H') (den α)
def TSf (X : Cx) (W : WX) (den : At → Res (List D)) : TE := fun σ H Q => ∃ G0 H0 G α, Sv X.K X.w G0 H0 G H σ α ∧
  RP X.K X.w X.mg W σ G H (fun ds G' H' => ∀ a vs, H a = none → G' a = none → H' a = some (.lst vs) → RpAll X.K X.w G' vs ds → Q (.ref a) H') (den α)
def SE (X : Cx) (W : WX) (e : Expr) (den : At → Res D) : Prop := PE X e (TSe X W den)
def ST (X : Cx) (W : WX) (e : Expr) (den : At → Res Bool) : Prop := PT X e (TSt X W den)
def SF (X : Cx) (W : WX) (e : Expr) (den : At → Res (List D)) : Prop := PE X e (TSf X W den)
def erL (e : Er) : Bool := match e.arg with
  | none => true
  | some (_, x) => noL x
/-- read with our own lists: the result holds no list -/
def bor {α : Type} (ok : α → Bool) : Res α → Res α
  | .ok d => if ok d = true then .ok d else .no
  | .er e => if erL e = true then .er e else .no
  | .no => .no
def sD {α : Type} (d : Bt → Res α) : At → Res α := fun α => d (dats α)
def sB (d : Bt → Res D) : At → Res D := fun α => bor noL (d (view α))
def sBt (d : Bt → Res Bool) : At → Res Bool := fun α => bor (fun _ => true) (d (view α))
def sBf (d : Bt → Res (List D)) : At → Res (List D) := fun α => bor noLs (d (view α))
section
variable {X : Cx} {W : WX} {e : Expr}
theorem se {d : Bt → Res D} (h : RE X W e d) : SE X W e (sD d) := PE.imp h fun σ H Q ⟨G0, H0, G, α, S, rp⟩ => ⟨G, dats α, S.gr.s, S.ev, rp⟩
theorem st {d : Bt → Res Bool} (h : RT X W e d) : ST X W e (sD d) := PT.imp h fun σ H Q ⟨G0, H0, G, α, S, rp⟩ => ⟨G, dats α, S.gr.s, S.ev, rp⟩
theorem sf {d : Bt → Res (List D)} (h : RF X W e d) : SF X W e (sD d) := PE.imp h fun σ H Q ⟨G0, H0, G, α, S, rp⟩ => ⟨G, dats α, S.gr.s, S.ev, rp⟩
theorem bor_run {β : Type} {K : PySem.W.Frag} {w : World} {mg : Str → Option Value} {W : WX} {G0 H0 G H : Hp} {σ : L2.St} {α : At} {ok : β → Bool} {good good2 : β → Hp → Hp → Prop} (S : Sv K w G0 H0 G H σ α) {r : Res β}
    (rp : RP K w mg W σ G H good (bor ok r)) (k : ∀ b G' H', Gr (frz G H σ α) H G' H' → ok b = true → good b (thaw G' σ α) H' → good2 b G' H') : RP K w mg W σ (frz G H σ α) H good2 r := by
  cases r with
  | no => exact rp
  | er x =>
    have rp' : RP K w mg W σ G H good (if erL x = true then .er x else .no) := rp
    by_cases hx : erL x = true
    · rw [if_pos hx] at rp'
      intro cls dd G' H' g z
      refine rp' cls dd _ _ (S.thawG g) ?_
      obtain ⟨C, h1, h2, h3⟩ := z
      refine ⟨C, h1, h2, ?_⟩
      cases ha : x.arg with
      | none => rw [ha] at h3; exact h3
      | some fx =>
        rw [ha] at h3
        obtain ⟨a, v, q1, q2, q3⟩ := h3
        refine ⟨a, v, q1, q2, q3.noL (S.thawT g) ?_⟩
        unfold erL at hx
        rw [ha] at hx
        exact hx
    · rw [if_neg hx] at rp'
      exact rp'.elim
  | ok b =>
    have rp' : RP K w mg W σ G H good (if ok b = true then .ok b else .no) := rp
    by_cases hb : ok b = true
    · rw [if_pos hb] at rp'
      exact fun G' H' g => k b G' H' g hb (rp' _ _ (S.thawG g))
    · rw [if_neg hb] at rp'
      exact rp'.elim
theorem seb {d : Bt → Res D} (h : RE X W e d) : SE X W e (sB d) := PE.imp h fun σ H Q ⟨G0, H0, G, α, S, rp⟩ =>
  ⟨_, view α, S.frzH, S.view, bor_run S rp fun b G' H' g hb q v rv => q v (rv.noL (S.thawT g) hb)⟩
theorem stb {d : Bt → Res Bool} (h : RT X W e d) : ST X W e (sBt d) := PT.imp h fun σ H Q ⟨G0, H0, G, α, S, rp⟩ =>
  ⟨_, view α, S.frzH, S.view, bor_run S rp fun b G' H' g hb q => q⟩
theorem sfb {d : Bt → Res (List D)} (h : RF X W e d) : SF X W e (sBf d) := PE.imp h fun σ H Q ⟨G0, H0, G, α, S, rp⟩ =>
  ⟨_, view α, S.frzH, S.view, bor_run S rp fun b G' H' g hb q a vs h1 h2 h3 r => q a vs h1 (by
    by_cases ho : Ow σ α a
    · exact thaw_yes ho
    · rw [thaw_no ho]; exact h2) h3 (r.noL (S.thawT g) hb)⟩
end

/-! ### outcomes -/
inductive Out where
  | nx (α : At)
  | rt (d : D)
  | bk (α : At)
  | ct (α : At)
  | er (e : Er) (α : At)
  | no
def OutP (K : PySem.W.Frag) (w : World) (mg : Str → Option Value) (W : WX) (D0 : Ends) (G0 H0 G : Hp) : Out → Prop
  | .nx α => ∀ σ' G' H', Same G G' → Sv K w G0 H0 G' H' σ' α → D0.nx σ' H'
  | .bk α => ∀ σ' G' H', Same G G' → Sv K w G0 H0 G' H' σ' α → D0.bk σ' H'
  | .ct α => ∀ σ' G' H', Same G G' → Sv K w G0 H0 G' H' σ' α → D0.ct σ' H'
  | .rt d => ∀ G' H', Same G G' → Gr G0 H0 G' H' → ∀ v, Rp K w G' v d → D0.rt v H'
  | .er e α => ∀ cls dd σ' G' H', Same G G' → Sv K w G0 H0 G' H' σ' α → ErR K w mg e cls dd G' H' → W cls dd σ' H'
  | .no => False
def TSs (X : Cx) (W : WX) (den : At → Out) : TS := fun D0 σ H => ∃ G0 H0 G α, Sv X.K X.w G0 H0 G H σ α ∧ OutP X.K X.w X.mg W D0 G0 H0 G (den α)
def RS (X : Cx) (W : WX) (st : Stmt) (den : At → Out) : Prop := PS X st (TSs X W den)
def RSs (X : Cx) (W : WX) (sts : List Stmt) (den : At → Out) : Prop := PSs X sts (TSs X W den)
theorem PS.imp {X : Cx} {st : Stmt} {t t' : TS} (h : PS X st t) (i : ∀ D σ H, t' D σ H → t D σ H) : PS X st t' := ⟨fun pins s σ H D I q => h.run pins s σ H D I (i D σ H q)⟩
theorem PSs.imp {X : Cx} {st : List Stmt} {t t' : TS} (h : PSs X st t) (i : ∀ D σ H, t' D σ H → t D σ H) : PSs X st t' := ⟨fun pins s σ H D I q => h.run pins s σ H D I (i D σ H q)⟩
theorem OutP.mono {K : PySem.W.Frag} {w : World} {mg : Str → Option Value} {W : WX} {D0 : Ends} {G0 H0 G G' : Hp} (e : Same G G') {o : Out} (h : OutP K w mg W D0 G0 H0 G o) : OutP K w mg W D0 G0 H0 G' o := by
  cases o with
  | nx α => exact fun σ' G2 H2 s S => h σ' G2 H2 (e.trans s) S
  | bk α => exact fun σ' G2 H2 s S => h σ' G2 H2 (e.trans s) S
  | ct α => exact fun σ' G2 H2 s S => h σ' G2 H2 (e.trans s) S
  | rt d => exact fun G2 H2 s g => h G2 H2 (e.trans s) g
  | er x α => exact fun cls dd σ' G2 H2 s S => h cls dd σ' G2 H2 (e.trans s) S
  | no => exact h
/-- behind an expression -/
def ofR {β : Type} (r : Res β) (α : At) (f : β → Out) : Out := match r with
  | .ok b => f b
  | .er e => .er e α
  | .no => .no
theorem ofR_run {β : Type} {K : PySem.W.Frag} {w : World} {mg : Str → Option Value} {W : WX} {D0 : Ends} {G0 H0 G H : Hp} {σ : L2.St} {α : At} {good : β → Hp → Hp → Prop} {f : β → Out} (S : Sv K w G0 H0 G H σ α) {r : Res β}
    (h : OutP K w mg W D0 G0 H0 G (ofR r α f)) (k : ∀ b, r = .ok b → ∀ G' H', Gr G H G' H' → Sv K w G0 H0 G' H' σ α → OutP K w mg W D0 G0 H0 G' (f b) → good b G' H') : RP K w mg W σ G H good r := by
  cases r with
  | no => exact h
  | er x => exact fun cls dd G' H' g z => h cls dd σ G' H' g.g (S.grow g) z
  | ok b => exact fun G' H' g => k b rfl G' H' g (S.grow g) (OutP.mono g.g h)
section
variable {X : Cx} {W : WX}
def sNil : At → Out := fun α => .nx α
def sSeq (a b : At → Out) : At → Out := fun α => match a α with
  | .nx α' => b α'
  | o => o
theorem rsnil : RSs X W [] sNil := PSs.imp pss_nil fun D σ H ⟨G0, H0, G, α, S, h⟩ => h σ G H (Same.refl G) S
theorem seq_out {K : PySem.W.Frag} {w : World} {mg : Str → Option Value} {D0 D1 : Ends} {G0 H0 G : Hp} {o : Out} {b : At → Out} (h : OutP K w mg W D0 G0 H0 G (match o with | .nx α' => b α' | o => o))
    (n : ∀ α σ' G' H', o = .nx α → Same G G' → Sv K w G0 H0 G' H' σ' α → OutP K w mg W D0 G0 H0 G' (b α) → D1.nx σ' H') (e1 : D1.rt = D0.rt) (e2 : D1.bk = D0.bk) (e3 : D1.ct = D0.ct) : OutP K w mg W D1 G0 H0 G o := by
  cases o with
  | nx α => exact fun σ' G' H' s S => n α σ' G' H' rfl s S (OutP.mono s h)
  | bk α => exact fun σ' G' H' s S => by rw [e2]; exact h σ' G' H' s S
  | ct α => exact fun σ' G' H' s S => by rw [e3]; exact h σ' G' H' s S
  | rt d => exact fun G' H' s g v r => by rw [e1]; exact h G' H' s g v r
  | er x α => exact h
  | no => exact h
theorem rscons {st : Stmt} {rest : List Stmt} {a b : At → Out} (h1 : RS X W st a) (h2 : RSs X W rest b) : RSs X W (st :: rest) (sSeq a b) :=
  PSs.imp (pss_cons h1 h2) fun D σ H ⟨G0, H0, G, α, S, h⟩ => by
    refine ⟨G0, H0, G, α, S, ?_⟩
    exact seq_out (D0 := D) (D1 := { D with nx := _ }) h (fun α' σ' G' H' _ s S' h' => ⟨G0, H0, G', α', S', h'⟩) rfl rfl rfl
theorem rsone {st : Stmt} {a : At → Out} (h1 : RS X W st a) : RSs X W [st] a := pss_one h1
/-! ### small statements -/
theorem rspass {pos : Pos} : RS X W (.Pass pos) sNil := PS.imp ps_pass fun D σ H ⟨G0, H0, G, α, S, h⟩ => h σ G H (Same.refl G) S
theorem rsbrk {pos : Pos} : RS X W (.Break pos) (fun α => .bk α) := PS.imp ps_break fun D σ H ⟨G0, H0, G, α, S, h⟩ => h σ G H (Same.refl G) S
theorem rscont {pos : Pos} : RS X W (.Continue pos) (fun α => .ct α) := PS.imp ps_continue fun D σ H ⟨G0, H0, G, α, S, h⟩ => h σ G H (Same.refl G) S
def sRet (d : At → Res D) : At → Out := fun α => ofR (d α) α fun x => .rt x
theorem rsret {e : Expr} {d : At → Res D} {pos : Pos} (h : SE X W e d) : RS X W (.Return (some e) pos) (sRet d) :=
  PS.imp (ps_ret h) fun D0 σ H ⟨G0, H0, G, α, S, q⟩ => ⟨G0, H0, G, α, S, ofR_run S q fun b eb G' H' g S' o v rv => o G' H' (Same.refl _) S'.gr v rv⟩
theorem rsretn {pos : Pos} : RS X W (.Return none pos) (fun _ => .rt .none) := PS.imp ps_retN fun D σ H ⟨G0, H0, G, α, S, h⟩ => h G H (Same.refl G) S.gr _ .non
def sDrop (d : At → Res D) : At → Out := fun α => ofR (d α) α fun _ => .nx α
theorem rsdrop {e : Expr} {d : At → Res D} {pos : Pos} (h : SE X W e d) (hs : swapsWith e none pos.line X.env = pure false := by rfl) : RS X W (.Expr e pos) (sDrop d) :=
  PS.imp (ps_expr h hs) fun D0 σ H ⟨G0, H0, G, α, S, q⟩ => ⟨G0, H0, G, α, S, ofR_run S q fun b eb G' H' g S' o v rv => o σ G' H' (Same.refl _) S'⟩
/-! ### stores -/
theorem Sv.set {K : PySem.W.Frag} {w : World} {G0 H0 G H : Hp} {σ : L2.St} {α : At} {v : V} {d : D} (S : Sv K w G0 H0 G H σ α) (r : Rp K w G v d) (i : Nat) : Sv K w G0 H0 G H (σ.set i (some v)) (α.set i (.dat d)) := by
  have at_ : ∀ (j : Nat) (a : AV), j ≠ i → (α.set i (.dat d))[j]? = some a → α[j]? = some a := fun j a ne e => by rw [List.getElem?_set_ne (Ne.symm ne)] at e; exact e
  have self : ∀ a, (α.set i (.dat d))[i]? = some a → a = .dat d ∧ i < α.length := fun a e => by
    by_cases hl : i < α.length
    · rw [List.getElem?_set_self hl] at e
      cases e
      exact ⟨rfl, hl⟩
    · rw [List.getElem?_eq_none (by simpa using hl)] at e
      cases e
  refine ⟨S.gr, by simpa using S.len, fun j x e => ?_, fun j ds e => ?_, fun j k ds es p ne e1 e2 e3 e4 => ?_⟩
  · by_cases q : j = i
    · subst q
      obtain ⟨h1, h2⟩ := self _ e
      cases h1
      exact ⟨v, List.getElem?_set_self (Nat.lt_of_lt_of_le h2 S.len), r⟩
    · obtain ⟨u, h1, h2⟩ := S.dat j x (at_ j _ q e)
      exact ⟨u, by rw [List.getElem?_set_ne (Ne.symm q)]; exact h1, h2⟩
  · by_cases q : j = i
    · subst q
      exact nomatch (self _ e).1
    · obtain ⟨p, vs, h1, h2⟩ := S.own j ds (at_ j _ q e)
      exact ⟨p, vs, by rw [List.getElem?_set_ne (Ne.symm q)]; exact h1, h2⟩
  · have q1 : j ≠ i := fun z => by subst z; exact nomatch (self _ e1).1
    have q2 : k ≠ i := fun z => by subst z; exact nomatch (self _ e2).1
    rw [List.getElem?_set_ne (Ne.symm q1)] at e3
    rw [List.getElem?_set_ne (Ne.symm q2)] at e4
    exact S.sep j k ds es p ne (at_ j _ q1 e1) (at_ k _ q2 e2) e3 e4
/-- a new list of our own -/
theorem Sv.setOwn {K : PySem.W.Frag} {w : World} {G0 H0 G H G' H' : Hp} {σ : L2.St} {α : At} {a : Addr} {vs : List V} {ds : List D} (S : Sv K w G0 H0 G H σ α) (g : Gr G H G' H') (h1 : H a = none) (h2 : G' a = none) (h3 : H' a = some (.lst vs)) (r : RpAll K w G' vs ds) (i : Nat) :
    Sv K w G0 H0 G' H' (σ.set i (some (.ref a))) (α.set i (.own ds)) := by
  have S' := S.grow g
  have at_ : ∀ (j : Nat) (x : AV), j ≠ i → (α.set i (.own ds))[j]? = some x → α[j]? = some x := fun j x ne e => by rw [List.getElem?_set_ne (Ne.symm ne)] at e; exact e
  have self : ∀ x, (α.set i (.own ds))[i]? = some x → x = .own ds ∧ i < α.length := fun x e => by
    by_cases hl : i < α.length
    · rw [List.getElem?_set_self hl] at e
      cases e
      exact ⟨rfl, hl⟩
    · rw [List.getElem?_eq_none (by simpa using hl)] at e
      cases e
  have apart : ∀ (j : Nat) (es : List D) (p : Addr), α[j]? = some (AV.own es) → σ[j]? = some (some (V.ref p)) → p ≠ a := fun j es p e1 e2 z => by
    obtain ⟨p', vs', q1, q2, q3, q4, q5⟩ := S.own j es e1
    rw [e2] at q1
    cases q1
    rw [z, h1] at q4
    cases q4
  refine ⟨S'.gr, by simpa using S.len, fun j x e => ?_, fun j es e => ?_, fun j k es fs p ne e1 e2 e3 e4 => ?_⟩
  · by_cases q : j = i
    · subst q
      exact nomatch (self _ e).1
    · obtain ⟨u, q1, q2⟩ := S'.dat j x (at_ j _ q e)
      exact ⟨u, by rw [List.getElem?_set_ne (Ne.symm q)]; exact q1, q2⟩
  · by_cases q : j = i
    · subst q
      obtain ⟨e', hl⟩ := self _ e
      cases e'
      exact ⟨a, vs, List.getElem?_set_self (Nat.lt_of_lt_of_le hl S.len), S.gr.h.free h1, h2, h3, r⟩
    · obtain ⟨p, vs, q1, q2⟩ := S'.own j es (at_ j _ q e)
      exact ⟨p, vs, by rw [List.getElem?_set_ne (Ne.symm q)]; exact q1, q2⟩
  · by_cases q1 : j = i
    · have q2 : k ≠ i := fun z => ne (q1.trans z.symm)
      subst q1
      obtain ⟨e', hl⟩ := self _ e1
      rw [List.getElem?_set_self (Nat.lt_of_lt_of_le hl S.len)] at e3
      rw [List.getElem?_set_ne (Ne.symm q2)] at e4
      cases e3
      exact apart k fs _ (at_ k _ q2 e2) e4 rfl
    · rw [List.getElem?_set_ne (Ne.symm q1)] at e3
      by_cases q2 : k = i
      · subst q2
        obtain ⟨e', hl⟩ := self _ e2
        rw [List.getElem?_set_self (Nat.lt_of_lt_of_le hl S.len)] at e4
        cases e4
        exact apart j es _ (at_ j _ q1 e1) e3 rfl
      · rw [List.getElem?_set_ne (Ne.symm q2)] at e4
        exact S.sep j k es fs p ne (at_ j _ q1 e1) (at_ k _ q2 e2) e3 e4
def sSet (i : Nat) (d : At → Res D) : At → Out := fun α => ofR (d α) α fun x => .nx (α.set i (.dat x))
def sOwn (i : Nat) (d : At → Res (List D)) : At → Out := fun α => ofR (d α) α fun x => .nx (α.set i (.own x))
theorem rsset {i : Nat} {x : Str} {e : Expr} {d : At → Res D} {pos pos' : Pos} (hN : X.N.Nodup) (h : SE X W e d) (hi : X.N[i]? = some x := by rfl) (hx : Loc X.env.scope x := by first | exact Or.inl rfl | exact Or.inr rfl) (hs : swapsWith e (some (.Name x pos')) pos.line X.env = pure false := by rfl)
    (hf : X.fn x = true ∨ X.env.scope.names.lookup x = some .local := by first | exact .inl rfl | exact .inr rfl | assumption) : RS X W (.Assign [.Name x pos'] e pos) (sSet i d) :=
  PS.imp (ps_set hN hi hx h hs hf) fun D0 σ H ⟨G0, H0, G, α, S, q⟩ => ⟨G0, H0, G, α, S, ofR_run S q fun b eb G' H' g S' o v rv => o _ G' H' (Same.refl _) (S'.set rv i)⟩
theorem rsown {i : Nat} {x : Str} {e : Expr} {d : At → Res (List D)} {pos pos' : Pos} (hN : X.N.Nodup) (h : SF X W e d) (hi : X.N[i]? = some x := by rfl) (hx : Loc X.env.scope x := by first | exact Or.inl rfl | exact Or.inr rfl) (hs : swapsWith e (some (.Name x pos')) pos.line X.env = pure false := by rfl)
    (hf : X.fn x = true ∨ X.env.scope.names.lookup x = some .local := by first | exact .inl rfl | exact .inr rfl | assumption) : RS X W (.Assign [.Name x pos'] e pos) (sOwn i d) :=
  PS.imp (ps_set hN hi hx h hs hf) fun D0 σ H ⟨G0, H0, G, α, S, q⟩ => ⟨G0, H0, G, α, S, ofR_run S q fun b eb G' H' g S' o a vs h1 h2 h3 r => o _ G' H' (Same.refl _) (S.setOwn g h1 h2 h3 r i)⟩
end
end DL

/-! DL10: if, for, while, changes of lists, raise, the rule of a def. -/
namespace DL
open PySem PySem.Spec PyProof.Rows L2
section
variable {X : Cx} {W : WX}
def sIf (t : At → Res Bool) (a b : At → Out) : At → Out := fun α => ofR (t α) α fun c => if c = true then a α else b α
theorem rsif {c : Expr} {t : At → Res Bool} {s1 s2 : List Stmt} {a b : At → Out} {pos : Pos} (h : ST X W c t) (ha : RSs X W s1 a) (hb : RSs X W s2 b) : RS X W (.If c s1 s2 pos) (sIf t a b) :=
  PS.imp (ps_if h ha hb) fun D0 σ H ⟨G0, H0, G, α, S, q⟩ => ⟨G0, H0, G, α, S, ofR_run S q fun c ec G' H' g S' o => by
    cases c with
    | true => exact ⟨G0, H0, G', α, S', o⟩
    | false => exact ⟨G0, H0, G', α, S', o⟩⟩
/-! ### targets -/
def setAllA : List Nat → List D → At → Option At
  | [], [], α => some α
  | i :: is, d :: ds, α => setAllA is ds (α.set i (.dat d))
  | _, _, _ => none
def setTA : Tgt → D → At → Option At
  | .nm i, d, α => some (α.set i (.dat d))
  | .tup is, .tuple ds, α => setAllA is ds α
  | _, _, _ => none
theorem setAllA_len : ∀ {is : List Nat} {ds : List D} {α α' : At}, setAllA is ds α = some α' → ds.length = is.length
  | [], [], _, _, _ => rfl
  | [], _ :: _, _, _, e => by cases e
  | _ :: _, [], _, _, e => by cases e
  | i :: is, d :: ds, α, α', e => congrArg Nat.succ (setAllA_len (α := α.set i (.dat d)) e)
theorem namesA_run {K : PySem.W.Frag} {w : World} {G0 H0 G H : Hp} {α' : At} {Q : L2.St → Hp → Prop} : ∀ {is : List Nat} {ds : List D} {xs : List V} {σ : L2.St} {α : At}, RpAll K w G xs ds → Sv K w G0 H0 G H σ α → setAllA is ds α = some α' →
    (∀ σ', Sv K w G0 H0 G H σ' α' → Q σ' H) → gNames is xs σ H Q
  | [], _, _, σ, α, r, S, e, q => by
    cases r with
    | nil =>
      cases e
      exact ⟨rfl, q σ S⟩
    | cons _ _ => cases e
  | i :: is, _, _, σ, α, r, S, e, q => by
    cases r with
    | nil => cases e
    | cons h t => exact ⟨_, _, rfl, namesA_run t (S.set h i) e q⟩
theorem tgtA_run {K : PySem.W.Frag} {w : World} {G0 H0 G H : Hp} {σ : L2.St} {α α' : At} {Q : L2.St → Hp → Prop} {t : Tgt} {d : D} {v : V} (r : Rp K w G v d) (S : Sv K w G0 H0 G H σ α) (e : setTA t d α = some α')
    (q : ∀ σ', Sv K w G0 H0 G H σ' α' → Q σ' H) : tgt K t v σ H Q := by
  cases t with
  | nm i =>
    cases e
    exact q _ (S.set r i)
  | tup is =>
    cases r with
    | @tup a xs ds hx rx =>
      have e' : setAllA is ds α = some α' := e
      exact ⟨_, _, rfl, seqT S.gr.s hx, by rw [rx.length]; exact setAllA_len e', namesA_run rx S e' q⟩
    | _ => cases e
def sSetT (t : Tgt) (d : At → Res D) : At → Out := fun α => ofR (d α) α fun x => match setTA t x α with
  | some α' => .nx α'
  | none => .no
theorem rssett {tg e : Expr} {t : Tgt} {d : At → Res D} {pos : Pos} (h : SE X W e d) (hg : RG X tg t) (hs : swapsWithSole [tg] e pos.line X.env = pure false := by rfl) (hw : swappedStores [tg] e X.env = pure none := by rfl)
    (h1 : (assignEach [tg] X.env).map (·.2) = [assign tg X.env] := by rfl) : RS X W (.Assign [tg] e pos) (sSetT t d) :=
  PS.imp (ps_asg h hg hs hw h1) fun D0 σ H ⟨G0, H0, G, α, S, q⟩ => ⟨G0, H0, G, α, S, ofR_run S q fun b eb G' H' g S' o v rv => by
    cases e : setTA t b α with
    | none => rw [e] at o; exact o.elim
    | some α' =>
      rw [e] at o
      exact tgtA_run rv S' e fun σ' S2 => o σ' G' H' (Same.refl _) S2⟩
/-- name = [..] on one line, the name a local: the store stands within -/
theorem lc_rdS {dit : Bt → Res (List D)} {tg : Tgt} {t : Bt → Res Bool} {e : Bt → Res D} {vs : List Nat} (hv : ∀ i ∈ tg.slots, i ∈ vs) (σ : L2.St) (H : Hp) (Q : VK) (h : TSf X W (sD (dLc dit tg t e vs)) σ H Q) :
    tLc (TRi X W dit) (tgt X.K tg) (TRt X W0 t) (TR X W0 e) vs σ H Q := by
  obtain ⟨G0, H0, G, α, S, rp⟩ := h
  exact lc_rd hv σ H Q ⟨G, dats α, S.gr.s, S.ev, rp⟩
theorem lc_rdB {dit : Bt → Res (List D)} {tg : Tgt} {t : Bt → Res Bool} {e : Bt → Res D} {vs : List Nat} (hv : ∀ i ∈ tg.slots, i ∈ vs) (σ : L2.St) (H : Hp) (Q : VK) (h : TSf X W (sBf (dLc dit tg t e vs)) σ H Q) :
    tLc (TRi X W dit) (tgt X.K tg) (TRt X W0 t) (TR X W0 e) vs σ H Q := by
  obtain ⟨G0, H0, G, α, S, rp⟩ := h
  exact lc_rd hv σ H Q ⟨_, view α, S.frzH, S.view, bor_run S rp fun b G' H' g hb q a vs h1 h2 h3 r => q a vs h1 (by
    by_cases ho : Ow σ α a
    · exact thaw_yes ho
    · rw [thaw_no ho]; exact h2) h3 (r.noL (S.thawT g) hb)⟩
/-- what a comprehension's rule asks -/
structure Lc (X : Cx) (W : WX) (tg elt iter : Expr) (ifs : List Expr) (scope : Scope) (own : List (Str × Nat)) (dit : Bt → Res (List D)) (tgd : Tgt) (t : Bt → Res Bool) (de : Bt → Res D) : Prop where
  it : RI X W tg iter dit
  ok : BlkOk X.N X.env.scope scope own
  tg : ∀ (s : Shared) (H : Hp) (C : Addr) (cl : List (Str × Addr)) (fp : List Addr), RG (X.blk s H scope (compEnvC scope cl C X.env) fp) tg tgd
  ifs : ∀ (s : Shared) (H : Hp) (C : Addr) (cl : List (Str × Addr)) (fp : List Addr), PTs (X.blk s H scope (compEnvC scope cl C X.env) fp) ifs (TRt (X.blk s H scope (compEnvC scope cl C X.env) fp) W0 t)
  elt : ∀ (s : Shared) (H : Hp) (C : Addr) (cl : List (Str × Addr)) (fp : List Addr), RE (X.blk s H scope (compEnvC scope cl C X.env) fp) W0 elt de
  sl : ∀ i ∈ tgd.slots, i ∈ own.map (·.2)
section
variable {tg elt iter : Expr} {dit : Bt → Res (List D)} {tgd : Tgt} {t : Bt → Res Bool} {de : Bt → Res D} {own : List (Str × Nat)} {scope : Scope} {ifs : List Expr} {pos spos py : Pos} {y : Str} {i : Nat}
theorem rlc (h : Lc X W tg elt iter ifs scope own dit tgd t de) (hN : X.N.Nodup) (hc : X.calm = true := by rfl) (hs : ∀ x, foldedSetIterable iter X.env x = pure x := by intro _; rfl) : RF X W (.ListComp elt [⟨tg, iter, ifs, 0⟩] scope pos) (dLc dit tgd t de (own.map (·.2))) :=
  rflc h.it h.ok hN h.tg h.ifs h.elt h.sl hc hs
theorem set_lc (h : Lc X W tg elt iter ifs scope own dit tgd t de) (hN : X.N.Nodup) (hy : X.N[i]? = some y) (hyl : X.env.scope.names.lookup y = some .local) (hl : (py.line == pos.line) = true) (ha : (scope.names.any fun (n, k) => n == y && (k == .local || k == .cell)) = false) (hk : X.env.scope.kind = .function)
    (hc : X.calm = true) (hs : ∀ x, foldedSetIterable iter X.env x = pure x) {den : At → Res (List D)} (rd : ∀ σ H Q, TSf X W den σ H Q → tLc (TRi X W dit) (tgt X.K tgd) (TRt X W0 t) (TR X W0 de) (own.map (·.2)) σ H Q) {D0 : Ends} {σ : L2.St} {H : Hp} {f : List D → At → Out}
    (step : ∀ ds G0 H0 G H α a vs G' H', Sv X.K X.w G0 H0 G H σ α → Gr G H G' H' → Sv X.K X.w G0 H0 G' H' σ α → OutP X.K X.w X.mg W D0 G0 H0 G' (f ds α) → H a = none → G' a = none → H' a = some (.lst vs) → RpAll X.K X.w G' vs ds → D0.nx (σ.set i (some (.ref a))) H')
    (hq : TSs X W (fun α => ofR (den α) α fun ds => f ds α) D0 σ H) : tAsg (tLc (TRi X W dit) (tgt X.K tgd) (TRt X W0 t) (TR X W0 de) (own.map (·.2))) (gName i) D0 σ H := by
  obtain ⟨G0, H0, G, α, S, o⟩ := hq
  refine rd σ H _ ⟨G0, H0, G, α, S, ofR_run S o fun ds ed G' H' g S' o' a vs h1 h2 h3 r => ?_⟩
  exact step ds G0 H0 G H α a vs G' H' S g S' o' h1 h2 h3 r
/-- .. to a list of our own; to data; with our own lists read -/
theorem rsownlc (h : Lc X W tg elt iter ifs scope own dit tgd t de) (hN : X.N.Nodup) (hy : X.N[i]? = some y := by rfl) (hyl : X.env.scope.names.lookup y = some .local := by rfl) (hl : (py.line == pos.line) = true := by rfl) (ha : (scope.names.any fun (n, k) => n == y && (k == .local || k == .cell)) = false := by decide +kernel) (hk : X.env.scope.kind = .function := by rfl)
    (hc : X.calm = true := by rfl) (hs : ∀ x, foldedSetIterable iter X.env x = pure x := by intro _; rfl) : RS X W (.Assign [.Name y py] (.ListComp elt [⟨tg, iter, ifs, 0⟩] scope pos) spos) (sOwn i (sD (dLc dit tgd t de (own.map (·.2))))) :=
  PS.imp (ps_setLc (g := tgt X.K tgd) (tt := TRt X W0 t) (te := TR X W0 de) hc hN hy hyl (sw_true hk hyl hl ha) h.it h.ok h.tg h.ifs h.elt hs) fun D0 σ H q =>
    set_lc (f := fun ds α => .nx (α.set i (.own ds))) h hN hy hyl hl ha hk hc hs (lc_rdS h.sl) (fun ds G0 H0 G H α a vs G' H' S g S' o h1 h2 h3 r => o _ G' H' (Same.refl _) (S.setOwn g h1 h2 h3 r i)) q
theorem rsownlcb (h : Lc X W tg elt iter ifs scope own dit tgd t de) (hN : X.N.Nodup) (hy : X.N[i]? = some y := by rfl) (hyl : X.env.scope.names.lookup y = some .local := by rfl) (hl : (py.line == pos.line) = true := by rfl) (ha : (scope.names.any fun (n, k) => n == y && (k == .local || k == .cell)) = false := by decide +kernel) (hk : X.env.scope.kind = .function := by rfl)
    (hc : X.calm = true := by rfl) (hs : ∀ x, foldedSetIterable iter X.env x = pure x := by intro _; rfl) : RS X W (.Assign [.Name y py] (.ListComp elt [⟨tg, iter, ifs, 0⟩] scope pos) spos) (sOwn i (sBf (dLc dit tgd t de (own.map (·.2))))) :=
  PS.imp (ps_setLc (g := tgt X.K tgd) (tt := TRt X W0 t) (te := TR X W0 de) hc hN hy hyl (sw_true hk hyl hl ha) h.it h.ok h.tg h.ifs h.elt hs) fun D0 σ H q =>
    set_lc (f := fun ds α => .nx (α.set i (.own ds))) h hN hy hyl hl ha hk hc hs (lc_rdB h.sl) (fun ds G0 H0 G H α a vs G' H' S g S' o h1 h2 h3 r => o _ G' H' (Same.refl _) (S.setOwn g h1 h2 h3 r i)) q
/-- a new list of our own becomes data -/
theorem Sv.setLay {K : PySem.W.Frag} {w : World} {G0 H0 G H G' H' : Hp} {σ : L2.St} {α : At} {a : Addr} {vs : List V} {ds : List D} (S : Sv K w G0 H0 G H σ α) (g : Gr G H G' H') (h1 : H a = none) (h2 : G' a = none) (h3 : H' a = some (.lst vs)) (r : RpAll K w G' vs ds) (i : Nat) :
    Sv K w G0 H0 (upd G' a (.lst vs)) H' (σ.set i (some (.ref a))) (α.set i (.dat (.list ds))) :=
  (S.grow (g.lay h1 h2 h3)).set (.lst upd_same (RpAll.mono (same_upd h2) r)) i
def sLay (i : Nat) (d : At → Res (List D)) : At → Out := fun α => ofR (d α) α fun x => .nx (α.set i (.dat (.list x)))
theorem rslaylc (h : Lc X W tg elt iter ifs scope own dit tgd t de) (hN : X.N.Nodup) (hy : X.N[i]? = some y := by rfl) (hyl : X.env.scope.names.lookup y = some .local := by rfl) (hl : (py.line == pos.line) = true := by rfl) (ha : (scope.names.any fun (n, k) => n == y && (k == .local || k == .cell)) = false := by decide +kernel) (hk : X.env.scope.kind = .function := by rfl)
    (hc : X.calm = true := by rfl) (hs : ∀ x, foldedSetIterable iter X.env x = pure x := by intro _; rfl) : RS X W (.Assign [.Name y py] (.ListComp elt [⟨tg, iter, ifs, 0⟩] scope pos) spos) (sLay i (sD (dLc dit tgd t de (own.map (·.2))))) :=
  PS.imp (ps_setLc (g := tgt X.K tgd) (tt := TRt X W0 t) (te := TR X W0 de) hc hN hy hyl (sw_true hk hyl hl ha) h.it h.ok h.tg h.ifs h.elt hs) fun D0 σ H q =>
    set_lc (f := fun ds α => .nx (α.set i (.dat (.list ds)))) h hN hy hyl hl ha hk hc hs (lc_rdS h.sl) (fun ds G0 H0 G H α a vs G' H' S g S' o h1 h2 h3 r => o _ _ H' (same_upd h2) (S.setLay g h1 h2 h3 r i)) q
theorem rslaylcb (h : Lc X W tg elt iter ifs scope own dit tgd t de) (hN : X.N.Nodup) (hy : X.N[i]? = some y := by rfl) (hyl : X.env.scope.names.lookup y = some .local := by rfl) (hl : (py.line == pos.line) = true := by rfl) (ha : (scope.names.any fun (n, k) => n == y && (k == .local || k == .cell)) = false := by decide +kernel) (hk : X.env.scope.kind = .function := by rfl)
    (hc : X.calm = true := by rfl) (hs : ∀ x, foldedSetIterable iter X.env x = pure x := by intro _; rfl) : RS X W (.Assign [.Name y py] (.ListComp elt [⟨tg, iter, ifs, 0⟩] scope pos) spos) (sLay i (sBf (dLc dit tgd t de (own.map (·.2))))) :=
  PS.imp (ps_setLc (g := tgt X.K tgd) (tt := TRt X W0 t) (te := TR X W0 de) hc hN hy hyl (sw_true hk hyl hl ha) h.it h.ok h.tg h.ifs h.elt hs) fun D0 σ H q =>
    set_lc (f := fun ds α => .nx (α.set i (.dat (.list ds)))) h hN hy hyl hl ha hk hc hs (lc_rdB h.sl) (fun ds G0 H0 G H α a vs G' H' S g S' o h1 h2 h3 r => o _ _ H' (same_upd h2) (S.setLay g h1 h2 h3 r i)) q
/-- a new list to data, by a plain store -/
theorem rslay {i : Nat} {x : Str} {e : Expr} {d : At → Res (List D)} {pos pos' : Pos} (hN : X.N.Nodup) (h : SF X W e d) (hi : X.N[i]? = some x := by rfl) (hx : Loc X.env.scope x := by first | exact Or.inl rfl | exact Or.inr rfl) (hs : swapsWith e (some (.Name x pos')) pos.line X.env = pure false := by rfl)
    (hf : X.fn x = true ∨ X.env.scope.names.lookup x = some .local := by first | exact .inl rfl | exact .inr rfl | assumption) : RS X W (.Assign [.Name x pos'] e pos) (sLay i d) :=
  PS.imp (ps_set hN hi hx h hs hf) fun D0 σ H ⟨G0, H0, G, α, S, q⟩ => ⟨G0, H0, G, α, S, ofR_run S q fun b eb G' H' g S' o a vs h1 h2 h3 r => o _ _ H' (same_upd h2) (S.setLay g h1 h2 h3 r i)⟩
end

/-! ### changes of our own lists -/
theorem Sv.put {K : PySem.W.Frag} {w : World} {G0 H0 G H : Hp} {σ : L2.St} {α : At} {i : Nat} {ds es : List D} {p : Addr} {vs : List V} (S : Sv K w G0 H0 G H σ α) (e1 : α[i]? = some (.own ds)) (e2 : σ[i]? = some (some (.ref p))) (r : RpAll K w G vs es) :
    Sv K w G0 H0 G (upd H p (.lst vs)) σ (α.set i (.own es)) := by
  obtain ⟨p', vs', q1, q2, q3, q4, q5⟩ := S.own i ds e1
  rw [e2] at q1
  cases q1
  have at_ : ∀ (j : Nat) (a : AV), j ≠ i → (α.set i (.own es))[j]? = some a → α[j]? = some a := fun j a ne e => by rw [List.getElem?_set_ne (Ne.symm ne)] at e; exact e
  have self : ∀ a, (α.set i (.own es))[i]? = some a → a = .own es := fun a e => by
    by_cases hl : i < α.length
    · rw [List.getElem?_set_self hl] at e
      cases e
      rfl
    · rw [List.getElem?_eq_none (by simpa using hl)] at e
      cases e
  have back : ∀ (j : Nat) (fs : List D), (α.set i (.own es))[j]? = some (.own fs) → ∃ gs, α[j]? = some (.own gs) := fun j fs e => by
    by_cases q : j = i
    · subst q; exact ⟨ds, e1⟩
    · exact ⟨fs, at_ j _ q e⟩
  refine ⟨S.gr.put q2 q3, by simpa using S.len, fun j x e => ?_, fun j fs e => ?_, fun j k fs gs q ne a1 a2 a3 a4 => ?_⟩
  · by_cases q : j = i
    · subst q
      exact nomatch self _ e
    · exact S.dat j x (at_ j _ q e)
  · by_cases q : j = i
    · subst q
      cases self _ e
      exact ⟨p, vs, e2, q2, q3, upd_same, r⟩
    · have e' := at_ j _ q e
      obtain ⟨p', vs'', b1, b2, b3, b4, b5⟩ := S.own j fs e'
      have ne : p' ≠ p := fun z => S.sep j i fs ds p q e' e1 (z ▸ b1) e2
      exact ⟨p', vs'', b1, b2, b3, by rw [upd_ne ne]; exact b4, b5⟩
  · obtain ⟨x1, y1⟩ := back j fs a1
    obtain ⟨x2, y2⟩ := back k gs a2
    exact S.sep j k x1 x2 q ne y1 y2 a3 a4
def ownAt (i : Nat) (α : At) (f : List D → Out) : Out := match α[i]? with
  | some (.own ds) => f ds
  | _ => .no
theorem ownAt_out {K : PySem.W.Frag} {w : World} {mg : Str → Option Value} {D0 : Ends} {G0 H0 G : Hp} {i : Nat} {α : At} {f : List D → Out} (h : OutP K w mg W D0 G0 H0 G (ownAt i α f)) : ∃ ds, α[i]? = some (.own ds) ∧ OutP K w mg W D0 G0 H0 G (f ds) := by
  unfold ownAt at h
  split at h
  · rename_i ds e
    exact ⟨ds, e, h⟩
  · exact h.elim
def sApp (i : Nat) (d : At → Res D) : At → Out := fun α => ownAt i α fun ds => ofR (d α) α fun x => if ds.length < sizeLine then .nx (α.set i (.own (ds ++ [x]))) else .no
section
variable {i : Nat} {x : Str} {e : Expr} {pos p1 apos cpos : Pos}
/-- x.append(e) -/
theorem rsapp {d : At → Res D} (h : SE X W e d) (hi : X.N[i]? = some x := by rfl) (hv : Vis X.env.scope x := by first | exact Or.inl rfl | exact Or.inr (Or.inl rfl) | exact Or.inr (Or.inr rfl)) (hd : (x == ("__debug__" : Str)) = false := by decide) (hcd : (x == ("__classdict__" : Str)) = false := by decide)
    (hst : starEach [e] X.env = (false, eval e X.env) :: starEach [] X.env := by rfl) (hbase : attributeBase (.Name x p1) "append" X.env (eval (.Name x p1) X.env) = eval (.Name x p1) X.env := by rfl)
    (hfew : ((backTo cpos (starEach [e] X.env)).all (fun x => !x.1) && (backToKw cpos (keywordEach [] X.env)).all (fun x => x.1.isSome) && decide ([e].length + ([] : List Keyword).length + (if ([] : List Keyword).isEmpty then 0 else 1) < 30)) = true := by rfl)
    (hline : (apos.endLine == cpos.line) = true := by rfl) (hsw : swapsWith (.Call (.Attribute (.Name x p1) "append" apos) [e] [] cpos) none pos.line X.env = pure false := by rfl) : RS X W (.Expr (.Call (.Attribute (.Name x p1) "append" apos) [e] [] cpos) pos) (sApp i d) :=
  PS.imp (ps_expr (pe_bm PySem.F.plainAttrs_list PySem.F.slot_list_append PySem.F.type_list_append mt_append (pv i hi hv hd hcd) (pa_cons h pa_nil hst) hbase hfew hline hst) hsw) fun D0 σ H ⟨G0, H0, G, α, S, q⟩ => by
    obtain ⟨ds, ea, o⟩ := ownAt_out q
    obtain ⟨p, vs, b1, b2, b3, b4, b5⟩ := S.own i ds ea
    refine ⟨.ref p, b1, .inl ⟨rfl, _, SqL.of b4⟩, G0, H0, G, α, S, ofR_run S o fun b eb G' H' g S' o' v rv => ?_⟩
    obtain ⟨p', vs', c1, c2, c3, c4, c5⟩ := S'.own i ds ea
    rw [b1] at c1
    cases c1
    by_cases hz : ds.length < sizeLine
    · rw [if_pos hz] at o'
      exact ⟨p, vs', v, rfl, rfl, c4, by rw [c5.length]; exact hz, o' _ _ _ (Same.refl _) (S'.put ea b1 (c5.append (.cons rv .nil)))⟩
    · rw [if_neg hz] at o'
      exact o'.elim
/-- x.extend(e), e a list -/
def sExt (i : Nat) (d : At → Res D) : At → Out := fun α => ownAt i α fun ds => ofR (d α) α fun x => match x with
  | .list es => if ds.length + es.length ≤ sizeLine then .nx (α.set i (.own (ds ++ es))) else .no
  | _ => .no
theorem rsext {d : At → Res D} (h : SE X W e d) (hi : X.N[i]? = some x := by rfl) (hv : Vis X.env.scope x := by first | exact Or.inl rfl | exact Or.inr (Or.inl rfl) | exact Or.inr (Or.inr rfl)) (hd : (x == ("__debug__" : Str)) = false := by decide) (hcd : (x == ("__classdict__" : Str)) = false := by decide)
    (hst : starEach [e] X.env = (false, eval e X.env) :: starEach [] X.env := by rfl) (hbase : attributeBase (.Name x p1) "extend" X.env (eval (.Name x p1) X.env) = eval (.Name x p1) X.env := by rfl)
    (hfew : ((backTo cpos (starEach [e] X.env)).all (fun x => !x.1) && (backToKw cpos (keywordEach [] X.env)).all (fun x => x.1.isSome) && decide ([e].length + ([] : List Keyword).length + (if ([] : List Keyword).isEmpty then 0 else 1) < 30)) = true := by rfl)
    (hline : (apos.endLine == cpos.line) = true := by rfl) (hsw : swapsWith (.Call (.Attribute (.Name x p1) "extend" apos) [e] [] cpos) none pos.line X.env = pure false := by rfl) : RS X W (.Expr (.Call (.Attribute (.Name x p1) "extend" apos) [e] [] cpos) pos) (sExt i d) :=
  PS.imp (ps_expr (pe_bm PySem.F.plainAttrs_list PySem.F.slot_list_extend PySem.F.type_list_extend mt_extend (pv i hi hv hd hcd) (pa_cons h pa_nil hst) hbase hfew hline hst) hsw) fun D0 σ H ⟨G0, H0, G, α, S, q⟩ => by
    obtain ⟨ds, ea, o⟩ := ownAt_out q
    obtain ⟨p, vs, b1, b2, b3, b4, b5⟩ := S.own i ds ea
    refine ⟨.ref p, b1, .inl ⟨rfl, _, SqL.of b4⟩, G0, H0, G, α, S, ofR_run S o fun b eb G' H' g S' o' v rv => ?_⟩
    obtain ⟨p', vs', c1, c2, c3, c4, c5⟩ := S'.own i ds ea
    rw [b1] at c1
    cases c1
    cases rv with
    | lst hx rx =>
      have o' : OutP X.K X.w X.mg W D0 G0 H0 G' (if _ then _ else _) := o'
      split at o'
      · rename_i hz
        exact ⟨p, _, vs', _, rfl, rfl, c4, S'.gr.s _ _ hx, by rw [c5.length, rx.length]; exact hz, o' _ _ _ (Same.refl _) (S'.put ea b1 (c5.append rx))⟩
      · exact o'.elim
    | _ => exact o'.elim
/-- x[k] = e -/
def sSetI (i : Nat) (dk d : At → Res D) : At → Out := fun α => ofR (d α) α fun v => ownAt i α fun _ => ofR (dk α) α fun k => ownAt i α fun ds => match k with
  | .int k => (match ixN ds.length k with
    | some j => .nx (α.set i (.own (ds.set j v)))
    | none => .no)
  | _ => .no
theorem rsseti {k : Expr} {dk d : At → Res D} {tpos : Pos} (h : SE X W e d) (hk : SE X W k dk) (hi : X.N[i]? = some x := by rfl) (hv : Vis X.env.scope x := by first | exact Or.inl rfl | exact Or.inr (Or.inl rfl) | exact Or.inr (Or.inr rfl)) (hd : (x == ("__debug__" : Str)) = false := by decide) (hcd : (x == ("__classdict__" : Str)) = false := by decide)
    (ha : ∀ v, assign (.Subscript (.Name x p1) k tpos) X.env v = (do
      let ov ← holding [v] (eval (.Name x p1) X.env)
      let iv ← holding [v, ov] (eval k X.env)
      standAt tpos
      holding [v, ov, iv] (setItem ov iv v)
      release [v, ov, iv] []) := by intro _; rfl)
    (hs : swapsWithSole [.Subscript (.Name x p1) k tpos] e pos.line X.env = pure false := by rfl) (hw : swappedStores [.Subscript (.Name x p1) k tpos] e X.env = pure none := by rfl)
    (h1 : (assignEach [.Subscript (.Name x p1) k tpos] X.env).map (·.2) = [assign (.Subscript (.Name x p1) k tpos) X.env] := by rfl) : RS X W (.Assign [.Subscript (.Name x p1) k tpos] e pos) (sSetI i dk d) :=
  PS.imp (ps_asg h (pg_sub (pv i hi hv hd hcd) hk set_list ha) hs hw h1) fun D0 σ H ⟨G0, H0, G, α, S, q⟩ => by
    refine ⟨G0, H0, G, α, S, ofR_run S q fun b eb G' H' g S' o v rv => ?_⟩
    obtain ⟨ds, ea, o⟩ := ownAt_out o
    obtain ⟨p, vs, b1, b2, b3, b4, b5⟩ := S'.own i ds ea
    refine ⟨.ref p, b1, G0, H0, G', α, S', ofR_run S' o fun kd ek G2 H2 g2 S2 o2 kv rk => ?_⟩
    obtain ⟨ds2, ea2, o2⟩ := ownAt_out o2
    rw [ea] at ea2
    cases ea2
    obtain ⟨p', vs', c1, c2, c3, c4, c5⟩ := S2.own i ds ea
    rw [b1] at c1
    cases c1
    cases rk with
    | int kk =>
      have o2 : OutP X.K X.w X.mg W D0 G0 H0 G2 (match ixN ds.length kk with | some j => Out.nx (α.set i (.own (ds.set j b))) | none => .no) := o2
      cases hj : ixN ds.length kk with
      | none => rw [hj] at o2; exact o2.elim
      | some j =>
        rw [hj] at o2
        exact ⟨p, vs', kk, j, rfl, rfl, c4, by rw [c5.length]; exact hj, o2 _ _ _ (Same.refl _) (S2.put ea b1 (c5.set j (rv.mono g2.g)))⟩
    | _ => exact o2.elim
/-- a list of our own is left as it is from here on -/
def frzA (i : Nat) (α : At) : At := match α[i]? with
  | some (.own ds) => α.set i (.dat (.list ds))
  | _ => α
theorem Sv.frzA {K : PySem.W.Frag} {w : World} {G0 H0 G H : Hp} {σ : L2.St} {α : At} (S : Sv K w G0 H0 G H σ α) (i : Nat) : ∃ G', Same G G' ∧ Sv K w G0 H0 G' H σ (frzA i α) := by
  unfold DL.frzA
  split
  · rename_i ds e
    obtain ⟨p, vs, b1, b2, b3, b4, b5⟩ := S.own i ds e
    refine ⟨upd G p (.lst vs), same_upd b3, ?_⟩
    have at_ : ∀ (j : Nat) (a : AV), j ≠ i → (α.set i (.dat (.list ds)))[j]? = some a → α[j]? = some a := fun j a ne e => by rw [List.getElem?_set_ne (Ne.symm ne)] at e; exact e
    have self : ∀ a, (α.set i (.dat (.list ds)))[i]? = some a → a = .dat (.list ds) := fun a e => by
      by_cases hl : i < α.length
      · rw [List.getElem?_set_self hl] at e
        cases e
        rfl
      · rw [List.getElem?_eq_none (by simpa using hl)] at e
        cases e
    refine ⟨⟨S.gr.g.trans (same_upd b3), fun a o q => ?_, S.gr.h, fun a n1 n2 => ?_⟩, by simpa using S.len, fun j x q => ?_, fun j fs q => ?_, fun j k fs gs q ne a1 a2 a3 a4 => ?_⟩
    · by_cases hp : a = p
      · subst hp; rw [upd_same] at q; cases q; exact b4
      · rw [upd_ne hp] at q; exact S.gr.s a o q
    · have hp : a ≠ p := fun z => n1 (z ▸ b2)
      rw [upd_ne hp]; exact S.gr.o a n1 n2
    · by_cases hj : j = i
      · subst hj
        cases self _ q
        exact ⟨.ref p, b1, .lst upd_same (RpAll.mono (same_upd b3) b5)⟩
      · obtain ⟨v, h1, h2⟩ := S.dat j x (at_ j _ hj q)
        exact ⟨v, h1, h2.mono (same_upd b3)⟩
    · by_cases hj : j = i
      · subst hj
        exact nomatch self _ q
      · have q' := at_ j _ hj q
        obtain ⟨p', vs', c1, c2, c3, c4, c5⟩ := S.own j fs q'
        have ne : p' ≠ p := fun z => S.sep j i fs ds p hj q' e (z ▸ c1) b1
        exact ⟨p', vs', c1, c2, by rw [upd_ne ne]; exact c3, c4, RpAll.mono (same_upd b3) c5⟩
    · have q1 : j ≠ i := fun z => by subst z; exact nomatch self _ a1
      have q2 : k ≠ i := fun z => by subst z; exact nomatch self _ a2
      exact S.sep j k fs gs q ne (at_ j _ q1 a1) (at_ k _ q2 a2) a3 a4
  · exact ⟨G, Same.refl _, S⟩
theorem rsfrz {st : Stmt} {d : At → Out} (i : Nat) (h : RS X W st d) : RS X W st (fun α => d (frzA i α)) :=
  PS.imp h fun D0 σ H ⟨G0, H0, G, α, S, q⟩ => by
    obtain ⟨G', s, S'⟩ := S.frzA i
    exact ⟨G0, H0, G', _, S', q.mono s⟩
end
/-! ### for -/
def forD (tg : Tgt) (body : At → Out) : List D → At → Out
  | [], α => .nx α
  | d :: ds, α => match setTA tg d α with
    | none => .no
    | some α1 => match body α1 with
      | .nx α2 => forD tg body ds α2
      | .ct α2 => forD tg body ds α2
      | .bk α2 => .nx α2
      | o => o
def sFor (it : Bt → Res (List D)) (tg : Tgt) (body : At → Out) : At → Out := fun α => ofR (it (dats α)) α fun ds => forD tg body ds α
theorem rsfor {tg iter : Expr} {dit : Bt → Res (List D)} {tgd : Tgt} {body : List Stmt} {db : At → Out} {pos : Pos} (hi : RI X W tg iter dit) (hg : RG X tg tgd) (hb : RSs X W body db) (hp : PassesOwn (model X.prog X.w) X.A X.env X.xe) (hc : X.calm = true := by rfl)
    (hs : ∀ x, foldedSetIterable iter X.env x = pure x := by intro _; rfl) : RS X W (.For tg iter body [] pos) (sFor dit tgd db) :=
  PS.imp (ps_for hp hc hi hg hb hs) fun D0 σ H ⟨G0, H0, G, α, S, q⟩ => by
    refine ⟨G, dats α, S.gr.s, S.ev, ofR_run S q fun ds ed G1 H1 g S1 o J hJ => ?_⟩
    refine ⟨fun i m σ H => m = ds.length - i ∧ i ≤ ds.length ∧ ∃ G α, Same G1 G ∧ Sv X.K X.w G0 H0 G H σ α ∧ OutP X.K X.w X.mg W D0 G0 H0 G (forD tgd db (ds.drop i) α), ⟨ds.length, rfl, Nat.zero_le _, G1, α, Same.refl _, S1, o⟩, fun i m σ H hI => ?_⟩
    obtain ⟨rfl, hi, G2, α2, s2, S2, o2⟩ := hI
    by_cases hlt : i < ds.length
    · refine .inr ⟨hJ.go i H (s2.trans S2.gr.s) hlt, fun σ' H' => ∃ G α, Same G1 G ∧ Sv X.K X.w G0 H0 G H' σ' α ∧ OutP X.K X.w X.mg W D0 G0 H0 G (forD tgd db (ds.drop (i + 1)) α), fun σ' H' ⟨G3, α3, h⟩ => ⟨ds.length - (i + 1), by omega, rfl, hlt, G3, α3, h⟩, fun x H' hy => ?_⟩
      rw [List.drop_eq_getElem_cons hlt] at o2
      obtain ⟨G3, g3, rx⟩ := hJ.yld i _ G2 H x H' (List.getElem?_eq_getElem hlt) s2 S2.gr.s hy
      have S3 := S2.grow g3
      unfold forD at o2
      cases ha : setTA tgd ds[i] α2 with
      | none => rw [ha] at o2; exact o2.elim
      | some α3 =>
        rw [ha] at o2
        refine tgtA_run rx S3 ha fun σ3 S4 => ⟨G0, H0, G3, α3, S4, ?_⟩
        have o3 : OutP X.K X.w X.mg W D0 G0 H0 G2 (match db α3 with | .nx α2 => forD tgd db (ds.drop (i + 1)) α2 | .ct α2 => forD tgd db (ds.drop (i + 1)) α2 | .bk α2 => .nx α2 | o => o) := o2
        have o3 := o3.mono g3.g
        cases hb : db α3 with
        | nx α4 => rw [hb] at o3; exact fun σ' G' H' s S' => ⟨G', α4, (s2.trans g3.g).trans s, S', o3.mono s⟩
        | ct α4 => rw [hb] at o3; exact fun σ' G' H' s S' => ⟨G', α4, (s2.trans g3.g).trans s, S', o3.mono s⟩
        | bk α4 => rw [hb] at o3; exact o3
        | rt d => rw [hb] at o3; exact o3
        | er e α4 => rw [hb] at o3; exact o3
        | no => rw [hb] at o3; exact o3
    · have e1 : i = ds.length := by omega
      subst e1
      rw [List.drop_length] at o2
      exact .inl ⟨hJ.stop _ H (s2.trans S2.gr.s) (Nat.le_refl _), o2 σ G2 H (Same.refl _) S2⟩
/-! ### while -/
def whileD (t : At → Res Bool) (body : At → Out) : Nat → At → Out
  | 0, _ => .no
  | n + 1, α => ofR (t α) α fun c => if c = true then (match body α with
      | .nx α2 => whileD t body n α2
      | .ct α2 => whileD t body n α2
      | .bk α2 => .nx α2
      | o => o) else .nx α
theorem rswhile {c : Expr} {t : At → Res Bool} {body : List Stmt} {db : At → Out} {pos : Pos} (n : Nat) (hc : ST X W c t) (hb : RSs X W body db) (hp : PassesOwn (model X.prog X.w) X.A X.env X.xe) : RS X W (.While c body [] pos) (whileD t db n) :=
  PS.imp (ps_while hp hc hb) fun D0 σ H ⟨G0, H0, G, α, S, q⟩ => by
    refine ⟨fun m σ H => ∃ G α, Sv X.K X.w G0 H0 G H σ α ∧ OutP X.K X.w X.mg W D0 G0 H0 G (whileD t db m α), ⟨n, G, α, S, q⟩, fun m σ H hI => ?_⟩
    obtain ⟨G2, α2, S2, o2⟩ := hI
    cases m with
    | zero => exact o2.elim
    | succ m =>
      refine ⟨G0, H0, G2, α2, S2, ofR_run S2 o2 fun c ec G3 H3 g S3 o3 => ?_⟩
      cases c with
      | false => exact o3 σ G3 H3 (Same.refl _) S3
      | true =>
        refine ⟨fun σ' H' => ∃ G α, Sv X.K X.w G0 H0 G H' σ' α ∧ OutP X.K X.w X.mg W D0 G0 H0 G (whileD t db m α), fun σ' H' h => ⟨m, Nat.lt_succ_self m, h⟩, G0, H0, G3, α2, S3, ?_⟩
        have o4 : OutP X.K X.w X.mg W D0 G0 H0 G3 (match db α2 with | .nx α2 => whileD t db m α2 | .ct α2 => whileD t db m α2 | .bk α2 => .nx α2 | o => o) := o3
        cases hb : db α2 with
        | nx α4 => rw [hb] at o4; exact fun σ' G' H' s S' => ⟨G', α4, S', o4.mono s⟩
        | ct α4 => rw [hb] at o4; exact fun σ' G' H' s S' => ⟨G', α4, S', o4.mono s⟩
        | bk α4 => rw [hb] at o4; exact o4
        | rt d => rw [hb] at o4; exact o4
        | er e α4 => rw [hb] at o4; exact o4
        | no => rw [hb] at o4; exact o4
/-! ### never reached -/
theorem rsno {st : Stmt} : RS X W st (fun _ => .no) := PS.imp ps_never fun D σ H ⟨G0, H0, G, α, S, h⟩ => h
theorem rssno {sts : List Stmt} : RSs X W sts (fun _ => .no) := PSs.imp pss_never fun D σ H ⟨G0, H0, G, α, S, h⟩ => h
end
/-! ### the rule of a def -/
def fD (n N : Nat) (body : At → Out) : List D → Res D := fun ds => if ds.length = n then (match body (ds.map AV.dat ++ List.replicate (N - n) AV.un) with
  | .rt d => .ok d
  | .nx _ => .ok .none
  | .er e _ => .er e
  | _ => .no) else .no
theorem fD_len {n N : Nat} {body : At → Out} (ds : List D) (h : ds.length ≠ n) : fD n N body ds = .no := by
  unfold fD
  rw [if_neg h]
abbrev Wd (E : XK) : WX := fun cls d _ H => E cls d H
theorem okD {P : Program} {w : World} {K : PySem.W.Frag} {mg : Str → Option Value} {base : Heap} {x qual : Str} {params : Arguments} {bodyS : List Stmt} {scope : Scope} {f : Addr} {fd : FuncData} {N ps : List Str} {k : Nat} {den : At → Out}
    (F : FunD K x qual params bodyS scope [] [] f fd) (S : FnScope N ps scope)
    (h : ∀ (cdv : Value) (A : Around) (outer : List Env) (s : Shared) (H : Hp) (E : XK), Room k (A.deeper (envOfC qual scope s.heap.objs.size f cdv)) → RSs (cxOf (L2.CX P w) P w K mg base N qual scope f cdv A outer s H E) (Wd E) bodyS den) :
    FnOk P w K mg base (L2.CX P w) (k + 1) f fd ps (SpF K w mg (fD ps.length N.length den)) := by
  refine F.ok S (SpF.len fD_len) fun cdv A outer s H vs Q E hr hsp => ⟨_, h cdv A outer s H E hr, ?_⟩
  obtain ⟨G, ds, sg, r, rp⟩ := hsp
  have hlen : ps.length ≤ N.length := by
    have := congrArg List.length S.pre
    rw [List.length_take] at this
    omega
  by_cases hn : ds.length = ps.length
  · unfold fD at rp
    rw [if_pos hn] at rp
    have l1 := r.length
    have st : Sv K w G H G H (L2.start N vs) (ds.map AV.dat ++ List.replicate (N.length - ps.length) AV.un) := by
      have noO : ∀ (i : Nat) (es : List D), (ds.map AV.dat ++ List.replicate (N.length - ps.length) AV.un)[i]? = some (.own es) → False := fun i es e => by
        by_cases hi : i < ds.length
        · rw [List.getElem?_append_left (by simpa using hi), List.getElem?_map, List.getElem?_eq_getElem hi] at e
          cases e
        · rw [List.getElem?_append_right (by simpa using hi), List.getElem?_replicate] at e
          split at e <;> cases e
      refine ⟨Gr.refl sg, ?_, fun i d e => ?_, fun i es e => (noO i es e).elim, fun i j es fs p ne e1 _ _ _ => (noO i es e1).elim⟩
      · unfold L2.start
        simp only [List.length_append, List.length_map, List.length_replicate]
        omega
      · by_cases hi : i < ds.length
        · rw [List.getElem?_append_left (by simpa using hi), List.getElem?_map] at e
          cases hd : ds[i]? with
          | none => rw [hd] at e; cases e
          | some d' =>
            rw [hd] at e
            cases e
            obtain ⟨v, h1, h2⟩ := r.get hd
            refine ⟨v, ?_, h2⟩
            unfold L2.start
            rw [List.getElem?_append_left (by rw [List.length_map]; omega), List.getElem?_map, h1]
            rfl
        · rw [List.getElem?_append_right (by simpa using hi), List.getElem?_replicate] at e
          split at e <;> cases e
    refine ⟨G, H, G, _, st, ?_⟩
    cases hb : den (ds.map AV.dat ++ List.replicate (N.length - ps.length) AV.un) with
    | nx α => rw [hb] at rp; exact fun σ' G' H' _ S' => rp _ _ S'.gr _ .non
    | rt d => rw [hb] at rp; exact fun G' H' _ g v rv => rp _ _ g v rv
    | er e α => rw [hb] at rp; exact fun cls dd σ' G' H' _ S' z => rp cls dd _ _ S'.gr z
    | bk α => rw [hb] at rp; exact rp.elim
    | ct α => rw [hb] at rp; exact rp.elim
    | no => rw [hb] at rp; exact rp.elim
  · rw [fD_len ds hn] at rp
    exact rp.elim
end DL

/-! DL11: what the printed walks name: defs that may be called, constants of the module, number updates. -/
namespace DL
open PySem PySem.Spec PyProof.Rows L2
/-- the def x may be called, at level k, and computes g -/
def Cal (P : Program) (w : World) (K : PySem.W.Frag) (mg : Str → Option Value) (base : Heap) (k : Nat) (x : Str) (g : List D → Res D) : Prop :=
  ∃ f fd ps, FnOk P w K mg base (L2.CX P w) k f fd ps (SpF K w mg g) ∧ mg x = some (.ref f) ∧ PySem.W.keepIn K (.ref f) = true ∧ Binds K fd ps []
/-- a constant of the module -/
def Cst (K : PySem.W.Frag) (w : World) (mg : Str → Option Value) (x : Str) (d : D) : Prop := ∃ v u, mg x = some u ∧ RelV v u ∧ ∀ G, Rp K w G v d
section
variable {X : Cx} {W : WX} {k k' : Nat} {g : List D → Res D} {x : Str} {p pos : Pos} {e : Expr} {es : List Expr} {da : Bt → Res (List D)}
theorem rc (C : Cal X.prog X.w X.K X.mg X.base k x g) (hr : Room k' X.A) (tk : Takes X W) (ha : RA X W (e :: es) da) (hk : k ≤ k' := by decide)
    (hg : Gl X x := by rfl) (hdb : (x == ("__debug__" : Str)) = false := by decide) (he : starEach (e :: es) X.env = (false, eval e X.env) :: starEach es X.env := by rfl) (hpl : (backTo pos (starEach es X.env)).any (·.1) = false := by rfl) :
    RE X W (.Call (.Name x p) (e :: es) [] pos) (dCall g da) := by
  obtain ⟨f, fd, ps, F, hm, kp, hb⟩ := C
  exact rcall F (hr.mono hk) hm kp hb tk ha hg hdb he hpl
theorem rc0 (C : Cal X.prog X.w X.K X.mg X.base k x g) (hr : Room k' X.A) (tk : Takes X W) (hk : k ≤ k' := by decide) (hg : Gl X x := by rfl) (hdb : (x == ("__debug__" : Str)) = false := by decide) : RE X W (.Call (.Name x p) [] [] pos) (dCall g aNil) := by
  obtain ⟨f, fd, ps, F, hm, kp, hb⟩ := C
  exact rcall0 F (hr.mono hk) hm kp hb tk hg hdb
theorem rcst {d : D} (C : Cst X.K X.w X.mg x d) (hg : Gl X x := by rfl) (hd : (x == ("__debug__" : Str)) = false := by decide) : RE X W (.Name x pos) (dC d) := by
  obtain ⟨v, u, hm, r, rp⟩ := C
  exact rglob hm r rp hg hd
/-- x += e, numbers -/
def sAug (i : Nat) (d : At → Res D) : At → Out := fun α => match α[i]? with
  | some (.dat (.int n)) => ofR (d α) α fun x => (match x with
    | .int m => .nx (α.set i (.dat (.int (n + m))))
    | _ => .no)
  | _ => .no
theorem rsaug {i : Nat} {e : Expr} {d : At → Res D} {pos' : Pos} (hN : X.N.Nodup) (h : SE X W e d) (hi : X.N[i]? = some x := by rfl) (hx : Loc X.env.scope x := by first | exact Or.inl rfl | exact Or.inr rfl)
    (hf : X.fn x = true ∨ X.env.scope.names.lookup x = some .local := by first | exact .inl rfl | exact .inr rfl | assumption) : RS X W (.AugAssign (.Name x pos') .Add e pos) (sAug i d) :=
  PS.imp (ps_aug hN hi hx h ip_add hf) fun D0 σ H ⟨G0, H0, G, α, S, q⟩ => by
    unfold sAug at q
    split at q
    · rename_i n en
      obtain ⟨v, e1, e2⟩ := S.dat i _ en
      cases e2
      refine ⟨_, e1, G0, H0, G, α, S, ofR_run S q fun b eb G' H' g S' o v rv => ?_⟩
      cases rv with
      | int m => exact ⟨_, _, rfl, rfl, o _ G' H' (Same.refl _) (S'.set (.int _) i)⟩
      | _ => exact o.elim
    · exact q.elim
end
/-- nothing is let out of a block -/
theorem tk0 {X : Cx} : Takes X W0 := takes0
section
open He
variable {P : Program} {w : World} {K : PySem.W.Frag} {mg : Str → Option Value} {base : Heap}
/-- a def of the text: where it stands, by what the head tells -/
structure Dfn (K : PySem.W.Frag) (mg : Str → Option Value) (x : Str) (st : Stmt) (ps : List Str) : Prop where
  ex : ∃ f fd, FunD K x x (defArgs st) (defBody st) (defScope st) [] [] f fd ∧ mg x = some (.ref f) ∧ Binds K fd ps []
theorem Dfn.cal {x : Str} {st : Stmt} {ps : List Str} {k : Nat} {g : List D → Res D} (d : Dfn K mg x st ps)
    (h : ∀ f fd, FunD K x x (defArgs st) (defBody st) (defScope st) [] [] f fd → FnOk P w K mg base (L2.CX P w) k f fd ps (SpF K w mg g)) : Cal P w K mg base k x g := by
  obtain ⟨f, fd, F, hm, hb⟩ := d.ex
  exact ⟨f, fd, ps, h f fd F, hm, F.kp, hb⟩
end
end DL
namespace DL
open PySem PySem.Spec PyProof.Rows L2
theorem okNo {P : Program} {w : World} {K : PySem.W.Frag} {mg : Str → Option Value} {base : Heap} {CX : CXT} {k : Nat} {f : Addr} {fd : FuncData} {ps : List Str} : FnOk P w K mg base CX k f fd ps (SpF K w mg fun _ => .no) :=
  ⟨fun vs H Q E ⟨G, ds, s, r, rp⟩ => rp.elim, fun A outer s H args us vs Q E hr e0 hb hv ⟨G, ds, sg, r, rp⟩ => rp.elim⟩
end DL

/-! DL12: a law's end. -/
namespace DL
open PySem PySem.Spec PyProof.Rows L2
def CXa : CXT := fun outer H s E u s' => ∃ P w, L2.CX P w outer H s E u s'
theorem CXa_no (H : Hp) (s : Shared) (e : Value) (s' : Shared) (h : CXa [] H s (fun _ _ _ => False) e s') : False := by
  obtain ⟨P, w, a, B, H', cls, d, _, _, _, _, _, _, _, z⟩ := h
  exact z
theorem toAny {P : Program} {w : World} {K : PySem.W.Frag} {mg : Str → Option Value} {base : Heap} {k : Nat} {f : Addr} {fd : FuncData} {ps : List Str} {sp : Sp} (F : FnOk P w K mg base (L2.CX P w) k f fd ps sp) : FnOk P w K mg base CXa k f fd ps sp :=
  ⟨F.len, fun A outer s H args us vs Q E hr he hb hv hs => codeAny_mono (F.run A outer s H args us vs Q E hr he hb hv hs) fun r s' h => by
    cases r with
    | ok o =>
      cases o with
      | ret u => exact h
      | _ => exact h
    | error e => exact ⟨P, w, h⟩⟩
/-- a law that answers true for this script -/
theorem spTrue {K : PySem.W.Frag} {w : World} {mg : Str → Option Value} {g : List D → Res D} {H : Hp} {a : Addr} {ns : List Int} (h : g [.dict [(.none, .list (ns.map PyData.int))]] = .ok (.bool true)) (hS : SqL K H a (ns.map V.int)) :
    SpF K w mg g [.ref a] H (fun v _ => v = .bl true) fun _ _ _ => False :=
  ⟨H, _, Same.refl _, .cons (.scr hS (Rp.ints w H ns)) .nil, by
    rw [h]
    exact fun G' H' _ v rv => by cases rv; rfl⟩
theorem cstI {K : PySem.W.Frag} {w : World} {mg : Str → Option Value} {x : Str} {i : Int} (h : ∃ t, mg x = some (.int i t)) : Cst K w mg x (.int i) := by
  obtain ⟨t, e⟩ := h
  exact ⟨.int i, _, e, ⟨t, rfl⟩, fun _ => .int i⟩
theorem cstS {K : PySem.W.Frag} {w : World} {mg : Str → Option Value} {x z : Str} (h : ∃ t, mg x = some (.str z t)) : Cst K w mg x (.str z) := by
  obtain ⟨t, e⟩ := h
  exact ⟨.str z, _, e, ⟨t, rfl⟩, fun _ => .str z⟩
end DL

namespace Cm
open PySem PySem.Spec PyProof.Rows L2 DL
def b__law_kinds : At → Out :=
 (sSeq (sSet 0 (sD (dLst (aCons (dC (.str "bolt")) (aCons (dC (.str "claim")) (aCons (dC (.str "class")) (aCons (dC (.str "cloth")) (aCons (dC (.str "day")) (aCons (dC (.str "grant")) (aCons (dC (.str "hand")) (aCons (dC (.str "master")) (aCons (dC (.str "measurer")) (aCons (dC (.str "order")) aNil)))))))))))))
 (sRet (sD (d2 fAdd (dV 0) (dLst (aCons (dC (.str "panel")) (aCons (dC (.str "reef")) (aCons (dC (.str "repair")) (aCons (dC (.str "revoke")) (aCons (dC (.str "rig")) (aCons (dC (.str "sail")) (aCons (dC (.str "seen")) (aCons (dC (.str "share")) (aCons (dC (.str "table")) (aCons (dC (.str "wind")) aNil)))))))))))))))
def f__law_kinds : List D → Res D := fD 0 1 b__law_kinds
def b__law_before : At → Out :=
 (sRet (sD (dOr (d2 fLt (d2 fIx (dV 0) (dC (.int (0)))) (d2 fIx (dV 1) (dC (.int (0))))) (dAnd (d2 fEq (d2 fIx (dV 0) (dC (.int (0)))) (d2 fIx (dV 1) (dC (.int (0))))) (d2 fLt (d2 fIx (dV 0) (dC (.int (1)))) (d2 fIx (dV 1) (dC (.int (1)))))))))
def f__law_before : List D → Res D := fD 2 2 b__law_before
def b__law_placed : At → Out :=
 (sSeq (sLay 2 (sD (dLc (iSeq (dV 0)) (.nm 4) (tV (dCall f__law_before (aCons (dV 4) (aCons (dV 1) aNil)))) (dV 4) [4])))
 (sSeq (sLay 3 (sD (dLc (iSeq (dV 0)) (.nm 4) (tV (dCall f__law_before (aCons (dV 1) (aCons (dV 4) aNil)))) (dV 4) [4])))
 (sRet (sD (d2 fAdd (d2 fAdd (dV 2) (dLst (aCons (dV 1) aNil))) (dV 3))))))
def f__law_placed : List D → Res D := fD 2 5 b__law_placed
def b__law_lowest : At → Out :=
 (sSeq (sSet 2 (sD (dN fAbs (aCons (dV 0) aNil))))
 (sSeq (sSet 3 (sD (dV 1)))
 (sSeq (sFor (iRange1 (dC (.int (200)))) (.nm 4)
 (sIf (sD (tV (d2 fNe (dV 3) (dC (.int (0))))))
 (sSeq (sSet 5 (sD (d2 fMod (dN fInt (aCons (dV 2) aNil)) (dV 3))))
 (sSeq (sSet 2 (sD (dV 3)))
 (sSet 3 (sD (dV 5)))))
 sNil))
 (sRet (sD (dTup (aCons (d2 fDiv (dV 0) (dV 2)) (aCons (d2 fDiv (dV 1) (dV 2)) aNil))))))))
def f__law_lowest : List D → Res D := fD 2 6 b__law_lowest
def b__law_grain : At → Out :=
 (sSeq (sIf (sD (tV (d2 fEq (dV 0) (dC (.int (0))))))
 (sRet (sD (dTup (aCons (dC (.int (0))) (aCons (dC (.int (1))) aNil)))))
 sNil)
 (sRet (sD (d1 fRevA (dCall f__law_lowest (aCons (dV 1) (aCons (dV 0) aNil)))))))
def f__law_grain : List D → Res D := fD 2 2 b__law_grain
def b__law_line : At → Out :=
 (sSeq (sIf (sD (tV (d2 fEq (d2 fMod (dV 1) (dC (.int (2)))) (dC (.int (0))))))
 (sRet (sD (dTup (aCons (d2 fIx (dV 0) (dC (.int (0)))) (aCons (d2 fIx (dV 0) (d2 fAdd (dC (.int (1))) (d2 fMod (d2 fDiv (dV 1) (dC (.int (2)))) (dC (.int (2)))))) aNil)))))
 sNil)
 (sRet (sD (dTup (aCons (d2 fIx (dV 0) (dC (.int (2)))) (aCons (d2 fIx (dV 0) (d2 fMod (d2 fDiv (dV 1) (dC (.int (2)))) (dC (.int (2))))) aNil))))))
def f__law_line : List D → Res D := fD 2 2 b__law_line
def b__law_piece : At → Out :=
 (sSeq (sSet 2 (sD (dCall f__law_lowest (aCons (d2 fSub (d2 fMod (d2 fIx (dV 0) (dC (.int (0)))) (dC (.int (41)))) (dC (.int (20)))) (aCons (d2 fAdd (dC (.int (1))) (d2 fMod (d2 fIx (dV 0) (dC (.int (1)))) (dC (.int (6))))) aNil)))))
 (sSeq (sSet 3 (sD (dCall f__law_lowest (aCons (d2 fSub (d2 fMod (d2 fIx (dV 0) (dC (.int (2)))) (dC (.int (41)))) (dC (.int (20)))) (aCons (d2 fAdd (dC (.int (1))) (d2 fMod (d2 fIx (dV 0) (dC (.int (3)))) (dC (.int (6))))) aNil)))))
 (sSeq (sSet 4 (sD (dCall f__law_lowest (aCons (d2 fAdd (d2 fIx (dV 2) (dC (.int (0)))) (d2 fMul (d2 fAdd (dC (.int (1))) (d2 fMod (d2 fIx (dV 0) (dC (.int (4)))) (dC (.int (9))))) (d2 fIx (dV 2) (dC (.int (1)))))) (aCons (d2 fIx (dV 2) (dC (.int (1)))) aNil)))))
 (sSeq (sSet 5 (sD (dCall f__law_lowest (aCons (d2 fAdd (d2 fIx (dV 3) (dC (.int (0)))) (d2 fMul (d2 fAdd (dC (.int (1))) (d2 fMod (d2 fIx (dV 0) (dC (.int (5)))) (dC (.int (9))))) (d2 fIx (dV 3) (dC (.int (1)))))) (aCons (d2 fIx (dV 3) (dC (.int (1)))) aNil)))))
 (sSeq (sIf (sD (tOr (tV (d2 fEq (d2 fMod (d2 fIx (dV 0) (dC (.int (6)))) (dC (.int (2)))) (dC (.int (0))))) (tV (d2 fLt (dV 1) (dC (.int (4)))))))
 (sRet (sD (dTup (aCons (dTup (aCons (dV 2) (aCons (dV 3) aNil))) (aCons (dTup (aCons (dV 4) (aCons (dV 3) aNil))) (aCons (dTup (aCons (dV 2) (aCons (dV 5) aNil))) aNil))))))
 sNil)
 (sRet (sD (dTup (aCons (dTup (aCons (dV 2) (aCons (dV 3) aNil))) (aCons (dTup (aCons (dV 4) (aCons (dV 3) aNil))) (aCons (dTup (aCons (dV 4) (aCons (dV 5) aNil))) (aCons (dTup (aCons (dV 2) (aCons (dV 5) aNil))) aNil))))))))))))
def f__law_piece : List D → Res D := fD 2 6 b__law_piece
def b__law_shape_row : At → Out :=
 (sSeq (sSet 4 (sD (d2 fMod (d2 fIx (dV 3) (dC (.int (5)))) (dC (.int (100))))))
 (sSeq (sSet 5 (sD (dCall f__law_lowest (aCons (d2 fMod (d2 fIx (dV 3) (dC (.int (7)))) (dC (.int (8)))) (aCons (dC (.int (7))) aNil)))))
 (sSeq (sSet 6 (sD (dCall f__law_lowest (aCons (d2 fAdd (dC (.int (1))) (d2 fMod (d2 fIx (dV 3) (dC (.int (7)))) (dC (.int (30))))) (aCons (d2 fAdd (dC (.int (1))) (d2 fMod (d2 fIx (dV 3) (dC (.int (8)))) (dC (.int (7))))) aNil)))))
 (sSeq (sIf (sD (tV (d2 fEq (dV 0) (dC (.str "panel")))))
 (sSeq (sSet 7 (sD (dCall f__law_grain (aCons (d2 fMod (d2 fIx (dV 3) (dC (.int (7)))) (dC (.int (9)))) (aCons (d2 fSub (d2 fMod (d2 fIx (dV 3) (dC (.int (8)))) (dC (.int (19)))) (dC (.int (9)))) aNil)))))
 (sRet (sD (dTup (aCons (dV 0) (aCons (dV 1) (aCons (d2 fIx (dV 2) (dC (.int (0)))) (aCons (dCall f__law_piece (aCons (dV 3) (aCons (dC (.int (4))) aNil))) (aCons (dV 7) (aCons (d2 fIx (dLst (aCons (dC (.str "flips")) (aCons (dC (.str "plain")) aNil))) (d2 fMod (d2 fIx (dV 3) (dC (.int (9)))) (dC (.int (2))))) aNil))))))))))
 sNil)
 (sSeq (sIf (sD (tV (d2 fEq (dV 0) (dC (.str "reef")))))
 (sRet (sD (dTup (aCons (dV 0) (aCons (dV 1) (aCons (dCall f__law_line (aCons (dCall f__law_piece (aCons (dV 3) (aCons (dC (.int (3))) aNil))) (aCons (d2 fIx (dV 3) (dC (.int (9)))) aNil))) aNil))))))
 sNil)
 (sSeq (sIf (sD (tV (d2 fEq (dV 0) (dC (.str "repair")))))
 (sRet (sD (dTup (aCons (dV 0) (aCons (dV 1) (aCons (d2 fIx (dV 2) (dC (.int (0)))) (aCons (d2 fMod (d2 fIx (dV 3) (dC (.int (0)))) (dC (.int (4)))) (aCons (d2 fAdd (dC (.int (1))) (d2 fMod (d2 fIx (dV 3) (dC (.int (1)))) (dC (.int (6))))) (aCons (d2 fMod (d2 fIx (dV 3) (dC (.int (2)))) (dC (.int (1001)))) aNil)))))))))
 sNil)
 (sSeq (sIf (sD (tV (d2 fEq (dV 0) (dC (.str "revoke")))))
 (sRet (sD (dTup (aCons (dV 0) (aCons (dV 1) (aCons (d2 fIx (dV 2) (dC (.int (0)))) (aCons (d2 fIx (dV 2) (dC (.int (1)))) (aCons (d2 fIx (dV 2) (dC (.int (2)))) (aCons (dV 4) aNil)))))))))
 sNil)
 (sSeq (sIf (sD (tV (d2 fEq (dV 0) (dC (.str "rig")))))
 (sRet (sD (dTup (aCons (dV 0) (aCons (dV 1) (aCons (dN fTuple (aCons (dN fSorted (aCons (dSl (dV 2) pNone (pSome (d2 fAdd (dC (.int (1))) (d2 fMod (d2 fIx (dV 3) (dC (.int (0)))) (dC (.int (4))))))) aNil)) aNil)) aNil))))))
 sNil)
 (sSeq (sIf (sD (tV (d2 fEq (dV 0) (dC (.str "sail")))))
 (sSeq (sSet 8 (sD (dCall f__law_piece (aCons (dV 3) (aCons (dC (.int (6))) aNil)))))
 (sSeq (sSet 9 (sD (d2 fMod (d2 fIx (dV 3) (dC (.int (7)))) (dC (.int (3))))))
 (sSeq (sSet 10 (sD (dLst (aCons (dV 6) (aCons (dCall f__law_lowest (aCons (d2 fMul (dC (.int (2))) (d2 fIx (dV 6) (dC (.int (0))))) (aCons (d2 fIx (dV 6) (dC (.int (1)))) aNil))) (aCons (dCall f__law_lowest (aCons (d2 fMul (dC (.int (5))) (d2 fIx (dV 6) (dC (.int (0))))) (aCons (d2 fIx (dV 6) (dC (.int (1)))) aNil))) aNil))))))
 (sSeq (sSet 11 (sD (dTup (aCons (dV 0) (aCons (dV 1) (aCons (dV 8) (aCons (dV 9) (aCons (d2 fMod (d2 fAdd (d2 fAdd (dV 9) (dC (.int (1)))) (d2 fMod (d2 fIx (dV 3) (dC (.int (8)))) (dC (.int (2))))) (dC (.int (3)))) (aCons (d2 fIx (dV 2) (dC (.int (0)))) (aCons (d2 fIx (dV 2) (dC (.int (1)))) (aCons (dN fTuple (aCons (dSl (dV 10) pNone (pSome (d2 fAdd (dC (.int (1))) (d2 fMod (d2 fIx (dV 3) (dC (.int (9)))) (dC (.int (3))))))) aNil)) aNil)))))))))))
 (sRet (sD (d2 fAdd (dV 11) (dTup (aCons (dN fTuple (aCons (dSl (dV 2) (pSome (dC (.int (2)))) (pSome (d2 fAdd (dC (.int (3))) (d2 fMod (d2 fIx (dV 3) (dC (.int (6)))) (dC (.int (4))))))) aNil)) (aCons (dN fTuple (aCons (dSl (dV 2) pNone (pSome (d2 fMod (d2 fIx (dV 3) (dC (.int (5)))) (dC (.int (4)))))) aNil)) aNil))))))))))
 sNil)
 (sSeq (sIf (sD (tV (d2 fEq (dV 0) (dC (.str "seen")))))
 (sRet (sD (dTup (aCons (dV 0) (aCons (dV 1) (aCons (dN fTuple (aCons (dFz (dLc (iRange1 (d2 fAdd (dC (.int (1))) (d2 fMod (d2 fIx (dV 3) (dC (.int (9)))) (dC (.int (4)))))) (.nm 12) yesT (dTup (aCons (d2 fMod (d2 fIx (dV 3) (dV 12)) (dC (.int (4)))) (aCons (d2 fAdd (d2 fMod (d2 fIx (dV 3) (dV 12)) (dC (.int (4)))) (d2 fMod (d2 fIx (dV 3) (d2 fAdd (dV 12) (dC (.int (4))))) (dC (.int (3))))) aNil))) [12])) aNil)) aNil))))))
 sNil)
 (sSeq (sIf (sD (tV (d2 fEq (dV 0) (dC (.str "share")))))
 (sRet (sD (dTup (aCons (dV 0) (aCons (dV 1) (aCons (d2 fIx (dV 2) (dC (.int (0)))) (aCons (d2 fIx (dV 2) (dC (.int (1)))) (aCons (d2 fIx (dV 2) (dC (.int (2)))) (aCons (dV 5) aNil)))))))))
 sNil)
 (sRet (sD (dTup (aCons (dV 0) (aCons (dV 1) (aCons (dTup (aCons (d2 fSub (d2 fMod (d2 fIx (dV 3) (dC (.int (0)))) (dC (.int (201)))) (dC (.int (100)))) (aCons (d2 fAdd (dC (.int (1))) (d2 fMod (d2 fIx (dV 3) (dC (.int (1)))) (dC (.int (100))))) aNil))) (aCons (d2 fMod (d2 fIx (dV 3) (dC (.int (2)))) (dC (.int (1001)))) aNil))))))))))))))))))
def f__law_shape_row : List D → Res D := fD 4 13 b__law_shape_row
def b__law_row : At → Out :=
 (sSeq (sSet 4 (sD (d2 fMod (d2 fIx (dV 3) (dC (.int (5)))) (dC (.int (100))))))
 (sSeq (sSet 5 (sD (d2 fMod (d2 fIx (dV 3) (dC (.int (6)))) (dC (.int (10))))))
 (sSeq (sSet 6 (sD (dCall f__law_lowest (aCons (d2 fAdd (dC (.int (1))) (d2 fMod (d2 fIx (dV 3) (dC (.int (7)))) (dC (.int (90))))) (aCons (d2 fAdd (dC (.int (1))) (d2 fMod (d2 fIx (dV 3) (dC (.int (8)))) (dC (.int (7))))) aNil)))))
 (sSeq (sIf (sD (tV (d2 fEq (dV 0) (dC (.str "bolt")))))
 (sRet (sD (dTup (aCons (dV 0) (aCons (dV 1) (aCons (d2 fIx (dV 2) (dC (.int (0)))) (aCons (dV 6) (aCons (d2 fMod (d2 fIx (dV 3) (dC (.int (0)))) (dC (.int (1001)))) (aCons (dCall f__law_lowest (aCons (d2 fMul (d2 fIx (dV 6) (dC (.int (0)))) (d2 fMod (d2 fIx (dV 3) (dC (.int (1)))) (dC (.int (4))))) (aCons (d2 fMul (d2 fIx (dV 6) (dC (.int (1)))) (dC (.int (3)))) aNil))) aNil)))))))))
 sNil)
 (sSeq (sIf (sD (tV (d2 fEq (dV 0) (dC (.str "claim")))))
 (sRet (sD (dTup (aCons (dV 0) (aCons (dV 1) (aCons (d2 fIx (dV 2) (dC (.int (0)))) (aCons (d2 fIx (dV 2) (dC (.int (1)))) (aCons (dV 6) (aCons (dV 4) aNil)))))))))
 sNil)
 (sSeq (sIf (sD (tV (d2 fEq (dV 0) (dC (.str "class")))))
 (sSeq (sSet 7 (sD (dCall f__law_lowest (aCons (d2 fMod (d2 fIx (dV 3) (dC (.int (0)))) (dC (.int (50)))) (aCons (d2 fAdd (dC (.int (1))) (d2 fMod (d2 fIx (dV 3) (dC (.int (1)))) (dC (.int (4))))) aNil)))))
 (sSeq (sSet 8 (sD (dCall f__law_lowest (aCons (d2 fAdd (d2 fMul (d2 fIx (dV 7) (dC (.int (0)))) (d2 fIx (dV 6) (dC (.int (1))))) (d2 fMul (d2 fMul (d2 fIx (dV 6) (dC (.int (0)))) (d2 fMod (d2 fIx (dV 3) (dC (.int (2)))) (dC (.int (3))))) (d2 fIx (dV 7) (dC (.int (1)))))) (aCons (d2 fMul (d2 fIx (dV 7) (dC (.int (1)))) (d2 fIx (dV 6) (dC (.int (1))))) aNil)))))
 (sSeq (sSet 9 (sD (dN fTuple (aCons (dN fSorted (aCons (dSl (dV 2) pNone (pSome (d2 fMod (d2 fIx (dV 3) (dC (.int (3)))) (dC (.int (5)))))) aNil)) aNil))))
 (sRet (sD (dTup (aCons (dV 0) (aCons (dV 1) (aCons (dV 7) (aCons (dV 8) (aCons (d2 fAdd (dC (.int (1))) (d2 fMod (d2 fIx (dV 3) (dC (.int (4)))) (dC (.int (4))))) (aCons (dV 9) (aCons (dN fTuple (aCons (dSl (dV 2) (pSome (d2 fMod (d2 fIx (dV 3) (dC (.int (9)))) (dC (.int (3))))) pNone) aNil)) aNil)))))))))))))
 sNil)
 (sSeq (sIf (sD (tV (d2 fEq (dV 0) (dC (.str "cloth")))))
 (sSeq (sSet 10 (sD (d2 fAdd (dC (.int (1))) (d2 fMod (d2 fIx (dV 3) (dC (.int (0)))) (dC (.int (1000)))))))
 (sSeq (sSet 11 (sD (d2 fAdd (dC (.int (1))) (d2 fMod (d2 fIx (dV 3) (dC (.int (1)))) (dC (.int (1000)))))))
 (sRet (sD (dTup (aCons (dV 0) (aCons (dV 1) (aCons (dV 10) (aCons (dV 11) (aCons (d2 fMod (d2 fIx (dV 3) (dC (.int (2)))) (d2 fAdd (dN fMin2 (aCons (dV 10) (aCons (dV 11) aNil))) (dC (.int (1))))) (aCons (d2 fAdd (dC (.int (1))) (d2 fMod (d2 fIx (dV 3) (dC (.int (3)))) (dC (.int (100))))) (aCons (d2 fMod (d2 fIx (dV 3) (dC (.int (4)))) (dC (.int (1001)))) aNil))))))))))))
 sNil)
 (sSeq (sIf (sD (tV (d2 fEq (dV 0) (dC (.str "day")))))
 (sRet (sD (dTup (aCons (dV 0) (aCons (dV 1) (aCons (d2 fIx (dV 2) (dC (.int (0)))) (aCons (dV 4) (aCons (d2 fMod (d2 fIx (dV 3) (dC (.int (0)))) (dC (.int (4)))) (aCons (dN fTuple (aCons (dSl (dV 2) (pSome (dC (.int (1)))) (pSome (d2 fAdd (dC (.int (2))) (d2 fMod (d2 fIx (dV 3) (dC (.int (1)))) (dC (.int (3))))))) aNil)) aNil)))))))))
 sNil)
 (sSeq (sIf (sD (tV (d2 fEq (dV 0) (dC (.str "grant")))))
 (sRet (sD (dTup (aCons (dV 0) (aCons (dV 1) (aCons (d2 fIx (dV 2) (dC (.int (0)))) (aCons (d2 fIx (dV 2) (dC (.int (1)))) (aCons (d2 fIx (dV 2) (dC (.int (2)))) (aCons (d2 fIx (dLst (aCons (dC (.str "onward")) (aCons (dC (.str "only")) aNil))) (d2 fMod (d2 fIx (dV 3) (dC (.int (0)))) (dC (.int (2))))) (aCons (dV 4) (aCons (d2 fMod (d2 fIx (dV 3) (dC (.int (1)))) (dC (.int (100)))) aNil)))))))))))
 sNil)
 (sSeq (sIf (sD (tOr (tV (d2 fEq (dV 0) (dC (.str "hand")))) (tV (d2 fEq (dV 0) (dC (.str "table"))))))
 (sRet (sD (dTup (aCons (dV 0) (aCons (dV 1) (aCons (dV 5) (aCons (d2 fMod (d2 fIx (dV 3) (dC (.int (0)))) (dC (.int (7)))) aNil)))))))
 sNil)
 (sSeq (sIf (sD (tV (d2 fEq (dV 0) (dC (.str "master")))))
 (sRet (sD (dTup (aCons (dV 0) (aCons (dV 1) aNil)))))
 sNil)
 (sSeq (sIf (sD (tV (d2 fEq (dV 0) (dC (.str "measurer")))))
 (sRet (sD (dTup (aCons (dV 0) (aCons (dV 1) (aCons (dCall f__law_lowest (aCons (d2 fMod (d2 fIx (dV 3) (dC (.int (0)))) (dC (.int (7)))) (aCons (d2 fAdd (dC (.int (7))) (d2 fMod (d2 fIx (dV 3) (dC (.int (1)))) (dC (.int (5))))) aNil))) aNil))))))
 sNil)
 (sSeq (sIf (sD (tV (d2 fEq (dV 0) (dC (.str "order")))))
 (sSeq (sSet 12 (sD (d2 fIx (dLst (aCons (dC (.str "new")) (aCons (dC (.str "mend")) aNil))) (d2 fMod (d2 fIx (dV 3) (dC (.int (0)))) (dC (.int (2)))))))
 (sRet (sD (dTup (aCons (dV 0) (aCons (dV 1) (aCons (dV 4) (aCons (dV 12) (aCons (d2 fIx (dV 2) (dC (.int (0)))) (aCons (d2 fIx (dV 2) (dC (.int (1)))) (aCons (dV 5) (aCons (d2 fMod (d2 fIx (dV 3) (dC (.int (1)))) (dC (.int (10)))) (aCons (d2 fMod (d2 fIx (dV 3) (dC (.int (2)))) (dC (.int (10)))) (aCons (d2 fIx (dV 2) (dC (.int (2)))) aNil))))))))))))))
 sNil)
 (sRet (sD (dCall f__law_shape_row (aCons (dV 0) (aCons (dV 1) (aCons (dV 2) (aCons (dV 3) aNil))))))))))))))))))))
def f__law_row : List D → Res D := fD 4 13 b__law_row
def b__law_book : At → Out :=
 (sSeq (sSet 5 (sD (dLst aNil)))
 (sSeq (sSet 6 (sD (dCall f__law_kinds aNil)))
 (sSeq (sFor (iRange1 (dV 2)) (.nm 7)
 (sSeq (sLay 8 (sD (dLc (iRange1 (dC (.int (10)))) (.nm 10) yesT (d2 fIx (dV 0) (d2 fMod (d2 fAdd (d2 fAdd (dV 1) (d2 fMul (dC (.int (5))) (dV 7))) (dV 10)) (dN fLen (aCons (dV 0) aNil)))) [10])))
 (sSeq (sSet 9 (sD (d2 fIx (dV 6) (d2 fMod (d2 fIx (dV 4) (d2 fMod (d2 fIx (dV 8) (dC (.int (0)))) (dN fLen (aCons (dV 4) aNil)))) (dC (.int (20)))))))
 (sSet 5 (sD (dCall f__law_placed (aCons (dV 5) (aCons (dCall f__law_row (aCons (dV 9) (aCons (d2 fIx (dV 3) (d2 fMod (d2 fIx (dV 8) (dC (.int (1)))) (dN fLen (aCons (dV 3) aNil)))) (aCons (dV 3) (aCons (d2 fAdd (dSl (dV 8) (pSome (dC (.int (2)))) pNone) (dSl (dV 8) pNone (pSome (dC (.int (2)))))) aNil))))) aNil))))))))
 (sRet (sD (dV 5))))))
def f__law_book : List D → Res D := fD 5 11 b__law_book
def b__law_same (f__law_same : List D → Res D) : At → Out :=
 (sSeq (sIf (sD (tV (dIsi "tuple" (dV 1))))
 (sSeq (sIf (sD (tOr (tNot (tV (dIsi "tuple" (dV 0)))) (tV (d2 fNe (dN fLen (aCons (dV 0) aNil)) (dN fLen (aCons (dV 1) aNil))))))
 (sRet (sD (dC (.bool false))))
 sNil)
 (sRet (sD (d2 fEq (dN fLen (aCons (dFz (dLc (iRange1 (dN fLen (aCons (dV 1) aNil))) (.nm 2) (tNot (tV (dCall f__law_same (aCons (d2 fIx (dV 0) (dV 2)) (aCons (d2 fIx (dV 1) (dV 2)) aNil))))) (dV 2) [2])) aNil)) (dC (.int (0)))))))
 sNil)
 (sSeq (sIf (sD (tOr (tV (dIsi "bool" (dV 1))) (tV (dIsi "bool" (dV 0)))))
 (sRet (sD (dAnd (dIsi "bool" (dV 0)) (dAnd (dIsi "bool" (dV 1)) (d2 fEq (dV 0) (dV 1))))))
 sNil)
 (sSeq (sIf (sD (tV (dIsi "str" (dV 1))))
 (sRet (sD (dAnd (dIsi "str" (dV 0)) (d2 fEq (dV 0) (dV 1)))))
 sNil)
 (sSeq (sIf (sD (tV (d2 fIs (dV 1) (dC .none))))
 (sRet (sD (d2 fIs (dV 0) (dC .none))))
 sNil)
 (sRet (sD (dAnd (dIsi "int" (dV 0)) (d2 fEq (dV 0) (dV 1)))))))))
def F__law_same : Nat → List D → Res D
  | 0 => fun _ => .no
  | n + 1 => fD 2 3 (b__law_same (F__law_same n))
def f__law_same : List D → Res D := F__law_same 12
def b_row_key : At → Out :=
 (sRet (sD (dTup (aCons (d2 fIx (dV 0) (dC (.int (0)))) (aCons (d2 fIx (dV 0) (dC (.int (1)))) aNil)))))
def f_row_key : List D → Res D := fD 1 1 b_row_key
def b_find_row : At → Out :=
 (sSeq (sFor (iSeq (dV 0)) (.nm 3)
 (sIf (sD (tAnd (tV (d2 fEq (d2 fIx (dV 3) (dC (.int (0)))) (dV 1))) (tV (d2 fEq (d2 fIx (dV 3) (dC (.int (1)))) (dV 2)))))
 (sRet (sD (dV 3)))
 sNil))
 (fun _ => .no))
def f_find_row : List D → Res D := fD 3 4 b_find_row
def b_has_row : At → Out :=
 (sSeq (sFor (iSeq (dV 0)) (.nm 3)
 (sIf (sD (tAnd (tV (d2 fEq (d2 fIx (dV 3) (dC (.int (0)))) (dV 1))) (tV (d2 fEq (d2 fIx (dV 3) (dC (.int (1)))) (dV 2)))))
 (sRet (sD (dC (.bool true))))
 sNil))
 (sRet (sD (dC (.bool false)))))
def f_has_row : List D → Res D := fD 3 4 b_has_row
def b_kind_rows : At → Out :=
 (sRet (sD (dN fTuple (aCons (dFz (dLc (iSeq (dV 0)) (.nm 2) (tV (d2 fEq (d2 fIx (dV 2) (dC (.int (0)))) (dV 1))) (dV 2) [2])) aNil))))
def f_kind_rows : List D → Res D := fD 2 3 b_kind_rows
def b__law_name : At → Out :=
 (sSeq (sSet 1 (sD (dC (.str "abcdefghijklmnopqrstuvwxyz"))))
 (sRet (sD (d2 fAdd (d2 fIx (dV 1) (d2 fMod (dV 0) (dC (.int (26))))) (d2 fIx (dLst (aCons (dC (.str "")) (aCons (dC (.str "x")) (aCons (dC (.str "7")) (aCons (dC (.str "q0")) aNil))))) (d2 fMod (d2 fDiv (dV 0) (dC (.int (26)))) (dC (.int (4)))))))))
def f__law_name : List D → Res D := fD 1 2 b__law_name
def b__law_names : At → Out :=
 (sRet (sD (dFz (dLc (iRange1 (dC (.int (6)))) (.nm 1) yesT (d2 fAdd (dCall f__law_name (aCons (d2 fIx (dV 0) (dV 1)) aNil)) (d2 fIx (dC (.str "pqrstu")) (dV 1))) [1]))))
def f__law_names : List D → Res D := fD 1 2 b__law_names
def b__law_numbers : At → Out :=
 (sSeq (sOwn 2 (sD (dLc (iSeq (dSl (dV 0) pNone (pSome (dC (.int (63)))))) (.nm 9) yesT (dN fInt (aCons (dV 9) aNil)) [9])))
 (sSeq (sIf (sBt (tV (d2 fEq (dN fLen (aCons (dV 2) aNil)) (dC (.int (0))))))
 (sOwn 2 (sD (fLst (aCons (dC (.int (0))) aNil))))
 sNil)
 (sSeq (sSet 3 (sB (dN fLen (aCons (dV 2) aNil))))
 (sSeq (sLay 4 (sBf (dLc (iSeq (dV 2)) (.nm 9) yesT (d2 fGe (dV 9) (d2 fPow (dC (.int (10))) (dC (.int (18))))) [9])))
 (sSeq (sOwn 5 (sD (fLst aNil)))
 (sSeq (sFor (iRange1 (dV 1)) (.nm 6)
 (sSeq (sSet 7 (sD (d2 fMod (dV 6) (dV 3))))
 (sIf (sBt (tAnd (tV (d2 fIx (dV 4) (dV 7))) (tV (d2 fGt (d2 fIx (dV 2) (dV 7)) (dC (.int (0)))))))
 (sSeq (sApp 5 (sB (d2 fMod (dN fInt (aCons (d2 fIx (dV 2) (dV 7)) aNil)) (dC (.int (5040))))))
 (sSetI 2 (sD (dV 7)) (sB (d2 fDiv (d2 fIx (dV 2) (dV 7)) (dC (.int (5040)))))))
 (sSeq (sSet 8 (sB (d2 fMod (d2 fMul (d2 fAdd (d2 fAdd (d2 fMod (dN fInt (aCons (d2 fIx (dV 2) (dV 7)) aNil)) (dC (.int (1000003)))) (d2 fMul (dC (.int (17))) (dV 6))) (dC (.int (1)))) (dC (.int (48271)))) (dC (.int (2147483647))))))
 (sSeq (sSet 8 (sD (d2 fMod (d2 fMul (dN fInt (aCons (d2 fAdd (d2 fAdd (dV 8) (d2 fMul (d2 fMul (dV 6) (dV 6)) (dC (.int (7))))) (dC (.int (3)))) aNil)) (dC (.int (69621)))) (dC (.int (1000003))))))
 (sApp 5 (sD (d2 fMod (d2 fDiv (dV 8) (dC (.int (7)))) (dC (.int (5040)))))))))))
 (fun α => (sRet (sD (dV 5))) (frzA 5 α))))))))
def f__law_numbers : List D → Res D := fD 2 10 b__law_numbers
end Cm

/-! PL1: how the readings answer: the rules by which they are reckoned. -/
namespace DL
open PySem PySem.Spec PyProof.Rows L2
section
variable (β : Bt) (α : At) (f : D → D → Option D) (a b : Bt → Res D) (i : Nat) (d : D)
@[simp] theorem dC_ap : dC d β = .ok d := nr rfl
theorem dV_ap : dV i β = match β[i]? with | some (some d) => .ok d | _ => .no := rfl
@[simp] theorem dV_z (x : D) : dV 0 (some x :: β) = .ok x := nr rfl
@[simp] theorem dV_s (x : Option D) (i : Nat) : dV (i + 1) (x :: β) = dV i β := nr rfl
@[simp] theorem d2_ap : d2 f a b β = (a β).bind fun x => (b β).bind fun y => Res.of (f x y) := nr rfl
@[simp] theorem d1_ap (f : D → Option D) : d1 f a β = (a β).bind fun x => Res.of (f x) := nr rfl
@[simp] theorem aNil_ap : aNil β = .ok [] := nr rfl
@[simp] theorem aCons_ap (r : Bt → Res (List D)) : aCons a r β = (a β).bind fun x => (r β).bind fun xs => .ok (x :: xs) := nr rfl
@[simp] theorem dN_ap (f : List D → Option D) (r : Bt → Res (List D)) : dN f r β = (r β).bind fun xs => Res.of (f xs) := nr rfl
@[simp] theorem dTup_ap (r : Bt → Res (List D)) : dTup r β = (r β).bind fun xs => if xs.length ≤ sizeLine then .ok (.tuple xs) else .no := nr rfl
@[simp] theorem dLst_ap (r : Bt → Res (List D)) : dLst r β = (r β).bind fun xs => if xs.length ≤ sizeLine then .ok (.list xs) else .no := nr rfl
@[simp] theorem fLst_ap (r : Bt → Res (List D)) : fLst r β = (r β).bind fun xs => if xs.length ≤ sizeLine then .ok xs else .no := nr rfl
@[simp] theorem dCall_ap (g : List D → Res D) (r : Bt → Res (List D)) : dCall g r β = (r β).bind g := nr rfl
@[simp] theorem tV_ap : tV a β = (a β).bind fun x => Res.of (asB x) := nr rfl
@[simp] theorem tNot_ap (a : Bt → Res Bool) : tNot a β = (a β).bind fun x => .ok (!x) := nr rfl
@[simp] theorem tAnd_ap (a b : Bt → Res Bool) : tAnd a b β = (a β).bind fun x => if x = true then b β else .ok false := nr rfl
@[simp] theorem tOr_ap (a b : Bt → Res Bool) : tOr a b β = (a β).bind fun x => if x = true then .ok true else b β := nr rfl
@[simp] theorem dNot_ap : dNot a β = (a β).bind fun x => (Res.of (asB x)).bind fun x => .ok (.bool !x) := nr rfl
@[simp] theorem dAnd_ap : dAnd a b β = (a β).bind fun x => (Res.of (asB x)).bind fun x => if x = true then b β else .ok (.bool false) := nr rfl
@[simp] theorem dOr_ap : dOr a b β = (a β).bind fun x => (Res.of (asB x)).bind fun x => if x = true then .ok (.bool true) else b β := nr rfl
@[simp] theorem dIf_ap (t : Bt → Res Bool) : dIf t a b β = (t β).bind fun x => if x = true then a β else b β := nr rfl
@[simp] theorem asB_ap (x : Bool) : asB (.bool x) = some x := nr rfl
@[simp] theorem pNone_ap : pNone β = .ok none := nr rfl
@[simp] theorem pSome_ap : pSome a β = (a β).bind fun x => (Res.of (asI x)).bind fun i => .ok (some i) := nr rfl
@[simp] theorem asI_ap (x : Int) : asI (.int x) = some x := nr rfl
@[simp] theorem dSl_ap (l h : Bt → Res (Option Int)) : dSl a l h β = (a β).bind fun x => (l β).bind fun lo => (h β).bind fun hi => Res.of (fSl x lo hi) := nr rfl
@[simp] theorem iSeq_ap : iSeq a β = (a β).bind fun x => Res.of (itemsOf x) := nr rfl
@[simp] theorem iSq_list (xs : List D) (h : a β = .ok (.list xs)) : iSq a β = .ok xs := by unfold iSq; rw [h]; rfl
@[simp] theorem items_l (xs : List D) : itemsOf (.list xs) = some xs := nr rfl
@[simp] theorem items_t (xs : List D) : itemsOf (.tuple xs) = some xs := nr rfl
@[simp] theorem dFz_ap (r : Bt → Res (List D)) : dFz r β = (r β).bind fun ds => .ok (.list ds) := nr rfl
@[simp] theorem dLc_ap (it : Bt → Res (List D)) (tg : Tgt) (t : Bt → Res Bool) (e : Bt → Res D) (vs : List Nat) : dLc it tg t e vs β = (it β).bind fun ds => if ds.length ≤ sizeLine then lcD (cmD tg t e (wipeB β vs)) ds else .no := nr rfl
@[simp] theorem yesT_ap : yesT β = .ok true := nr rfl
@[simp] theorem Res.of_ite {α : Type} (c : Prop) [Decidable c] (x y : Option α) : Res.of (if c then x else y) = if c then Res.of x else Res.of y := by split <;> rfl
@[simp] theorem dats_nil : dats [] = [] := nr rfl
@[simp] theorem dats_cons (v : AV) : dats (v :: α) = v.dt :: dats α := nr rfl
@[simp] theorem view_nil : view [] = [] := nr rfl
@[simp] theorem view_cons (v : AV) : view (v :: α) = v.vw :: view α := nr rfl
@[simp] theorem dt_d : (AV.dat d).dt = some d := nr rfl
@[simp] theorem dt_u : AV.un.dt = none := nr rfl
@[simp] theorem dt_o (ds : List D) : (AV.own ds).dt = none := nr rfl
@[simp] theorem vw_d : (AV.dat d).vw = some d := nr rfl
@[simp] theorem vw_u : AV.un.vw = none := nr rfl
@[simp] theorem vw_o (ds : List D) : (AV.own ds).vw = some (.list ds) := nr rfl
@[simp] theorem sD_ap {γ : Type} (x : Bt → Res γ) : sD x α = x (dats α) := nr rfl
@[simp] theorem sB_ap : sB a α = bor noL (a (view α)) := nr rfl
@[simp] theorem sBt_ap (a : Bt → Res Bool) : sBt a α = bor (fun _ => true) (a (view α)) := nr rfl
@[simp] theorem sBf_ap (a : Bt → Res (List D)) : sBf a α = bor noLs (a (view α)) := nr rfl
@[simp] theorem bor_ok {γ : Type} (k : γ → Bool) (x : γ) : bor k (.ok x) = if k x = true then .ok x else .no := nr rfl
@[simp] theorem noL_int (x : Int) : noL (.int x) = true := nr rfl
@[simp] theorem noL_bool (x : Bool) : noL (.bool x) = true := nr rfl
@[simp] theorem noL_str (x : Str) : noL (.str x) = true := nr rfl
@[simp] theorem noL_none : noL .none = true := nr rfl
@[simp] theorem noL_tup (xs : List D) : noL (.tuple xs) = noLs xs := nr rfl
@[simp] theorem noLs_nil : noLs [] = true := nr rfl
@[simp] theorem noLs_cons (x : D) (xs : List D) : noLs (x :: xs) = (noL x && noLs xs) := nr rfl
@[simp] theorem ofR_ok {γ : Type} (x : γ) (k : γ → Out) : ofR (.ok x) α k = k x := nr rfl
@[simp] theorem sSet_ap (x : At → Res D) : sSet i x α = ofR (x α) α fun x => .nx (α.set i (.dat x)) := nr rfl
@[simp] theorem sOwn_ap (x : At → Res (List D)) : sOwn i x α = ofR (x α) α fun x => .nx (α.set i (.own x)) := nr rfl
@[simp] theorem sLay_ap (x : At → Res (List D)) : sLay i x α = ofR (x α) α fun x => .nx (α.set i (.dat (.list x))) := nr rfl
@[simp] theorem sRet_ap (x : At → Res D) : sRet x α = ofR (x α) α fun x => .rt x := nr rfl
@[simp] theorem sDrop_ap (x : At → Res D) : sDrop x α = ofR (x α) α fun x => .nx α := nr rfl
@[simp] theorem sNil_ap : sNil α = .nx α := nr rfl
theorem sIf_ap (t : At → Res Bool) (x y : At → Out) : sIf t x y α = ofR (t α) α fun c => if c = true then x α else y α := rfl
theorem sFor_ap (it : Bt → Res (List D)) (tg : Tgt) (x : At → Out) : sFor it tg x α = ofR (it (dats α)) α fun ds => forD tg x ds α := rfl
@[simp] theorem sApp_ap (x : At → Res D) : sApp i x α = ownAt i α fun ds => ofR (x α) α fun x => if ds.length < sizeLine then .nx (α.set i (.own (ds ++ [x]))) else .no := nr rfl
@[simp] theorem ownAt_z (ds : List D) (k : List D → Out) : ownAt 0 (.own ds :: α) k = k ds := nr rfl
@[simp] theorem ownAt_s (v : AV) (k : List D → Out) : ownAt (i + 1) (v :: α) k = ownAt i α k := nr rfl
end
/-- one after the other -/
def Out.andThen (o : Out) (b : At → Out) : Out := match o with
  | .nx α => b α
  | o => o
theorem sSeq_ap (a b : At → Out) (α : At) : sSeq a b α = (a α).andThen b := rfl
@[simp] theorem then_nx (b : At → Out) (α : At) : (Out.nx α).andThen b = b α := nr rfl
@[simp] theorem then_rt (b : At → Out) (d : D) : (Out.rt d).andThen b = .rt d := nr rfl
@[simp] theorem then_no (b : At → Out) : Out.no.andThen b = .no := nr rfl
@[simp] theorem then_bk (b : At → Out) (α : At) : (Out.bk α).andThen b = .bk α := nr rfl
@[simp] theorem then_ct (b : At → Out) (α : At) : (Out.ct α).andThen b = .ct α := nr rfl
@[simp] theorem then_er (b : At → Out) (e : Er) (α : At) : (Out.er e α).andThen b = .er e α := nr rfl
def Out.fin : Out → Res D
  | .rt d => .ok d
  | .nx _ => .ok .none
  | .er e _ => .er e
  | _ => .no
@[simp] theorem fin_rt (d : D) : (Out.rt d).fin = .ok d := nr rfl
@[simp] theorem fin_nx (α : At) : (Out.nx α).fin = .ok .none := nr rfl
@[simp] theorem fin_er (e : Er) (α : At) : (Out.er e α).fin = .er e := nr rfl
theorem fD_ap {n N : Nat} {b : At → Out} {ds : List D} (h : ds.length = n) : fD n N b ds = (b (ds.map AV.dat ++ List.replicate (N - n) AV.un)).fin := by
  unfold fD
  rw [if_pos h]
  rfl
@[simp] theorem forD_nil (tg : Tgt) (b : At → Out) (α : At) : forD tg b [] α = .nx α := nr rfl
@[simp] theorem setTA_nm (i : Nat) (d : D) (α : At) : setTA (.nm i) d α = some (α.set i (.dat d)) := nr rfl
@[simp] theorem setT_nm (i : Nat) (d : D) (β : Bt) : setT (.nm i) d β = some (β.set i (some d)) := nr rfl
theorem forD_nx {tg : Tgt} {b : At → Out} {d : D} {ds : List D} {α α1 α2 : At} (h1 : setTA tg d α = some α1) (h2 : b α1 = .nx α2) : forD tg b (d :: ds) α = forD tg b ds α2 := by
  rw [forD, h1]
  simp only [h2]
theorem forD_rt {tg : Tgt} {b : At → Out} {d x : D} {ds : List D} {α α1 : At} (h1 : setTA tg d α = some α1) (h2 : b α1 = .rt x) : forD tg b (d :: ds) α = .rt x := by
  rw [forD, h1]
  simp only [h2]
/-- a loop with an invariant that runs through -/
theorem forD_inv {tg : Tgt} {b : At → Out} (I : List D → At → Prop) (step : ∀ d ds α, I (d :: ds) α → ∃ α1, setTA tg d α = some α1 ∧ ∃ α2, b α1 = .nx α2 ∧ I ds α2) : ∀ ds α, I ds α → ∃ α', forD tg b ds α = .nx α' ∧ I [] α'
  | [], α, h => ⟨α, rfl, h⟩
  | d :: ds, α, h => by
    obtain ⟨α1, h1, α2, h2, h3⟩ := step d ds α h
    rw [forD_nx h1 h2]
    exact forD_inv I step ds α2 h3
/-- a comprehension over what each item gives -/
theorem lcD_map {f : D → Res (Option D)} {g : D → Option D} : ∀ {ds : List D}, (∀ d ∈ ds, f d = .ok (g d)) → lcD f ds = .ok (ds.filterMap g)
  | [], _ => rfl
  | d :: ds, h => by
    unfold lcD
    rw [h d (List.mem_cons_self ..), lcD_map fun x hx => h x (List.mem_cons_of_mem _ hx)]
    cases e : g d <;> simp [e]
theorem lcD_enc {γ : Type} {f : D → Res (Option D)} (enc : γ → D) (g : γ → Option D) : ∀ {xs : List γ}, (∀ x ∈ xs, f (enc x) = .ok (g x)) → lcD f (xs.map enc) = .ok (xs.filterMap g)
  | [], _ => rfl
  | x :: xs, h => by
    rw [List.map_cons]
    unfold lcD
    rw [h x (List.mem_cons_self ..), lcD_enc enc g fun y hy => h y (List.mem_cons_of_mem _ hy)]
    cases e : g x <;> simp [e]
/-- .. when each gives one -/
theorem lcD_all {γ : Type} {f : D → Res (Option D)} (enc : γ → D) (g : γ → D) {xs : List γ} (h : ∀ x ∈ xs, f (enc x) = .ok (some (g x))) : lcD f (xs.map enc) = .ok (xs.map g) := by
  rw [lcD_enc enc (fun x => some (g x)) h]
  congr 1
  induction xs with
  | nil => rfl
  | cons x xs ih => simp
/-- .. when it sieves -/
theorem lcD_sieve {f : D → Res (Option D)} (p : D → Bool) {ds : List D} (h : ∀ d ∈ ds, f d = .ok (if p d = true then some d else none)) : lcD f ds = .ok (ds.filter p) := by
  rw [lcD_map h]
  congr 1
  induction ds with
  | nil => rfl
  | cons x xs ih =>
    have ih := ih fun d hd => h d (List.mem_cons_of_mem _ hd)
    by_cases q : p x = true <;> simp_all
theorem cmD_nm {i : Nat} {t : Bt → Res Bool} {e : Bt → Res D} {β : Bt} {d : D} {c : Bool} (h : t (β.set i (some d)) = .ok c) : cmD (.nm i) t e β d = if c = true then noEr ((e (β.set i (some d))).bind fun y => .ok (some y)) else .ok none := by
  unfold cmD
  simp only [setT_nm, h, Res.bind_ok]
  cases c <;> rfl
@[simp] theorem noEr_ok {α : Type} (x : α) : noEr (.ok x) = .ok x := nr rfl
@[simp] theorem wipeB_nil (β : Bt) : wipeB β [] = β := nr rfl
@[simp] theorem wipeB_cons (β : Bt) (v : Nat) (vs : List Nat) : wipeB β (v :: vs) = (wipeB β vs).set v none := nr rfl
theorem rangeL_eq (n : Nat) : rangeL 0 n = (List.range n).map fun i : Nat => PyData.int i := by
  unfold rangeL
  simp
theorem inR_small {i : Int} (h1 : -4611686018427387904 ≤ i) (h2 : i < 4611686018427387904) : inR i = true := by
  unfold inR
  simp only [Bool.and_eq_true, decide_eq_true_eq]
  omega
@[simp] theorem le_size {n : Nat} (h : n < 16777217) : (n ≤ sizeLine) = True := eq_true (by rw [PySem.sizeLine_eq]; omega)
@[simp] theorem lt_size {n : Nat} (h : n < 16777216) : (n < sizeLine) = True := eq_true (by rw [PySem.sizeLine_eq]; omega)
/-! ### what holds behind a statement -/
inductive ON (P : At → Prop) (R : D → Prop) : Out → Prop
  | nx (α : At) (h : P α) : ON P R (.nx α)
  | rt (d : D) (h : R d) : ON P R (.rt d)
def Sat (P : D → Prop) (r : Res D) : Prop := ∃ d, r = .ok d ∧ P d
section
variable {P : At → Prop} {R : D → Prop} {α : At}
@[simp] theorem ON_nx : ON P R (.nx α) = P α := propext ⟨fun h => by cases h; assumption, .nx α⟩
@[simp] theorem ON_rt (d : D) : ON P R (.rt d) = R d := propext ⟨fun h => by cases h; assumption, .rt d⟩
theorem ON.imp {P' : At → Prop} {R' : D → Prop} {o : Out} (h : ON P R o) (i : ∀ α, P α → P' α) (j : ∀ d, R d → R' d) : ON P' R' o := by
  cases h with
  | nx α h => exact .nx _ (i _ h)
  | rt d h => exact .rt _ (j _ h)
theorem ON.seq {a b : At → Out} (h : ON (fun α' => ON P R (b α')) R (a α)) : ON P R (sSeq a b α) := by
  rw [sSeq_ap]
  generalize a α = o at h
  cases h with
  | nx α' h => exact h
  | rt d h => exact .rt _ h
theorem ON.iff {t : At → Res Bool} {a b : At → Out} {c : Bool} (h : t α = .ok c) (h1 : c = true → ON P R (a α)) (h2 : c = false → ON P R (b α)) : ON P R (sIf t a b α) := by
  rw [sIf_ap, h, ofR_ok]
  cases c with
  | true => exact h1 rfl
  | false => exact h2 rfl
theorem ON.for_ {it : Bt → Res (List D)} {tg : Tgt} {b : At → Out} {ds : List D} (I : List D → At → Prop) (hi : it (dats α) = .ok ds) (h0 : I ds α) (step : ∀ d ds α, I (d :: ds) α → ∃ α1, setTA tg d α = some α1 ∧ ON (I ds) R (b α1)) (hd : ∀ α, I [] α → P α) : ON P R (sFor it tg b α) := by
  rw [sFor_ap, hi, ofR_ok]
  clear hi
  induction ds generalizing α with
  | nil => exact .nx _ (hd _ h0)
  | cons d ds ih =>
    obtain ⟨α1, h1, h2⟩ := step d ds α h0
    generalize e : b α1 = o at h2
    cases h2 with
    | nx α2 h =>
      rw [forD_nx h1 e]
      exact ih h
    | rt x h =>
      rw [forD_rt h1 e]
      exact .rt _ h
theorem Sat.eq {r : Res D} {v : D} (h : Sat (fun d => d = v) r) : r = .ok v := by
  obtain ⟨d, rfl, rfl⟩ := h
  rfl
theorem Sat.fD {n N : Nat} {b : At → Out} {ds : List D} (h : ds.length = n) (k : ON (fun _ => R .none) R (b (ds.map AV.dat ++ List.replicate (N - n) AV.un))) : Sat R (DL.fD n N b ds) := by
  rw [fD_ap h]
  generalize b (ds.map AV.dat ++ List.replicate (N - n) AV.un) = o at k
  cases k with
  | nx α k => exact ⟨_, rfl, k⟩
  | rt d k => exact ⟨_, rfl, k⟩
end
theorem atI_lt {α : Type} (xs : List α) (i : Nat) (h : i < xs.length) : atI xs (i : Int) = some xs[i] := L2.atI_nat (List.getElem?_eq_getElem h)
theorem atI_int {α : Type} (xs : List α) {i : Int} (h0 : 0 ≤ i) (h : i < xs.length) : atI xs i = some (xs[i.toNat]'(by omega)) := by
  have e : ((i.toNat : Nat) : Int) = i := by omega
  have := atI_lt xs i.toNat (by omega)
  rw [e] at this
  exact this
theorem atI_map {γ : Type} (f : γ → D) (xs : List γ) {i : Int} (h0 : 0 ≤ i) (h : i < xs.length) : atI (xs.map f) i = some (f (xs[i.toNat]'(by omega))) := by
  rw [atI_int (xs.map f) h0 (by simpa using h), List.getElem_map]
@[simp] theorem sSetI_ap (i : Nat) (dk d : At → Res D) (α : At) : sSetI i dk d α = ofR (d α) α fun v => ownAt i α fun _ => ofR (dk α) α fun k => ownAt i α fun ds => (match k with
  | .int k => (match ixN ds.length k with
    | some j => .nx (α.set i (.own (ds.set j v)))
    | none => .no)
  | _ => .no) := nr rfl
theorem ixN_int {n : Nat} {i : Int} (h0 : 0 ≤ i) (h : i < n) : ixN n i = some i.toNat := by
  unfold ixN
  rw [if_pos h0, if_pos h]
end DL

/-! PL2: numbers: operators, numbers in lowest terms. -/
namespace DL
open PySem L2
theorem fMod_pos {i k : Int} (h : 0 < k) : fMod (.int i) (.int k) = some (.int (i % k)) := by
  rw [← Int.fmod_eq_emod_of_nonneg _ (by omega)]
  exact if_pos (by omega)
theorem fDiv_pos {i k : Int} (h : 0 < k) (h2 : k < 1073741824) : fDiv (.int i) (.int k) = some (.int (i / k)) := by
  rw [← Int.fdiv_eq_ediv_of_nonneg _ (by omega)]
  refine if_pos ?_
  unfold divOk
  simp only [Bool.or_eq_true, Bool.and_eq_true, decide_eq_true_eq]
  left
  omega
theorem fMul_sm {i k : Int} (h : -18446744073709551616 < k) (h2 : k < 18446744073709551616) : fMul (.int i) (.int k) = some (.int (i * k)) := by
  unfold fMul mulOk small64
  have e : (decide (-(2 ^ 64) < k) && decide (k < 2 ^ 64)) = true := by
    simp only [Bool.and_eq_true, decide_eq_true_eq]
    omega
  simp only [e, Bool.true_or, Bool.or_true, if_pos]
theorem fMul_sm' {i k : Int} (h : -18446744073709551616 < i) (h2 : i < 18446744073709551616) : fMul (.int i) (.int k) = some (.int (i * k)) := by
  unfold fMul mulOk small64
  have e : (decide (-(2 ^ 64) < i) && decide (i < 2 ^ 64)) = true := by
    simp only [Bool.and_eq_true, decide_eq_true_eq]
    omega
  simp only [e, Bool.true_or, if_pos]
@[simp] theorem fAdd_int (i j : Int) : fAdd (.int i) (.int j) = some (.int (i + j)) := nr rfl
@[simp] theorem fSub_int (i j : Int) : fSub (.int i) (.int j) = some (.int (i - j)) := nr rfl
@[simp] theorem fNeg_int (i : Int) : fNeg (.int i) = some (.int (-i)) := nr rfl
@[simp] theorem fEq_int (i j : Int) : fEq (.int i) (.int j) = some (.bool (i == j)) := nr rfl
@[simp] theorem fNe_int (i j : Int) : fNe (.int i) (.int j) = some (.bool !(i == j)) := nr rfl
@[simp] theorem fEq_str (i j : Str) : fEq (.str i) (.str j) = some (.bool (i == j)) := nr rfl
@[simp] theorem fNe_str (i j : Str) : fNe (.str i) (.str j) = some (.bool !(i == j)) := nr rfl
@[simp] theorem fEq_bool (i j : Bool) : fEq (.bool i) (.bool j) = some (.bool (i == j)) := nr rfl
@[simp] theorem fLt_int (i j : Int) : fLt (.int i) (.int j) = some (.bool (decide (i < j))) := nr rfl
def sl (a b : Str) : Bool := decide (a.cps.toList < b.cps.toList)
@[simp] theorem fLt_str (i j : Str) : fLt (.str i) (.str j) = some (.bool (sl i j)) := nr rfl
@[simp] theorem fLe_int (f : Int → Int → Bool) (i j : Int) : fCmp f (.int i) (.int j) = some (.bool (f i j)) := nr rfl
@[simp] theorem fAbs_int (i : Int) : fAbs [.int i] = some (.int (if i < 0 then -i else i)) := nr rfl
@[simp] theorem fInt_int (i : Int) : fInt [.int i] = some (.int i) := nr rfl
@[simp] theorem fInt_bool (k : Bool) : fInt [.bool k] = some (.int (if k then 1 else 0)) := nr rfl
@[simp] theorem fLen_l (xs : List D) : fLen [.list xs] = some (.int xs.length) := nr rfl
@[simp] theorem fLen_t (xs : List D) : fLen [.tuple xs] = some (.int xs.length) := nr rfl
@[simp] theorem fTuple_l (xs : List D) : fTuple [.list xs] = some (.tuple xs) := nr rfl
@[simp] theorem fTuple_t (xs : List D) : fTuple [.tuple xs] = some (.tuple xs) := nr rfl
@[simp] theorem fMin2_int (i j : Int) : fMin2 [.int i, .int j] = some (.int (if j < i then j else i)) := nr rfl
@[simp] theorem fMax2_int (i j : Int) : fMax2 [.int i, .int j] = some (.int (if j > i then j else i)) := nr rfl
@[simp] theorem fRevA_l (xs : List D) : fRevA (.list xs) = some (.list xs.reverse) := nr rfl
@[simp] theorem fRevA_t (xs : List D) : fRevA (.tuple xs) = some (.tuple xs.reverse) := nr rfl
theorem fAdd_l (xs ys : List D) (h : xs.length + ys.length ≤ sizeLine) : fAdd (.list xs) (.list ys) = some (.list (xs ++ ys)) := if_pos h
theorem fAdd_t (xs ys : List D) (h : xs.length + ys.length ≤ sizeLine) : fAdd (.tuple xs) (.tuple ys) = some (.tuple (xs ++ ys)) := if_pos h
theorem fAdd_s (x y : Str) (h : x.length + y.length ≤ sizeLine) : fAdd (.str x) (.str y) = some (.str (x ++ y)) := if_pos h
@[simp] theorem fIx_l (xs : List D) (i : Int) : fIx (.list xs) (.int i) = atI xs i := nr rfl
@[simp] theorem fIx_t (xs : List D) (i : Int) : fIx (.tuple xs) (.int i) = atI xs i := nr rfl
@[simp] theorem atI_z (x : D) (xs : List D) : atI (x :: xs) 0 = some x := by
  have := L2.atI_nat (xs := x :: xs) (j := 0) (v := x) rfl
  simpa using this
/-- places told by a number that is written -/
theorem atI_lit {α : Type} (xs : List α) (i : Nat) (x : α) (h : xs[i]? = some x) : atI xs (OfNat.ofNat i : Int) = some x := L2.atI_nat h
theorem iRange1_ap {a : Bt → Res D} {β : Bt} {n : Int} (h : a β = .ok (.int n)) (h1 : -4611686018427387904 ≤ n) (h2 : n < 4611686018427387904) : iRange1 a β = .ok (rangeL 0 n.toNat) := by
  unfold iRange1
  rw [h]
  exact if_pos (inR_small h1 h2)
end DL
namespace Cm
open PySem L2 DL
def euc : Nat → Nat → Nat → Nat × Nat
  | 0, a, b => (a, b)
  | n + 1, a, b => if b ≠ 0 then euc n b (a % b) else euc n a b
theorem euc_z : ∀ (n a : Nat), euc n a 0 = (a, 0)
  | 0, _ => rfl
  | n + 1, a => by simp [euc, euc_z n a]
theorem euc_gcd : ∀ (n a b : Nat), (b < 2 ^ (n / 2)) → euc n a b = (Nat.gcd a b, 0)
  | 0, a, b, h => by
    have : b = 0 := by simp at h; omega
    subst this
    simp [euc]
  | 1, a, b, h => by
    have : b = 0 := by simp at h; omega
    subst this
    simp [euc]
  | n + 2, a, b, h => by
    by_cases hb : b = 0
    · subst hb
      rw [euc_z]; simp
    · rw [euc, if_pos hb, euc]
      by_cases hc : a % b = 0
      · rw [if_neg (by simpa using hc), hc, euc_z, ← Nat.gcd_comm, Nat.gcd_rec, hc]; simp
      · rw [if_pos hc, euc_gcd n (a % b) (b % (a % b)) ?_]
        · rw [Nat.gcd_comm (a % b), ← Nat.gcd_rec, ← Nat.gcd_rec, Nat.gcd_comm]
        · have h1 : a % b < b := Nat.mod_lt _ (by omega)
          have h2 : b % (a % b) < a % b := Nat.mod_lt _ (by omega)
          have h3 : b = (a % b) * (b / (a % b)) + b % (a % b) := (Nat.div_add_mod _ _).symm
          have h4 : 0 < b / (a % b) := Nat.div_pos (by omega) (by omega)
          have h5 : a % b ≤ (a % b) * (b / (a % b)) := Nat.le_mul_of_pos_right _ h4
          have e : (n + 2) / 2 = n / 2 + 1 := by omega
          rw [e, Nat.pow_succ] at h
          omega
theorem low_loop : ∀ (ds : List D) (n d : D) (a b : Nat) (u v : AV), ∃ u' v', forD (.nm 4)
 (sIf (sD (tV (d2 fNe (dV 3) (dC (.int (0))))))
 (sSeq (sSet 5 (sD (d2 fMod (dN fInt (aCons (dV 2) aNil)) (dV 3))))
 (sSeq (sSet 2 (sD (dV 3)))
 (sSet 3 (sD (dV 5)))))
 sNil) ds [.dat n, .dat d, .dat (.int a), .dat (.int b), u, v] = .nx [.dat n, .dat d, .dat (.int (euc ds.length a b).1), .dat (.int (euc ds.length a b).2), u', v']
  | [], n, d, a, b, u, v => ⟨u, v, rfl⟩
  | x :: ds, n, d, a, b, u, v => by
    by_cases hb : b = 0
    · subst hb
      obtain ⟨u', v', h⟩ := low_loop ds n d a 0 (.dat x) v
      refine ⟨u', v', ?_⟩
      rw [forD_nx (α2 := [.dat n, .dat d, .dat (.int a), .dat (.int (0 : Nat)), .dat x, v]) rfl (by simp [sIf_ap, sSeq_ap]), h]
      simp [euc]
    · obtain ⟨u', v', h⟩ := low_loop ds n d b (a % b) (.dat x) (.dat (.int (a % b : Nat)))
      refine ⟨u', v', ?_⟩
      rw [forD_nx (α2 := [.dat n, .dat d, .dat (.int b), .dat (.int (a % b : Nat)), .dat x, .dat (.int (a % b : Nat))]) rfl (by
        have h0 : (b : Int) ≠ 0 := by omega
        have h1 : fMod (.int a) (.int b) = some (.int ((a % b : Nat) : Int)) := by rw [fMod_pos (by omega)]; rfl
        simp [h0, h1, hb, sIf_ap, sSeq_ap]), h]
      simp [euc, hb]
theorem low_eq {n d : Int} (h : 0 < d) (h2 : d < 1073741824) : f__law_lowest [.int n, .int d] = .ok (.tuple [.int (n / (Int.gcd n d : Nat)), .int (d / (Int.gcd n d : Nat))]) := by
  unfold f__law_lowest
  rw [fD_ap (by rfl)]
  obtain ⟨u', v', hl⟩ := low_loop (rangeL 0 200) (.int n) (.int d) n.natAbs d.natAbs .un .un
  have e1 : (if n < 0 then -n else n) = (n.natAbs : Int) := by omega
  have e2 : d = (d.natAbs : Int) := by omega
  have e3 : euc (rangeL 0 200).length n.natAbs d.natAbs = (Int.gcd n d, 0) := by
    rw [euc_gcd _ _ _ (by
      rw [rangeL_length]
      have : d.natAbs < 1073741824 := by omega
      exact Nat.lt_trans this (by decide))]
    rfl
  rw [e3] at hl
  have g0 : 0 < Int.gcd n d := Int.gcd_pos_of_ne_zero_right _ (by omega)
  have g1 : (Int.gcd n d : Int) ≤ d := by
    have := Nat.le_of_dvd (by omega) (Int.gcd_dvd_natAbs_right n d)
    omega
  rw [← e2] at hl
  have r : DL.inR 200 = true := inR_small (by decide) (by decide)
  unfold b__law_lowest
  simp [sSeq_ap, sFor_ap, iRange1, e1, r, hl, fDiv_pos (i := n) (k := (Int.gcd n d : Nat)) (by omega) (by omega), fDiv_pos (i := d) (k := (Int.gcd n d : Nat)) (by omega) (by omega)]
theorem iRangeL {a : Bt → Res D} {β : Bt} {n : Int} (h : a β = .ok (.int n)) (h1 : -4611686018427387904 ≤ n) (h2 : n < 4611686018427387904) : iRange1 a β = .ok ((List.range n.toNat).map fun i : Nat => PyData.int i) := by
  rw [iRange1_ap h h1 h2, rangeL_eq]
theorem pow18 : fPow (.int 10) (.int 18) = some (.int 1000000000000000000) := by
  unfold fPow
  simp
def NI (sc : D) (c : Nat) (L : List Bool) (rs : List Int) (z : Int) (ds : List D) (α : At) : Prop := (∀ d ∈ ds, ∃ k : Int, d = .int k ∧ 0 ≤ k ∧ k < 1000000) ∧ ∃ (xs rs' : List Int) (u v w x : AV), xs.length + ds.length = c ∧ (∀ x ∈ xs, 0 ≤ x ∧ x < 5040) ∧ rs'.length = rs.length ∧
      α = [AV.dat sc, .dat (.int c), .own (rs'.map PyData.int), .dat (.int z), .dat (.list (L.map .bool)), .own (xs.map PyData.int), u, v, w, x]
theorem numbers_loop (sc : D) (c : Nat) (hc : c < 1000000) (L : List Bool) (rs : List Int) (hL : L.length = rs.length) (h0 : 0 < rs.length) (z : Int) (hz : z = rs.length) : ON (fun _ => False) (fun d => ∃ xs : List Int, d = .list (xs.map PyData.int) ∧ xs.length = c ∧ ∀ x ∈ xs, 0 ≤ x ∧ x < 5040)
 ((sSeq (sFor (iRange1 (dV 1)) (.nm 6)
 (sSeq (sSet 7 (sD (d2 fMod (dV 6) (dV 3))))
 (sIf (sBt (tAnd (tV (d2 fIx (dV 4) (dV 7))) (tV (d2 fGt (d2 fIx (dV 2) (dV 7)) (dC (.int (0)))))))
 (sSeq (sApp 5 (sB (d2 fMod (dN fInt (aCons (d2 fIx (dV 2) (dV 7)) aNil)) (dC (.int (5040))))))
 (sSetI 2 (sD (dV 7)) (sB (d2 fDiv (d2 fIx (dV 2) (dV 7)) (dC (.int (5040)))))))
 (sSeq (sSet 8 (sB (d2 fMod (d2 fMul (d2 fAdd (d2 fAdd (d2 fMod (dN fInt (aCons (d2 fIx (dV 2) (dV 7)) aNil)) (dC (.int (1000003)))) (d2 fMul (dC (.int (17))) (dV 6))) (dC (.int (1)))) (dC (.int (48271)))) (dC (.int (2147483647))))))
 (sSeq (sSet 8 (sD (d2 fMod (d2 fMul (dN fInt (aCons (d2 fAdd (d2 fAdd (dV 8) (d2 fMul (d2 fMul (dV 6) (dV 6)) (dC (.int (7))))) (dC (.int (3)))) aNil)) (dC (.int (69621)))) (dC (.int (1000003))))))
 (sApp 5 (sD (d2 fMod (d2 fDiv (dV 8) (dC (.int (7)))) (dC (.int (5040)))))))))))
 (fun α => (sRet (sD (dV 5))) (frzA 5 α))) [AV.dat sc, .dat (.int c), .own (rs.map PyData.int), .dat (.int z), .dat (.list (L.map .bool)), .own [], .un, .un, .un, .un]) := by
  refine ON.seq (ON.imp (P := fun α => ∃ xs : List Int, xs.length = c ∧ (∀ x ∈ xs, 0 ≤ x ∧ x < 5040) ∧ α[5]? = some (.own (xs.map PyData.int))) (R := fun _ => False) ?_ ?_ (fun _ h => h.elim))
  · refine ON.for_ (NI sc c L rs z)
      (iRangeL (n := c) (by simp) (by omega) (by omega)) ?_ ?_ ?_
    · refine ⟨fun d hd => ?_, [], rs, .un, .un, .un, .un, by simp, by simp, rfl, rfl⟩
      obtain ⟨k, hk, rfl⟩ := List.mem_map.mp hd
      exact ⟨k, rfl, by omega, by simp at hk; omega⟩
    · rintro d ds α ⟨hk, xs, rs', u, v, w, x, hl, hx, hr, rfl⟩
      obtain ⟨k, rfl, hk0, hk1⟩ := hk d (List.mem_cons_self ..)
      refine ⟨_, rfl, ON.seq ?_⟩
      have m1 : fMod (.int k) (.int z) = some (.int (k % z)) := fMod_pos (by omega)
      have ht0 : 0 ≤ k % z := Int.emod_nonneg _ (by omega)
      have ht : k % z < z := Int.emod_lt_of_pos _ (by omega)
      have hk' : ∀ d ∈ ds, ∃ k : Int, d = .int k ∧ 0 ≤ k ∧ k < 1000000 := fun d hd => hk d (List.mem_cons_of_mem _ hd)
      clear hk
      simp only [List.length_cons] at hl
      simp only [sSet_ap, sD_ap, d2_ap, dats_cons, dt_d, dt_o, dt_u, dV_s, dV_z, Res.bind_ok, Res.of_some, ofR_ok, List.set, m1, ON_nx]
      generalize k % z = t at ht ht0
      have q1 : atI (L.map PyData.bool) t = some (.bool (L[t.toNat]'(by omega))) := atI_map _ _ ht0 (by omega)
      have q2 : atI (rs'.map PyData.int) t = some (.int (rs'[t.toNat]'(by omega))) := atI_map _ _ ht0 (by omega)
      have lx : xs.length < 16777216 := by omega
      refine ON.iff (c := L[t.toNat]'(by omega) && decide (0 < rs'[t.toNat]'(by omega))) ?_ (fun hc => ?_) (fun hc => ?_)
      · cases e : L[t.toNat]'(by omega) <;> simp [q1, q2, e]
      · refine ON.seq ?_
        simp [q2, fMod_pos, lx]
        have i1 : ixN rs'.length t = some t.toNat := ixN_int (by omega) (by omega)
        simp [q2, fDiv_pos, i1]
        refine ⟨hk', xs ++ [rs'[t.toNat]'(by omega) % 5040], rs'.set t.toNat (rs'[t.toNat]'(by omega) / 5040), _, _, _, _, by simp; omega, ?_, by simpa using hr, by simp; exact ⟨rfl, rfl, rfl, rfl⟩⟩
        intro x hx'
        rcases List.mem_append.mp hx' with h | h
        · exact hx x h
        · simp at h
          omega
      · have b1 : True := trivial
        refine ON.seq (ON.imp (P := fun α => ∃ m : Int, α = [AV.dat sc, .dat (.int c), .own (rs'.map PyData.int), .dat (.int z), .dat (.list (L.map .bool)), .own (xs.map PyData.int), .dat (.int k), .dat (.int t), .dat (.int m), x]) (R := fun _ => False) ?_ ?_ (fun _ h => h.elim))
        · simp [q2, fMod_pos, fMul_sm, fMul_sm']
        rintro α ⟨m, rfl⟩
        have w1 : fMul (.int k) (.int k) = some (.int (k * k)) := fMul_sm' (by omega) (by omega)
        refine ON.seq (ON.imp (P := fun α => ∃ m : Int, α = [AV.dat sc, .dat (.int c), .own (rs'.map PyData.int), .dat (.int z), .dat (.list (L.map .bool)), .own (xs.map PyData.int), .dat (.int k), .dat (.int t), .dat (.int m), x]) (R := fun _ => False) ?_ ?_ (fun _ h => h.elim))
        · have w2 : fMul (.int (k * k)) (.int 7) = some (.int (k * k * 7)) := fMul_sm (by decide) (by decide)
          have w3 : fMul (.int (m + k * k * 7 + 3)) (.int 69621) = some (.int ((m + k * k * 7 + 3) * 69621)) := fMul_sm (by decide) (by decide)
          have w4 : fMod (.int ((m + k * k * 7 + 3) * 69621)) (.int 1000003) = some (.int ((m + k * k * 7 + 3) * 69621 % 1000003)) := fMod_pos (by decide)
          generalize (m + k * k * 7 + 3) * 69621 % 1000003 = m2 at w4
          simp only [sSet_ap, sD_ap, d2_ap, dN_ap, aCons_ap, aNil_ap, dC_ap, dats_cons, dt_d, dt_o, dV_s, dV_z, Res.bind_ok, Res.of_some, w1, w2, w3, w4, fAdd_int, fInt_int, ofR_ok, List.set, ON_nx]
          exact ⟨m2, rfl⟩
        rintro α ⟨m, rfl⟩
        simp [fMod_pos, fDiv_pos, lx]
        refine ⟨hk', xs ++ [_ ], rs', _, _, _, _, by simp; omega, ?_, hr, by simp; exact ⟨rfl, rfl, rfl, rfl, rfl⟩⟩
        intro x hx'
        rcases List.mem_append.mp hx' with h | h
        · exact hx x h
        · simp at h
          omega
    · rintro α ⟨_, xs, rs', u, v, w, x, hl, hx, hr, rfl⟩
      exact ⟨xs, by simpa using hl, hx, rfl⟩
  · rintro α ⟨xs, hl, hx, ha⟩
    have e : frzA 5 α = α.set 5 (.dat (.list (xs.map PyData.int))) := by unfold DL.frzA; rw [ha]
    have l5 : 5 < α.length := (List.getElem?_eq_some_iff.mp ha).1
    have v : dV 5 (dats (frzA 5 α)) = .ok (.list (xs.map PyData.int)) := by
      unfold dV dats
      rw [e, List.getElem?_map, List.getElem?_set_self l5]
      rfl
    show ON _ _ (ofR (dV 5 (dats (frzA 5 α))) (frzA 5 α) fun x => Out.rt x)
    rw [v, ofR_ok]
    exact .rt _ ⟨xs, rfl, hl, hx⟩
theorem numbers_ok (ns : List Int) (hn : ns.length < 16777217) (c : Nat) (hc : c < 1000000) : Sat (fun d => ∃ xs : List Int, d = .list (xs.map PyData.int) ∧ xs.length = c ∧ ∀ x ∈ xs, 0 ≤ x ∧ x < 5040) (f__law_numbers [.dict [(.none, .list (ns.map PyData.int))], .int c]) := by
  refine Sat.fD rfl ?_
  unfold b__law_numbers
  have e1 : fSl (.dict [(.none, .list (ns.map PyData.int))]) none (some 63) = some (.list ((cutD ns none (some 63)).map PyData.int)) := by
    simp [fSl, cutD, List.map_take, List.map_drop]
  have l1 : (cutD ns none (some 63)).length < 16777217 := by
    simp [cutD]; omega
  generalize cutD ns none (some 63) = cs at e1 l1
  have e2 : lcD (cmD (.nm 9) yesT (dN fInt (aCons (dV 9) aNil)) [some (.dict [(.none, .list (ns.map PyData.int))]), some (.int c), none, none, none, none, none, none, none, none]) (cs.map PyData.int) = .ok (cs.map PyData.int) := lcD_all _ _ fun x _ => rfl
  refine ON.seq ?_
  simp [e1, l1, List.set, e2]
  -- an empty script stands as [0]
  refine ON.seq (ON.imp (P := fun α => ∃ rs : List Int, 0 < rs.length ∧ rs.length < 16777217 ∧ α = [AV.dat (.dict [(.none, .list (ns.map PyData.int))]), .dat (.int c), .own (rs.map PyData.int), .un, .un, .un, .un, .un, .un, .un]) (R := fun _ => False) ?_ ?_ (fun _ h => h.elim))
  · refine ON.iff (c := ((cs.length : Int) == 0)) (by simp) (fun h => ?_) (fun h => ?_)
    · simp
      exact ⟨[0], by decide, by decide, rfl⟩
    · simp
      refine ⟨cs, ?_, l1, rfl⟩
      cases cs with
      | nil => simp at h
      | cons => simp
  clear e2 e1
  rintro α ⟨rs, h0, h1, rfl⟩
  refine ON.seq ?_
  simp
  refine ON.seq ?_
  have e3 : ∃ L : List Bool, L.length = rs.length ∧ lcD (cmD (.nm 9) yesT (d2 fGe (dV 9) (d2 fPow (dC (.int 10)) (dC (.int 18)))) [some (.dict [(.none, .list (ns.map PyData.int))]), some (.int c), some (.list (rs.map PyData.int)), some (.int rs.length), none, none, none, none, none, none]) (rs.map PyData.int) = .ok (L.map .bool) :=
    ⟨rs.map fun x => decide (1000000000000000000 ≤ x), by simp, by rw [List.map_map]; exact lcD_all _ _ fun x _ => by simp [cmD, pow18]⟩
  obtain ⟨L, hL, e3⟩ := e3
  have n3 : noLs (L.map .bool) = true := by
    clear e3 hL
    induction L with
    | nil => rfl
    | cons x rs ih => exact ih
  simp [h1, e3, n3]
  refine ON.seq ?_
  simp
  exact numbers_loop _ c hc L rs hL h0 _ rfl
end Cm

/-! PL3: rows in order: keys, lists that rise by their keys. -/
namespace DL
open PySem L2
theorem sx {a b : Str} (h : a.cps.toList = b.cps.toList) : a = b := by
  obtain ⟨⟨x⟩⟩ := a
  obtain ⟨⟨y⟩⟩ := b
  exact congrArg (fun z => Str.mk ⟨z⟩) h
theorem sl_irr (a : Str) : sl a a = false := decide_eq_false (List.lt_irrefl _)
theorem sl_tr {a b c : Str} (h : sl a b = true) (k : sl b c = true) : sl a c = true := decide_eq_true (List.lt_trans (of_decide_eq_true h) (of_decide_eq_true k))
theorem sl_tri {a b : Str} (h : sl a b = false) (k : sl b a = false) : a = b :=
  sx (List.le_antisymm (List.not_lt.mp (of_decide_eq_false k)) (List.not_lt.mp (of_decide_eq_false h)))
abbrev Ky := Str × Str
def kl (a b : Ky) : Bool := sl a.1 b.1 || (decide (a.1 = b.1) && sl a.2 b.2)
theorem kl_irr (a : Ky) : kl a a = false := by simp [kl, sl_irr]
theorem kl_tr {a b c : Ky} (h : kl a b = true) (k : kl b c = true) : kl a c = true := by
  simp only [kl, Bool.or_eq_true, Bool.and_eq_true, decide_eq_true_eq] at *
  rcases h with h | ⟨e, h⟩ <;> rcases k with k | ⟨e2, k⟩
  · exact .inl (sl_tr h k)
  · exact .inl (e2 ▸ h)
  · exact .inl (e ▸ k)
  · exact .inr ⟨e.trans e2, sl_tr h k⟩
theorem kl_tri {a b : Ky} (h : kl a b = false) (k : kl b a = false) : a = b := by
  simp only [kl, Bool.or_eq_false_iff, Bool.and_eq_false_iff, decide_eq_false_iff_not] at *
  have e := sl_tri h.1 k.1
  have h2 := h.2.resolve_left fun z => z e
  have k2 := k.2.resolve_left fun z => z e.symm
  exact Prod.ext e (sl_tri h2 k2)
/-! ### rising lists -/
section
variable {γ : Type} {key : γ → Ky}
def Ris (key : γ → Ky) (l : List γ) : Prop := l.Pairwise fun a b => kl (key a) (key b) = true
theorem Ris.cons {x : γ} {l : List γ} : Ris key (x :: l) ↔ (∀ y ∈ l, kl (key x) (key y) = true) ∧ Ris key l := List.pairwise_cons
theorem Ris.not_mem {x : γ} {l : List γ} (h : Ris key (x :: l)) : x ∉ l := fun z => by
  have := (Ris.cons.mp h).1 x z
  rw [kl_irr] at this
  cases this
/-- rising lists with like members are like -/
theorem Ris.ext : ∀ {l m : List γ}, Ris key l → Ris key m → (∀ x, x ∈ l ↔ x ∈ m) → l = m
  | [], [], _, _, _ => rfl
  | [], y :: m, _, _, h => absurd ((h y).mpr (List.mem_cons_self ..)) (by simp)
  | x :: l, [], _, _, h => absurd ((h x).mp (List.mem_cons_self ..)) (by simp)
  | x :: l, y :: m, h1, h2, h => by
    have a := Ris.cons.mp h1
    have b := Ris.cons.mp h2
    have e : x = y := by
      by_cases e : x = y
      · exact e
      · have q1 : x ∈ m := ((List.mem_cons.mp ((h x).mp (List.mem_cons_self ..))).resolve_left e)
        have q2 : y ∈ l := ((List.mem_cons.mp ((h y).mpr (List.mem_cons_self ..))).resolve_left fun z => e z.symm)
        have z := kl_tr (a.1 y q2) (b.1 x q1)
        rw [kl_irr] at z
        cases z
    subst e
    refine congrArg (x :: ·) (Ris.ext a.2 b.2 fun z => ⟨fun hz => ?_, fun hz => ?_⟩)
    · exact (List.mem_cons.mp ((h z).mp (List.mem_cons_of_mem _ hz))).resolve_left fun e => h1.not_mem (e ▸ hz)
    · exact (List.mem_cons.mp ((h z).mpr (List.mem_cons_of_mem _ hz))).resolve_left fun e => h2.not_mem (e ▸ hz)
/-- like keys, like rows -/
theorem Ris.inj : ∀ {l : List γ}, Ris key l → ∀ {x y : γ}, x ∈ l → y ∈ l → key x = key y → x = y
  | [], _, _, _, h, _, _ => by cases h
  | z :: l, h, x, y, hx, hy, e => by
    have a := Ris.cons.mp h
    rcases List.mem_cons.mp hx with rfl | hx' <;> rcases List.mem_cons.mp hy with rfl | hy'
    · rfl
    · have q := a.1 y hy'
      rw [e, kl_irr] at q
      cases q
    · have q := a.1 x hx'
      rw [e, kl_irr] at q
      cases q
    · exact Ris.inj a.2 hx' hy' e
/-- x put at its place -/
def put (key : γ → Ky) (l : List γ) (x : γ) : List γ := (l.filter fun y => kl (key y) (key x)) ++ [x] ++ l.filter fun y => kl (key x) (key y)
theorem put_mem {l : List γ} {x y : γ} : y ∈ put key l x ↔ y = x ∨ (y ∈ l ∧ key y ≠ key x) := by
  simp only [put, List.mem_append, List.mem_filter, List.mem_singleton]
  constructor
  · rintro ((⟨h, k⟩ | h) | ⟨h, k⟩)
    · exact .inr ⟨h, fun e => by rw [e, kl_irr] at k; cases k⟩
    · exact .inl h
    · exact .inr ⟨h, fun e => by rw [e, kl_irr] at k; cases k⟩
  · rintro (h | ⟨h, k⟩)
    · exact .inl (.inr h)
    · cases q : kl (key y) (key x) with
      | true => exact .inl (.inl ⟨h, rfl⟩)
      | false =>
        cases q2 : kl (key x) (key y) with
        | true => exact .inr ⟨h, rfl⟩
        | false => exact absurd (kl_tri q q2) k
theorem put_ris {l : List γ} {x : γ} (h : Ris key l) : Ris key (put key l x) := by
  unfold put Ris
  rw [List.append_assoc, List.pairwise_append]
  refine ⟨h.filter _, ?_, fun a ha b hb => ?_⟩
  · rw [List.singleton_append, List.pairwise_cons]
    exact ⟨fun a ha => (List.mem_filter.mp ha).2, h.filter _⟩
  · have q := (List.mem_filter.mp ha).2
    rcases List.mem_append.mp hb with hb | hb
    · rw [List.mem_singleton.mp hb]; exact q
    · exact kl_tr q (List.mem_filter.mp hb).2
theorem two_sieves {l : List γ} {p q : γ → Bool} (h : ∀ x, p x = true → q x = false) : (l.filter p).length + (l.filter q).length ≤ l.length := by
  induction l with
  | nil => simp
  | cons x l ih =>
    simp only [List.filter_cons]
    cases e : p x with
    | true =>
      rw [h x e]
      simp
      omega
    | false =>
      cases q x <;> simp <;> omega
theorem put_len {l : List γ} {x : γ} : (put key l x).length ≤ l.length + 1 := by
  have := two_sieves (l := l) (p := fun y => kl (key y) (key x)) (q := fun y => kl (key x) (key y)) fun y h => by
    cases e : kl (key x) (key y) with
    | false => rfl
    | true =>
      have z := kl_tr h e
      rw [kl_irr] at z
      cases z
  simp only [put, List.length_append, List.length_singleton]
  omega
def cut (key : γ → Ky) (l : List γ) (k : Ky) : List γ := l.filter fun y => decide (key y ≠ k)
theorem cut_mem {l : List γ} {k : Ky} {y : γ} : y ∈ cut key l k ↔ y ∈ l ∧ key y ≠ k := by
  simp [cut]
theorem cut_ris {l : List γ} {k : Ky} (h : Ris key l) : Ris key (cut key l k) := h.filter _
theorem put_self {l : List γ} {x : γ} (h : Ris key l) (hx : x ∈ l) : put key l x = l :=
  Ris.ext (put_ris h) h fun y => by
    rw [put_mem]
    exact ⟨fun z => z.elim (fun e => e ▸ hx) fun z => z.1, fun z => by
      by_cases e : key y = key x
      · exact .inl (h.inj z hx e)
      · exact .inr ⟨z, e⟩⟩
/-! ### edits -/
inductive Ed (γ : Type) where
  | put (x : γ)
  | drop (k : Ky)
def Ed.ky (ke : γ → Ky) : Ed γ → Ky
  | .put x => ke x
  | .drop k => k
def app (key : γ → Ky) (l : List γ) : Ed γ → List γ
  | .put x => DL.put key l x
  | .drop k => DL.cut key l k
theorem app_ris {l : List γ} {e : Ed γ} (h : Ris key l) : Ris key (app key l e) := by
  cases e with
  | put x => exact put_ris h
  | drop k => exact cut_ris h
/-- what puts and drops of different keys make -/
theorem drops_mem {ks : List Ky} : ∀ {l : List γ} {y : γ}, y ∈ (ks.map Ed.drop).foldl (app key) l ↔ y ∈ l ∧ key y ∉ ks := by
  induction ks with
  | nil => intro l y; simp
  | cons k ks ih =>
    intro l y
    rw [List.map_cons, List.foldl_cons, ih]
    show y ∈ DL.cut key l k ∧ _ ↔ _
    rw [cut_mem, List.mem_cons, not_or, and_assoc]
theorem puts_mem {xs : List γ} : ∀ {l : List γ} {y : γ}, Ris key xs → (y ∈ (xs.map Ed.put).foldl (app key) l ↔ y ∈ xs ∨ (y ∈ l ∧ ∀ x ∈ xs, key y ≠ key x)) := by
  induction xs with
  | nil => intro l y _; simp
  | cons x xs ih =>
    intro l y h
    have h' := Ris.cons.mp h
    rw [List.map_cons, List.foldl_cons, ih h'.2]
    show y ∈ xs ∨ (y ∈ DL.put key l x ∧ _) ↔ _
    rw [put_mem]
    simp only [List.mem_cons]
    constructor
    · rintro (h1 | ⟨rfl | ⟨h1, h2⟩, h3⟩)
      · exact .inl (.inr h1)
      · exact .inl (.inl rfl)
      · exact .inr ⟨h1, fun z hz => hz.elim (fun e => e ▸ h2) (h3 z)⟩
    · rintro ((rfl | h1) | ⟨h1, h2⟩)
      · exact .inr ⟨.inl rfl, fun z hz e => by
          have q := h'.1 z hz
          rw [e, kl_irr] at q
          cases q⟩
      · exact .inl h1
      · exact .inr ⟨.inr ⟨h1, h2 x (.inl rfl)⟩, fun z hz => h2 z (.inr hz)⟩
theorem fold_ris {es : List (Ed γ)} : ∀ {l : List γ}, Ris key l → Ris key (es.foldl (app key) l) := by
  induction es with
  | nil => intro l h; exact h
  | cons e es ih => intro l h; exact ih (app_ris h)
theorem app_len {l : List γ} {e : Ed γ} : (app key l e).length ≤ l.length + 1 := by
  cases e with
  | put x => exact put_len
  | drop k => exact Nat.le_succ_of_le (List.length_filter_le ..)
open Classical in
/-- what differs -/
noncomputable def diff (key : γ → Ky) (b r : List γ) : List (Ed γ) := ((b.filter fun x => decide (key x ∉ r.map key)).map key).map Ed.drop ++ (r.filter fun x => decide (x ∉ b)).map Ed.put
theorem diff_app {b r : List γ} (hb : Ris key b) (hr : Ris key r) : (diff key b r).foldl (app key) b = r := by
  classical
  refine Ris.ext (fold_ris hb) hr fun y => ?_
  unfold diff
  rw [List.foldl_append, puts_mem (hr.filter _), drops_mem]
  simp only [List.mem_filter, decide_eq_true_eq, List.mem_map, not_exists, not_and]
  constructor
  · rintro (⟨h, _⟩ | ⟨⟨h1, h2⟩, h3⟩)
    · exact h
    · by_cases q : ∃ x ∈ r, key x = key y
      · obtain ⟨x, hx, e⟩ := q
        by_cases hb' : x ∈ b
        · rw [← hb.inj hb' h1 e]; exact hx
        · exact absurd e.symm (h3 x ⟨hx, hb'⟩)
      · exact absurd rfl (h2 y ⟨h1, fun x hx e => q ⟨x, hx, e⟩⟩)
  · intro h
    by_cases hy : y ∈ b
    · refine .inr ⟨⟨hy, fun x hx e => ?_⟩, fun x hx e => ?_⟩
      · exact hx.2 y h e.symm
      · have := hr.inj h hx.1 e
        exact hx.2 (this ▸ hy)
    · exact .inl ⟨h, hy⟩
/-- the undoing of an edit -/
def undo (key : γ → Ky) (l : List γ) (e : Ed γ) : Ed γ := match l.find? fun y => decide (key y = e.ky key) with
  | some r => .put r
  | none => .drop (e.ky key)
theorem find_key {l : List γ} {k : Ky} {r : γ} (h : l.find? (fun y => decide (key y = k)) = some r) : r ∈ l ∧ key r = k := ⟨List.mem_of_find?_eq_some h, by simpa using List.find?_some h⟩
theorem find_no {l : List γ} {k : Ky} (h : l.find? (fun y => decide (key y = k)) = none) : ∀ y ∈ l, key y ≠ k := fun y hy => by simpa using List.find?_eq_none.mp h y hy
theorem undo_app {l : List γ} {e : Ed γ} (h : Ris key l) : app key (app key l e) (undo key l e) = l := by
  refine Ris.ext (app_ris (app_ris h)) h fun y => ?_
  unfold undo
  cases q : l.find? fun y => decide (key y = e.ky key) with
  | some r =>
    obtain ⟨h1, h2⟩ := find_key q
    show y ∈ DL.put key _ r ↔ _
    rw [put_mem]
    cases e with
    | put x =>
      show y = r ∨ (y ∈ DL.put key l x ∧ _) ↔ _
      rw [put_mem]
      have h2 : key r = key x := h2
      constructor
      · rintro (rfl | ⟨rfl | ⟨z, _⟩, w⟩)
        · exact h1
        · exact absurd h2.symm w
        · exact z
      · intro z
        by_cases e : key y = key r
        · exact .inl (h.inj z h1 e)
        · exact .inr ⟨.inr ⟨z, fun e2 => e (e2.trans h2.symm)⟩, e⟩
    | drop k =>
      show y = r ∨ (y ∈ DL.cut key l k ∧ _) ↔ _
      rw [cut_mem]
      have h2 : key r = k := h2
      constructor
      · rintro (rfl | ⟨⟨z, _⟩, w⟩)
        · exact h1
        · exact z
      · intro z
        by_cases e : key y = key r
        · exact .inl (h.inj z h1 e)
        · exact .inr ⟨⟨z, fun e2 => e (e2.trans h2.symm)⟩, e⟩
  | none =>
    have no := find_no q
    show y ∈ DL.cut key _ _ ↔ _
    rw [cut_mem]
    cases e with
    | put x =>
      show (y ∈ DL.put key l x ∧ _) ↔ _
      rw [put_mem]
      constructor
      · rintro ⟨rfl | ⟨z, _⟩, w⟩
        · exact absurd rfl w
        · exact z
      · intro z
        exact ⟨.inr ⟨z, no y z⟩, no y z⟩
    | drop k =>
      show (y ∈ DL.cut key l k ∧ _) ↔ _
      rw [cut_mem]
      exact ⟨fun z => z.1.1, fun z => ⟨⟨z, no y z⟩, no y z⟩⟩
def undos (key : γ → Ky) : List γ → List (Ed γ) → List (Ed γ)
  | _, [] => []
  | l, e :: es => undo key l e :: undos key (app key l e) es
theorem undos_app : ∀ {es : List (Ed γ)} {l : List γ}, Ris key l → (undos key l es).reverse.foldl (app key) (es.foldl (app key) l) = l
  | [], _, _ => rfl
  | e :: es, l, h => by
    rw [undos, List.reverse_cons, List.foldl_append, List.foldl_cons (a := e), undos_app (app_ris h)]
    exact undo_app h
def Ed.may (ke : γ → Ky) (ok : γ → Prop) (l : List γ) : Ed γ → Prop
  | .put x => ok x
  | .drop k => ∃ x ∈ l, ke x = k
/-- edits that may be made: what is dropped is there, what is put is as it ought to be -/
def Val (key : γ → Ky) (ok : γ → Prop) : List γ → List (Ed γ) → Prop
  | _, [] => True
  | l, e :: es => e.may key ok l ∧ Val key ok (app key l e) es
theorem val_append {ok : γ → Prop} : ∀ {es fs : List (Ed γ)} {l : List γ}, Val key ok l (es ++ fs) ↔ Val key ok l es ∧ Val key ok (es.foldl (app key) l) fs
  | [], _, _ => by simp [Val]
  | e :: es, fs, l => by
    rw [List.cons_append, Val, Val, val_append, List.foldl_cons, and_assoc]
theorem val_puts {ok : γ → Prop} : ∀ {xs : List γ} {l : List γ}, (∀ x ∈ xs, ok x) → Val key ok l (xs.map Ed.put)
  | [], _, _ => trivial
  | x :: xs, l, h => ⟨h x (List.mem_cons_self ..), val_puts fun y hy => h y (List.mem_cons_of_mem _ hy)⟩
theorem val_drops {ok : γ → Prop} : ∀ {xs l : List γ}, Ris key xs → (∀ x ∈ xs, x ∈ l) → Val key ok l ((xs.map key).map Ed.drop)
  | [], _, _, _ => trivial
  | x :: xs, l, h, k => ⟨⟨x, k x (List.mem_cons_self ..), rfl⟩, val_drops (Ris.cons.mp h).2 fun y hy => cut_mem.mpr ⟨k y (List.mem_cons_of_mem _ hy), fun e => by
      have q := (Ris.cons.mp h).1 y hy
      rw [e, kl_irr] at q
      cases q⟩⟩
theorem val_diff {ok : γ → Prop} {b r : List γ} (hb : Ris key b) (hr : ∀ x ∈ r, ok x) : Val key ok b (diff key b r) := by
  unfold diff
  rw [val_append]
  exact ⟨val_drops (hb.filter _) fun x hx => (List.mem_filter.mp hx).1, val_puts fun x hx => hr x (List.mem_filter.mp hx).1⟩
theorem app_ok {ok : γ → Prop} {l : List γ} {e : Ed γ} (h : ∀ x ∈ l, ok x) (v : e.may key ok l) : ∀ x ∈ app key l e, ok x := by
  cases e with
  | put y =>
    intro x hx
    rcases put_mem.mp hx with rfl | hx
    · exact v
    · exact h x hx.1
  | drop k => exact fun x hx => h x (cut_mem.mp hx).1
theorem val_undos {ok : γ → Prop} : ∀ {es : List (Ed γ)} {l : List γ}, Ris key l → (∀ x ∈ l, ok x) → Val key ok l es → Val key ok (es.foldl (app key) l) (undos key l es).reverse
  | [], _, _, _, _ => trivial
  | e :: es, l, h, hl, v => by
    obtain ⟨v1, v2⟩ := v
    rw [undos, List.reverse_cons, val_append, List.foldl_cons]
    refine ⟨val_undos (app_ris h) (app_ok hl v1) v2, ?_⟩
    rw [undos_app (app_ris h)]
    refine ⟨?_, trivial⟩
    unfold undo
    cases q : l.find? fun y => decide (key y = e.ky key) with
    | some r => exact hl r (find_key q).1
    | none =>
      have no := find_no q
      cases e with
      | put x => exact ⟨x, put_mem.mpr (.inl rfl), rfl⟩
      | drop k =>
        obtain ⟨x, hx, hk⟩ := v1
        exact absurd hk (no x hx)
theorem undos_len : ∀ {es : List (Ed γ)} {l : List γ}, (undos key l es).length = es.length
  | [], _ => rfl
  | e :: es, l => congrArg Nat.succ undos_len
end
end DL

/-! PL4: plain data; when two are the same. -/
namespace DL
open PySem L2
def Pl : Nat → D → Bool
  | _, .int _ => true
  | _, .str s => PyData.strOk s
  | n + 1, .tuple ds => decide (ds.length < 1000) && ds.all (Pl n)
  | _, _ => false
theorem Pl.up : ∀ {n : Nat} {d : D}, Pl n d = true → Pl (n + 1) d = true
  | n, .int _, _ => by cases n <;> rfl
  | n, .str _, h => by cases n <;> exact h
  | n + 1, .tuple ds, h => by
    simp only [Pl, Bool.and_eq_true, List.all_eq_true] at h ⊢
    exact ⟨h.1, fun x hx => Pl.up (h.2 x hx)⟩
  | 0, .tuple _, h => by simp [Pl] at h
  | 0, .none, h => by simp [Pl] at h
  | 0, .bool _, h => by simp [Pl] at h
  | 0, .list _, h => by simp [Pl] at h
  | 0, .dict _, h => by simp [Pl] at h
  | n + 1, .none, h => by simp [Pl] at h
  | n + 1, .bool _, h => by simp [Pl] at h
  | n + 1, .list _, h => by simp [Pl] at h
  | n + 1, .dict _, h => by simp [Pl] at h
theorem Pl.mono {n m : Nat} {d : D} (h : Pl n d = true) (hm : n ≤ m) : Pl m d = true := by
  induction hm with
  | refl => exact h
  | step _ ih => exact Pl.up ih
/-- the kinds of plain data -/
theorem Pl.inv {n : Nat} {d : D} (h : Pl n d = true) : (∃ i, d = .int i) ∨ (∃ s, d = .str s ∧ PyData.strOk s = true) ∨ ∃ m ds, n = m + 1 ∧ d = .tuple ds ∧ ds.length < 1000 ∧ ∀ x ∈ ds, Pl m x = true := by
  cases d with
  | int i => exact .inl ⟨i, rfl⟩
  | str s => exact .inr (.inl ⟨s, rfl, by cases n <;> exact h⟩)
  | tuple ds =>
    cases n with
    | zero => simp [Pl] at h
    | succ m =>
      simp only [Pl, Bool.and_eq_true, List.all_eq_true, decide_eq_true_eq] at h
      exact .inr (.inr ⟨m, ds, rfl, rfl, h.1, h.2⟩)
  | none => cases n <;> simp [Pl] at h
  | bool _ => cases n <;> simp [Pl] at h
  | list _ => cases n <;> simp [Pl] at h
  | dict _ => cases n <;> simp [Pl] at h
theorem layAll {n : Nat} (ih : ∀ {d : D}, Pl n d = true → d.canLay0 = true) {ds : List D} (q : ∀ x ∈ ds, Pl n x = true) : PyData.canLayAll0 ds = true := by
  induction ds with
  | nil => rfl
  | cons x xs ih2 =>
    rw [PyData.canLayAll0, Bool.and_eq_true]
    exact ⟨ih (q x (List.mem_cons_self ..)), ih2 fun y hy => q y (List.mem_cons_of_mem _ hy)⟩
theorem depAll {n : Nat} (ih : ∀ {d : D}, Pl n d = true → d.depth ≤ n) {ds : List D} (q : ∀ x ∈ ds, Pl n x = true) : PyData.depthAll ds ≤ n := by
  induction ds with
  | nil => simp [PyData.depthAll]
  | cons x xs ih2 =>
    have h1 := ih (q x (List.mem_cons_self ..))
    have h2 := ih2 fun y hy => q y (List.mem_cons_of_mem _ hy)
    rw [PyData.depthAll]
    omega
theorem Pl.lay {n : Nat} : ∀ {d : D}, Pl n d = true → d.canLay0 = true := by
  induction n with
  | zero =>
    intro d h
    rcases Pl.inv h with ⟨i, rfl⟩ | ⟨s, rfl, q⟩ | ⟨m, ds, e, _⟩
    · simp [PyData.canLay0]
    · simpa only [PyData.canLay0] using q
    · cases e
  | succ n ih =>
    intro d h
    rcases Pl.inv h with ⟨i, rfl⟩ | ⟨s, rfl, q⟩ | ⟨m, ds, e, rfl, _, q⟩
    · simp [PyData.canLay0]
    · simpa only [PyData.canLay0] using q
    · cases e
      rw [PyData.canLay0]
      exact layAll ih q
theorem Pl.dep {n : Nat} : ∀ {d : D}, Pl n d = true → d.depth ≤ n := by
  induction n with
  | zero =>
    intro d h
    rcases Pl.inv h with ⟨i, rfl⟩ | ⟨s, rfl, q⟩ | ⟨m, ds, e, _⟩
    · simp [PyData.depth]
    · simp [PyData.depth]
    · cases e
  | succ n ih =>
    intro d h
    rcases Pl.inv h with ⟨i, rfl⟩ | ⟨s, rfl, q⟩ | ⟨m, ds, e, rfl, _, q⟩
    · simp [PyData.depth]
    · simp [PyData.depth]
    · cases e
      rw [PyData.depth]
      have := depAll ih q
      omega
theorem Pl.shaped {n : Nat} {d : D} (h : Pl n d = true) (hn : n ≤ 60) : SeqAt.shaped d = true := by
  have := Pl.dep h
  exact Bool.and_eq_true_iff.mpr ⟨Pl.lay h, decide_eq_true (by omega)⟩
theorem shapedL {n : Nat} {ds : List D} (h : ∀ d ∈ ds, Pl n d = true) (hn : n ≤ 60) : SeqAt.shaped (.list ds) = true ∧ SeqAt.shaped (.tuple ds) = true := by
  have a := layAll (fun {d} => Pl.lay (n := n) (d := d)) h
  have b := depAll (fun {d} => Pl.dep (n := n) (d := d)) h
  constructor
  · refine Bool.and_eq_true_iff.mpr ⟨by rw [PyData.canLay0]; exact a, decide_eq_true ?_⟩
    rw [PyData.depth]
    omega
  · refine Bool.and_eq_true_iff.mpr ⟨by rw [PyData.canLay0]; exact a, decide_eq_true ?_⟩
    rw [PyData.depth]
    omega
/-- == of plain data is equality -/
theorem Pl.eqv : ∀ {n : Nat} {x y : D}, Pl n x = true → Pl n y = true → (PyData.eqv x y = true ↔ x = y) := by
  intro n
  induction n with
  | zero =>
    intro x y hx hy
    rcases Pl.inv hx with ⟨i, rfl⟩ | ⟨s, rfl, _⟩ | ⟨m, ds, e, _⟩
    · rcases Pl.inv hy with ⟨j, rfl⟩ | ⟨t, rfl, _⟩ | ⟨m, ds, e, _⟩
      · simp [PyData.eqv]
      · simp [PyData.eqv]
      · cases e
    · rcases Pl.inv hy with ⟨j, rfl⟩ | ⟨t, rfl, _⟩ | ⟨m, ds, e, _⟩
      · simp [PyData.eqv]
      · simp [PyData.eqv]
      · cases e
    · cases e
  | succ n ih =>
    have all : ∀ xs ys : List D, (∀ x ∈ xs, Pl n x = true) → (∀ y ∈ ys, Pl n y = true) → (PyData.eqvAll xs ys = true ↔ xs = ys) := by
      intro xs
      induction xs with
      | nil =>
        intro ys _ _
        cases ys <;> simp [PyData.eqvAll]
      | cons x xs ih2 =>
        intro ys h1 h2
        cases ys with
        | nil => simp [PyData.eqvAll]
        | cons y ys =>
          rw [PyData.eqvAll, Bool.and_eq_true, ih (h1 x (List.mem_cons_self ..)) (h2 y (List.mem_cons_self ..)), ih2 ys (fun z hz => h1 z (List.mem_cons_of_mem _ hz)) fun z hz => h2 z (List.mem_cons_of_mem _ hz), List.cons.injEq]
    intro x y hx hy
    rcases Pl.inv hx with ⟨i, rfl⟩ | ⟨s, rfl, _⟩ | ⟨m, ds, e, rfl, _, q⟩
    · rcases Pl.inv hy with ⟨j, rfl⟩ | ⟨t, rfl, _⟩ | ⟨m, ds, e, rfl, _⟩ <;> simp [PyData.eqv]
    · rcases Pl.inv hy with ⟨j, rfl⟩ | ⟨t, rfl, _⟩ | ⟨m, ds, e, rfl, _⟩ <;> simp [PyData.eqv]
    · rcases Pl.inv hy with ⟨j, rfl⟩ | ⟨t, rfl, _⟩ | ⟨m', es, e', rfl, _, q'⟩
      · simp [PyData.eqv]
      · simp [PyData.eqv]
      · cases e
        cases e'
        rw [PyData.eqv, all ds es q q', PyData.tuple.injEq]
end DL

/-! PL5: the shared defs of the laws over rows: sameness, order, search. -/
namespace DL
open PySem L2
@[simp] theorem isi_int (T : String) (a : Bt → Res D) (β : Bt) (i : Int) (h : a β = .ok (.int i)) : dIsi T a β = .ok (.bool (subB "int" T)) := by unfold dIsi; rw [h]; rfl
theorem isi_str (T : String) (a : Bt → Res D) (β : Bt) (i : Str) (h : a β = .ok (.str i)) : dIsi T a β = .ok (.bool (subB "str" T)) := by unfold dIsi; rw [h]; rfl
theorem isi_tup (T : String) (a : Bt → Res D) (β : Bt) (i : List D) (h : a β = .ok (.tuple i)) : dIsi T a β = .ok (.bool (subB "tuple" T)) := by unfold dIsi; rw [h]; rfl
theorem beqI (i j : Int) (q : Decidable (i = j)) : (i == j) = @decide (i = j) q := by by_cases h : i = j <;> simp [h]
theorem beqS (i j : Str) (q : Decidable (i = j)) : (i == j) = @decide (i = j) q := by by_cases h : i = j <;> simp [h]
theorem lcD_none {γ : Type} (f : γ → Option D) (xs : List γ) : ((xs.filterMap f).length = 0) ↔ ∀ x ∈ xs, f x = none := by
  rw [List.length_eq_zero_iff, List.filterMap_eq_nil_iff]
end DL
namespace Cm
open PySem L2 DL
theorem len_int (n : Nat) : ∃ z : Int, z = (n : Int) := ⟨_, rfl⟩
open Classical in
theorem same_ok : ∀ (n m : Nat), n < m → ∀ x y : D, Pl n x = true → Pl n y = true → F__law_same m [x, y] = .ok (.bool (decide (x = y))) := by
  intro n
  induction n with
  | zero =>
    intro m hm x y hx hy
    obtain ⟨m, rfl⟩ : ∃ k, m = k + 1 := ⟨m - 1, by omega⟩
    rw [F__law_same, fD_ap (by rfl)]
    rcases Pl.inv hy with ⟨j, rfl⟩ | ⟨t, rfl, _⟩ | ⟨_, _, e, _⟩
    · rcases Pl.inv hx with ⟨i, rfl⟩ | ⟨s, rfl, _⟩ | ⟨_, _, e, _⟩
      · simp [b__law_same, sSeq_ap, sIf_ap, isi_int, isi_str, isi_tup, subB, fIs, isN, beqI, beqS]
      · simp [b__law_same, sSeq_ap, sIf_ap, isi_int, isi_str, isi_tup, subB, fIs, isN, beqI, beqS]
      · cases e
    · rcases Pl.inv hx with ⟨i, rfl⟩ | ⟨s, rfl, _⟩ | ⟨_, _, e, _⟩
      · simp [b__law_same, sSeq_ap, sIf_ap, isi_int, isi_str, isi_tup, subB, fIs, isN, beqI, beqS]
      · simp [b__law_same, sSeq_ap, sIf_ap, isi_int, isi_str, isi_tup, subB, fIs, isN, beqI, beqS]
      · cases e
    · cases e
  | succ n ih =>
    intro m hm x y hx hy
    obtain ⟨m, rfl⟩ : ∃ k, m = k + 1 := ⟨m - 1, by omega⟩
    rw [F__law_same, fD_ap (by rfl)]
    rcases Pl.inv hy with ⟨j, rfl⟩ | ⟨t, rfl, _⟩ | ⟨_, ys, e, rfl, ly, qy⟩
    · rcases Pl.inv hx with ⟨i, rfl⟩ | ⟨s, rfl, _⟩ | ⟨_, xs, e, rfl, lx, qx⟩
      · simp [b__law_same, sSeq_ap, sIf_ap, isi_int, isi_str, isi_tup, subB, fIs, isN, beqI, beqS]
      · simp [b__law_same, sSeq_ap, sIf_ap, isi_int, isi_str, isi_tup, subB, fIs, isN, beqI, beqS]
      · simp [b__law_same, sSeq_ap, sIf_ap, isi_int, isi_str, isi_tup, subB, fIs, isN, beqI, beqS]
    · rcases Pl.inv hx with ⟨i, rfl⟩ | ⟨s, rfl, _⟩ | ⟨_, xs, e, rfl, lx, qx⟩
      · simp [b__law_same, sSeq_ap, sIf_ap, isi_int, isi_str, isi_tup, subB, fIs, isN, beqI, beqS]
      · simp [b__law_same, sSeq_ap, sIf_ap, isi_int, isi_str, isi_tup, subB, fIs, isN, beqI, beqS]
      · simp [b__law_same, sSeq_ap, sIf_ap, isi_int, isi_str, isi_tup, subB, fIs, isN, beqI, beqS]
    · rcases Pl.inv hx with ⟨i, rfl⟩ | ⟨s, rfl, _⟩ | ⟨_, xs, e', rfl, lx, qx⟩
      · simp [b__law_same, sSeq_ap, sIf_ap, isi_int, isi_str, isi_tup, subB, fIs, isN, beqI, beqS]
      · simp [b__law_same, sSeq_ap, sIf_ap, isi_int, isi_str, isi_tup, subB, fIs, isN, beqI, beqS]
      · cases e
        cases e'
        by_cases hl : xs.length = ys.length
        · have e1 : iRange1 (dN fLen (aCons (dV 1) aNil)) [some (.tuple xs), some (.tuple ys), none] = .ok ((List.range ys.length).map fun i : Nat => PyData.int i) :=
            iRangeL (n := ys.length) (by simp) (by omega) (by omega)
          have e2 := lcD_enc (f := cmD (.nm 2) (tNot (tV (dCall (F__law_same m) (aCons (d2 fIx (dV 0) (dV 2)) (aCons (d2 fIx (dV 1) (dV 2)) aNil))))) (dV 2) [some (.tuple xs), some (.tuple ys), none]) (fun i : Nat => PyData.int i)
            (fun i => if xs[i]? = ys[i]? then none else some (.int i)) (xs := List.range ys.length) (fun i hi => by
              have h1 : i < ys.length := by simpa using hi
              have h2 : i < xs.length := by omega
              have a1 : atI xs (i : Int) = some xs[i] := atI_lt _ _ h2
              have a2 : atI ys (i : Int) = some ys[i] := atI_lt _ _ h1
              have a3 := ih m (by omega) xs[i] ys[i] (qx _ (List.getElem_mem ..)) (qy _ (List.getElem_mem ..))
              simp [cmD, a1, a2, a3, List.getElem?_eq_getElem h1, List.getElem?_eq_getElem h2]
              by_cases e : xs[i] = ys[i] <;> simp [e])
          have e3 : ((List.range ys.length).filterMap (fun i : Nat => if xs[i]? = ys[i]? then none else some (PyData.int (i : Int)))).length = 0 ↔ xs = ys := by
            rw [lcD_none]
            constructor
            · intro h
              refine List.ext_getElem? fun i => ?_
              by_cases hi : i < ys.length
              · have := h i (by simpa using hi)
                by_cases q : xs[i]? = ys[i]?
                · exact q
                · rw [if_neg q] at this; cases this
              · rw [List.getElem?_eq_none (by omega), List.getElem?_eq_none (by omega)]
            · rintro rfl i _
              simp
          generalize hg : (List.range ys.length).filterMap (fun i : Nat => if xs[i]? = ys[i]? then none else some (PyData.int i)) = zs at e2 e3
          have lz : (List.range ys.length).length < 16777217 := by simp; omega
          simp [b__law_same, sSeq_ap, sIf_ap, isi_int, isi_str, isi_tup, subB, fIs, isN, hl, e1, le_size (n := ys.length) (by omega), e2]
          by_cases q : xs = ys
          · rw [e3.mpr q]; simp [q]
          · have : zs.length ≠ 0 := fun z => q (e3.mp z)
            rw [beqI _ _ inferInstance]
            simp [q]
            intro z
            exact this (by simp [z])
        · have hl' : ((xs.length : Int) == (ys.length : Int)) = false := by simp; omega
          have hne : xs ≠ ys := fun e => hl (congrArg List.length e)
          simp [b__law_same, sSeq_ap, sIf_ap, isi_int, isi_str, isi_tup, subB, fIs, isN, hl', hne]
end Cm
namespace DL
open PySem L2
/-! ### rows -/
def kd : D → Str
  | .tuple (.str k :: _) => k
  | _ => ⟨#[]⟩
def nm : D → Str
  | .tuple (_ :: .str n :: _) => n
  | _ => ⟨#[]⟩
def ky (d : D) : Ky := (kd d, nm d)
def Rw (d : D) : Prop := ∃ k n rest, d = .tuple (.str k :: .str n :: rest) ∧ rest.length < 900 ∧ (∀ x ∈ rest, Pl 3 x = true) ∧ PyData.strOk k = true ∧ PyData.strOk n = true
theorem Rw.pl {d : D} (h : Rw d) : Pl 4 d = true := by
  obtain ⟨k, n, rest, rfl, h1, h2, h3, h4⟩ := h
  simp only [Pl, Bool.and_eq_true, List.all_eq_true, decide_eq_true_eq]
  refine ⟨by simp; omega, fun x hx => ?_⟩
  rcases List.mem_cons.mp hx with rfl | hx
  · exact h3
  · rcases List.mem_cons.mp hx with rfl | hx
    · exact h4
    · exact h2 x hx
theorem Rw.ix0 {d : D} (h : Rw d) : fIx d (.int 0) = some (.str (kd d)) := by
  obtain ⟨k, n, rest, rfl, h1, h2, h3, h4⟩ := h
  simp [kd]
theorem Rw.ix1 {d : D} (h : Rw d) : fIx d (.int 1) = some (.str (nm d)) := by
  obtain ⟨k, n, rest, rfl, h1, h2, h3, h4⟩ := h
  simp [nm]
  exact atI_lit _ 1 _ rfl
theorem beqK (a b c d : Str) : (a == b && c == d) = decide ((a, c) = (b, d)) := by
  by_cases h : a = b <;> by_cases q : c = d <;> simp [h, q]
end DL
namespace Cm
open PySem L2 DL
theorem row_key_ok {d : D} (h : Rw d) : f_row_key [d] = .ok (.tuple [.str (kd d), .str (nm d)]) := by
  rw [f_row_key, fD_ap (by rfl)]
  simp [b_row_key, h.ix0, h.ix1]
theorem before_ok {d e : D} (h : Rw d) (k : Rw e) : f__law_before [d, e] = .ok (.bool (kl (ky d) (ky e))) := by
  rw [f__law_before, fD_ap (by rfl)]
  cases q : sl (kd d) (kd e) with
  | true => simp [b__law_before, h.ix0, h.ix1, k.ix0, k.ix1, q, kl, ky]
  | false =>
    by_cases q2 : kd d = kd e
    · rw [q2] at q
      simp [b__law_before, h.ix0, h.ix1, k.ix0, k.ix1, q, kl, ky, q2]
    · simp [b__law_before, h.ix0, h.ix1, k.ix0, k.ix1, q, kl, ky, q2]
theorem placed_ok {rs : List D} {d : D} (h : ∀ x ∈ rs, Rw x) (k : Rw d) (hl : rs.length < 100000) : f__law_placed [.list rs, d] = .ok (.list (DL.put ky rs d)) := by
  rw [f__law_placed, fD_ap (by rfl)]
  have e1 := lcD_sieve (f := cmD (.nm 4) (tV (dCall f__law_before (aCons (dV 4) (aCons (dV 1) aNil)))) (dV 4) [some (.list rs), some d, none, none, none]) (fun x => kl (ky x) (ky d)) (ds := rs) fun x hx => by
    simp [cmD, before_ok (h x hx) k]
    cases kl (ky x) (ky d) <;> simp
  have e2 := lcD_sieve (f := cmD (.nm 4) (tV (dCall f__law_before (aCons (dV 1) (aCons (dV 4) aNil)))) (dV 4) [some (.list rs), some d, some (.list (rs.filter fun x => kl (ky x) (ky d))), none, none]) (fun x => kl (ky d) (ky x)) (ds := rs) fun x hx => by
    simp [cmD, before_ok k (h x hx)]
    cases kl (ky d) (ky x) <;> simp
  have l1 := List.length_filter_le (fun x => kl (ky x) (ky d)) rs
  have l2 := List.length_filter_le (fun x => kl (ky d) (ky x)) rs
  simp [b__law_placed, sSeq_ap, e1, le_size (n := rs.length) (by omega), e2]
  rw [fAdd_l _ _ (by rw [PySem.sizeLine_eq]; simp; omega)]
  simp
  rw [fAdd_l _ _ (by rw [PySem.sizeLine_eq]; simp; omega)]
  simp [DL.put]
theorem key_test {k n : Str} {x : D} (hr : Rw x) (β : Bt) (h0 : β[3]? = some (some x)) (h1 : β[1]? = some (some (.str k))) (h2 : β[2]? = some (some (.str n))) :
    DL.tAnd (tV (d2 fEq (d2 fIx (dV 3) (dC (.int (0)))) (dV 1))) (tV (d2 fEq (d2 fIx (dV 3) (dC (.int (1)))) (dV 2))) β = .ok (decide (ky x = (k, n))) := by
  have e0 : dV 3 β = .ok x := by rw [dV_ap, h0]
  have e1 : dV 1 β = .ok (.str k) := by rw [dV_ap, h1]
  have e2 : dV 2 β = .ok (.str n) := by rw [dV_ap, h2]
  by_cases q1 : kd x = k <;> by_cases q2 : nm x = n <;> simp [e0, e1, e2, hr.ix0, hr.ix1, ky, q1, q2]
theorem has_row_ok {rs : List D} {k n : Str} (h : ∀ x ∈ rs, Rw x) : f_has_row [.tuple rs, .str k, .str n] = .ok (.bool (rs.any fun x => decide (ky x = (k, n)))) := by
  refine Sat.eq (Sat.fD rfl (ON.seq ?_))
  refine ON.for_ (ds := rs) (fun ds α => (∀ x ∈ ds, Rw x) ∧ (rs.any fun x => decide (ky x = (k, n))) = (ds.any fun x => decide (ky x = (k, n))) ∧ ∃ u, α = [AV.dat (.tuple rs), .dat (.str k), .dat (.str n), u]) (by simp) ⟨h, rfl, .un, rfl⟩ ?_ ?_
  · rintro x ds α ⟨hx, e, u, rfl⟩
    refine ⟨_, rfl, ON.iff (c := decide (ky x = (k, n))) (key_test (hx x (List.mem_cons_self ..)) _ rfl rfl rfl) (fun hc => ?_) (fun hc => ?_)⟩
    · simp [e, hc]
    · exact .nx _ ⟨fun y hy => hx y (List.mem_cons_of_mem _ hy), by rw [e, List.any_cons, hc]; rfl, _, rfl⟩
  · rintro α ⟨_, e, u, rfl⟩
    simp [e]
theorem find_row_ok {rs : List D} {k n : Str} {r : D} (h : ∀ x ∈ rs, Rw x) (q : rs.find? (fun x => decide (ky x = (k, n))) = some r) : f_find_row [.tuple rs, .str k, .str n] = .ok r := by
  refine Sat.eq (Sat.fD rfl (ON.seq ?_))
  refine ON.for_ (ds := rs) (fun ds α => (∀ x ∈ ds, Rw x) ∧ (ds.find? fun x => decide (ky x = (k, n))) = some r ∧ ∃ u, α = [AV.dat (.tuple rs), .dat (.str k), .dat (.str n), u]) (by simp) ⟨h, q, .un, rfl⟩ ?_ ?_
  · rintro x ds α ⟨hx, e, u, rfl⟩
    refine ⟨_, rfl, ON.iff (c := decide (ky x = (k, n))) (key_test (hx x (List.mem_cons_self ..)) _ rfl rfl rfl) (fun hc => ?_) (fun hc => ?_)⟩
    · rw [List.find?_cons, hc] at e
      cases e
      simp
    · rw [List.find?_cons, hc] at e
      exact .nx _ ⟨fun y hy => hx y (List.mem_cons_of_mem _ hy), e, _, rfl⟩
  · rintro α ⟨_, e, u, rfl⟩
    cases e
theorem kind_rows_ok {rs : List D} {k : Str} (h : ∀ x ∈ rs, Rw x) (hl : rs.length < 100000) : f_kind_rows [.tuple rs, .str k] = .ok (.tuple (rs.filter fun x => decide (kd x = k))) := by
  rw [f_kind_rows, fD_ap (by rfl)]
  have e1 := lcD_sieve (f := cmD (.nm 2) (tV (d2 fEq (d2 fIx (dV 2) (dC (.int (0)))) (dV 1))) (dV 2) [some (.tuple rs), some (.str k), none]) (fun x => decide (kd x = k)) (ds := rs) fun x hx => by
    by_cases q : kd x = k <;> simp [cmD, (h x hx).ix0, q]
  simp [b_kind_rows, e1, le_size (n := rs.length) (by omega)]
end Cm

/-! PL6: the drawn rows. -/
namespace DL
open PySem L2
theorem ON.guard {P : At → Prop} {R : D → Prop} {α : At} {t : At → Res Bool} {a b : At → Out} {c : Bool} (h : t α = .ok c) (h1 : ON (fun _ => False) R (a α)) (h2 : ON P R (b α)) : ON P R (sSeq (sIf t a sNil) b α) :=
  ON.seq (ON.iff h (fun _ => h1.imp (fun _ z => z.elim) fun _ z => z) fun _ => .nx _ h2)
theorem ON.retS {R : D → Prop} {P : At → Prop} {α : At} {e : Bt → Res D} (h : Sat R (e (dats α))) : ON P R (sRet (sD e) α) := by
  obtain ⟨d, e1, h⟩ := h
  rw [sRet_ap, sD_ap, e1, ofR_ok]
  exact .rt _ h
theorem cut_strs (ss : List Str) (lo hi : Option Int) : ∃ ts : List Str, cutD (ss.map PyData.str) lo hi = ts.map PyData.str ∧ ts.length ≤ ss.length ∧ ∀ t ∈ ts, t ∈ ss := by
  refine ⟨cutD ss lo hi, by simp [cutD, List.map_take, List.map_drop], by simp [cutD]; omega, fun t ht => ?_⟩
  unfold cutD at ht
  exact List.mem_of_mem_drop (List.mem_of_mem_take ht)
theorem strsOf_map : ∀ ss : List Str, strsOf (ss.map PyData.str) = some ss
  | [] => rfl
  | s :: ss => by rw [List.map_cons, strsOf, strsOf_map ss]; rfl
theorem sorted_strs (ss : List Str) (h : ss.length < 64) : fSorted [.list (ss.map PyData.str)] = some (.list ((sortBy ltT ss).map PyData.str)) := by
  unfold fSorted
  simp only [strsOf_map, if_pos h]
@[simp] theorem fSl_l (xs : List D) (lo hi : Option Int) : fSl (.list xs) lo hi = some (.list (cutD xs lo hi)) := nr rfl
@[simp] theorem fSl_t (xs : List D) (lo hi : Option Int) : fSl (.tuple xs) lo hi = some (.tuple (cutD xs lo hi)) := nr rfl
theorem atI_in {α : Type} (xs : List α) {i : Int} (h0 : 0 ≤ i) (h : i < xs.length) : ∃ x, atI xs i = some x ∧ x ∈ xs := ⟨_, atI_int xs h0 h, List.getElem_mem ..⟩
theorem lcD_ex {f : D → Res (Option D)} {P : D → Prop} : ∀ {ds : List D}, (∀ d ∈ ds, ∃ y, f d = .ok (some y) ∧ P y) → ∃ ys, lcD f ds = .ok ys ∧ ys.length = ds.length ∧ ∀ y ∈ ys, P y
  | [], _ => ⟨[], rfl, rfl, by simp⟩
  | d :: ds, h => by
    obtain ⟨y, e, p⟩ := h d (List.mem_cons_self ..)
    obtain ⟨ys, e2, l, q⟩ := lcD_ex fun x hx => h x (List.mem_cons_of_mem _ hx)
    refine ⟨y :: ys, by rw [lcD, e, e2]; rfl, by simp [l], fun z hz => ?_⟩
    rcases List.mem_cons.mp hz with rfl | hz
    · exact p
    · exact q z hz
theorem Pl.strs {ss ts : List Str} (h : ∀ s ∈ ss, PyData.strOk s = true) (hs : ∀ t ∈ ts, t ∈ ss) (hl : ts.length < 1000) : Pl 3 (.tuple (ts.map PyData.str)) = true := by
  simp only [Pl, Bool.and_eq_true, List.all_eq_true, decide_eq_true_eq]
  refine ⟨by simpa using hl, fun x hx => ?_⟩
  obtain ⟨t, ht, rfl⟩ := List.mem_map.mp hx
  exact h t (hs t ht)
@[simp] theorem Pl_int (n : Nat) (i : Int) : Pl n (.int i) = true := by cases n <;> exact nr rfl
@[simp] theorem Pl_tup (n : Nat) (ds : List D) : Pl (n + 1) (.tuple ds) = (decide (ds.length < 1000) && ds.all (Pl n)) := nr rfl
theorem Pl_str (n : Nat) (s : Str) : Pl n (.str s) = PyData.strOk s := by cases n <;> rfl
end DL
namespace Cm
open PySem L2 DL
theorem low_sat (n d : Int) (h : 0 < d) (h2 : d < 1073741824) : ∃ x y : Int, f__law_lowest [.int n, .int d] = .ok (.tuple [.int x, .int y]) ∧ -(n.natAbs : Int) ≤ x ∧ x ≤ n.natAbs ∧ 1 ≤ y ∧ y ≤ d := by
  have g0 : 0 < Int.gcd n d := Int.gcd_pos_of_ne_zero_right _ (by omega)
  have g1 : (Int.gcd n d : Int) ≤ d := by
    have := Nat.le_of_dvd (by omega) (Int.gcd_dvd_natAbs_right n d)
    omega
  refine ⟨_, _, low_eq h h2, ?_, ?_, ?_, ?_⟩ <;> generalize hg : (Int.gcd n d : Int) = g at *
  · have g2 : 1 ≤ g := by omega
    have m := Int.ediv_mul_le (-(n.natAbs : Int)) (b := g) (by omega)
    refine (Int.le_ediv_iff_mul_le (by omega)).mpr ?_
    have : -(n.natAbs : Int) * g ≤ -(n.natAbs : Int) * 1 := Int.mul_le_mul_of_nonpos_left (by omega) g2
    omega
  · refine Int.le_trans (Int.ediv_le_ediv (by omega) (show n ≤ n.natAbs by omega)) (Int.ediv_le_self _ (by omega))
  · exact (Int.le_ediv_iff_mul_le (by omega)).mpr (by omega)
  · exact Int.ediv_le_self _ (by omega)
theorem at1 {x0 x1 : D} {r : List D} : atI (x0 :: x1 :: r) 1 = some x1 := atI_lit _ 1 x1 rfl
theorem at2 {x0 x1 x2 : D} {r : List D} : atI (x0 :: x1 :: x2 :: r) 2 = some x2 := atI_lit _ 2 x2 rfl
theorem at3 {x0 x1 x2 x3 : D} {r : List D} : atI (x0 :: x1 :: x2 :: x3 :: r) 3 = some x3 := atI_lit _ 3 x3 rfl
theorem at4 {x0 x1 x2 x3 x4 : D} {r : List D} : atI (x0 :: x1 :: x2 :: x3 :: x4 :: r) 4 = some x4 := atI_lit _ 4 x4 rfl
theorem at5 {x0 x1 x2 x3 x4 x5 : D} {r : List D} : atI (x0 :: x1 :: x2 :: x3 :: x4 :: x5 :: r) 5 = some x5 := atI_lit _ 5 x5 rfl
theorem at6 {x0 x1 x2 x3 x4 x5 x6 : D} {r : List D} : atI (x0 :: x1 :: x2 :: x3 :: x4 :: x5 :: x6 :: r) 6 = some x6 := atI_lit _ 6 x6 rfl
theorem at7 {x0 x1 x2 x3 x4 x5 x6 x7 : D} {r : List D} : atI (x0 :: x1 :: x2 :: x3 :: x4 :: x5 :: x6 :: x7 :: r) 7 = some x7 := atI_lit _ 7 x7 rfl
theorem at8 {x0 x1 x2 x3 x4 x5 x6 x7 x8 : D} {r : List D} : atI (x0 :: x1 :: x2 :: x3 :: x4 :: x5 :: x6 :: x7 :: x8 :: r) 8 = some x8 := atI_lit _ 8 x8 rfl
theorem at9 {x0 x1 x2 x3 x4 x5 x6 x7 x8 x9 : D} {r : List D} : atI (x0 :: x1 :: x2 :: x3 :: x4 :: x5 :: x6 :: x7 :: x8 :: x9 :: r) 9 = some x9 := atI_lit _ 9 x9 rfl
theorem grain_sat (x y : Int) (h : 0 ≤ x) (h2 : x < 1073741824) : ∃ a b : Int, f__law_grain [.int x, .int y] = .ok (.tuple [.int a, .int b]) := by
  suffices h : Sat (fun d => ∃ a b : Int, d = .tuple [.int a, .int b]) (f__law_grain [.int x, .int y]) by
    obtain ⟨_, e, a, b, rfl⟩ := h
    exact ⟨a, b, e⟩
  refine Sat.fD rfl (ON.seq (ON.iff (c := x == 0) (by simp) (fun c => ?_) (fun c => ?_)))
  · simp
  · obtain ⟨a, b, e, _⟩ := low_sat y x (by simp at c; omega) h2
    simp [e]
/-- a row of this kind and name -/
def RowIs (kind name : Str) (d : D) : Prop := ∃ rest, d = .tuple (.str kind :: .str name :: rest) ∧ rest.length < 900 ∧ ∀ x ∈ rest, Pl 3 x = true
def num (x : Int) : Prop := 0 ≤ x ∧ x < 5040
section
variable {kind name s0 s1 s2 s3 s4 s5 : Str} {n0 n1 n2 n3 n4 n5 n6 n7 n8 n9 : Int}
theorem piece_sat (m : Int) (h0 : num n0) (h1 : num n1) (h2 : num n2) (h3 : num n3) (h4 : num n4) (h5 : num n5) (h6 : num n6) : ∃ (p0 p1 p2 : D) (r : List D), f__law_piece [.list [.int n0, .int n1, .int n2, .int n3, .int n4, .int n5, .int n6, .int n7, .int n8, .int n9], .int m] = .ok (.tuple (p0 :: p1 :: p2 :: r)) ∧ r.length < 900 ∧ ∀ p ∈ p0 :: p1 :: p2 :: r, Pl 2 p = true := by
  suffices h : Sat (fun d => ∃ (p0 p1 p2 : D) (r : List D), d = .tuple (p0 :: p1 :: p2 :: r) ∧ r.length < 900 ∧ ∀ p ∈ p0 :: p1 :: p2 :: r, Pl 2 p = true) (f__law_piece [.list [.int n0, .int n1, .int n2, .int n3, .int n4, .int n5, .int n6, .int n7, .int n8, .int n9], .int m]) by
    obtain ⟨_, e, p0, p1, p2, r, rfl, h⟩ := h
    exact ⟨p0, p1, p2, r, e, h⟩
  refine Sat.fD rfl ?_
  unfold num at *
  obtain ⟨ax, ay, ea, a1, a2, a3, a4⟩ := low_sat (n0 % 41 - 20) (1 + n1 % 6) (by omega) (by omega)
  obtain ⟨bx, b_y, eb, b1, b2, b3, b4⟩ := low_sat (n2 % 41 - 20) (1 + n3 % 6) (by omega) (by omega)
  obtain ⟨cx, cy, ec, c1, c2, c3, c4⟩ := low_sat (ax + (1 + n4 % 9) * ay) ay (by omega) (by omega)
  obtain ⟨dx, dy, ed, d1, d2, d3, d4⟩ := low_sat (bx + (1 + n5 % 9) * b_y) b_y (by omega) (by omega)
  refine ON.seq ?_
  simp [at1, fMod_pos, ea]
  refine ON.seq ?_
  simp [at2, at3, fMod_pos, eb]
  refine ON.seq ?_
  simp [at1, at4, fMod_pos, fMul_sm (i := 1 + n4 % 9) (k := ay) (by omega) (by omega), ec]
  refine ON.seq ?_
  simp [at1, at5, fMod_pos, fMul_sm (i := 1 + n5 % 9) (k := b_y) (by omega) (by omega), ed]
  refine ON.guard (c := n6 % 2 == 0 || decide (m < 4)) ?_ (ON.retS ?_) (ON.retS ?_)
  · by_cases q : n6 % 2 = 0 <;> simp [at6, fMod_pos, q]
  · simp
    exact ⟨_, rfl, _, _, _, _, rfl, by simp, by simp⟩
  · simp
    exact ⟨_, rfl, _, _, _, _, rfl, by simp, by simp⟩
theorem line_sat {p0 p1 p2 : D} {r : List D} (k : Int) (h : ∀ p ∈ p0 :: p1 :: p2 :: r, Pl 2 p = true) : ∃ x y : D, f__law_line [.tuple (p0 :: p1 :: p2 :: r), .int k] = .ok (.tuple [x, y]) ∧ Pl 2 x = true ∧ Pl 2 y = true := by
  suffices h : Sat (fun d => ∃ x y : D, d = .tuple [x, y] ∧ Pl 2 x = true ∧ Pl 2 y = true) (f__law_line [.tuple (p0 :: p1 :: p2 :: r), .int k]) by
    obtain ⟨_, e, x, y, rfl, h⟩ := h
    exact ⟨x, y, e, h⟩
  refine Sat.fD rfl ?_
  obtain ⟨x1, e1, m1⟩ := atI_in (p0 :: p1 :: p2 :: r) (i := 1 + k / 2 % 2) (by omega) (by simp; omega)
  obtain ⟨x2, e2, m2⟩ := atI_in (p0 :: p1 :: p2 :: r) (i := k / 2 % 2) (by omega) (by simp; omega)
  refine ON.guard (c := k % 2 == 0) (by simp [fMod_pos]) (ON.retS ?_) (ON.retS ?_)
  · simp [fMod_pos, fDiv_pos, e1]
    exact ⟨_, rfl, _, _, rfl, h _ (List.mem_cons_self ..), h _ m1⟩
  · simp [fMod_pos, fDiv_pos, e2, at2]
    exact ⟨_, rfl, _, _, rfl, h _ (by simp), h _ m2⟩
theorem shape_sat (hs : ∀ s ∈ [s0, s1, s2, s3, s4, s5], PyData.strOk s = true) (h0 : num n0) (h1 : num n1) (h2 : num n2) (h3 : num n3) (h4 : num n4) (h5 : num n5) (h6 : num n6) (h7 : num n7) (h8 : num n8) (h9 : num n9) :
    Sat (RowIs kind name) (f__law_shape_row [.str kind, .str name, .list [.str s0, .str s1, .str s2, .str s3, .str s4, .str s5], .list [.int n0, .int n1, .int n2, .int n3, .int n4, .int n5, .int n6, .int n7, .int n8, .int n9]]) := by
  refine Sat.fD rfl ?_
  obtain ⟨p0, p1, p2, r, ep, lp, hp⟩ := piece_sat (n7 := n7) (n8 := n8) (n9 := n9) 4 h0 h1 h2 h3 h4 h5 h6
  obtain ⟨q0, q1, q2, r2, eq, lq, hq⟩ := piece_sat (n7 := n7) (n8 := n8) (n9 := n9) 3 h0 h1 h2 h3 h4 h5 h6
  obtain ⟨u0, u1, u2, r3, eu, lu, hu⟩ := piece_sat (n7 := n7) (n8 := n8) (n9 := n9) 6 h0 h1 h2 h3 h4 h5 h6
  unfold num at *
  obtain ⟨ax, ay, ea, a1, a2, a3, a4⟩ := low_sat (n7 % 8) 7 (by omega) (by omega)
  obtain ⟨bx, b_y, eb, b1, b2, b3, b4⟩ := low_sat (1 + n7 % 30) (1 + n8 % 7) (by omega) (by omega)
  refine ON.seq ?_
  simp [at5, fMod_pos]
  refine ON.seq ?_
  simp [at7, fMod_pos, ea]
  refine ON.seq ?_
  simp [at7, at8, fMod_pos, eb]
  -- panel
  refine ON.guard (by simp; rfl) (ON.seq ?_) ?_
  · obtain ⟨gx, gy, eg⟩ := grain_sat (n7 % 9) (n8 % 19 - 9) (by omega) (by omega)
    obtain ⟨w, ew, mw⟩ := atI_in [PyData.str "flips", PyData.str "plain"] (i := n9 % 2) (by omega) (by simp; omega)
    simp [at7, at8, at9, fMod_pos, eg, ep, ew]
    refine ⟨_, rfl, by simp, ?_⟩
    have hw : Pl 3 w = true := by
      simp at mw
      rcases mw with rfl | rfl <;> decide +kernel
    simp [Pl_str, hs, hw]
    exact ⟨by omega, by simpa using hp⟩
  -- reef
  refine ON.guard (by simp; rfl) (ON.retS ?_) ?_
  · obtain ⟨x, y, el, l1, l2⟩ := line_sat n9 hq
    simp [at9, eq, el]
    exact ⟨_, rfl, _, rfl, by simp, by simp [l1, l2]⟩
  -- repair
  refine ON.guard (by simp; rfl) (ON.retS ?_) ?_
  · simp [at1, at2, fMod_pos]
    exact ⟨_, rfl, _, rfl, by simp, by simp [Pl_str, hs]⟩
  -- revoke
  refine ON.guard (by simp; rfl) (ON.retS ?_) ?_
  · simp [at1, at2, fMod_pos]
    exact ⟨_, rfl, _, rfl, by simp, by simp [Pl_str, hs]⟩
  -- rig
  refine ON.guard (by simp; rfl) (ON.retS ?_) ?_
  · obtain ⟨ts, et, lt, mt⟩ := cut_strs [s0, s1, s2, s3, s4, s5] none (some (1 + n0 % 4))
    have et : cutD [PyData.str s0, .str s1, .str s2, .str s3, .str s4, .str s5] none (some (1 + n0 % 4)) = ts.map .str := et
    simp at lt
    have es := sorted_strs ts (by omega)
    simp [fMod_pos, et, es]
    refine ⟨_, rfl, _, rfl, by simp, ?_⟩
    rintro x hx
    rw [List.mem_singleton.mp hx]
    exact Pl.strs hs (fun t ht => mt t ((sortBy_perm ts).mem_iff.mp ht)) (by have := (sortBy_perm (lt := ltT) ts).length_eq; omega)
  -- sail
  refine ON.guard (by simp; rfl) (ON.seq ?_) ?_
  · simp [eu]
    refine ON.seq ?_
    simp [at7, fMod_pos]
    refine ON.seq ?_
    obtain ⟨cx, cy, ec, c1, c2, c3, c4⟩ := low_sat (2 * bx) b_y (by omega) (by omega)
    obtain ⟨dx, dy, ed, d1, d2, d3, d4⟩ := low_sat (5 * bx) b_y (by omega) (by omega)
    simp [at1, fMul_sm', ec, ed]
    refine ON.seq ?_
    have hcut : ∀ lo hi, (cutD [PyData.tuple [.int bx, .int b_y], .tuple [.int cx, .int cy], .tuple [.int dx, .int dy]] lo hi).length < 1000 ∧ ∀ x ∈ cutD [PyData.tuple [.int bx, .int b_y], .tuple [.int cx, .int cy], .tuple [.int dx, .int dy]] lo hi, Pl 2 x = true := by
      intro lo hi
      refine ⟨by simp [cutD]; omega, fun x hx => ?_⟩
      unfold cutD at hx
      have := List.mem_of_mem_drop (List.mem_of_mem_take hx)
      simp at this
      rcases this with rfl | rfl | rfl <;> simp
    obtain ⟨h1', h2'⟩ := hcut none (some (1 + n9 % 3))
    obtain ⟨ts, et, lt, mt⟩ := cut_strs [s0, s1, s2, s3, s4, s5] (some 2) (some (3 + n6 % 4))
    have et : cutD [PyData.str s0, .str s1, .str s2, .str s3, .str s4, .str s5] (some 2) (some (3 + n6 % 4)) = ts.map .str := et
    obtain ⟨ts2, et2, lt2, mt2⟩ := cut_strs [s0, s1, s2, s3, s4, s5] none (some (n5 % 4))
    have et2 : cutD [PyData.str s0, .str s1, .str s2, .str s3, .str s4, .str s5] none (some (n5 % 4)) = ts2.map .str := et2
    simp at lt lt2
    simp [at1, at8, at9, at5, at6, fMod_pos, et, et2]
    rw [fAdd_t _ _ (by rw [PySem.sizeLine_eq]; simp)]
    simp
    refine ⟨_, rfl, by simp, ?_⟩
    have q1 := Pl.strs hs mt (by omega)
    have q2 := Pl.strs hs mt2 (by omega)
    simp only [Pl_tup] at q1 q2
    simp [Pl_str, hs, q1, q2]
    exact ⟨⟨by omega, by simpa using hu⟩, ⟨h1', h2'⟩, ⟨by omega, fun x hx => hs x (mt x hx)⟩, by omega, fun x hx => hs x (mt2 x hx)⟩
  -- seen
  refine ON.guard (by simp; rfl) (ON.retS ?_) ?_
  · have hx : ∀ x ∈ [n0, n1, n2, n3, n4, n5, n6, n7, n8, n9], num x := by simp [num]; omega
    have q : ∀ i : Int, 0 ≤ i → i < 10 → ∃ j : Int, atI [PyData.int n0, .int n1, .int n2, .int n3, .int n4, .int n5, .int n6, .int n7, .int n8, .int n9] i = some (.int j) := fun i g1 g2 => by
      obtain ⟨x, e, m⟩ := atI_in [PyData.int n0, .int n1, .int n2, .int n3, .int n4, .int n5, .int n6, .int n7, .int n8, .int n9] g1 (by simp; omega)
      simp at m
      rcases m with rfl | rfl | rfl | rfl | rfl | rfl | rfl | rfl | rfl | rfl <;> exact ⟨_, e⟩
    have e1 := iRangeL (a := d2 fAdd (dC (.int (1))) (d2 fMod (d2 fIx (dV 3) (dC (.int (9)))) (dC (.int (4))))) (n := 1 + n9 % 4) (β := [some (PyData.str kind), some (.str name), some (.list [.str s0, .str s1, .str s2, .str s3, .str s4, .str s5]), some (.list [.int n0, .int n1, .int n2, .int n3, .int n4, .int n5, .int n6, .int n7, .int n8, .int n9]), some (.int (n5 % 100)), some (.tuple [.int ax, .int ay]), some (.tuple [.int bx, .int b_y]), none, none, none, none, none, none]) (by simp [at9, fMod_pos]) (by omega) (by omega)
    obtain ⟨ys, e2, l2, p2⟩ := lcD_ex (f := cmD (.nm 12) yesT (dTup (aCons (d2 fMod (d2 fIx (dV 3) (dV 12)) (dC (.int (4)))) (aCons (d2 fAdd (d2 fMod (d2 fIx (dV 3) (dV 12)) (dC (.int (4)))) (d2 fMod (d2 fIx (dV 3) (d2 fAdd (dV 12) (dC (.int (4))))) (dC (.int (3))))) aNil))) [some (PyData.str kind), some (.str name), some (.list [.str s0, .str s1, .str s2, .str s3, .str s4, .str s5]), some (.list [.int n0, .int n1, .int n2, .int n3, .int n4, .int n5, .int n6, .int n7, .int n8, .int n9]), some (.int (n5 % 100)), some (.tuple [.int ax, .int ay]), some (.tuple [.int bx, .int b_y]), none, none, none, none, none, none]) (P := fun d => Pl 2 d = true)
      (ds := (List.range (1 + n9 % 4).toNat).map fun i : Nat => PyData.int i) (fun d hd => by
        obtain ⟨i, hi, rfl⟩ := List.mem_map.mp hd
        obtain ⟨z, hz⟩ : ∃ z : Int, z = (i : Int) := ⟨_, rfl⟩
        have hi : i < (1 + n9 % 4).toNat := by simpa using hi
        rw [← hz]
        obtain ⟨j1, w1⟩ := q z (by omega) (by omega)
        obtain ⟨j2, w2⟩ := q (z + 4) (by omega) (by omega)
        refine ⟨.tuple [.int (j1 % 4), .int (j1 % 4 + j2 % 3)], ?_, by simp⟩
        simp [cmD, w1, w2, fMod_pos])
    have lr : ((List.range (1 + n9 % 4).toNat).map fun i : Nat => PyData.int i).length < 16777217 := by simp; omega
    simp only [dTup_ap, aCons_ap, dN_ap, dFz_ap, dLc_ap, aNil_ap, dats_cons, dats_nil, dt_d, dt_u, dV_s, dV_z, Res.bind_ok, e1, le_size lr, if_true, wipeB_cons, wipeB_nil, List.set, e2, fTuple_l, Res.of_some]
    refine ⟨_, if_pos (by rw [PySem.sizeLine_eq]; simp), _, rfl, by simp, fun x hx => ?_⟩
    rw [List.mem_singleton.mp hx, Pl_tup, Bool.and_eq_true, List.all_eq_true]
    exact ⟨decide_eq_true (by rw [l2]; simp; omega), p2⟩
  -- share
  refine ON.guard (by simp; rfl) (ON.retS ?_) ?_
  · simp [at1, at2]
    exact ⟨_, rfl, _, rfl, by simp, by simp [Pl_str, hs]⟩
  refine ON.retS ?_
  simp [at1, at2, fMod_pos]
  exact ⟨_, rfl, _, rfl, by simp, by simp⟩
theorem row_sat (hs : ∀ s ∈ [s0, s1, s2, s3, s4, s5], PyData.strOk s = true) (h0 : num n0) (h1 : num n1) (h2 : num n2) (h3 : num n3) (h4 : num n4) (h5 : num n5) (h6 : num n6) (h7 : num n7) (h8 : num n8) (h9 : num n9) :
    Sat (RowIs kind name) (f__law_row [.str kind, .str name, .list [.str s0, .str s1, .str s2, .str s3, .str s4, .str s5], .list [.int n0, .int n1, .int n2, .int n3, .int n4, .int n5, .int n6, .int n7, .int n8, .int n9]]) := by
  refine Sat.fD rfl ?_
  unfold num at *
  obtain ⟨ax, ay, ea, a1, a2, a3, a4⟩ := low_sat (1 + n7 % 90) (1 + n8 % 7) (by omega) (by omega)
  refine ON.seq ?_
  simp [at5, fMod_pos]
  refine ON.seq ?_
  simp [at6, fMod_pos]
  refine ON.seq ?_
  simp [at7, at8, fMod_pos, ea]
  -- bolt
  refine ON.guard (by simp; rfl) (ON.retS ?_) ?_
  · obtain ⟨x, y, e, b1, b2, b3, b4⟩ := low_sat (ax * (n1 % 4)) (ay * 3) (by omega) (by omega)
    simp [at1, fMod_pos, fMul_sm, fMul_sm (i := ax) (k := n1 % 4) (by omega) (by omega), e]
    exact ⟨_, rfl, _, rfl, by simp, by simp [Pl_str, hs]⟩
  -- claim
  refine ON.guard (by simp; rfl) (ON.retS ?_) ?_
  · simp [at1]
    exact ⟨_, rfl, _, rfl, by simp, by simp [Pl_str, hs]⟩
  -- class
  refine ON.guard (by simp; rfl) (ON.seq ?_) ?_
  · obtain ⟨lx, ly, el, l1, l2, l3, l4⟩ := low_sat (n0 % 50) (1 + n1 % 4) (by omega) (by omega)
    have hq : 1 ≤ ly * ay := by have := Int.mul_le_mul l3 a3 (by omega) (by omega); omega
    have hq2 : ly * ay ≤ 4 * 7 := Int.mul_le_mul (by omega) (by omega) (by omega) (by omega)
    obtain ⟨mx, my, em, m1, m2, m3, m4⟩ := low_sat (lx * ay + ax * (n2 % 3) * ly) (ly * ay) (by omega) (by omega)
    simp [at1, fMod_pos, el]
    refine ON.seq ?_
    simp [at1, at2, fMod_pos, fMul_sm (i := lx) (k := ay) (by omega) (by omega), fMul_sm (i := ax) (k := n2 % 3) (by omega) (by omega), fMul_sm (i := ax * (n2 % 3)) (k := ly) (by omega) (by omega), fMul_sm (i := ly) (k := ay) (by omega) (by omega), em]
    refine ON.seq ?_
    obtain ⟨ts, et, lt, mt⟩ := cut_strs [s0, s1, s2, s3, s4, s5] none (some (n3 % 5))
    have et : cutD [PyData.str s0, .str s1, .str s2, .str s3, .str s4, .str s5] none (some (n3 % 5)) = ts.map .str := et
    obtain ⟨ts2, et2, lt2, mt2⟩ := cut_strs [s0, s1, s2, s3, s4, s5] (some (n9 % 3)) none
    have et2 : cutD [PyData.str s0, .str s1, .str s2, .str s3, .str s4, .str s5] (some (n9 % 3)) none = ts2.map .str := et2
    simp at lt lt2
    have es := sorted_strs ts (by omega)
    simp [at3, fMod_pos, et, es]
    simp [at4, at9, fMod_pos, et2]
    have ml := (sortBy_perm (lt := ltT) ts).length_eq
    refine ⟨_, rfl, by simp, ?_⟩
    simp [Pl_str, hs]
    exact ⟨⟨by omega, fun x hx => hs x (mt x ((sortBy_perm ts).mem_iff.mp hx))⟩, by omega, fun x hx => hs x (mt2 x hx)⟩
  -- cloth
  refine ON.guard (by simp; rfl) (ON.seq ?_) ?_
  · simp [fMod_pos]
    refine ON.seq ?_
    simp [at1, fMod_pos]
    have hm : 0 < (if n1 % 1000 < n0 % 1000 then 1 + n1 % 1000 else 1 + n0 % 1000) + 1 := by split <;> omega
    simp [at2, at3, at4, fMod_pos, fMod_pos hm]
    exact ⟨_, rfl, by simp, by simp⟩
  -- day
  refine ON.guard (by simp; rfl) (ON.retS ?_) ?_
  · obtain ⟨ts, et, lt, mt⟩ := cut_strs [s0, s1, s2, s3, s4, s5] (some 1) (some (2 + n1 % 3))
    have et : cutD [PyData.str s0, .str s1, .str s2, .str s3, .str s4, .str s5] (some 1) (some (2 + n1 % 3)) = ts.map .str := et
    simp at lt
    simp [at1, fMod_pos, et]
    refine ⟨_, rfl, _, rfl, by simp, ?_⟩
    simp [Pl_str, hs]
    exact ⟨by omega, fun x hx => hs x (mt x hx)⟩
  -- grant
  refine ON.guard (by simp; rfl) (ON.retS ?_) ?_
  · obtain ⟨w, ew, mw⟩ := atI_in [PyData.str "onward", PyData.str "only"] (i := n0 % 2) (by omega) (by simp; omega)
    have hw : Pl 3 w = true := by
      simp at mw
      rcases mw with rfl | rfl <;> decide +kernel
    simp [at1, at2, fMod_pos, ew]
    exact ⟨_, rfl, _, rfl, by simp, by simp [Pl_str, hs, hw]⟩
  -- hand, table
  refine ON.guard (c := kind == "hand" || kind == "table") (by by_cases q : kind = "hand" <;> simp [q]) (ON.retS ?_) ?_
  · simp [fMod_pos]
    exact ⟨_, rfl, _, rfl, by simp, by simp⟩
  -- master
  refine ON.guard (by simp; rfl) (ON.retS ?_) ?_
  · simp
    exact ⟨_, rfl, _, rfl, by simp, by simp⟩
  -- measurer
  refine ON.guard (by simp; rfl) (ON.retS ?_) ?_
  · obtain ⟨x, y, e, _⟩ := low_sat (n0 % 7) (7 + n1 % 5) (by omega) (by omega)
    simp [at1, fMod_pos, e]
    exact ⟨_, rfl, _, rfl, by simp, by simp⟩
  -- order
  refine ON.guard (by simp; rfl) (ON.seq ?_) ?_
  · obtain ⟨w, ew, mw⟩ := atI_in [PyData.str "new", PyData.str "mend"] (i := n0 % 2) (by omega) (by simp; omega)
    have hw : Pl 3 w = true := by
      simp at mw
      rcases mw with rfl | rfl <;> decide +kernel
    simp [fMod_pos, ew]
    simp [at1, at2, fMod_pos]
    exact ⟨_, rfl, by simp, by simp [Pl_str, hs, hw]⟩
  have sh := shape_sat (kind := kind) (name := name) hs h0 h1 h2 h3 h4 h5 h6 h7 h8 h9
  refine ON.retS ?_
  simp
  exact sh
end
end Cm

/-! PL7: the drawn names and books. -/
namespace DL
open PySem L2
theorem fIx_str {z : Str} {i : Int} (h : z.cps.size < 16777217) : fIx (.str z) (.int i) = (atI z.cps.toList i).map fun c => .str ⟨#[c]⟩ := if_pos (by
  have e : z.length = z.cps.size := rfl
  rw [e, PySem.sizeLine_eq]
  omega)
theorem ok_one {c : Nat} (h : c < 1114112) : PyData.strOk ⟨#[c]⟩ = true := by
  unfold PyData.strOk
  simp
  omega
theorem ok_app {a b : Str} (h : PyData.strOk a = true) (k : PyData.strOk b = true) : PyData.strOk (a ++ b) = true := by
  have e : (a ++ b : Str) = ⟨a.cps ++ b.cps⟩ := rfl
  unfold PyData.strOk at *
  rw [e, Array.all_append, h, k]
  rfl
theorem app_cps (a b : Str) : (a ++ b : Str).cps = a.cps ++ b.cps := rfl
theorem fAdd_str {a b : Str} (h : a.cps.size + b.cps.size < 16777217) : fAdd (.str a) (.str b) = some (.str (a ++ b)) := fAdd_s a b (by
  have e : a.length = a.cps.size := rfl
  have e2 : b.length = b.cps.size := rfl
  rw [e, e2, PySem.sizeLine_eq]
  omega)
end DL
namespace Cm
open PySem L2 DL
theorem abc_cps : ("abcdefghijklmnopqrstuvwxyz" : Str).cps.toList = (List.range 26).map (97 + ·) := by decide +kernel
theorem abc_size : ("abcdefghijklmnopqrstuvwxyz" : Str).cps.size = 26 := by decide +kernel
theorem pqr_cps : ("pqrstu" : Str).cps.toList = (List.range 6).map (112 + ·) := by decide +kernel
theorem pqr_size : ("pqrstu" : Str).cps.size = 6 := by decide +kernel
def ends : List Str := ["", "x", "7", "q0"]
theorem ends_ok : ∀ s ∈ ends, s.cps.size ≤ 2 ∧ PyData.strOk s = true := by decide +kernel
theorem name_ok (n : Int) : ∃ s : Str, f__law_name [.int n] = .ok (.str s) ∧ s.cps.size ≤ 3 ∧ PyData.strOk s = true := by
  suffices h : Sat (fun d => ∃ s : Str, d = .str s ∧ s.cps.size ≤ 3 ∧ PyData.strOk s = true) (f__law_name [.int n]) by
    obtain ⟨_, e, s, rfl, h⟩ := h
    exact ⟨s, e, h⟩
  refine Sat.fD rfl (ON.seq ?_)
  obtain ⟨c, ec, mc⟩ := atI_in ("abcdefghijklmnopqrstuvwxyz" : Str).cps.toList (i := n % 26) (by omega) (by rw [abc_cps]; simp; omega)
  have hc : c < 1114112 := by
    rw [abc_cps] at mc
    simp at mc
    omega
  obtain ⟨w, ew, mw⟩ := atI_in (ends.map PyData.str) (i := n / 26 % 4) (by omega) (by simp [ends]; omega)
  obtain ⟨t, mt, rfl⟩ := List.mem_map.mp mw
  obtain ⟨t1, t2⟩ := ends_ok t mt
  have ew' : atI [PyData.str "", .str "x", .str "7", .str "q0"] (n / 26 % 4) = some (.str t) := ew
  have ex : fIx (.str "abcdefghijklmnopqrstuvwxyz") (.int (n % 26)) = some (.str ⟨#[c]⟩) := by
    rw [fIx_str (by rw [abc_size]; decide), ec]
    rfl
  have ea : fAdd (.str ⟨#[c]⟩) (.str t) = some (.str (⟨#[c]⟩ ++ t)) := fAdd_str (by simp; omega)
  simp [fMod_pos, fDiv_pos, ex, ew', ea]
  refine ⟨?_, ok_app (ok_one hc) t2⟩
  rw [app_cps]
  simp
  omega
theorem names_ok (xs : List Int) (h : 6 ≤ xs.length) : ∃ s0 s1 s2 s3 s4 s5 : Str, f__law_names [.list (xs.map PyData.int)] = .ok (.list [.str s0, .str s1, .str s2, .str s3, .str s4, .str s5]) ∧ (∀ s ∈ [s0, s1, s2, s3, s4, s5], PyData.strOk s = true) ∧ [s0, s1, s2, s3, s4, s5].Nodup := by
  have each : ∀ k : Nat, k < 6 → ∃ s : Str, cmD (.nm 1) yesT (d2 fAdd (dCall f__law_name (aCons (d2 fIx (dV 0) (dV 1)) aNil)) (d2 fIx (dC (.str "pqrstu")) (dV 1))) [some (.list (xs.map PyData.int)), none] (.int k) = .ok (some (.str s)) ∧ PyData.strOk s = true ∧ s.cps.toList.getLast? = some (112 + k) := fun k hk => by
    obtain ⟨s, es, s1, s2⟩ := name_ok (xs[k]'(by omega))
    have e1 : atI (xs.map PyData.int) (k : Int) = some (.int (xs[k]'(by omega))) := by rw [atI_lt _ k (by simp; omega), List.getElem_map]
    have e2 : fIx (.str "pqrstu") (.int (k : Int)) = some (.str ⟨#[112 + k]⟩) := by
      rw [fIx_str (by rw [pqr_size]; decide), pqr_cps, atI_lt _ k (by simp; omega)]
      simp
    have ea : fAdd (.str s) (.str ⟨#[112 + k]⟩) = some (.str (s ++ ⟨#[112 + k]⟩)) := fAdd_str (by simp; omega)
    refine ⟨s ++ ⟨#[112 + k]⟩, ?_, ok_app s2 (ok_one (by omega)), ?_⟩
    · simp [cmD, e1, e2, es, ea]
    · rw [app_cps]
      simp
  obtain ⟨s0, a0, b0, c0⟩ := each 0 (by decide)
  obtain ⟨s1, a1, b1, c1⟩ := each 1 (by decide)
  obtain ⟨s2, a2, b2, c2⟩ := each 2 (by decide)
  obtain ⟨s3, a3, b3, c3⟩ := each 3 (by decide)
  obtain ⟨s4, a4, b4, c4⟩ := each 4 (by decide)
  obtain ⟨s5, a5, b5, c5⟩ := each 5 (by decide)
  clear each
  refine ⟨s0, s1, s2, s3, s4, s5, ?_, by simp [*], ?_⟩
  · rw [f__law_names, fD_ap (by rfl)]
    have er := iRangeL (a := dC (.int 6)) (β := [some (.list (xs.map PyData.int)), none]) (n := 6) rfl (by decide) (by decide)
    have el : (List.range (6 : Int).toNat).map (fun i : Nat => PyData.int i) = [.int (0 : Nat), .int (1 : Nat), .int (2 : Nat), .int (3 : Nat), .int (4 : Nat), .int (5 : Nat)] := rfl
    rw [el] at er
    have ec : lcD (cmD (.nm 1) yesT (d2 fAdd (dCall f__law_name (aCons (d2 fIx (dV 0) (dV 1)) aNil)) (d2 fIx (dC (.str "pqrstu")) (dV 1))) [some (.list (xs.map PyData.int)), none]) [.int (0 : Nat), .int (1 : Nat), .int (2 : Nat), .int (3 : Nat), .int (4 : Nat), .int (5 : Nat)] = .ok [.str s0, .str s1, .str s2, .str s3, .str s4, .str s5] := by
      rw [lcD, a0, lcD, a1, lcD, a2, lcD, a3, lcD, a4, lcD, a5]
      rfl
    simp only [b__law_names, sRet_ap, sD_ap, dFz_ap, dLc_ap, List.map_cons, List.map_nil, List.cons_append, List.nil_append, List.replicate, dats_cons, dats_nil, dt_d, dt_u, er, Res.bind_ok, wipeB_cons, wipeB_nil, List.set, ec, Nat.reduceSub]
    simp
  · have ne : ∀ {a b : Str} {i j : Nat}, a.cps.toList.getLast? = some (112 + i) → b.cps.toList.getLast? = some (112 + j) → i ≠ j → a ≠ b := fun h1 h2 h3 e => by
      rw [e, h2] at h1
      simp at h1
      omega
    simp only [List.nodup_cons, List.mem_cons, not_or, List.not_mem_nil, not_false_eq_true, List.nodup_nil, and_true]
    refine ⟨⟨ne c0 c1 (by decide), ne c0 c2 (by decide), ne c0 c3 (by decide), ne c0 c4 (by decide), ne c0 c5 (by decide)⟩, ⟨ne c1 c2 (by decide), ne c1 c3 (by decide), ne c1 c4 (by decide), ne c1 c5 (by decide)⟩, ⟨ne c2 c3 (by decide), ne c2 c4 (by decide), ne c2 c5 (by decide)⟩, ⟨ne c3 c4 (by decide), ne c3 c5 (by decide)⟩, ne c4 c5 (by decide)⟩
/-! ### kinds, books -/
def kinds : List Str := ["bolt", "claim", "class", "cloth", "day", "grant", "hand", "master", "measurer", "order", "panel", "reef", "repair", "revoke", "rig", "sail", "seen", "share", "table", "wind"]
theorem kinds_strs : ∀ k ∈ kinds, PyData.strOk k = true := by decide +kernel
theorem kinds_ok : f__law_kinds [] = .ok (.list (kinds.map PyData.str)) := by
  rw [f__law_kinds, fD_ap (by rfl)]
  simp [b__law_kinds, sSeq_ap]
  rw [fAdd_l _ _ (by rw [PySem.sizeLine_eq]; simp)]
  simp [kinds]
/-- a row of a book with these names -/
def RwN (ss : List Str) (d : D) : Prop := Rw d ∧ nm d ∈ ss
theorem RowIs.rwN {ss : List Str} {k n : Str} {d : D} (h : RowIs k n d) (hk : PyData.strOk k = true) (hn : n ∈ ss) (hs : ∀ s ∈ ss, PyData.strOk s = true) : RwN ss d := by
  obtain ⟨rest, rfl, h1, h2⟩ := h
  exact ⟨⟨k, n, rest, rfl, h1, h2, hk, hs n hn⟩, hn⟩
def Bk (ss : List Str) (m : Nat) (rs : List D) : Prop := Ris ky rs ∧ (∀ r ∈ rs, RwN ss r) ∧ rs.length ≤ m
theorem Bk.put {ss : List Str} {m : Nat} {rs : List D} {r : D} (h : Bk ss m rs) (hr : RwN ss r) : Bk ss (m + 1) (DL.put ky rs r) := by
  obtain ⟨h1, h2, h3⟩ := h
  refine ⟨put_ris h1, fun x hx => ?_, Nat.le_trans put_len (by omega)⟩
  rcases put_mem.mp hx with rfl | hx
  · exact hr
  · exact h2 x hx.1
theorem atI_num {xs : List Int} (h : ∀ x ∈ xs, num x) {i : Int} (h0 : 0 ≤ i) (h1 : i < xs.length) : ∃ j, atI (xs.map PyData.int) i = some (.int j) ∧ num j :=
  ⟨_, atI_map PyData.int xs h0 h1, h _ (List.getElem_mem ..)⟩
theorem ten {ys : List D} (l : ys.length = 10) (h : ∀ y ∈ ys, ∃ j, y = .int j ∧ num j) : ∃ n0 n1 n2 n3 n4 n5 n6 n7 n8 n9 : Int, ys = [.int n0, .int n1, .int n2, .int n3, .int n4, .int n5, .int n6, .int n7, .int n8, .int n9] ∧ num n0 ∧ num n1 ∧ num n2 ∧ num n3 ∧ num n4 ∧ num n5 ∧ num n6 ∧ num n7 ∧ num n8 ∧ num n9 := by
  match ys, l with
  | [y0, y1, y2, y3, y4, y5, y6, y7, y8, y9], _ =>
    obtain ⟨n0, rfl, h0⟩ := h y0 (by simp)
    obtain ⟨n1, rfl, h1⟩ := h y1 (by simp)
    obtain ⟨n2, rfl, h2⟩ := h y2 (by simp)
    obtain ⟨n3, rfl, h3⟩ := h y3 (by simp)
    obtain ⟨n4, rfl, h4⟩ := h y4 (by simp)
    obtain ⟨n5, rfl, h5⟩ := h y5 (by simp)
    obtain ⟨n6, rfl, h6⟩ := h y6 (by simp)
    obtain ⟨n7, rfl, h7⟩ := h y7 (by simp)
    obtain ⟨n8, rfl, h8⟩ := h y8 (by simp)
    obtain ⟨n9, rfl, h9⟩ := h y9 (by simp)
    exact ⟨n0, n1, n2, n3, n4, n5, n6, n7, n8, n9, rfl, h0, h1, h2, h3, h4, h5, h6, h7, h8, h9⟩
section
variable {s0 s1 s2 s3 s4 s5 : Str} {xs : List Int} {p0 p1 p2 p3 p4 : Int}
def BI (s0 s1 s2 s3 s4 s5 : Str) (xs : List Int) (start count : Int) (ps : List D) (ds : List D) (α : At) : Prop := (∀ d ∈ ds, ∃ k : Int, d = .int k ∧ 0 ≤ k ∧ k < 1000) ∧ ∃ (rs : List D) (u7 u8 u9 u10 : AV), Bk [s0, s1, s2, s3, s4, s5] (count.toNat - ds.length) rs ∧ ds.length ≤ count.toNat ∧
  α = [AV.dat (.list (xs.map PyData.int)), .dat (.int start), .dat (.int count), .dat (.list [.str s0, .str s1, .str s2, .str s3, .str s4, .str s5]), .dat (.list ps), .dat (.list rs), .dat (.list (kinds.map PyData.str)), u7, u8, u9, u10]
theorem book_ok (hs : ∀ s ∈ [s0, s1, s2, s3, s4, s5], PyData.strOk s = true) (hx : ∀ x ∈ xs, num x) (h0 : 0 < xs.length) (hm : xs.length < 1000) (start count : Int) (t0 : 0 ≤ start) (t1 : start < 1000) (c0 : 0 ≤ count) (c1 : count < 1000) :
    ∃ rs, f__law_book [.list (xs.map PyData.int), .int start, .int count, .list [.str s0, .str s1, .str s2, .str s3, .str s4, .str s5], .list [.int p0, .int p1, .int p2, .int p3, .int p4]] = .ok (.list rs) ∧ Bk [s0, s1, s2, s3, s4, s5] count.toNat rs := by
  suffices h : Sat (fun d => ∃ rs, d = .list rs ∧ Bk [s0, s1, s2, s3, s4, s5] count.toNat rs) (f__law_book [.list (xs.map PyData.int), .int start, .int count, .list [.str s0, .str s1, .str s2, .str s3, .str s4, .str s5], .list [.int p0, .int p1, .int p2, .int p3, .int p4]]) by
    obtain ⟨_, e, rs, rfl, h⟩ := h
    exact ⟨rs, e, h⟩
  obtain ⟨z, hz⟩ : ∃ z : Int, z = xs.length := ⟨_, rfl⟩
  refine Sat.fD rfl (ON.seq ?_)
  simp
  refine ON.seq ?_
  simp [kinds_ok]
  refine ON.seq (ON.for_ (BI s0 s1 s2 s3 s4 s5 xs start count [.int p0, .int p1, .int p2, .int p3, .int p4]) (iRangeL (n := count) (by simp) (by omega) (by omega)) ?_ ?_ ?_)
  · refine ⟨fun d hd => ?_, [], .un, .un, .un, .un, ⟨List.Pairwise.nil, by simp, by simp⟩, by simp, rfl⟩
    obtain ⟨k, hk, rfl⟩ := List.mem_map.mp hd
    exact ⟨k, rfl, by omega, by simp at hk; omega⟩
  · rintro d ds α ⟨hk, rs, u7, u8, u9, u10, hb, hl, rfl⟩
    obtain ⟨k, rfl, k0, k1⟩ := hk d (List.mem_cons_self ..)
    refine ⟨_, rfl, ON.seq ?_⟩
    obtain ⟨ys, ey, ly, py⟩ := lcD_ex (f := cmD (.nm 10) yesT (d2 fIx (dV 0) (d2 fMod (d2 fAdd (d2 fAdd (dV 1) (d2 fMul (dC (.int (5))) (dV 7))) (dV 10)) (dN fLen (aCons (dV 0) aNil))))
        [some (.list (xs.map PyData.int)), some (.int start), some (.int count), some (.list [.str s0, .str s1, .str s2, .str s3, .str s4, .str s5]), some (.list [.int p0, .int p1, .int p2, .int p3, .int p4]), some (.list rs), some (.list (kinds.map PyData.str)), some (.int k), u8.dt, u9.dt, none])
      (P := fun d => ∃ j, d = .int j ∧ num j) (ds := (List.range 10).map fun i : Nat => PyData.int i) (fun d hd => by
        obtain ⟨i, hi, rfl⟩ := List.mem_map.mp hd
        obtain ⟨y, hy⟩ : ∃ y : Int, y = (i : Int) := ⟨_, rfl⟩
        have hi : i < 10 := by simpa using hi
        rw [← hy]
        obtain ⟨j, q, hj⟩ := atI_num hx (i := (start + 5 * k + y) % z) (Int.emod_nonneg _ (by omega)) (by have := Int.emod_lt_of_pos (start + 5 * k + y) (show 0 < z by omega); omega)
        refine ⟨.int j, ?_, j, rfl, hj⟩
        simp only [cmD, setT_nm, List.set, yesT_ap, Res.bind_ok, d2_ap, dN_ap, aCons_ap, aNil_ap, dC_ap, dV_s, dV_z, fMul_sm' (i := 5) (k := k) (by decide) (by decide), Res.of_some, fAdd_int, fLen_l, List.length_map, ← hz, fMod_pos (i := start + 5 * k + y) (k := z) (by omega), fIx_l, q, if_true, noEr_ok])
    obtain ⟨n0, n1, n2, n3, n4, n5, n6, n7, n8, n9, rfl, hn0, hn1, hn2, hn3, hn4, hn5, hn6, hn7, hn8, hn9⟩ := ten (by simpa using ly) py
    have er := iRangeL (a := dC (.int 10)) (β := [some (.list (xs.map PyData.int)), some (.int start), some (.int count), some (.list [.str s0, .str s1, .str s2, .str s3, .str s4, .str s5]), some (.list [.int p0, .int p1, .int p2, .int p3, .int p4]), some (.list rs), some (.list (kinds.map PyData.str)), some (.int k), u8.dt, u9.dt, u10.dt]) (n := 10) rfl (by decide) (by decide)
    simp only [sLay_ap, sD_ap, dLc_ap, dats_cons, dats_nil, dt_d, List.set, er, Res.bind_ok, show (10 : Int).toNat = 10 from rfl, le_size (n := ((List.range 10).map fun i : Nat => PyData.int i).length) (by decide), if_true, wipeB_cons, wipeB_nil, ey, ofR_ok, ON_nx]
    refine ON.seq ?_
    obtain ⟨w, ew, mw⟩ := atI_in [PyData.int p0, .int p1, .int p2, .int p3, .int p4] (i := n0 % 5) (by omega) (by simp; omega)
    obtain ⟨p, rfl⟩ : ∃ p, w = .int p := by
      simp at mw
      rcases mw with rfl | rfl | rfl | rfl | rfl <;> exact ⟨_, rfl⟩
    obtain ⟨v, ev, mv⟩ := atI_in (kinds.map PyData.str) (i := p % 20) (by omega) (by simp [kinds]; omega)
    obtain ⟨kd', hkd, rfl⟩ := List.mem_map.mp mv
    simp [fMod_pos, ew, ev]
    obtain ⟨v2, ev2, mv2⟩ := atI_in [PyData.str s0, .str s1, .str s2, .str s3, .str s4, .str s5] (i := n1 % 6) (by omega) (by simp; omega)
    obtain ⟨n', rfl, hn'⟩ : ∃ n' : Str, v2 = .str n' ∧ n' ∈ [s0, s1, s2, s3, s4, s5] := by
      simp at mv2
      rcases mv2 with rfl | rfl | rfl | rfl | rfl | rfl <;> exact ⟨_, rfl, by simp⟩
    obtain ⟨row, erow, hrow⟩ := row_sat (kind := kd') (name := n') hs hn2 hn3 hn4 hn5 hn6 hn7 hn8 hn9 hn0 hn1
    have hr := RowIs.rwN hrow (kinds_strs _ hkd) hn' hs
    have e1 : cutD [PyData.int n0, .int n1, .int n2, .int n3, .int n4, .int n5, .int n6, .int n7, .int n8, .int n9] (some 2) none = [.int n2, .int n3, .int n4, .int n5, .int n6, .int n7, .int n8, .int n9] := rfl
    have e2 : cutD [PyData.int n0, .int n1, .int n2, .int n3, .int n4, .int n5, .int n6, .int n7, .int n8, .int n9] none (some 2) = [.int n0, .int n1] := rfl
    have e3 : fAdd (.list [PyData.int n2, .int n3, .int n4, .int n5, .int n6, .int n7, .int n8, .int n9]) (.list [.int n0, .int n1]) = some (.list [.int n2, .int n3, .int n4, .int n5, .int n6, .int n7, .int n8, .int n9, .int n0, .int n1]) := fAdd_l _ _ (by rw [PySem.sizeLine_eq]; simp)
    have e4 := placed_ok (rs := rs) (d := row) (fun x hx => (hb.2.1 x hx).1) hr.1 (by have := hb.2.2; omega)
    simp [at1, fMod_pos, ev2, e1, e2, e3, erow, e4]
    refine ⟨fun d hd => hk d (List.mem_cons_of_mem _ hd), DL.put ky rs row, _, _, _, _, ?_, by simp at hl; omega, rfl⟩
    have := hb.put hr
    simp only [List.length_cons] at this hl
    rwa [show count.toNat - (ds.length + 1) + 1 = count.toNat - ds.length by omega] at this
  · rintro α ⟨_, rs, u7, u8, u9, u10, hb, _, rfl⟩
    simp
    exact hb
end
end Cm

/-! PL8: keys as tuples, rows in books, edits. -/
namespace DL
open PySem L2 Cm
theorem lcD_pick {f : D → Res (Option D)} (p : D → Bool) (g : D → D) {ds : List D} (h : ∀ d ∈ ds, f d = .ok (if p d = true then some (g d) else none)) : lcD f ds = .ok ((ds.filter p).map g) := by
  rw [lcD_map h]
  congr 1
  induction ds with
  | nil => rfl
  | cons x xs ih =>
    have ih := ih fun d hd => h d (List.mem_cons_of_mem _ hd)
    by_cases q : p x = true <;> simp_all
theorem bk_kind {ss : List Str} {m : Nat} {rs : List D} (h : Bk ss m rs) (k : Str) : (rs.filter fun x => decide (kd x = k)).length ≤ ss.length := by
  obtain ⟨h1, h2, h3⟩ := h
  rw [← List.length_map (f := nm)]
  refine List.Nodup.length_le_of_subset ?_ fun x hx => ?_
  · unfold List.Nodup
    rw [List.pairwise_map]
    refine List.Pairwise.imp_of_mem ?_ (h1.filter _)
    intro a b ha hb hab e
    have ka : kd a = k := by simpa using (List.mem_filter.mp ha).2
    have kb : kd b = k := by simpa using (List.mem_filter.mp hb).2
    have : ky a = ky b := Prod.ext (ka.trans kb.symm) e
    rw [this, kl_irr] at hab
    cases hab
  · obtain ⟨y, hy, rfl⟩ := List.mem_map.mp hx
    exact (h2 y (List.mem_filter.mp hy).1).2
theorem Rw.oks {d : D} (h : Rw d) : PyData.strOk (kd d) = true ∧ PyData.strOk (nm d) = true := by
  obtain ⟨k, n, rest, rfl, h1, h2, h3, h4⟩ := h
  exact ⟨h3, h4⟩
def keyD (k : Ky) : D := .tuple [.str k.1, .str k.2]
def okK (k : Ky) : Prop := PyData.strOk k.1 = true ∧ PyData.strOk k.2 = true
theorem key_pl {k : Ky} (h : okK k) : Pl 1 (keyD k) = true := by
  simp [keyD, Pl_str, h.1, h.2]
theorem keyD_inj {a b : Ky} : keyD a = keyD b ↔ a = b := by
  simp [keyD, Prod.ext_iff]
theorem eqv_dec {n : Nat} {x y : D} (hx : Pl n x = true) (hy : Pl n y = true) (q : Decidable (x = y)) : PyData.eqv x y = @decide (x = y) q := by
  have := Pl.eqv hx hy
  by_cases e : x = y <;> cases h : PyData.eqv x y <;> simp_all
theorem fNe_key {a b : Ky} (h1 : okK a) (h2 : okK b) : fNe (keyD a) (keyD b) = some (.bool (decide (a ≠ b))) := by
  have p1 := key_pl h1
  have p2 := key_pl h2
  have e : eqD (keyD a) (keyD b) = some (PyData.eqv (keyD a) (keyD b)) := if_pos ⟨Pl.shaped p1 (by decide), Pl.shaped p2 (by decide)⟩
  have w := Pl.eqv p1 p2
  rw [keyD_inj] at w
  unfold fNe
  rw [e]
  by_cases q : a = b
  · rw [w.mpr q]
    simp [q]
  · have : PyData.eqv (keyD a) (keyD b) = false := by
      cases z : PyData.eqv (keyD a) (keyD b) with
      | false => rfl
      | true => exact absurd (w.mp z) q
    simp [this, q]
theorem fLt_key (a b : Ky) : fLt (keyD a) (keyD b) = some (.bool (kl a b)) := by
  have e : kinAll [PyData.str a.1, .str a.2] [.str b.1, .str b.2] = true := rfl
  have e2 : lexB [PyData.str a.1, .str a.2] [.str b.1, .str b.2] = kl a b := by
    simp only [lexB, eqS, ltB, kl]
    by_cases q : a.1 = b.1
    · rw [q]
      have i := sl_irr b.1
      unfold sl at i ⊢
      by_cases q2 : a.2 = b.2
      · have i2 := sl_irr b.2
        unfold sl at i2
        simp [q2] at i2 ⊢
        try simp [i, i2]
      · simp [q2, sl]
        intro z
        exact absurd z (by simpa using i)
    · simp [q, sl]
  unfold fLt keyD
  simp only [e, if_true, e2]
theorem notin_rows {d : D} {rs : List D} (h : Rw d) (k : ∀ x ∈ rs, Rw x) (t : Bool) (q : Decidable (d ∈ rs)) : fNotIn d (if t then .tuple rs else .list rs) = some (.bool !(@decide (d ∈ rs) q)) := by
  have s := shapedL (n := 4) (ds := rs) (fun x hx => (k x hx).pl) (by decide)
  have e : inD d (if t then .tuple rs else .list rs) = some (rs.any fun z => PyData.eqv z d) := by
    cases t with
    | true => exact if_pos ⟨Pl.shaped h.pl (by decide), s.2⟩
    | false => exact if_pos ⟨Pl.shaped h.pl (by decide), s.1⟩
  unfold fNotIn
  rw [e]
  have w : (rs.any fun z => PyData.eqv z d) = @decide (d ∈ rs) q := by
    by_cases m : d ∈ rs
    · have : (rs.any fun z => PyData.eqv z d) = true := List.any_eq_true.mpr ⟨d, m, (Pl.eqv h.pl h.pl).mpr rfl⟩
      simp [this, m]
    · have : (rs.any fun z => PyData.eqv z d) = false := by
        rw [List.any_eq_false]
        intro z hz e
        exact m ((Pl.eqv (k z hz).pl h.pl).mp e ▸ hz)
      simp [this, m]
  rw [Option.map_some, w]
theorem any_key {rs : List D} {k : Ky} : (rs.any fun x => decide (ky x = k)) = decide (k ∈ rs.map ky) := by
  by_cases m : k ∈ rs.map ky
  · obtain ⟨x, hx, e⟩ := List.mem_map.mp m
    have : (rs.any fun x => decide (ky x = k)) = true := List.any_eq_true.mpr ⟨x, hx, by simpa using e⟩
    simp [this, m]
  · have : (rs.any fun x => decide (ky x = k)) = false := by
      rw [List.any_eq_false]
      intro z hz e
      exact m (List.mem_map.mpr ⟨z, hz, by simpa using e⟩)
    rw [this]
    simp [m]
end DL

namespace K69
open PySem PySem.Spec PyProof.Rows L2 DL Cm

def top (i : Nat) : Stmt := PySem.Challenge.pw_sailloft_k69_differences.main.body.getD i (.Pass ⟨0, 0, 0, 0⟩)
def k_MOST_ROWS : D := .int (12)
def s__law_kinds : Stmt := top 27
def N__law_kinds : List Str := ["first"]
def P__law_kinds : List Str := []
theorem sc__law_kinds : FnScope N__law_kinds P__law_kinds (defScope s__law_kinds) := ⟨rfl, rfl, rfl, by decide +kernel, rfl, by decide +kernel, by decide +kernel⟩
def s__law_before : Stmt := top 29
def N__law_before : List Str := ["one", "two"]
def P__law_before : List Str := ["one", "two"]
theorem sc__law_before : FnScope N__law_before P__law_before (defScope s__law_before) := ⟨rfl, rfl, rfl, by decide +kernel, rfl, by decide +kernel, by decide +kernel⟩
def s__law_placed : Stmt := top 30
def N__law_placed : List Str := ["rows", "row", "below", "above", "old"]
def P__law_placed : List Str := ["rows", "row"]
theorem sc__law_placed : FnScope N__law_placed P__law_placed (defScope s__law_placed) := ⟨rfl, rfl, rfl, by decide +kernel, rfl, by decide +kernel, by decide +kernel⟩
def s__law_lowest : Stmt := top 20
def N__law_lowest : List Str := ["n", "d", "a", "b", "k", "c"]
def P__law_lowest : List Str := ["n", "d"]
theorem sc__law_lowest : FnScope N__law_lowest P__law_lowest (defScope s__law_lowest) := ⟨rfl, rfl, rfl, by decide +kernel, rfl, by decide +kernel, by decide +kernel⟩
def s__law_grain : Stmt := top 21
def N__law_grain : List Str := ["x", "y"]
def P__law_grain : List Str := ["x", "y"]
theorem sc__law_grain : FnScope N__law_grain P__law_grain (defScope s__law_grain) := ⟨rfl, rfl, rfl, by decide +kernel, rfl, by decide +kernel, by decide +kernel⟩
def s__law_line : Stmt := top 23
def N__law_line : List Str := ["piece", "number"]
def P__law_line : List Str := ["piece", "number"]
theorem sc__law_line : FnScope N__law_line P__law_line (defScope s__law_line) := ⟨rfl, rfl, rfl, by decide +kernel, rfl, by decide +kernel, by decide +kernel⟩
def s__law_piece : Stmt := top 22
def N__law_piece : List Str := ["numbers", "most", "x", "y", "far", "top"]
def P__law_piece : List Str := ["numbers", "most"]
theorem sc__law_piece : FnScope N__law_piece P__law_piece (defScope s__law_piece) := ⟨rfl, rfl, rfl, by decide +kernel, rfl, by decide +kernel, by decide +kernel⟩
def s__law_shape_row : Stmt := top 26
def N__law_shape_row : List Str := ["kind", "name", "names", "n", "day", "share", "strain", "grain", "outline", "luff", "rule", "row", "k"]
def P__law_shape_row : List Str := ["kind", "name", "names", "n"]
theorem sc__law_shape_row : FnScope N__law_shape_row P__law_shape_row (defScope s__law_shape_row) := ⟨rfl, rfl, rfl, by decide +kernel, rfl, by decide +kernel, by decide +kernel⟩
def s__law_row : Stmt := top 25
def N__law_row : List Str := ["kind", "name", "names", "n", "day", "small", "area", "low", "high", "some", "along", "across", "work"]
def P__law_row : List Str := ["kind", "name", "names", "n"]
theorem sc__law_row : FnScope N__law_row P__law_row (defScope s__law_row) := ⟨rfl, rfl, rfl, by decide +kernel, rfl, by decide +kernel, by decide +kernel⟩
def s__law_book : Stmt := top 31
def N__law_book : List Str := ["numbers", "start", "count", "names", "pool", "rows", "kinds", "k", "n", "kind", "j"]
def P__law_book : List Str := ["numbers", "start", "count", "names", "pool"]
theorem sc__law_book : FnScope N__law_book P__law_book (defScope s__law_book) := ⟨rfl, rfl, rfl, by decide +kernel, rfl, by decide +kernel, by decide +kernel⟩
def s__law_find : Stmt := top 32
def N__law_find : List Str := ["rows", "row", "old"]
def P__law_find : List Str := ["rows", "row"]
theorem sc__law_find : FnScope N__law_find P__law_find (defScope s__law_find) := ⟨rfl, rfl, rfl, by decide +kernel, rfl, by decide +kernel, by decide +kernel⟩
def b__law_find : At → Out :=
 (sRet (sD (d2 fGt (dN fLen (aCons (dFz (dLc (iSeq (dV 0)) (.nm 2) (tAnd (tV (d2 fEq (d2 fIx (dV 2) (dC (.int (0)))) (d2 fIx (dV 1) (dC (.int (0)))))) (tV (d2 fEq (d2 fIx (dV 2) (dC (.int (1)))) (d2 fIx (dV 1) (dC (.int (1))))))) (dV 2) [2])) aNil)) (dC (.int (0))))))
def f__law_find : List D → Res D := fD 2 3 b__law_find
def s__law_same : Stmt := top 28
def N__law_same : List Str := ["one", "two", "k"]
def P__law_same : List Str := ["one", "two"]
theorem sc__law_same : FnScope N__law_same P__law_same (defScope s__law_same) := ⟨rfl, rfl, rfl, by decide +kernel, rfl, by decide +kernel, by decide +kernel⟩
def s__law_difference : Stmt := top 33
def N__law_difference : List Str := ["base", "rows", "drops", "kept", "row", "old"]
def P__law_difference : List Str := ["base", "rows"]
theorem sc__law_difference : FnScope N__law_difference P__law_difference (defScope s__law_difference) := ⟨rfl, rfl, rfl, by decide +kernel, rfl, by decide +kernel, by decide +kernel⟩
def b__law_difference : At → Out :=
 (sSeq (sLay 2 (sD (dLc (iSeq (dV 0)) (.nm 4) (tNot (tV (dCall f__law_find (aCons (dV 1) (aCons (dV 4) aNil))))) (dTup (aCons (dC (.str "drop")) (aCons (d2 fIx (dV 4) (dC (.int (0)))) (aCons (d2 fIx (dV 4) (dC (.int (1)))) aNil)))) [4])))
 (sSeq (sSet 3 (sD (dFz (dLc (iSeq (dV 1)) (.nm 4) (tV (d2 fGt (dN fLen (aCons (dFz (dLc (iSeq (dV 0)) (.nm 5) (tV (dCall f__law_same (aCons (dV 5) (aCons (dV 4) aNil)))) (dV 5) [5])) aNil)) (dC (.int (0))))) (dV 4) [4]))))
 (sRet (sD (dN fTuple (aCons (d2 fAdd (dV 2) (dFz (dLc (iSeq (dV 1)) (.nm 4) (tV (d2 fNotIn (dV 4) (dV 3))) (dTup (aCons (dC (.str "put")) (aCons (dV 4) aNil))) [4]))) aNil))))))
def f__law_difference : List D → Res D := fD 2 6 b__law_difference
def s_row_key : Stmt := top 6
def N_row_key : List Str := ["row"]
def P_row_key : List Str := ["row"]
theorem sc_row_key : FnScope N_row_key P_row_key (defScope s_row_key) := ⟨rfl, rfl, rfl, by decide +kernel, rfl, by decide +kernel, by decide +kernel⟩
def s_edit_key : Stmt := top 11
def N_edit_key : List Str := ["edit"]
def P_edit_key : List Str := ["edit"]
theorem sc_edit_key : FnScope N_edit_key P_edit_key (defScope s_edit_key) := ⟨rfl, rfl, rfl, by decide +kernel, rfl, by decide +kernel, by decide +kernel⟩
def b_edit_key : At → Out :=
 (sSeq (sIf (sD (tV (d2 fEq (d2 fIx (dV 0) (dC (.int (0)))) (dC (.str "put")))))
 (sRet (sD (dCall f_row_key (aCons (d2 fIx (dV 0) (dC (.int (1)))) aNil))))
 sNil)
 (sRet (sD (dTup (aCons (d2 fIx (dV 0) (dC (.int (1)))) (aCons (d2 fIx (dV 0) (dC (.int (2)))) aNil))))))
def f_edit_key : List D → Res D := fD 1 1 b_edit_key
def s_find_row : Stmt := top 9
def N_find_row : List Str := ["book", "kind", "name", "row"]
def P_find_row : List Str := ["book", "kind", "name"]
theorem sc_find_row : FnScope N_find_row P_find_row (defScope s_find_row) := ⟨rfl, rfl, rfl, by decide +kernel, rfl, by decide +kernel, by decide +kernel⟩
def s_has_row : Stmt := top 8
def N_has_row : List Str := ["book", "kind", "name", "row"]
def P_has_row : List Str := ["book", "kind", "name"]
theorem sc_has_row : FnScope N_has_row P_has_row (defScope s_has_row) := ⟨rfl, rfl, rfl, by decide +kernel, rfl, by decide +kernel, by decide +kernel⟩
def s_kind_rows : Stmt := top 7
def N_kind_rows : List Str := ["book", "kind", "row"]
def P_kind_rows : List Str := ["book", "kind"]
theorem sc_kind_rows : FnScope N_kind_rows P_kind_rows (defScope s_kind_rows) := ⟨rfl, rfl, rfl, by decide +kernel, rfl, by decide +kernel, by decide +kernel⟩
def s_put_into : Stmt := top 12
def N_put_into : List Str := ["book", "row", "below", "above", "old"]
def P_put_into : List Str := ["book", "row"]
theorem sc_put_into : FnScope N_put_into P_put_into (defScope s_put_into) := ⟨rfl, rfl, rfl, by decide +kernel, rfl, by decide +kernel, by decide +kernel⟩
def b_put_into : At → Out :=
 (sSeq (sLay 2 (sD (dLc (iSeq (dV 0)) (.nm 4) (tV (d2 fLt (dCall f_row_key (aCons (dV 4) aNil)) (dCall f_row_key (aCons (dV 1) aNil)))) (dV 4) [4])))
 (sSeq (sLay 3 (sD (dLc (iSeq (dV 0)) (.nm 4) (tV (d2 fLt (dCall f_row_key (aCons (dV 1) aNil)) (dCall f_row_key (aCons (dV 4) aNil)))) (dV 4) [4])))
 (sRet (sD (dN fTuple (aCons (d2 fAdd (d2 fAdd (dV 2) (dLst (aCons (dV 1) aNil))) (dV 3)) aNil))))))
def f_put_into : List D → Res D := fD 2 5 b_put_into
def s_apply_edit : Stmt := top 13
def N_apply_edit : List Str := ["book", "edit", "kind", "name", "row"]
def P_apply_edit : List Str := ["book", "edit"]
theorem sc_apply_edit : FnScope N_apply_edit P_apply_edit (defScope s_apply_edit) := ⟨rfl, rfl, rfl, by decide +kernel, rfl, by decide +kernel, by decide +kernel⟩
def b_apply_edit : At → Out :=
 (sSeq (sSetT (.tup [2, 3]) (sD (dCall f_edit_key (aCons (dV 1) aNil))))
 (sSeq (sIf (sD (tV (d2 fEq (d2 fIx (dV 1) (dC (.int (0)))) (dC (.str "drop")))))
 (sSeq (sDrop (sD (dCall f_find_row (aCons (dV 0) (aCons (dV 2) (aCons (dV 3) aNil))))))
 (sRet (sD (dN fTuple (aCons (dFz (dLc (iSeq (dV 0)) (.nm 4) (tV (d2 fNe (dCall f_row_key (aCons (dV 4) aNil)) (dTup (aCons (dV 2) (aCons (dV 3) aNil))))) (dV 4) [4])) aNil)))))
 sNil)
 (sSeq (sIf (sD (tAnd (tNot (tV (dCall f_has_row (aCons (dV 0) (aCons (dV 2) (aCons (dV 3) aNil)))))) (tV (d2 fGe (dN fLen (aCons (dCall f_kind_rows (aCons (dV 0) (aCons (dV 2) aNil))) aNil)) (dC k_MOST_ROWS)))))
 (fun _ => .no)
 sNil)
 (sRet (sD (dCall f_put_into (aCons (dV 0) (aCons (d2 fIx (dV 1) (dC (.int (1)))) aNil))))))))
def f_apply_edit : List D → Res D := fD 2 5 b_apply_edit
def s_apply_edits : Stmt := top 14
def N_apply_edits : List Str := ["book", "edits", "edit"]
def P_apply_edits : List Str := ["book", "edits"]
theorem sc_apply_edits : FnScope N_apply_edits P_apply_edits (defScope s_apply_edits) := ⟨rfl, rfl, rfl, by decide +kernel, rfl, by decide +kernel, by decide +kernel⟩
def b_apply_edits : At → Out :=
 (sSeq (sFor (iSeq (dV 1)) (.nm 2)
 (sSet 0 (sD (dCall f_apply_edit (aCons (dV 0) (aCons (dV 2) aNil))))))
 (sRet (sD (dV 0))))
def f_apply_edits : List D → Res D := fD 2 3 b_apply_edits
def s_book_difference : Stmt := top 15
def N_book_difference : List Str := ["base", "book", "drops", "puts", "row"]
def P_book_difference : List Str := ["base", "book"]
theorem sc_book_difference : FnScope N_book_difference P_book_difference (defScope s_book_difference) := ⟨rfl, rfl, rfl, by decide +kernel, rfl, by decide +kernel, by decide +kernel⟩
def b_book_difference : At → Out :=
 (sSeq (sLay 2 (sD (dLc (iSeq (dV 0)) (.nm 4) (tNot (tV (dCall f_has_row (aCons (dV 1) (aCons (d2 fIx (dV 4) (dC (.int (0)))) (aCons (d2 fIx (dV 4) (dC (.int (1)))) aNil)))))) (dTup (aCons (dC (.str "drop")) (aCons (d2 fIx (dV 4) (dC (.int (0)))) (aCons (d2 fIx (dV 4) (dC (.int (1)))) aNil)))) [4])))
 (sSeq (sLay 3 (sD (dLc (iSeq (dV 1)) (.nm 4) (tV (d2 fNotIn (dV 4) (dV 0))) (dTup (aCons (dC (.str "put")) (aCons (dV 4) aNil))) [4])))
 (sRet (sD (dN fTuple (aCons (d2 fAdd (dV 2) (dV 3)) aNil))))))
def f_book_difference : List D → Res D := fD 2 5 b_book_difference
def s_undo_edit : Stmt := top 16
def N_undo_edit : List Str := ["book", "edit", "kind", "name"]
def P_undo_edit : List Str := ["book", "edit"]
theorem sc_undo_edit : FnScope N_undo_edit P_undo_edit (defScope s_undo_edit) := ⟨rfl, rfl, rfl, by decide +kernel, rfl, by decide +kernel, by decide +kernel⟩
def b_undo_edit : At → Out :=
 (sSeq (sDrop (sD (dCall f_apply_edit (aCons (dV 0) (aCons (dV 1) aNil)))))
 (sSeq (sSetT (.tup [2, 3]) (sD (dCall f_edit_key (aCons (dV 1) aNil))))
 (sSeq (sIf (sD (tV (dCall f_has_row (aCons (dV 0) (aCons (dV 2) (aCons (dV 3) aNil))))))
 (sRet (sD (dTup (aCons (dC (.str "put")) (aCons (dCall f_find_row (aCons (dV 0) (aCons (dV 2) (aCons (dV 3) aNil)))) aNil)))))
 sNil)
 (sRet (sD (dTup (aCons (dC (.str "drop")) (aCons (dV 2) (aCons (dV 3) aNil)))))))))
def f_undo_edit : List D → Res D := fD 2 4 b_undo_edit
def s__law_both : Stmt := top 35
def N__law_both : List Str := ["base", "rows", "due", "edits", "book", "backs", "edit"]
def P__law_both : List Str := ["base", "rows"]
theorem sc__law_both : FnScope N__law_both P__law_both (defScope s__law_both) := ⟨rfl, rfl, rfl, by decide +kernel, rfl, by decide +kernel, by decide +kernel⟩
def b__law_both : At → Out :=
 (sSeq (sSet 2 (sD (dCall f__law_difference (aCons (dV 0) (aCons (dV 1) aNil)))))
 (sSeq (sSet 3 (sD (dCall f_book_difference (aCons (dN fTuple (aCons (dV 0) aNil)) (aCons (dN fTuple (aCons (dV 1) aNil)) aNil)))))
 (sSeq (sIf (sD (tNot (tV (dCall f__law_same (aCons (dV 3) (aCons (dV 2) aNil))))))
 (sRet (sD (dC (.bool false))))
 sNil)
 (sSeq (sIf (sD (tNot (tV (dCall f__law_same (aCons (dCall f_apply_edits (aCons (dN fTuple (aCons (dV 0) aNil)) (aCons (dV 3) aNil))) (aCons (dN fTuple (aCons (dV 1) aNil)) aNil))))))
 (sRet (sD (dC (.bool false))))
 sNil)
 (sSeq (sSet 4 (sD (dN fTuple (aCons (dV 0) aNil))))
 (sSeq (sOwn 5 (sD (fLst aNil)))
 (sSeq (sFor (iSeq (dV 2)) (.nm 6)
 (sSeq (sApp 5 (sD (dCall f_undo_edit (aCons (dV 4) (aCons (dV 6) aNil)))))
 (sSet 4 (sD (dCall f_apply_edit (aCons (dV 4) (aCons (dV 6) aNil)))))))
 (sSeq (sIf (sD (tNot (tV (dCall f__law_same (aCons (dV 4) (aCons (dN fTuple (aCons (dV 1) aNil)) aNil))))))
 (sRet (sD (dC (.bool false))))
 sNil)
 (fun α => (sRet (sD (dCall f__law_same (aCons (dCall f_apply_edits (aCons (dV 4) (aCons (dN fTuple (aCons (d1 fRevA (dV 5)) aNil)) aNil))) (aCons (dN fTuple (aCons (dV 0) aNil)) aNil))))) (frzA 5 α))))))))))
def f__law_both : List D → Res D := fD 2 7 b__law_both
def s__law_name : Stmt := top 19
def N__law_name : List Str := ["number", "letters"]
def P__law_name : List Str := ["number"]
theorem sc__law_name : FnScope N__law_name P__law_name (defScope s__law_name) := ⟨rfl, rfl, rfl, by decide +kernel, rfl, by decide +kernel, by decide +kernel⟩
def s__law_names : Stmt := top 24
def N__law_names : List Str := ["numbers", "k"]
def P__law_names : List Str := ["numbers"]
theorem sc__law_names : FnScope N__law_names P__law_names (defScope s__law_names) := ⟨rfl, rfl, rfl, by decide +kernel, rfl, by decide +kernel, by decide +kernel⟩
def s__law_near : Stmt := top 34
def N__law_near : List Str := ["rows", "names", "numbers", "near", "k", "number", "n", "j"]
def P__law_near : List Str := ["rows", "names", "numbers"]
theorem sc__law_near : FnScope N__law_near P__law_near (defScope s__law_near) := ⟨rfl, rfl, rfl, by decide +kernel, rfl, by decide +kernel, by decide +kernel⟩
def b__law_near : At → Out :=
 (sSeq (sOwn 3 (sD (fLst aNil)))
 (sSeq (sFor (iRange1 (dN fLen (aCons (dV 0) aNil))) (.nm 4)
 (sSeq (sSet 5 (sD (d2 fIx (dV 2) (d2 fMod (d2 fAdd (dC (.int (50))) (d2 fMul (dC (.int (3))) (dV 4))) (dN fLen (aCons (dV 2) aNil))))))
 (sSeq (sLay 6 (sD (dLc (iRange1 (dC (.int (10)))) (.nm 7) yesT (d2 fIx (dV 2) (d2 fMod (d2 fAdd (d2 fAdd (dC (.int (51))) (d2 fMul (dC (.int (3))) (dV 4))) (dV 7)) (dN fLen (aCons (dV 2) aNil)))) [7])))
 (sIf (sD (tV (d2 fEq (d2 fMod (dV 5) (dC (.int (4)))) (dC (.int (1))))))
 (sApp 3 (sD (dCall f__law_row (aCons (d2 fIx (d2 fIx (dV 0) (dV 4)) (dC (.int (0)))) (aCons (d2 fIx (d2 fIx (dV 0) (dV 4)) (dC (.int (1)))) (aCons (dV 1) (aCons (dV 6) aNil)))))))
 (sIf (sD (tV (d2 fGt (d2 fMod (dV 5) (dC (.int (4)))) (dC (.int (1))))))
 (sApp 3 (sD (d2 fIx (dV 0) (dV 4))))
 sNil)))))
 (fun α => (sRet (sD (dV 3))) (frzA 3 α))))
def f__law_near : List D → Res D := fD 3 8 b__law_near
def s__law_numbers : Stmt := top 18
def N__law_numbers : List Str := ["script", "count", "rest", "size", "large", "numbers", "k", "at", "mixed", "cell"]
def P__law_numbers : List Str := ["script", "count"]
theorem sc__law_numbers : FnScope N__law_numbers P__law_numbers (defScope s__law_numbers) := ⟨rfl, rfl, rfl, by decide +kernel, rfl, by decide +kernel, by decide +kernel⟩
def s_law : Stmt := top 36
def N_law : List Str := ["script", "numbers", "names", "pool", "base", "rows", "row", "one", "two"]
def P_law : List Str := ["script"]
theorem sc_law : FnScope N_law P_law (defScope s_law) := ⟨rfl, rfl, rfl, by decide +kernel, rfl, by decide +kernel, by decide +kernel⟩
def b_law : At → Out :=
 (sSeq (sSet 1 (sD (dCall f__law_numbers (aCons (dV 0) (aCons (dC (.int (90))) aNil)))))
 (sSeq (sSet 2 (sD (dCall f__law_names (aCons (dV 1) aNil))))
 (sSeq (sSet 3 (sD (dLst (aCons (dC (.int (6))) (aCons (dC (.int (7))) (aCons (dC (.int (18))) (aCons (dC (.int (0))) (aCons (d2 fMod (d2 fIx (dV 1) (dC (.int (9)))) (dC (.int (20)))) aNil))))))))
 (sSeq (sSet 4 (sD (dCall f__law_book (aCons (dV 1) (aCons (dC (.int (8))) (aCons (d2 fMod (d2 fIx (dV 1) (dC (.int (6)))) (dC (.int (15)))) (aCons (dV 2) (aCons (dV 3) aNil))))))))
 (sSeq (sSet 5 (sD (dCall f__law_book (aCons (dV 1) (aCons (dC (.int (33))) (aCons (d2 fMod (d2 fIx (dV 1) (dC (.int (7)))) (dC (.int (15)))) (aCons (dV 2) (aCons (dV 3) aNil))))))))
 (sSeq (sIf (sD (tV (d2 fEq (d2 fMod (d2 fIx (dV 1) (dC (.int (8)))) (dC (.int (2)))) (dC (.int (0))))))
 (sSeq (sSet 5 (sD (dCall f__law_near (aCons (dV 4) (aCons (dV 2) (aCons (dV 1) aNil))))))
 (sFor (iSeq (dCall f__law_book (aCons (dV 1) (aCons (dC (.int (40))) (aCons (d2 fMod (d2 fIx (dV 1) (dC (.int (7)))) (dC (.int (3)))) (aCons (dV 2) (aCons (dV 3) aNil))))))) (.nm 6)
 (sSet 5 (sD (dCall f__law_placed (aCons (dV 5) (aCons (dV 6) aNil)))))))
 sNil)
 (sSeq (sIf (sD (tV (d2 fNe (dN fLen (aCons (dCall f_book_difference (aCons (dN fTuple (aCons (dV 5) aNil)) (aCons (dN fTuple (aCons (dV 5) aNil)) aNil))) aNil)) (dC (.int (0))))))
 (sRet (sD (dC (.bool false))))
 sNil)
 (sSeq (sFor (iSeq (dLst (aCons (dV 4) (aCons (dV 5) (aCons (dLst aNil) aNil))))) (.nm 7)
 (sFor (iSeq (dLst (aCons (dV 4) (aCons (dV 5) (aCons (dLst aNil) aNil))))) (.nm 8)
 (sIf (sD (tNot (tV (dCall f__law_both (aCons (dV 7) (aCons (dV 8) aNil))))))
 (sRet (sD (dC (.bool false))))
 sNil)))
 (sRet (sD (dC (.bool true))))))))))))
def f_law : List D → Res D := fD 1 9 b_law
end K69

namespace K69
open PySem L2 DL Cm
def encE : Ed D → D
  | .put x => .tuple [.str "put", x]
  | .drop k => .tuple [.str "drop", .str k.1, .str k.2]
section
variable {ss : List Str} {m : Nat} {rs : List D}
theorem put_into_ok {d : D} (h : ∀ x ∈ rs, Rw x) (k : Rw d) (hl : rs.length < 100000) : f_put_into [.tuple rs, d] = .ok (.tuple (DL.put ky rs d)) := by
  rw [f_put_into, fD_ap (by rfl)]
  have rk : ∀ {x : D}, Rw x → f_row_key [x] = .ok (keyD (ky x)) := fun hx => row_key_ok hx
  have e1 := lcD_sieve (f := cmD (.nm 4) (tV (d2 fLt (dCall f_row_key (aCons (dV 4) aNil)) (dCall f_row_key (aCons (dV 1) aNil)))) (dV 4) [some (.tuple rs), some d, none, none, none]) (fun x => kl (ky x) (ky d)) (ds := rs) fun x hx => by
    simp [cmD, rk (h x hx), rk k, fLt_key]
    cases kl (ky x) (ky d) <;> simp
  have e2 := lcD_sieve (f := cmD (.nm 4) (tV (d2 fLt (dCall f_row_key (aCons (dV 1) aNil)) (dCall f_row_key (aCons (dV 4) aNil)))) (dV 4) [some (.tuple rs), some d, some (.list (rs.filter fun x => kl (ky x) (ky d))), none, none]) (fun x => kl (ky d) (ky x)) (ds := rs) fun x hx => by
    simp [cmD, rk (h x hx), rk k, fLt_key]
    cases kl (ky d) (ky x) <;> simp
  have l1 := List.length_filter_le (fun x => kl (ky x) (ky d)) rs
  have l2 := List.length_filter_le (fun x => kl (ky d) (ky x)) rs
  simp [b_put_into, sSeq_ap, e1, le_size (n := rs.length) (by omega), e2]
  rw [fAdd_l _ _ (by rw [PySem.sizeLine_eq]; simp; omega)]
  simp
  rw [fAdd_l _ _ (by rw [PySem.sizeLine_eq]; simp; omega)]
  simp [DL.put]
theorem s_put : ((("put" : Str) == "put") = true) := by decide +kernel
theorem s_drop : ((("drop" : Str) == "put") = false) := by decide +kernel
theorem s_drop2 : ((("drop" : Str) == "drop") = true) := by decide +kernel
theorem s_put2 : ((("put" : Str) == "drop") = false) := by decide +kernel
theorem edit_key_ok {e : Ed D} (h : ∀ x, e = .put x → Rw x) : f_edit_key [encE e] = .ok (keyD (e.ky ky)) := by
  rw [f_edit_key, fD_ap (by rfl)]
  cases e with
  | put x => simp [b_edit_key, sSeq_ap, sIf_ap, encE, s_put, at1, row_key_ok (h x rfl), keyD, Ed.ky, ky]
  | drop k => simp [b_edit_key, sSeq_ap, sIf_ap, encE, s_drop, at1, at2, keyD, Ed.ky]
theorem find_some {k : Ky} (h : ∃ x ∈ rs, ky x = k) : ∃ r, rs.find? (fun x => decide (ky x = k)) = some r := by
  cases e : rs.find? fun x => decide (ky x = k) with
  | some r => exact ⟨r, rfl⟩
  | none =>
    obtain ⟨x, hx, hk⟩ := h
    exact absurd hk (find_no e x hx)
@[simp] theorem setTA_tup (is : List Nat) (ds : List D) (α : At) : setTA (.tup is) (.tuple ds) α = setAllA is ds α := nr rfl
@[simp] theorem setAllA_nil (α : At) : setAllA [] [] α = some α := nr rfl
@[simp] theorem setAllA_cons (i : Nat) (is : List Nat) (d : D) (ds : List D) (α : At) : setAllA (i :: is) (d :: ds) α = setAllA is ds (α.set i (.dat d)) := nr rfl
@[simp] theorem sSetT_ap (t : Tgt) (d : At → Res D) (α : At) : sSetT t d α = ofR (d α) α fun x => (match setTA t x α with
  | some α' => .nx α'
  | none => .no) := nr rfl
theorem apply_ok (hb : Bk ss m rs) (hs : ss.length = 6) (hm : m < 1000) {e : Ed D} (v : e.may ky (RwN ss) rs) : f_apply_edit [.tuple rs, encE e] = .ok (.tuple (app ky rs e)) := by
  have hr : ∀ x ∈ rs, Rw x := fun x hx => (hb.2.1 x hx).1
  have hl : rs.length < 100000 := by have := hb.2.2; omega
  have hk := edit_key_ok (e := e) (fun x hx => by subst hx; exact v.1)
  cases e with
  | drop k =>
    rw [f_apply_edit, fD_ap (by rfl)]
    obtain ⟨r, er⟩ := find_some v
    obtain ⟨x, hx, hxk⟩ := v
    have ok : okK k := hxk ▸ (hr x hx).oks
    have ef := find_row_ok (k := k.1) (n := k.2) hr er
    have rk : ∀ {x : D}, Rw x → f_row_key [x] = .ok (keyD (ky x)) := fun hx => row_key_ok hx
    have e1 := lcD_sieve (f := cmD (.nm 4) (tV (d2 fNe (dCall f_row_key (aCons (dV 4) aNil)) (dTup (aCons (dV 2) (aCons (dV 3) aNil))))) (dV 4) [some (.tuple rs), some (encE (.drop k)), some (.str k.1), some (.str k.2), none]) (fun x => decide (ky x ≠ k)) (ds := rs) fun x hx => by
      have q := fNe_key (a := ky x) (b := k) (hr x hx).oks ok
      unfold keyD at q
      simp [cmD, rk (hr x hx), keyD] at q ⊢
      rw [q]
      by_cases z : ky x = k <;> simp [z]
    simp [b_apply_edit, sSeq_ap, sIf_ap, hk, keyD, Ed.ky]
    simp [encE] at e1 ⊢
    simp [s_drop2, ef, le_size (n := rs.length) (by omega), e1]
    simp [app, DL.cut]
  | put x =>
    have kr := kind_rows_ok (k := kd x) hr hl
    have hc := has_row_ok (k := kd x) (n := nm x) hr
    have hp := put_into_ok hr v.1 hl
    have few := bk_kind hb (kd x)
    have q : ¬ (12 : Int) ≤ ((rs.filter fun y => decide (kd y = kd x)).length : Int) := by omega
    have ht : DL.tAnd (DL.tNot (tV (dCall f_has_row (aCons (dV 0) (aCons (dV 2) (aCons (dV 3) aNil)))))) (tV (d2 fGe (dN fLen (aCons (dCall f_kind_rows (aCons (dV 0) (aCons (dV 2) aNil))) aNil)) (dC k_MOST_ROWS)))
        [some (.tuple rs), some (encE (.put x)), some (.str (kd x)), some (.str (nm x)), none] = .ok false := by
      cases z : (rs.any fun y => decide (ky y = (kd x, nm x))) <;> simp [hc, kr, z, k_MOST_ROWS, fGe, q]
    have n1 : ¬ (("put" : Str) = "drop") := by decide +kernel
    refine Sat.eq (Sat.fD rfl (ON.seq ?_))
    simp [hk, keyD, Ed.ky]
    refine ON.seq (ON.iff (c := false) (by simp [encE, n1]) (fun z => nomatch z) fun _ => .nx _ ?_)
    refine ON.seq (ON.iff (c := false) ht (fun z => nomatch z) fun _ => .nx _ ?_)
    simp [encE, at1, hp]
    rfl
def AI (ss : List Str) (rs : List D) (es : List (Ed D)) (ds : List D) (α : At) : Prop := ∃ (fs : List (Ed D)) (l : List D) (k : Nat) (u : AV), ds = fs.map encE ∧ Bk ss k l ∧ k + fs.length < 1000 ∧ Val ky (RwN ss) l fs ∧ fs.foldl (app ky) l = es.foldl (app ky) rs ∧ α = [AV.dat (.tuple l), .dat (.tuple (es.map encE)), u]
/-- edits in turn -/
theorem applies_ok (hs : ss.length = 6) : ∀ (es : List (Ed D)) {rs : List D} {m : Nat}, Bk ss m rs → m + es.length < 1000 → Val ky (RwN ss) rs es →
    f_apply_edits [.tuple rs, .tuple (es.map encE)] = .ok (.tuple (es.foldl (app ky) rs)) ∧ Bk ss (m + es.length) (es.foldl (app ky) rs) := by
  have one : ∀ {e : Ed D} {rs : List D} {m : Nat}, Bk ss m rs → e.may ky (RwN ss) rs → Bk ss (m + 1) (app ky rs e) := fun {e rs m} hb v =>
    ⟨app_ris hb.1, app_ok hb.2.1 v, Nat.le_trans app_len (by have := hb.2.2; omega)⟩
  have bk : ∀ (es : List (Ed D)) {rs : List D} {m : Nat}, Bk ss m rs → Val ky (RwN ss) rs es → Bk ss (m + es.length) (es.foldl (app ky) rs) := by
    intro es
    induction es with
    | nil => intro rs m hb _; exact hb
    | cons e es ih =>
      intro rs m hb v
      have := ih (one hb v.1) v.2
      simp only [List.length_cons, List.foldl_cons]
      rwa [show m + 1 + es.length = m + (es.length + 1) by omega] at this
  intro es rs m hb hm v
  refine ⟨?_, bk es hb v⟩
  refine Sat.eq (Sat.fD rfl (ON.seq ?_))
  refine ON.for_ (ds := es.map encE) (AI ss rs es)
    (by simp) ⟨es, rs, m, .un, rfl, hb, hm, v, rfl, rfl⟩ ?_ ?_
  · rintro d ds α ⟨fs, l, k, u, ed, hl, hk, hv, he, rfl⟩
    cases fs with
    | nil => cases ed
    | cons f fs =>
      cases ed
      simp only [List.length_cons] at hk
      have ea := apply_ok hl hs (by omega) hv.1
      refine ⟨_, rfl, ?_⟩
      simp [ea]
      exact ⟨fs, app ky l f, k + 1, _, rfl, one hl hv.1, by omega, hv.2, he, rfl⟩
  · rintro α ⟨fs, l, k, u, ed, hl, hk, hv, he, rfl⟩
    cases fs with
    | nil => simp at he ⊢; exact he
    | cons f fs => cases ed
end
section
variable {ss : List Str} {m : Nat} {bs rs : List D}
open Classical in
theorem diffs_ok (hb : ∀ x ∈ bs, Rw x) (hr : ∀ x ∈ rs, Rw x) (lb : bs.length < 1000) (lr : rs.length < 1000) : f_book_difference [.tuple bs, .tuple rs] = .ok (.tuple ((diff ky bs rs).map encE)) := by
  rw [f_book_difference, fD_ap (by rfl)]
  have e1 := lcD_pick (f := cmD (.nm 4) (DL.tNot (tV (dCall f_has_row (aCons (dV 1) (aCons (d2 fIx (dV 4) (dC (.int (0)))) (aCons (d2 fIx (dV 4) (dC (.int (1)))) aNil)))))) (dTup (aCons (dC (.str "drop")) (aCons (d2 fIx (dV 4) (dC (.int (0)))) (aCons (d2 fIx (dV 4) (dC (.int (1)))) aNil)))) [some (.tuple bs), some (.tuple rs), none, none, none])
    (fun x => decide (ky x ∉ rs.map ky)) (fun x => encE (.drop (ky x))) (ds := bs) fun x hx => by
      have q := has_row_ok (k := kd x) (n := nm x) hr
      rw [show (kd x, nm x) = ky x from rfl, any_key] at q
      by_cases z : ky x ∈ rs.map ky
      · simp only [z, decide_true] at q
        simp [cmD, (hb x hx).ix0, (hb x hx).ix1, q]
        simpa using z
      · simp only [z, decide_false] at q
        simp [cmD, (hb x hx).ix0, (hb x hx).ix1, q]
        exact ⟨by simpa using z, rfl⟩
  have e2 := lcD_pick (f := cmD (.nm 4) (tV (d2 fNotIn (dV 4) (dV 0))) (dTup (aCons (dC (.str "put")) (aCons (dV 4) aNil))) [some (.tuple bs), some (.tuple rs), some (.list ((bs.filter fun x => decide (ky x ∉ rs.map ky)).map fun x => encE (.drop (ky x)))), none, none])
    (fun x => decide (x ∉ bs)) (fun x => encE (.put x)) (ds := rs) fun x hx => by
      have q := notin_rows (hr x hx) hb true inferInstance
      simp only [if_true] at q
      by_cases z : x ∈ bs
      · simp [z] at q
        simp [cmD, q, z]
      · simp [z] at q
        simp [cmD, q, z]
        rfl
  have l1 := List.length_filter_le (fun x => decide (ky x ∉ rs.map ky)) bs
  have l2 := List.length_filter_le (fun x => decide (x ∉ bs)) rs
  simp only [b_book_difference, sSeq_ap, sLay_ap, sD_ap, dLc_ap, iSeq_ap, List.map_cons, List.map_nil, List.cons_append, List.nil_append, List.replicate, Nat.reduceSub, dats_cons, dats_nil, dt_d, dt_u, dV_s, dV_z, Res.bind_ok, items_t, Res.of_some, le_size (n := bs.length) (by omega), le_size (n := rs.length) (by omega), if_true, wipeB_cons, wipeB_nil, List.set, e1, e2, ofR_ok, then_nx, sRet_ap, dN_ap, aCons_ap, aNil_ap, d2_ap]
  rw [fAdd_l _ _ (by rw [PySem.sizeLine_eq]; simp only [List.length_map]; omega)]
  simp only [Res.of_some, Res.bind_ok, fTuple_l, ofR_ok, fin_rt]
  unfold diff
  simp only [List.map_append, List.map_map]
  rfl
open Classical in
theorem find_ok {r : D} (h : ∀ x ∈ rs, Rw x) (k : Rw r) (lr : rs.length < 1000) : f__law_find [.list rs, r] = .ok (.bool (decide (ky r ∈ rs.map ky))) := by
  rw [f__law_find, fD_ap (by rfl)]
  have e1 := lcD_sieve (f := cmD (.nm 2) (DL.tAnd (tV (d2 fEq (d2 fIx (dV 2) (dC (.int (0)))) (d2 fIx (dV 1) (dC (.int (0)))))) (tV (d2 fEq (d2 fIx (dV 2) (dC (.int (1)))) (d2 fIx (dV 1) (dC (.int (1))))))) (dV 2) [some (.list rs), some r, none]) (fun x => decide (ky x = ky r)) (ds := rs) fun x hx => by
    by_cases q1 : kd x = kd r <;> by_cases q2 : nm x = nm r <;> simp [cmD, (h x hx).ix0, (h x hx).ix1, k.ix0, k.ix1, ky, q1, q2]
  simp [b__law_find, le_size (n := rs.length) (by omega), e1, fGt]
theorem encE_pl {e : Ed D} (h : match e with | .put x => Rw x | .drop k => okK k) : Pl 5 (encE e) = true := by
  have s1 : PyData.strOk ("put" : Str) = true := by decide +kernel
  have s2 : PyData.strOk ("drop" : Str) = true := by decide +kernel
  cases e with
  | put x =>
    have := h.pl
    simp [encE, Pl_str, s1, this]
  | drop k => simp [encE, Pl_str, s2, h.1, h.2]
open Classical in
theorem due_ok (hb : ∀ x ∈ bs, Rw x) (hr : ∀ x ∈ rs, Rw x) (lb : bs.length < 1000) (lr : rs.length < 1000) : f__law_difference [.list bs, .list rs] = .ok (.tuple ((diff ky bs rs).map encE)) := by
  rw [f__law_difference, fD_ap (by rfl)]
  have e1 := lcD_pick (f := cmD (.nm 4) (DL.tNot (tV (dCall f__law_find (aCons (dV 1) (aCons (dV 4) aNil))))) (dTup (aCons (dC (.str "drop")) (aCons (d2 fIx (dV 4) (dC (.int (0)))) (aCons (d2 fIx (dV 4) (dC (.int (1)))) aNil)))) [some (.list bs), some (.list rs), none, none, none, none])
    (fun x => decide (ky x ∉ rs.map ky)) (fun x => encE (.drop (ky x))) (ds := bs) fun x hx => by
      have q := find_ok hr (hb x hx) lr
      by_cases z : ky x ∈ rs.map ky
      · simp only [z, decide_true] at q
        simp [cmD, (hb x hx).ix0, (hb x hx).ix1, q]
        simpa using z
      · simp only [z, decide_false] at q
        simp [cmD, (hb x hx).ix0, (hb x hx).ix1, q]
        exact ⟨by simpa using z, rfl⟩
  have e2 : ∀ dr : D, lcD (cmD (.nm 4) (tV (d2 fGt (dN fLen (aCons (dFz (dLc (iSeq (dV 0)) (.nm 5) (tV (dCall f__law_same (aCons (dV 5) (aCons (dV 4) aNil)))) (dV 5) [5])) aNil)) (dC (.int (0))))) (dV 4) [some (.list bs), some (.list rs), some dr, none, none, none]) rs = .ok (rs.filter fun x => decide (x ∈ bs)) := fun dr =>
    lcD_sieve _ fun x hx => by
      have e3 := lcD_sieve (f := cmD (.nm 5) (tV (dCall f__law_same (aCons (dV 5) (aCons (dV 4) aNil)))) (dV 5) [some (.list bs), some (.list rs), some dr, none, some x, none]) (fun y => decide (y = x)) (ds := bs) fun y hy => by
        have q := same_ok 4 12 (by decide) y x (hb y hy).pl (hr x hx).pl
        have q : f__law_same [y, x] = .ok (.bool (decide (y = x))) := q
        by_cases z : y = x
        · subst z
          simp at q
          simp [cmD, q]
        · simp [cmD, q, z]
      simp [cmD, le_size (n := bs.length) (by omega), e3, fGt]
      by_cases z : x ∈ bs
      · have : 0 < (bs.filter fun y => decide (y = x)).length := List.length_pos_of_mem (List.mem_filter.mpr ⟨z, by simp⟩)
        simp [z]
      · have : (bs.filter fun y => decide (y = x)) = [] := by
          rw [List.filter_eq_nil_iff]
          intro y hy e
          have e : y = x := by simpa using e
          exact z (e ▸ hy)
        simp [z, this]
  have e4 : ∀ dr : D, lcD (cmD (.nm 4) (tV (d2 fNotIn (dV 4) (dV 3))) (dTup (aCons (dC (.str "put")) (aCons (dV 4) aNil))) [some (.list bs), some (.list rs), some dr, some (.list (rs.filter fun x => decide (x ∈ bs))), none, none]) rs = .ok ((rs.filter fun x => decide (x ∉ bs)).map fun x => encE (.put x)) := fun dr =>
    lcD_pick _ _ fun x hx => by
      have q := notin_rows (hr x hx) (rs := rs.filter fun x => decide (x ∈ bs)) (fun y hy => hr y (List.mem_filter.mp hy).1) false inferInstance
      simp only [Bool.false_eq_true, if_false] at q
      by_cases z : x ∈ bs
      · have : x ∈ rs.filter fun x => decide (x ∈ bs) := List.mem_filter.mpr ⟨hx, by simpa using z⟩
        simp only [this, decide_true] at q
        simp [cmD, q, z]
      · have : x ∉ rs.filter fun x => decide (x ∈ bs) := fun w => z (by simpa using (List.mem_filter.mp w).2)
        simp only [this, decide_false] at q
        simp [cmD, q, z]
        rfl
  have l1 := List.length_filter_le (fun x => decide (ky x ∉ rs.map ky)) bs
  have l2 := List.length_filter_le (fun x => decide (x ∉ bs)) rs
  simp only [b__law_difference, sSeq_ap, sLay_ap, sSet_ap, dFz_ap, sD_ap, dLc_ap, iSeq_ap, List.map_cons, List.map_nil, List.cons_append, List.nil_append, List.replicate, Nat.reduceSub, dats_cons, dats_nil, dt_d, dt_u, dV_s, dV_z, Res.bind_ok, items_l, Res.of_some, le_size (n := bs.length) (by omega), le_size (n := rs.length) (by omega), if_true, wipeB_cons, wipeB_nil, List.set, e1, e2, e4, ofR_ok, then_nx, sRet_ap, dN_ap, aCons_ap, aNil_ap, d2_ap]
  rw [fAdd_l _ _ (by rw [PySem.sizeLine_eq]; simp only [List.length_map]; omega)]
  simp only [Res.of_some, Res.bind_ok, fTuple_l, ofR_ok, fin_rt]
  unfold diff
  simp only [List.map_append, List.map_map]
  rfl
theorem undo_ok (hb : Bk ss m rs) (hs : ss.length = 6) (hm : m < 1000) {e : Ed D} (v : e.may ky (RwN ss) rs) : f_undo_edit [.tuple rs, encE e] = .ok (encE (undo ky rs e)) := by
  have hr : ∀ x ∈ rs, Rw x := fun x hx => (hb.2.1 x hx).1
  have hk := edit_key_ok (e := e) (fun x hx => by subst hx; exact v.1)
  have ha := apply_ok hb hs hm v
  have hh := has_row_ok (k := (e.ky ky).1) (n := (e.ky ky).2) hr
  refine Sat.eq (Sat.fD rfl (ON.seq ?_))
  simp [ha]
  refine ON.seq ?_
  simp [hk, keyD]
  cases hf : rs.find? fun y => decide (ky y = e.ky ky) with
  | some r =>
    obtain ⟨h1, h2⟩ := find_key hf
    have ha : (rs.any fun x => decide (ky x = e.ky ky)) = true := List.any_eq_true.mpr ⟨r, h1, by simpa using h2⟩
    have ef := find_row_ok (k := (e.ky ky).1) (n := (e.ky ky).2) hr hf
    refine ON.seq (ON.iff (c := true) (by simp [hh, ha]) (fun _ => ?_) fun z => nomatch z)
    simp [ef, undo, hf, encE]
  | none =>
    have no := find_no hf
    have ha : (rs.any fun x => decide (ky x = e.ky ky)) = false := by
      rw [List.any_eq_false]
      intro x hx z
      exact no x hx (by simpa using z)
    refine ON.seq (ON.iff (c := false) (by simp [hh, ha]) (fun z => nomatch z) fun _ => .nx _ ?_)
    simp [undo, hf, encE]
def UI (ss : List Str) (bs rs : List D) (ds : List D) (α : At) : Prop := ∃ (fs : List (Ed D)) (l : List D) (k : Nat) (dn : List (Ed D)) (u : AV), ds = fs.map encE ∧ Bk ss k l ∧ k + fs.length < 1000 ∧ Val ky (RwN ss) l fs ∧ fs.foldl (app ky) l = rs ∧ dn ++ undos ky l fs = undos ky bs (diff ky bs rs) ∧
  α = [AV.dat (.list bs), .dat (.list rs), .dat (.tuple ((diff ky bs rs).map encE)), .dat (.tuple ((diff ky bs rs).map encE)), .dat (.tuple l), .own (dn.map encE), u]
/-- the two books' law -/
theorem both_ok (hb : Bk ss m bs) (hr : Bk ss m rs) (hs : ss.length = 6) (hm : m < 100) : f__law_both [.list bs, .list rs] = .ok (.bool true) := by
  have wb : ∀ x ∈ bs, Rw x := fun x hx => (hb.2.1 x hx).1
  have wr : ∀ x ∈ rs, Rw x := fun x hx => (hr.2.1 x hx).1
  have lb := hb.2.2
  have lr := hr.2.2
  have edl : (diff ky bs rs).length ≤ 200 := by
    classical
    unfold diff
    have l1 := List.length_filter_le (fun x => decide (ky x ∉ rs.map ky)) bs
    have l2 := List.length_filter_le (fun x => decide (x ∉ bs)) rs
    simp only [List.length_append, List.length_map]
    omega
  have vd : Val ky (RwN ss) bs (diff ky bs rs) := val_diff hb.1 hr.2.1
  have vu := val_undos hb.1 hb.2.1 vd
  have da := diff_app hb.1 hr.1
  have ua := undos_app (es := diff ky bs rs) hb.1
  rw [da] at vu ua
  have ul := undos_len (key := ky) (es := diff ky bs rs) (l := bs)
  have due := due_ok wb wr (by omega) (by omega)
  have dif := diffs_ok wb wr (by omega) (by omega)
  have aps := (applies_ok hs (diff ky bs rs) hb (by omega) vd).1
  have back := (applies_ok hs (undos ky bs (diff ky bs rs)).reverse hr (by simp; omega) vu).1
  rw [da] at aps
  rw [ua] at back
  have same : ∀ (n : Nat) (x : D), n < 12 → Pl n x = true → f__law_same [x, x] = .ok (.bool true) := by
    intro n x hn hx
    classical
    have q : f__law_same [x, x] = .ok (.bool (decide (x = x))) := same_ok n 12 hn x x hx hx
    rw [decide_eq_true rfl] at q
    exact q
  have plb : ∀ {l : List D}, (∀ x ∈ l, Rw x) → l.length < 1000 → Pl 5 (.tuple l) = true := fun h hl => by
    rw [Pl_tup, Bool.and_eq_true, List.all_eq_true]
    exact ⟨decide_eq_true hl, fun x hx => (h x hx).pl⟩
  have ple : Pl 6 (.tuple ((diff ky bs rs).map encE)) = true := by
    rw [Pl_tup, Bool.and_eq_true, List.all_eq_true]
    refine ⟨decide_eq_true (by simp; omega), fun x hx => ?_⟩
    obtain ⟨e, he, rfl⟩ := List.mem_map.mp hx
    apply encE_pl
    classical
    unfold diff at he
    rcases List.mem_append.mp he with he | he
    · obtain ⟨k, hk, rfl⟩ := List.mem_map.mp he
      obtain ⟨y, hy, rfl⟩ := List.mem_map.mp hk
      exact (wb y (List.mem_filter.mp hy).1).oks
    · obtain ⟨y, hy, rfl⟩ := List.mem_map.mp he
      exact wr y (List.mem_filter.mp hy).1
  have s1 := same _ _ (by decide) ple
  have s2 := same 5 _ (by decide) (plb wr (by omega))
  have s3 := same 5 _ (by decide) (plb wb (by omega))
  refine Sat.eq (Sat.fD rfl (ON.seq ?_))
  simp [due]
  refine ON.seq ?_
  simp [dif]
  refine ON.seq (ON.iff (c := false) (by simp [s1]) (fun z => nomatch z) fun _ => .nx _ ?_)
  refine ON.seq (ON.iff (c := false) (by simp [aps, s2]) (fun z => nomatch z) fun _ => .nx _ ?_)
  refine ON.seq ?_
  simp
  refine ON.seq ?_
  simp
  refine ON.seq (ON.for_ (ds := (diff ky bs rs).map encE) (UI ss bs rs) (by simp) ⟨diff ky bs rs, bs, m, [], .un, rfl, hb, by omega, vd, da, rfl, rfl⟩ ?_ ?_)
  · rintro d ds α ⟨fs, l, k, dn, u, ed, hl, hk, hv, hf, hu, rfl⟩
    cases fs with
    | nil => cases ed
    | cons f fs =>
      cases ed
      simp only [List.length_cons] at hk
      have e1 := undo_ok hl hs (by omega) hv.1
      have e2 := apply_ok hl hs (by omega) hv.1
      have ld : dn.length ≤ 200 := by
        have := congrArg List.length hu
        rw [List.length_append, ul] at this
        omega
      refine ⟨_, rfl, ON.seq ?_⟩
      simp [e1, lt_size (n := dn.length) (by omega)]
      simp [e2]
      exact ⟨fs, app ky l f, k + 1, dn ++ [undo ky l f], _, rfl, ⟨app_ris hl.1, app_ok hl.2.1 hv.1, Nat.le_trans app_len (by have := hl.2.2; omega)⟩, by omega, hv.2, hf, by rw [List.append_assoc]; exact hu, by simp; rfl⟩
  · rintro α ⟨fs, l, k, dn, u, ed, hl, hk, hv, hf, hu, rfl⟩
    cases fs with
    | cons f fs => cases ed
    | nil =>
      have hf : l = rs := hf
      subst hf
      rw [undos, List.append_nil] at hu
      subst hu
      refine ON.seq (ON.iff (c := false) (by simp [s2]) (fun z => nomatch z) fun _ => .nx _ ?_)
      have back' : f_apply_edits [.tuple l, .tuple ((undos ky bs (diff ky bs l)).map encE).reverse] = .ok (.tuple bs) := by rw [← List.map_reverse]; exact back
      simp [DL.frzA, back', s3]
end
section
variable {s0 s1 s2 s3 s4 s5 : Str} {xs : List Int} {rs : List D} {m : Nat}
def NrI (s0 s1 s2 s3 s4 s5 : Str) (xs : List Int) (rs : List D) (ds : List D) (α : At) : Prop := ∃ (k : Nat) (ts : List D) (u4 u5 u6 u7 : AV), ds = ((List.range rs.length).drop k).map (fun i : Nat => PyData.int i) ∧ k ≤ rs.length ∧ Bk [s0, s1, s2, s3, s4, s5] k ts ∧
  (∀ t ∈ ts, ∃ j, ∃ hj : j < rs.length, j < k ∧ ky t = ky rs[j]) ∧ α = [AV.dat (.list rs), .dat (.list [.str s0, .str s1, .str s2, .str s3, .str s4, .str s5]), .dat (.list (xs.map PyData.int)), .own ts, u4, u5, u6, u7]
theorem ris_snoc {l : List D} {d : D} (h : Ris ky l) (k : ∀ x ∈ l, kl (ky x) (ky d) = true) : Ris ky (l ++ [d]) := by
  unfold Ris
  rw [List.pairwise_append]
  refine ⟨h, by simp, fun a ha b hb => ?_⟩
  rw [List.mem_singleton.mp hb]
  exact k a ha
theorem near_ok (hs : ∀ s ∈ [s0, s1, s2, s3, s4, s5], PyData.strOk s = true) (hx : ∀ x ∈ xs, num x) (h0 : 0 < xs.length) (hm : xs.length < 1000) (hr : Bk [s0, s1, s2, s3, s4, s5] m rs) (hm2 : m < 100) :
    ∃ ts, f__law_near [.list rs, .list [.str s0, .str s1, .str s2, .str s3, .str s4, .str s5], .list (xs.map PyData.int)] = .ok (.list ts) ∧ Bk [s0, s1, s2, s3, s4, s5] m ts := by
  suffices h : Sat (fun d => ∃ ts, d = .list ts ∧ Bk [s0, s1, s2, s3, s4, s5] m ts) (f__law_near [.list rs, .list [.str s0, .str s1, .str s2, .str s3, .str s4, .str s5], .list (xs.map PyData.int)]) by
    obtain ⟨_, e, rs, rfl, h⟩ := h
    exact ⟨rs, e, h⟩
  have lr := hr.2.2
  obtain ⟨z, hz⟩ : ∃ z : Int, z = xs.length := ⟨_, rfl⟩
  refine Sat.fD rfl (ON.seq ?_)
  simp
  refine ON.seq (ON.for_ (NrI s0 s1 s2 s3 s4 s5 xs rs) (iRangeL (n := rs.length) (by simp) (by omega) (by omega)) ?_ ?_ ?_)
  · exact ⟨0, [], .un, .un, .un, .un, by simp, by simp, ⟨List.Pairwise.nil, by simp, by simp⟩, by simp, rfl⟩
  · rintro d ds α ⟨k, ts, u4, u5, u6, u7, ed, hk, hb, hj, rfl⟩
    have hk' : k < rs.length := by
      refine Nat.lt_of_le_of_ne hk fun e => ?_
      rw [e, List.drop_of_length_le (by simp)] at ed
      cases ed
    rw [List.drop_eq_getElem_cons (by simpa using hk')] at ed
    simp only [List.getElem_range, List.map_cons, List.cons.injEq] at ed
    obtain ⟨rfl, eds⟩ := ed
    obtain ⟨y, hy⟩ : ∃ y : Int, y = (k : Int) := ⟨_, rfl⟩
    rw [← hy]
    have hrk := hr.2.1 rs[k] (List.getElem_mem ..)
    have ek : atI rs y = some rs[k] := by rw [hy]; exact atI_lt _ _ hk'
    have up : ∀ d : D, ky d = ky rs[k] → RwN [s0, s1, s2, s3, s4, s5] d → Bk [s0, s1, s2, s3, s4, s5] (k + 1) (ts ++ [d]) ∧ ∀ t ∈ ts ++ [d], ∃ j, ∃ hj : j < rs.length, j < k + 1 ∧ ky t = ky rs[j] := fun d e w => by
      refine ⟨⟨ris_snoc hb.1 fun x hx => ?_, fun x hx => ?_, by simp; exact hb.2.2⟩, fun t ht => ?_⟩
      · obtain ⟨j, j1, j2, j3⟩ := hj x hx
        rw [e, j3]
        exact List.pairwise_iff_getElem.mp hr.1 j k j1 hk' j2
      · rcases List.mem_append.mp hx with hx | hx
        · exact hb.2.1 x hx
        · rw [List.mem_singleton.mp hx]; exact w
      · rcases List.mem_append.mp ht with hx | hx
        · obtain ⟨j, j1, j2, j3⟩ := hj t hx
          exact ⟨j, j1, by omega, j3⟩
        · rw [List.mem_singleton.mp hx]; exact ⟨k, hk', by omega, e⟩
    refine ⟨_, rfl, ON.seq ?_⟩
    obtain ⟨num0, q0, _⟩ := atI_num hx (i := (50 + 3 * y) % z) (Int.emod_nonneg _ (by omega)) (by have := Int.emod_lt_of_pos (50 + 3 * y) (show 0 < z by omega); omega)
    simp only [sSet_ap, sD_ap, d2_ap, dN_ap, aCons_ap, aNil_ap, dC_ap, dats_cons, dats_nil, dt_d, dt_o, dV_s, dV_z, Res.bind_ok, Res.of_some, List.set, fMul_sm' (i := 3) (k := y) (by decide) (by decide), fAdd_int, fLen_l, List.length_map, ← hz, fMod_pos (i := 50 + 3 * y) (k := z) (by omega), fIx_l, q0, ofR_ok, ON_nx]
    refine ON.seq ?_
    obtain ⟨ys, ey, ly, py⟩ := lcD_ex (f := cmD (.nm 7) yesT (d2 fIx (dV 2) (d2 fMod (d2 fAdd (d2 fAdd (dC (.int (51))) (d2 fMul (dC (.int (3))) (dV 4))) (dV 7)) (dN fLen (aCons (dV 2) aNil))))
        [some (.list rs), some (.list [.str s0, .str s1, .str s2, .str s3, .str s4, .str s5]), some (.list (xs.map PyData.int)), none, some (.int y), some (.int num0), u6.dt, none])
      (P := fun d => ∃ j, d = .int j ∧ num j) (ds := (List.range 10).map fun i : Nat => PyData.int i) (fun d hd => by
        obtain ⟨i, hi, rfl⟩ := List.mem_map.mp hd
        obtain ⟨w, hw⟩ : ∃ w : Int, w = (i : Int) := ⟨_, rfl⟩
        have hi : i < 10 := by simpa using hi
        rw [← hw]
        obtain ⟨j, q, hj⟩ := atI_num hx (i := (51 + 3 * y + w) % z) (Int.emod_nonneg _ (by omega)) (by have := Int.emod_lt_of_pos (51 + 3 * y + w) (show 0 < z by omega); omega)
        refine ⟨.int j, ?_, j, rfl, hj⟩
        simp only [cmD, setT_nm, List.set, yesT_ap, Res.bind_ok, d2_ap, dN_ap, aCons_ap, aNil_ap, dC_ap, dV_s, dV_z, fMul_sm' (i := 3) (k := y) (by decide) (by decide), Res.of_some, fAdd_int, fLen_l, List.length_map, ← hz, fMod_pos (i := 51 + 3 * y + w) (k := z) (by omega), fIx_l, q, if_true, noEr_ok])
    obtain ⟨n0, n1, n2, n3, n4, n5, n6, n7, n8, n9, rfl, hn0, hn1, hn2, hn3, hn4, hn5, hn6, hn7, hn8, hn9⟩ := ten (by simpa using ly) py
    have er := iRangeL (a := dC (.int 10)) (β := [some (.list rs), some (.list [.str s0, .str s1, .str s2, .str s3, .str s4, .str s5]), some (.list (xs.map PyData.int)), none, some (.int y), some (.int num0), u6.dt, u7.dt]) (n := 10) rfl (by decide) (by decide)
    simp only [sLay_ap, sD_ap, dLc_ap, dats_cons, dats_nil, dt_d, dt_o, List.set, er, Res.bind_ok, show (10 : Int).toNat = 10 from rfl, le_size (n := ((List.range 10).map fun i : Nat => PyData.int i).length) (by decide), if_true, wipeB_cons, wipeB_nil, ey, ofR_ok, ON_nx]
    have lt : ts.length < 16777216 := by have := hb.2.2; omega
    refine ON.iff (c := num0 % 4 == 1) (by simp [fMod_pos]) (fun _ => ?_) (fun _ => ?_)
    · obtain ⟨row, erow, hrow⟩ := row_sat (kind := kd rs[k]) (name := nm rs[k]) hs hn0 hn1 hn2 hn3 hn4 hn5 hn6 hn7 hn8 hn9
      have w := RowIs.rwN hrow hrk.1.oks.1 hrk.2 hs
      have e : ky row = ky rs[k] := by
        obtain ⟨rest, rfl, _⟩ := hrow
        rfl
      obtain ⟨b1, b2⟩ := up row e w
      simp [ek, hrk.1.ix0, hrk.1.ix1, erow, lt_size lt]
      exact ⟨k + 1, ts ++ [row], _, _, _, _, eds, hk', b1, b2, rfl⟩
    · refine ON.iff (c := decide (1 < num0 % 4)) (by simp [fMod_pos, fGt]) (fun _ => ?_) (fun _ => ?_)
      · obtain ⟨b1, b2⟩ := up rs[k] rfl hrk
        simp [ek, lt_size lt]
        exact ⟨k + 1, ts ++ [rs[k]], _, _, _, _, eds, hk', b1, b2, rfl⟩
      · simp
        exact ⟨k + 1, ts, _, _, _, _, eds, hk', ⟨hb.1, hb.2.1, Nat.le_succ_of_le hb.2.2⟩, fun t ht => by
          obtain ⟨j, j1, j2, j3⟩ := hj t ht
          exact ⟨j, j1, by omega, j3⟩, rfl⟩
  · rintro α ⟨k, ts, u4, u5, u6, u7, ed, hk, hb, hj, rfl⟩
    simp [DL.frzA]
    exact ⟨hb.1, hb.2.1, by have := hb.2.2; omega⟩
end
theorem bk_mono {ss : List Str} {m n : Nat} {rs : List D} (h : Bk ss m rs) (hn : m ≤ n) : Bk ss n rs := ⟨h.1, h.2.1, Nat.le_trans h.2.2 hn⟩
theorem bk_nil {ss : List Str} {m : Nat} : Bk ss m [] := ⟨List.Pairwise.nil, by simp, by simp⟩
theorem diff_self (rs : List D) : diff ky rs rs = [] := by
  classical
  unfold diff
  have e1 : (rs.filter fun x => decide (ky x ∉ rs.map ky)) = [] := by
    rw [List.filter_eq_nil_iff]
    intro x hx h
    simp only [decide_eq_true_eq] at h
    exact h (List.mem_map.mpr ⟨x, hx, rfl⟩)
  have e2 : (rs.filter fun x => decide (x ∉ rs)) = [] := by
    rw [List.filter_eq_nil_iff]
    intro x hx h
    simp only [decide_eq_true_eq] at h
    exact h hx
  rw [e1, e2]
  rfl
section
variable {s0 s1 s2 s3 s4 s5 : Str}
def PI1 (ss : List Str) (sc nu na po ba : D) (ds : List D) (α : At) : Prop := ∃ (rs : List D) (k : Nat) (u v w : AV), Bk ss k rs ∧ k + ds.length ≤ 20 ∧ (∀ d ∈ ds, RwN ss d) ∧ α = [AV.dat sc, .dat nu, .dat na, .dat po, .dat ba, .dat (.list rs), u, v, w]
def PI2 (ss : List Str) (sc nu na po : D) (bs rs : List D) (ds : List D) (α : At) : Prop := (∀ d ∈ ds, ∃ l, d = .list l ∧ Bk ss 20 l) ∧ ∃ u v w : AV, α = [AV.dat sc, .dat nu, .dat na, .dat po, .dat (.list bs), .dat (.list rs), u, v, w]
def PI3 (ss : List Str) (sc nu na po : D) (bs rs one : List D) (ds : List D) (α : At) : Prop := (∀ d ∈ ds, ∃ l, d = .list l ∧ Bk ss 20 l) ∧ ∃ u w : AV, α = [AV.dat sc, .dat nu, .dat na, .dat po, .dat (.list bs), .dat (.list rs), u, .dat (.list one), w]
theorem plain (ns : List Int) (h : ns.length ≤ 63) : f_law [.dict [(.none, .list (ns.map PyData.int))]] = .ok (.bool true) := by
  obtain ⟨_, en, xs, rfl, lx, hx⟩ := numbers_ok ns (by omega) 90 (by decide)
  have en : f__law_numbers [.dict [(.none, .list (ns.map PyData.int))], .int 90] = .ok (.list (xs.map PyData.int)) := en
  obtain ⟨s0, s1, s2, s3, s4, s5, ena, hs, nd⟩ := names_ok xs (by omega)
  obtain ⟨x6, q6, h6⟩ := atI_num hx (i := 6) (by decide) (by omega)
  obtain ⟨x7, q7, h7⟩ := atI_num hx (i := 7) (by decide) (by omega)
  obtain ⟨x8, q8, h8⟩ := atI_num hx (i := 8) (by decide) (by omega)
  obtain ⟨x9, q9, h9⟩ := atI_num hx (i := 9) (by decide) (by omega)
  obtain ⟨bs, eb, hb⟩ := book_ok (p0 := 6) (p1 := 7) (p2 := 18) (p3 := 0) (p4 := x9 % 20) hs hx (by omega) (by omega) 8 (x6 % 15) (by decide) (by decide) (by omega) (by omega)
  obtain ⟨rs, er, hr⟩ := book_ok (p0 := 6) (p1 := 7) (p2 := 18) (p3 := 0) (p4 := x9 % 20) hs hx (by omega) (by omega) 33 (x7 % 15) (by decide) (by decide) (by omega) (by omega)
  obtain ⟨as, ea, ha⟩ := book_ok (p0 := 6) (p1 := 7) (p2 := 18) (p3 := 0) (p4 := x9 % 20) hs hx (by omega) (by omega) 40 (x7 % 3) (by decide) (by decide) (by omega) (by omega)
  have hb := bk_mono hb (show (x6 % 15).toNat ≤ 15 by omega)
  obtain ⟨ts, et, ht⟩ := near_ok hs hx (by omega) (by omega) hb (by decide)
  have hr := bk_mono hr (show (x7 % 15).toNat ≤ 20 by omega)
  have ha := bk_mono ha (show (x7 % 3).toNat ≤ 3 by omega)
  refine Sat.eq (Sat.fD rfl (ON.seq ?_))
  simp [en]
  refine ON.seq ?_
  simp [ena]
  refine ON.seq ?_
  simp [q9, fMod_pos]
  refine ON.seq ?_
  simp [q6, fMod_pos, eb]
  refine ON.seq ?_
  simp [q7, fMod_pos, er]
  refine ON.seq (ON.imp (P := PI1 [s0, s1, s2, s3, s4, s5] (.dict [(.none, .list (ns.map PyData.int))]) (.list (xs.map PyData.int)) (.list [.str s0, .str s1, .str s2, .str s3, .str s4, .str s5]) (.list [.int 6, .int 7, .int 18, .int 0, .int (x9 % 20)]) (.list bs) []) (R := fun _ => False) ?_ ?_ fun _ z => z.elim)
  · refine ON.iff (c := x8 % 2 == 0) (by simp [q8, fMod_pos]) (fun _ => ON.seq ?_) fun _ => .nx _ ⟨rs, 20, _, _, _, hr, by simp, by simp, rfl⟩
    simp [et]
    refine ON.for_ (PI1 [s0, s1, s2, s3, s4, s5] (.dict [(.none, .list (ns.map PyData.int))]) (.list (xs.map PyData.int)) (.list [.str s0, .str s1, .str s2, .str s3, .str s4, .str s5]) (.list [.int 6, .int 7, .int 18, .int 0, .int (x9 % 20)]) (.list bs)) (ds := as) (by simp [q7, fMod_pos, ea]) ⟨ts, 15, _, _, _, ht, by have := ha.2.2; omega, ha.2.1, rfl⟩ ?_ fun α z => z
    rintro d ds α ⟨l, k, u, v, w, hl, hk, hd, rfl⟩
    have hd0 := hd d (List.mem_cons_self ..)
    have e := placed_ok (rs := l) (d := d) (fun x hx => (hl.2.1 x hx).1) hd0.1 (by have := hl.2.2; omega)
    refine ⟨_, rfl, ?_⟩
    simp [e]
    exact ⟨DL.put ky l d, k + 1, _, _, _, hl.put hd0, by simp at hk; omega, fun x hx => hd x (List.mem_cons_of_mem _ hx), rfl⟩
  rintro α ⟨rs, k, u, v, w, hr, hk, _, rfl⟩
  have hr := bk_mono hr (show k ≤ 20 by simpa using hk)
  have hb := bk_mono hb (show 15 ≤ 20 by decide)
  have wr : ∀ x ∈ rs, Rw x := fun x hx => (hr.2.1 x hx).1
  have lr := hr.2.2
  have ed := diffs_ok wr wr (by omega) (by omega)
  rw [diff_self] at ed
  have three : ∀ d ∈ [PyData.list bs, .list rs, .list []], ∃ l, d = .list l ∧ Bk [s0, s1, s2, s3, s4, s5] 20 l := by
    intro d hd
    simp at hd
    rcases hd with rfl | rfl | rfl
    · exact ⟨_, rfl, hb⟩
    · exact ⟨_, rfl, hr⟩
    · exact ⟨_, rfl, bk_nil⟩
  refine ON.seq (ON.iff (c := false) (by simp [ed]) (fun z => nomatch z) fun _ => .nx _ ?_)
  refine ON.seq (ON.for_ (PI2 [s0, s1, s2, s3, s4, s5] _ _ _ _ bs rs) (ds := [.list bs, .list rs, .list []]) (by simp) ⟨three, _, _, _, rfl⟩ ?_ ?_)
  · rintro d ds α ⟨hd, u, v, w, rfl⟩
    obtain ⟨one, rfl, h1⟩ := hd d (List.mem_cons_self ..)
    refine ⟨_, rfl, ?_⟩
    refine ON.for_ (PI3 [s0, s1, s2, s3, s4, s5] _ _ _ _ bs rs one) (ds := [.list bs, .list rs, .list []]) (by simp) ⟨three, _, _, rfl⟩ ?_ ?_
    · rintro d es α ⟨he, u, w, rfl⟩
      obtain ⟨two, rfl, h2⟩ := he d (List.mem_cons_self ..)
      have e := both_ok h1 h2 rfl (by decide)
      refine ⟨_, rfl, ON.iff (c := false) (by simp [e]) (fun z => nomatch z) fun _ => .nx _ ⟨fun x hx => he x (List.mem_cons_of_mem _ hx), _, _, rfl⟩⟩
    · rintro α ⟨_, u, w, rfl⟩
      exact ⟨fun x hx => hd x (List.mem_cons_of_mem _ hx), _, _, _, rfl⟩
  · rintro α ⟨_, u, v, w, rfl⟩
    simp
end
end K69

namespace K69
open PySem PySem.Spec PyProof.Rows L2 DL Cm
section
variable {P : Program} {w : World} {K : PySem.W.Frag} {mg : Str → Option Value} {base : Heap}
theorem ok__law_kinds  {f : Addr} {fd : FuncData} (F : FunD K "_law_kinds" "_law_kinds" (defArgs s__law_kinds) (defBody s__law_kinds) (defScope s__law_kinds) [] [] f fd) :
    FnOk P w K mg base (L2.CX P w) 1 f fd P__law_kinds (SpF K w mg f__law_kinds) :=
  okD (k := 0) F sc__law_kinds fun cdv A outer s H E hr => by
    have tk := takes_of (X := cxOf (L2.CX P w) P w K mg base N__law_kinds "_law_kinds" (defScope s__law_kinds) f cdv A outer s H E) rfl rfl rfl rfl
    exact
 (rscons (rsset (i := 0) sc__law_kinds.nd (se (rlst (racons rstr (racons rstr (racons rstr (racons rstr (racons rstr (racons rstr (racons rstr (racons rstr (racons rstr (racons rstr ranil)))))))))))))
 (rsone (rsret (se (radd (rv 0) (rlst (racons rstr (racons rstr (racons rstr (racons rstr (racons rstr (racons rstr (racons rstr (racons rstr (racons rstr (racons rstr ranil))))))))))))))))
theorem ok__law_before  {f : Addr} {fd : FuncData} (F : FunD K "_law_before" "_law_before" (defArgs s__law_before) (defBody s__law_before) (defScope s__law_before) [] [] f fd) :
    FnOk P w K mg base (L2.CX P w) 1 f fd P__law_before (SpF K w mg f__law_before) :=
  okD (k := 0) F sc__law_before fun cdv A outer s H E hr => by
    have tk := takes_of (X := cxOf (L2.CX P w) P w K mg base N__law_before "_law_before" (defScope s__law_before) f cdv A outer s H E) rfl rfl rfl rfl
    exact
 (rsone (rsret (se (ror (rcmp (okO_lt hr) ok_lt (rixs (rv 0) rint) (rixs (rv 1) rint)) (rbone (rand (rcmp (okO_eq hr) ok_eq (rixs (rv 0) rint) (rixs (rv 1) rint)) (rbone (rcmp (okO_lt hr) ok_lt (rixs (rv 0) rint) (rixs (rv 1) rint)))))))))
theorem ok__law_placed (h__law_before : Cal P w K mg base 1 "_law_before" f__law_before) {f : Addr} {fd : FuncData} (F : FunD K "_law_placed" "_law_placed" (defArgs s__law_placed) (defBody s__law_placed) (defScope s__law_placed) [] [] f fd) :
    FnOk P w K mg base (L2.CX P w) 2 f fd P__law_placed (SpF K w mg f__law_placed) :=
  okD (k := 1) F sc__law_placed fun cdv A outer s H E hr => by
    have tk := takes_of (X := cxOf (L2.CX P w) P w K mg base N__law_placed "_law_placed" (defScope s__law_placed) f cdv A outer s H E) rfl rfl rfl rfl
    exact
 (rscons (rslaylc (i := 2) (Lc.mk (own := [("old", 4)]) (riseq (rv 0)) (blkOk_by (N := N__law_placed) (sc := defScope s__law_placed) (by decide +kernel)) (fun _ _ _ _ _ => (rgn 4 sc__law_placed.nd)) (fun _ _ _ _ _ => (pts_if (rt (rc h__law_before hr tk0 (racons (rv 4) (racons (rv 1) ranil)))))) (fun _ _ _ _ _ => (rv 4)) (by decide)) sc__law_placed.nd)
 (rscons (rslaylc (i := 3) (Lc.mk (own := [("old", 4)]) (riseq (rv 0)) (blkOk_by (N := N__law_placed) (sc := defScope s__law_placed) (by decide +kernel)) (fun _ _ _ _ _ => (rgn 4 sc__law_placed.nd)) (fun _ _ _ _ _ => (pts_if (rt (rc h__law_before hr tk0 (racons (rv 1) (racons (rv 4) ranil)))))) (fun _ _ _ _ _ => (rv 4)) (by decide)) sc__law_placed.nd)
 (rsone (rsret (se (radd (radd (rv 2) (rlst (racons (rv 1) ranil))) (rv 3)))))))
theorem ok__law_lowest (m_abs : mg "abs" = none) (m_int : mg "int" = none) (m_range : mg "range" = none) {f : Addr} {fd : FuncData} (F : FunD K "_law_lowest" "_law_lowest" (defArgs s__law_lowest) (defBody s__law_lowest) (defScope s__law_lowest) [] [] f fd) :
    FnOk P w K mg base (L2.CX P w) 1 f fd P__law_lowest (SpF K w mg f__law_lowest) :=
  okD (k := 0) F sc__law_lowest fun cdv A outer s H E hr => by
    have tk := takes_of (X := cxOf (L2.CX P w) P w K mg base N__law_lowest "_law_lowest" (defScope s__law_lowest) f cdv A outer s H E) rfl rfl rfl rfl
    exact
 (rscons (rsset (i := 2) sc__law_lowest.nd (se (rcb call_abs ok_abs m_abs (racons (rv 0) ranil))))
 (rscons (rsset (i := 3) sc__law_lowest.nd (se (rv 1)))
 (rscons (rsfor (rirange1 m_range rint) (rgn 4 sc__law_lowest.nd)
 (rsone (rsif (st (rtcmp (okO_ne hr) ok_ne (rv 3) rint))
 (rscons (rsset (i := 5) sc__law_lowest.nd (se (rmod (rct call_int1 ok_int m_int (racons (rv 2) ranil)) (rv 3))))
 (rscons (rsset (i := 2) sc__law_lowest.nd (se (rv 3)))
 (rsone (rsset (i := 3) sc__law_lowest.nd (se (rv 5))))))
 rsnil)) (passes_of rfl))
 (rsone (rsret (se (rtup (racons (rdiv (rv 0) (rv 2)) (racons (rdiv (rv 1) (rv 2)) ranil)))))))))
theorem ok__law_grain (h__law_lowest : Cal P w K mg base 1 "_law_lowest" f__law_lowest) {f : Addr} {fd : FuncData} (F : FunD K "_law_grain" "_law_grain" (defArgs s__law_grain) (defBody s__law_grain) (defScope s__law_grain) [] [] f fd) :
    FnOk P w K mg base (L2.CX P w) 2 f fd P__law_grain (SpF K w mg f__law_grain) :=
  okD (k := 1) F sc__law_grain fun cdv A outer s H E hr => by
    have tk := takes_of (X := cxOf (L2.CX P w) P w K mg base N__law_grain "_law_grain" (defScope s__law_grain) f cdv A outer s H E) rfl rfl rfl rfl
    exact
 (rscons (rsif (st (rtcmp (okO_eq hr) ok_eq (rv 0) rint))
 (rsone (rsret (se (rtup (racons rint (racons rint ranil))))))
 rsnil)
 (rsone (rsret (se (rrev (rc h__law_lowest hr tk (racons (rv 1) (racons (rv 0) ranil))))))))
theorem ok__law_line  {f : Addr} {fd : FuncData} (F : FunD K "_law_line" "_law_line" (defArgs s__law_line) (defBody s__law_line) (defScope s__law_line) [] [] f fd) :
    FnOk P w K mg base (L2.CX P w) 1 f fd P__law_line (SpF K w mg f__law_line) :=
  okD (k := 0) F sc__law_line fun cdv A outer s H E hr => by
    have tk := takes_of (X := cxOf (L2.CX P w) P w K mg base N__law_line "_law_line" (defScope s__law_line) f cdv A outer s H E) rfl rfl rfl rfl
    exact
 (rscons (rsif (st (rtcmp (okO_eq hr) ok_eq (rmod (rv 1) rint) rint))
 (rsone (rsret (se (rtup (racons (rixs (rv 0) rint) (racons (rixs (rv 0) (radd rint (rmod (rdiv (rv 1) rint) rint))) ranil))))))
 rsnil)
 (rsone (rsret (se (rtup (racons (rixs (rv 0) rint) (racons (rixs (rv 0) (rmod (rdiv (rv 1) rint) rint)) ranil)))))))
theorem ok__law_piece (h__law_lowest : Cal P w K mg base 1 "_law_lowest" f__law_lowest) {f : Addr} {fd : FuncData} (F : FunD K "_law_piece" "_law_piece" (defArgs s__law_piece) (defBody s__law_piece) (defScope s__law_piece) [] [] f fd) :
    FnOk P w K mg base (L2.CX P w) 2 f fd P__law_piece (SpF K w mg f__law_piece) :=
  okD (k := 1) F sc__law_piece fun cdv A outer s H E hr => by
    have tk := takes_of (X := cxOf (L2.CX P w) P w K mg base N__law_piece "_law_piece" (defScope s__law_piece) f cdv A outer s H E) rfl rfl rfl rfl
    exact
 (rscons (rsset (i := 2) sc__law_piece.nd (se (rc h__law_lowest hr tk (racons (rsub (rmod (rixs (rv 0) rint) rint) rint) (racons (radd rint (rmod (rixs (rv 0) rint) rint)) ranil)))))
 (rscons (rsset (i := 3) sc__law_piece.nd (se (rc h__law_lowest hr tk (racons (rsub (rmod (rixs (rv 0) rint) rint) rint) (racons (radd rint (rmod (rixs (rv 0) rint) rint)) ranil)))))
 (rscons (rsset (i := 4) sc__law_piece.nd (se (rc h__law_lowest hr tk (racons (radd (rixs (rv 2) rint) (rmul (radd rint (rmod (rixs (rv 0) rint) rint)) (rixs (rv 2) rint))) (racons (rixs (rv 2) rint) ranil)))))
 (rscons (rsset (i := 5) sc__law_piece.nd (se (rc h__law_lowest hr tk (racons (radd (rixs (rv 3) rint) (rmul (radd rint (rmod (rixs (rv 0) rint) rint)) (rixs (rv 3) rint))) (racons (rixs (rv 3) rint) ranil)))))
 (rscons (rsif (st (rtw (rwor (rtcmp (okO_eq hr) ok_eq (rmod (rixs (rv 0) rint) rint) rint) (rwo1 (rtcmp (okO_lt hr) ok_lt (rv 1) rint)))))
 (rsone (rsret (se (rtup (racons (rtup (racons (rv 2) (racons (rv 3) ranil))) (racons (rtup (racons (rv 4) (racons (rv 3) ranil))) (racons (rtup (racons (rv 2) (racons (rv 5) ranil))) ranil)))))))
 rsnil)
 (rsone (rsret (se (rtup (racons (rtup (racons (rv 2) (racons (rv 3) ranil))) (racons (rtup (racons (rv 4) (racons (rv 3) ranil))) (racons (rtup (racons (rv 4) (racons (rv 5) ranil))) (racons (rtup (racons (rv 2) (racons (rv 5) ranil))) ranil)))))))))))))
theorem ok__law_shape_row (h__law_grain : Cal P w K mg base 2 "_law_grain" f__law_grain) (h__law_line : Cal P w K mg base 1 "_law_line" f__law_line) (h__law_lowest : Cal P w K mg base 1 "_law_lowest" f__law_lowest) (h__law_piece : Cal P w K mg base 2 "_law_piece" f__law_piece) (m_range : mg "range" = none) (m_sorted : mg "sorted" = none) (m_tuple : mg "tuple" = none) {f : Addr} {fd : FuncData} (F : FunD K "_law_shape_row" "_law_shape_row" (defArgs s__law_shape_row) (defBody s__law_shape_row) (defScope s__law_shape_row) [] [] f fd) :
    FnOk P w K mg base (L2.CX P w) 3 f fd P__law_shape_row (SpF K w mg f__law_shape_row) :=
  okD (k := 2) F sc__law_shape_row fun cdv A outer s H E hr => by
    have tk := takes_of (X := cxOf (L2.CX P w) P w K mg base N__law_shape_row "_law_shape_row" (defScope s__law_shape_row) f cdv A outer s H E) rfl rfl rfl rfl
    exact
 (rscons (rsset (i := 4) sc__law_shape_row.nd (se (rmod (rixs (rv 3) rint) rint)))
 (rscons (rsset (i := 5) sc__law_shape_row.nd (se (rc h__law_lowest hr tk (racons (rmod (rixs (rv 3) rint) rint) (racons rint ranil)))))
 (rscons (rsset (i := 6) sc__law_shape_row.nd (se (rc h__law_lowest hr tk (racons (radd rint (rmod (rixs (rv 3) rint) rint)) (racons (radd rint (rmod (rixs (rv 3) rint) rint)) ranil)))))
 (rscons (rsif (st (rtcmp (okO_eq hr) ok_eq (rv 0) rstr))
 (rscons (rsset (i := 7) sc__law_shape_row.nd (se (rc h__law_grain hr tk (racons (rmod (rixs (rv 3) rint) rint) (racons (rsub (rmod (rixs (rv 3) rint) rint) rint) ranil)))))
 (rsone (rsret (se (rtup (racons (rv 0) (racons (rv 1) (racons (rixs (rv 2) rint) (racons (rc h__law_piece hr tk (racons (rv 3) (racons rint ranil))) (racons (rv 7) (racons (rixs (rlst (racons rstr (racons rstr ranil))) (rmod (rixs (rv 3) rint) rint)) ranil)))))))))))
 rsnil)
 (rscons (rsif (st (rtcmp (okO_eq hr) ok_eq (rv 0) rstr))
 (rsone (rsret (se (rtup (racons (rv 0) (racons (rv 1) (racons (rc h__law_line hr tk (racons (rc h__law_piece hr tk (racons (rv 3) (racons rint ranil))) (racons (rixs (rv 3) rint) ranil))) ranil)))))))
 rsnil)
 (rscons (rsif (st (rtcmp (okO_eq hr) ok_eq (rv 0) rstr))
 (rsone (rsret (se (rtup (racons (rv 0) (racons (rv 1) (racons (rixs (rv 2) rint) (racons (rmod (rixs (rv 3) rint) rint) (racons (radd rint (rmod (rixs (rv 3) rint) rint)) (racons (rmod (rixs (rv 3) rint) rint) ranil))))))))))
 rsnil)
 (rscons (rsif (st (rtcmp (okO_eq hr) ok_eq (rv 0) rstr))
 (rsone (rsret (se (rtup (racons (rv 0) (racons (rv 1) (racons (rixs (rv 2) rint) (racons (rixs (rv 2) rint) (racons (rixs (rv 2) rint) (racons (rv 4) ranil))))))))))
 rsnil)
 (rscons (rsif (st (rtcmp (okO_eq hr) ok_eq (rv 0) rstr))
 (rsone (rsret (se (rtup (racons (rv 0) (racons (rv 1) (racons (rct call_tuple_of ok_tuple m_tuple (racons (rcb okO_sorted ok_sorted m_sorted (racons (rsl (rv 2) rpnone (rpsome (radd rint (rmod (rixs (rv 3) rint) rint)))) ranil)) ranil)) ranil)))))))
 rsnil)
 (rscons (rsif (st (rtcmp (okO_eq hr) ok_eq (rv 0) rstr))
 (rscons (rsset (i := 8) sc__law_shape_row.nd (se (rc h__law_piece hr tk (racons (rv 3) (racons rint ranil)))))
 (rscons (rsset (i := 9) sc__law_shape_row.nd (se (rmod (rixs (rv 3) rint) rint)))
 (rscons (rsset (i := 10) sc__law_shape_row.nd (se (rlst (racons (rv 6) (racons (rc h__law_lowest hr tk (racons (rmul rint (rixs (rv 6) rint)) (racons (rixs (rv 6) rint) ranil))) (racons (rc h__law_lowest hr tk (racons (rmul rint (rixs (rv 6) rint)) (racons (rixs (rv 6) rint) ranil))) ranil))))))
 (rscons (rsset (i := 11) sc__law_shape_row.nd (se (rtup (racons (rv 0) (racons (rv 1) (racons (rv 8) (racons (rv 9) (racons (rmod (radd (radd (rv 9) rint) (rmod (rixs (rv 3) rint) rint)) rint) (racons (rixs (rv 2) rint) (racons (rixs (rv 2) rint) (racons (rct call_tuple_of ok_tuple m_tuple (racons (rsl (rv 10) rpnone (rpsome (radd rint (rmod (rixs (rv 3) rint) rint)))) ranil)) ranil)))))))))))
 (rsone (rsret (se (radd (rv 11) (rtup (racons (rct call_tuple_of ok_tuple m_tuple (racons (rsl (rv 2) (rpsome rint) (rpsome (radd rint (rmod (rixs (rv 3) rint) rint)))) ranil)) (racons (rct call_tuple_of ok_tuple m_tuple (racons (rsl (rv 2) rpnone (rpsome (rmod (rixs (rv 3) rint) rint))) ranil)) ranil)))))))))))
 rsnil)
 (rscons (rsif (st (rtcmp (okO_eq hr) ok_eq (rv 0) rstr))
 (rsone (rsret (se (rtup (racons (rv 0) (racons (rv 1) (racons (rct call_tuple_of ok_tuple m_tuple (racons (rfz (rlc (Lc.mk (own := [("k", 12)]) (rirange1 m_range (radd rint (rmod (rixs (rv 3) rint) rint))) (blkOk_by (N := N__law_shape_row) (sc := defScope s__law_shape_row) (by decide +kernel)) (fun _ _ _ _ _ => (rgn 12 sc__law_shape_row.nd)) (fun _ _ _ _ _ => pts_yes) (fun _ _ _ _ _ => (rtup (racons (rmod (rixs (rv 3) (rv 12)) rint) (racons (radd (rmod (rixs (rv 3) (rv 12)) rint) (rmod (rixs (rv 3) (radd (rv 12) rint)) rint)) ranil)))) (by decide)) sc__law_shape_row.nd)) ranil)) ranil)))))))
 rsnil)
 (rscons (rsif (st (rtcmp (okO_eq hr) ok_eq (rv 0) rstr))
 (rsone (rsret (se (rtup (racons (rv 0) (racons (rv 1) (racons (rixs (rv 2) rint) (racons (rixs (rv 2) rint) (racons (rixs (rv 2) rint) (racons (rv 5) ranil))))))))))
 rsnil)
 (rsone (rsret (se (rtup (racons (rv 0) (racons (rv 1) (racons (rtup (racons (rsub (rmod (rixs (rv 3) rint) rint) rint) (racons (radd rint (rmod (rixs (rv 3) rint) rint)) ranil))) (racons (rmod (rixs (rv 3) rint) rint) ranil)))))))))))))))))))
theorem ok__law_row (h__law_lowest : Cal P w K mg base 1 "_law_lowest" f__law_lowest) (h__law_shape_row : Cal P w K mg base 3 "_law_shape_row" f__law_shape_row) (m_min : mg "min" = none) (m_sorted : mg "sorted" = none) (m_tuple : mg "tuple" = none) {f : Addr} {fd : FuncData} (F : FunD K "_law_row" "_law_row" (defArgs s__law_row) (defBody s__law_row) (defScope s__law_row) [] [] f fd) :
    FnOk P w K mg base (L2.CX P w) 4 f fd P__law_row (SpF K w mg f__law_row) :=
  okD (k := 3) F sc__law_row fun cdv A outer s H E hr => by
    have tk := takes_of (X := cxOf (L2.CX P w) P w K mg base N__law_row "_law_row" (defScope s__law_row) f cdv A outer s H E) rfl rfl rfl rfl
    exact
 (rscons (rsset (i := 4) sc__law_row.nd (se (rmod (rixs (rv 3) rint) rint)))
 (rscons (rsset (i := 5) sc__law_row.nd (se (rmod (rixs (rv 3) rint) rint)))
 (rscons (rsset (i := 6) sc__law_row.nd (se (rc h__law_lowest hr tk (racons (radd rint (rmod (rixs (rv 3) rint) rint)) (racons (radd rint (rmod (rixs (rv 3) rint) rint)) ranil)))))
 (rscons (rsif (st (rtcmp (okO_eq hr) ok_eq (rv 0) rstr))
 (rsone (rsret (se (rtup (racons (rv 0) (racons (rv 1) (racons (rixs (rv 2) rint) (racons (rv 6) (racons (rmod (rixs (rv 3) rint) rint) (racons (rc h__law_lowest hr tk (racons (rmul (rixs (rv 6) rint) (rmod (rixs (rv 3) rint) rint)) (racons (rmul (rixs (rv 6) rint) rint) ranil))) ranil))))))))))
 rsnil)
 (rscons (rsif (st (rtcmp (okO_eq hr) ok_eq (rv 0) rstr))
 (rsone (rsret (se (rtup (racons (rv 0) (racons (rv 1) (racons (rixs (rv 2) rint) (racons (rixs (rv 2) rint) (racons (rv 6) (racons (rv 4) ranil))))))))))
 rsnil)
 (rscons (rsif (st (rtcmp (okO_eq hr) ok_eq (rv 0) rstr))
 (rscons (rsset (i := 7) sc__law_row.nd (se (rc h__law_lowest hr tk (racons (rmod (rixs (rv 3) rint) rint) (racons (radd rint (rmod (rixs (rv 3) rint) rint)) ranil)))))
 (rscons (rsset (i := 8) sc__law_row.nd (se (rc h__law_lowest hr tk (racons (radd (rmul (rixs (rv 7) rint) (rixs (rv 6) rint)) (rmul (rmul (rixs (rv 6) rint) (rmod (rixs (rv 3) rint) rint)) (rixs (rv 7) rint))) (racons (rmul (rixs (rv 7) rint) (rixs (rv 6) rint)) ranil)))))
 (rscons (rsset (i := 9) sc__law_row.nd (se (rct call_tuple_of ok_tuple m_tuple (racons (rcb okO_sorted ok_sorted m_sorted (racons (rsl (rv 2) rpnone (rpsome (rmod (rixs (rv 3) rint) rint))) ranil)) ranil))))
 (rsone (rsret (se (rtup (racons (rv 0) (racons (rv 1) (racons (rv 7) (racons (rv 8) (racons (radd rint (rmod (rixs (rv 3) rint) rint)) (racons (rv 9) (racons (rct call_tuple_of ok_tuple m_tuple (racons (rsl (rv 2) (rpsome (rmod (rixs (rv 3) rint) rint)) rpnone) ranil)) ranil))))))))))))))
 rsnil)
 (rscons (rsif (st (rtcmp (okO_eq hr) ok_eq (rv 0) rstr))
 (rscons (rsset (i := 10) sc__law_row.nd (se (radd rint (rmod (rixs (rv 3) rint) rint))))
 (rscons (rsset (i := 11) sc__law_row.nd (se (radd rint (rmod (rixs (rv 3) rint) rint))))
 (rsone (rsret (se (rtup (racons (rv 0) (racons (rv 1) (racons (rv 10) (racons (rv 11) (racons (rmod (rixs (rv 3) rint) (radd (rcb (call_min2 rfl) ok_min2 m_min (racons (rv 10) (racons (rv 11) ranil))) rint)) (racons (radd rint (rmod (rixs (rv 3) rint) rint)) (racons (rmod (rixs (rv 3) rint) rint) ranil)))))))))))))
 rsnil)
 (rscons (rsif (st (rtcmp (okO_eq hr) ok_eq (rv 0) rstr))
 (rsone (rsret (se (rtup (racons (rv 0) (racons (rv 1) (racons (rixs (rv 2) rint) (racons (rv 4) (racons (rmod (rixs (rv 3) rint) rint) (racons (rct call_tuple_of ok_tuple m_tuple (racons (rsl (rv 2) (rpsome rint) (rpsome (radd rint (rmod (rixs (rv 3) rint) rint)))) ranil)) ranil))))))))))
 rsnil)
 (rscons (rsif (st (rtcmp (okO_eq hr) ok_eq (rv 0) rstr))
 (rsone (rsret (se (rtup (racons (rv 0) (racons (rv 1) (racons (rixs (rv 2) rint) (racons (rixs (rv 2) rint) (racons (rixs (rv 2) rint) (racons (rixs (rlst (racons rstr (racons rstr ranil))) (rmod (rixs (rv 3) rint) rint)) (racons (rv 4) (racons (rmod (rixs (rv 3) rint) rint) ranil))))))))))))
 rsnil)
 (rscons (rsif (st (rtw (rwor (rtcmp (okO_eq hr) ok_eq (rv 0) rstr) (rwo1 (rtcmp (okO_eq hr) ok_eq (rv 0) rstr)))))
 (rsone (rsret (se (rtup (racons (rv 0) (racons (rv 1) (racons (rv 5) (racons (rmod (rixs (rv 3) rint) rint) ranil))))))))
 rsnil)
 (rscons (rsif (st (rtcmp (okO_eq hr) ok_eq (rv 0) rstr))
 (rsone (rsret (se (rtup (racons (rv 0) (racons (rv 1) ranil))))))
 rsnil)
 (rscons (rsif (st (rtcmp (okO_eq hr) ok_eq (rv 0) rstr))
 (rsone (rsret (se (rtup (racons (rv 0) (racons (rv 1) (racons (rc h__law_lowest hr tk (racons (rmod (rixs (rv 3) rint) rint) (racons (radd rint (rmod (rixs (rv 3) rint) rint)) ranil))) ranil)))))))
 rsnil)
 (rscons (rsif (st (rtcmp (okO_eq hr) ok_eq (rv 0) rstr))
 (rscons (rsset (i := 12) sc__law_row.nd (se (rixs (rlst (racons rstr (racons rstr ranil))) (rmod (rixs (rv 3) rint) rint))))
 (rsone (rsret (se (rtup (racons (rv 0) (racons (rv 1) (racons (rv 4) (racons (rv 12) (racons (rixs (rv 2) rint) (racons (rixs (rv 2) rint) (racons (rv 5) (racons (rmod (rixs (rv 3) rint) rint) (racons (rmod (rixs (rv 3) rint) rint) (racons (rixs (rv 2) rint) ranil)))))))))))))))
 rsnil)
 (rsone (rsret (se (rc h__law_shape_row hr tk (racons (rv 0) (racons (rv 1) (racons (rv 2) (racons (rv 3) ranil)))))))))))))))))))))
theorem ok__law_book (h__law_kinds : Cal P w K mg base 1 "_law_kinds" f__law_kinds) (h__law_placed : Cal P w K mg base 2 "_law_placed" f__law_placed) (h__law_row : Cal P w K mg base 4 "_law_row" f__law_row) (m_len : mg "len" = none) (m_range : mg "range" = none) {f : Addr} {fd : FuncData} (F : FunD K "_law_book" "_law_book" (defArgs s__law_book) (defBody s__law_book) (defScope s__law_book) [] [] f fd) :
    FnOk P w K mg base (L2.CX P w) 5 f fd P__law_book (SpF K w mg f__law_book) :=
  okD (k := 4) F sc__law_book fun cdv A outer s H E hr => by
    have tk := takes_of (X := cxOf (L2.CX P w) P w K mg base N__law_book "_law_book" (defScope s__law_book) f cdv A outer s H E) rfl rfl rfl rfl
    exact
 (rscons (rsset (i := 5) sc__law_book.nd (se (rlst ranil)))
 (rscons (rsset (i := 6) sc__law_book.nd (se (rc0 h__law_kinds hr tk)))
 (rscons (rsfor (rirange1 m_range (rv 2)) (rgn 7 sc__law_book.nd)
 (rscons (rslaylc (i := 8) (Lc.mk (own := [("j", 10)]) (rirange1 m_range rint) (blkOk_by (N := N__law_book) (sc := defScope s__law_book) (by decide +kernel)) (fun _ _ _ _ _ => (rgn 10 sc__law_book.nd)) (fun _ _ _ _ _ => pts_yes) (fun _ _ _ _ _ => (rixs (rv 0) (rmod (radd (radd (rv 1) (rmul rint (rv 7))) (rv 10)) (rcb okO_len ok_len m_len (racons (rv 0) ranil))))) (by decide)) sc__law_book.nd)
 (rscons (rsset (i := 9) sc__law_book.nd (se (rixs (rv 6) (rmod (rixs (rv 4) (rmod (rixs (rv 8) rint) (rcb okO_len ok_len m_len (racons (rv 4) ranil)))) rint))))
 (rsone (rsset (i := 5) sc__law_book.nd (se (rc h__law_placed hr tk (racons (rv 5) (racons (rc h__law_row hr tk (racons (rv 9) (racons (rixs (rv 3) (rmod (rixs (rv 8) rint) (rcb okO_len ok_len m_len (racons (rv 3) ranil)))) (racons (rv 3) (racons (radd (rsl (rv 8) (rpsome rint) rpnone) (rsl (rv 8) rpnone (rpsome rint))) ranil))))) ranil)))))))) (passes_of rfl))
 (rsone (rsret (se (rv 5)))))))
theorem ok__law_find (m_len : mg "len" = none) {f : Addr} {fd : FuncData} (F : FunD K "_law_find" "_law_find" (defArgs s__law_find) (defBody s__law_find) (defScope s__law_find) [] [] f fd) :
    FnOk P w K mg base (L2.CX P w) 1 f fd P__law_find (SpF K w mg f__law_find) :=
  okD (k := 0) F sc__law_find fun cdv A outer s H E hr => by
    have tk := takes_of (X := cxOf (L2.CX P w) P w K mg base N__law_find "_law_find" (defScope s__law_find) f cdv A outer s H E) rfl rfl rfl rfl
    exact
 (rsone (rsret (se (rcmp (op_gt) (ok_cmp _) (rcb okO_len ok_len m_len (racons (rfz (rlc (Lc.mk (own := [("old", 2)]) (riseq (rv 0)) (blkOk_by (N := N__law_find) (sc := defScope s__law_find) (by decide +kernel)) (fun _ _ _ _ _ => (rgn 2 sc__law_find.nd)) (fun _ _ _ _ _ => (pts_if (rtw (rwand (rtcmp (okO_eq hr) ok_eq (rixs (rv 2) rint) (rixs (rv 1) rint)) (rw1 (rtcmp (okO_eq hr) ok_eq (rixs (rv 2) rint) (rixs (rv 1) rint))))))) (fun _ _ _ _ _ => (rv 2)) (by decide)) sc__law_find.nd)) ranil)) rint))))
theorem on__law_same {j : Nat} (hj : 0 ≤ j) {f__law_same : List D → Res D} (h__law_same : Cal P w K mg base j "_law_same" f__law_same) (m_bool : mg "bool" = none) (m_int : mg "int" = none) (m_isinstance : mg "isinstance" = none) (m_len : mg "len" = none) (m_range : mg "range" = none) (m_str : mg "str" = none) (m_tuple : mg "tuple" = none) {f : Addr} {fd : FuncData} (F : FunD K "_law_same" "_law_same" (defArgs s__law_same) (defBody s__law_same) (defScope s__law_same) [] [] f fd) :
    FnOk P w K mg base (L2.CX P w) (j + 1) f fd P__law_same (SpF K w mg (fD P__law_same.length N__law_same.length (b__law_same f__law_same))) :=
  okD (k := j) F sc__law_same fun cdv A outer s H E hr => by
    have tk := takes_of (X := cxOf (L2.CX P w) P w K mg base N__law_same "_law_same" (defScope s__law_same) f cdv A outer s H E) rfl rfl rfl rfl
    exact
 (rscons (rsif (st (rt (risi (T := "tuple") (by decide) m_isinstance m_tuple (rv 1))))
 (rscons (rsif (st (rtw (rwor (rtnot (rt (risi (T := "tuple") (by decide) m_isinstance m_tuple (rv 0)))) (rwo1 (rtcmp (okO_ne hr) ok_ne (rcb okO_len ok_len m_len (racons (rv 0) ranil)) (rcb okO_len ok_len m_len (racons (rv 1) ranil)))))))
 (rsone (rsret (se rbl)))
 rsnil)
 (rsone (rsret (se (rcmp (okO_eq hr) ok_eq (rcb okO_len ok_len m_len (racons (rfz (rlc (Lc.mk (own := [("k", 2)]) (rirange1 m_range (rcb okO_len ok_len m_len (racons (rv 1) ranil))) (blkOk_by (N := N__law_same) (sc := defScope s__law_same) (by decide +kernel)) (fun _ _ _ _ _ => (rgn 2 sc__law_same.nd)) (fun _ _ _ _ _ => (pts_if (rtnot (rt (rc h__law_same hr tk0 (racons (rixs (rv 0) (rv 2)) (racons (rixs (rv 1) (rv 2)) ranil)) (hk := Nat.le_refl _)))))) (fun _ _ _ _ _ => (rv 2)) (by decide)) sc__law_same.nd)) ranil)) rint)))))
 rsnil)
 (rscons (rsif (st (rtw (rwor (rt (risi (T := "bool") (by decide) m_isinstance m_bool (rv 1))) (rwo1 (rt (risi (T := "bool") (by decide) m_isinstance m_bool (rv 0)))))))
 (rsone (rsret (se (rand (risi (T := "bool") (by decide) m_isinstance m_bool (rv 0)) (rand (risi (T := "bool") (by decide) m_isinstance m_bool (rv 1)) (rbone (rcmp (okO_eq hr) ok_eq (rv 0) (rv 1))))))))
 rsnil)
 (rscons (rsif (st (rt (risi (T := "str") (by decide) m_isinstance m_str (rv 1))))
 (rsone (rsret (se (rand (risi (T := "str") (by decide) m_isinstance m_str (rv 0)) (rbone (rcmp (okO_eq hr) ok_eq (rv 0) (rv 1)))))))
 rsnil)
 (rscons (rsif (st (rtcmp (okO_is) ok_is (rv 1) rnone))
 (rsone (rsret (se (rcmp (okO_is) ok_is (rv 0) rnone))))
 rsnil)
 (rsone (rsret (se (rand (risi (T := "int") (by decide) m_isinstance m_int (rv 0)) (rbone (rcmp (okO_eq hr) ok_eq (rv 0) (rv 1)))))))))))
theorem ok__law_same (m_bool : mg "bool" = none) (m_int : mg "int" = none) (m_isinstance : mg "isinstance" = none) (m_len : mg "len" = none) (m_range : mg "range" = none) (m_str : mg "str" = none) (m_tuple : mg "tuple" = none) {f : Addr} {fd : FuncData} (F : FunD K "_law_same" "_law_same" (defArgs s__law_same) (defBody s__law_same) (defScope s__law_same) [] [] f fd) (g : mg "_law_same" = some (.ref f)) (b : Binds K fd P__law_same []) : ∀ n : Nat, FnOk P w K mg base (L2.CX P w) (0 + n) f fd P__law_same (SpF K w mg (F__law_same n))
  | 0 => okNo
  | n + 1 => on__law_same (Nat.le_add_right _ _) ⟨f, fd, P__law_same, ok__law_same m_bool m_int m_isinstance m_len m_range m_str m_tuple F g b n, g, F.kp, b⟩ m_bool m_int m_isinstance m_len m_range m_str m_tuple F
theorem ok__law_difference (h__law_find : Cal P w K mg base 1 "_law_find" f__law_find) (h__law_same : Cal P w K mg base 12 "_law_same" f__law_same) (m_len : mg "len" = none) (m_tuple : mg "tuple" = none) {f : Addr} {fd : FuncData} (F : FunD K "_law_difference" "_law_difference" (defArgs s__law_difference) (defBody s__law_difference) (defScope s__law_difference) [] [] f fd) :
    FnOk P w K mg base (L2.CX P w) 13 f fd P__law_difference (SpF K w mg f__law_difference) :=
  okD (k := 12) F sc__law_difference fun cdv A outer s H E hr => by
    have tk := takes_of (X := cxOf (L2.CX P w) P w K mg base N__law_difference "_law_difference" (defScope s__law_difference) f cdv A outer s H E) rfl rfl rfl rfl
    exact
 (rscons (rslaylc (i := 2) (Lc.mk (own := [("row", 4)]) (riseq (rv 0)) (blkOk_by (N := N__law_difference) (sc := defScope s__law_difference) (by decide +kernel)) (fun _ _ _ _ _ => (rgn 4 sc__law_difference.nd)) (fun _ _ _ _ _ => (pts_if (rtnot (rt (rc h__law_find hr tk0 (racons (rv 1) (racons (rv 4) ranil))))))) (fun _ _ _ _ _ => (rtup (racons rstr (racons (rixs (rv 4) rint) (racons (rixs (rv 4) rint) ranil))))) (by decide)) sc__law_difference.nd)
 (rscons (rsset (i := 3) sc__law_difference.nd (se (rfz (rlc (Lc.mk (own := [("row", 4)]) (riseq (rv 1)) (blkOk_by (N := N__law_difference) (sc := defScope s__law_difference) (by decide +kernel)) (fun _ _ _ _ _ => (rgn 4 sc__law_difference.nd)) (fun _ _ _ _ _ => (pts_if (rtcmp (op_gt) (ok_cmp _) (rcb okO_len ok_len m_len (racons (rfz (rlc (Lc.mk (own := [("old", 5)]) (riseq (rv 0)) (blkOk_by (N := N__law_difference) (sc := relS _ (defScope s__law_difference)) (by decide +kernel)) (fun _ _ _ _ _ => (rgn 5 sc__law_difference.nd)) (fun _ _ _ _ _ => (pts_if (rt (rc h__law_same hr tk0 (racons (rv 5) (racons (rv 4) ranil)))))) (fun _ _ _ _ _ => (rv 5)) (by decide)) sc__law_difference.nd)) ranil)) rint))) (fun _ _ _ _ _ => (rv 4)) (by decide)) sc__law_difference.nd))))
 (rsone (rsret (se (rct call_tuple_of ok_tuple m_tuple (racons (radd (rv 2) (rfz (rlc (Lc.mk (own := [("row", 4)]) (riseq (rv 1)) (blkOk_by (N := N__law_difference) (sc := defScope s__law_difference) (by decide +kernel)) (fun _ _ _ _ _ => (rgn 4 sc__law_difference.nd)) (fun _ _ _ _ _ => (pts_if (rtcmp (opo_notin hr) ok_notin (rv 4) (rv 3)))) (fun _ _ _ _ _ => (rtup (racons rstr (racons (rv 4) ranil)))) (by decide)) sc__law_difference.nd))) ranil)))))))
theorem ok_row_key  {f : Addr} {fd : FuncData} (F : FunD K "row_key" "row_key" (defArgs s_row_key) (defBody s_row_key) (defScope s_row_key) [] [] f fd) :
    FnOk P w K mg base (L2.CX P w) 1 f fd P_row_key (SpF K w mg f_row_key) :=
  okD (k := 0) F sc_row_key fun cdv A outer s H E hr => by
    have tk := takes_of (X := cxOf (L2.CX P w) P w K mg base N_row_key "row_key" (defScope s_row_key) f cdv A outer s H E) rfl rfl rfl rfl
    exact
 (rsone (rsret (se (rtup (racons (rixs (rv 0) rint) (racons (rixs (rv 0) rint) ranil))))))
theorem ok_edit_key (h_row_key : Cal P w K mg base 1 "row_key" f_row_key) {f : Addr} {fd : FuncData} (F : FunD K "edit_key" "edit_key" (defArgs s_edit_key) (defBody s_edit_key) (defScope s_edit_key) [] [] f fd) :
    FnOk P w K mg base (L2.CX P w) 2 f fd P_edit_key (SpF K w mg f_edit_key) :=
  okD (k := 1) F sc_edit_key fun cdv A outer s H E hr => by
    have tk := takes_of (X := cxOf (L2.CX P w) P w K mg base N_edit_key "edit_key" (defScope s_edit_key) f cdv A outer s H E) rfl rfl rfl rfl
    exact
 (rscons (rsif (st (rtcmp (okO_eq hr) ok_eq (rixs (rv 0) rint) rstr))
 (rsone (rsret (se (rc h_row_key hr tk (racons (rixs (rv 0) rint) ranil)))))
 rsnil)
 (rsone (rsret (se (rtup (racons (rixs (rv 0) rint) (racons (rixs (rv 0) rint) ranil)))))))
theorem ok_find_row  {f : Addr} {fd : FuncData} (F : FunD K "find_row" "find_row" (defArgs s_find_row) (defBody s_find_row) (defScope s_find_row) [] [] f fd) :
    FnOk P w K mg base (L2.CX P w) 1 f fd P_find_row (SpF K w mg f_find_row) :=
  okD (k := 0) F sc_find_row fun cdv A outer s H E hr => by
    have tk := takes_of (X := cxOf (L2.CX P w) P w K mg base N_find_row "find_row" (defScope s_find_row) f cdv A outer s H E) rfl rfl rfl rfl
    exact
 (rscons (rsfor (riseq (rv 0)) (rgn 3 sc_find_row.nd)
 (rsone (rsif (st (rtw (rwand (rtcmp (okO_eq hr) ok_eq (rixs (rv 3) rint) (rv 1)) (rw1 (rtcmp (okO_eq hr) ok_eq (rixs (rv 3) rint) (rv 2))))))
 (rsone (rsret (se (rv 3))))
 rsnil)) (passes_of rfl))
 (rsone rsno))
theorem ok_has_row  {f : Addr} {fd : FuncData} (F : FunD K "has_row" "has_row" (defArgs s_has_row) (defBody s_has_row) (defScope s_has_row) [] [] f fd) :
    FnOk P w K mg base (L2.CX P w) 1 f fd P_has_row (SpF K w mg f_has_row) :=
  okD (k := 0) F sc_has_row fun cdv A outer s H E hr => by
    have tk := takes_of (X := cxOf (L2.CX P w) P w K mg base N_has_row "has_row" (defScope s_has_row) f cdv A outer s H E) rfl rfl rfl rfl
    exact
 (rscons (rsfor (riseq (rv 0)) (rgn 3 sc_has_row.nd)
 (rsone (rsif (st (rtw (rwand (rtcmp (okO_eq hr) ok_eq (rixs (rv 3) rint) (rv 1)) (rw1 (rtcmp (okO_eq hr) ok_eq (rixs (rv 3) rint) (rv 2))))))
 (rsone (rsret (se rbl)))
 rsnil)) (passes_of rfl))
 (rsone (rsret (se rbl))))
theorem ok_kind_rows (m_tuple : mg "tuple" = none) {f : Addr} {fd : FuncData} (F : FunD K "kind_rows" "kind_rows" (defArgs s_kind_rows) (defBody s_kind_rows) (defScope s_kind_rows) [] [] f fd) :
    FnOk P w K mg base (L2.CX P w) 1 f fd P_kind_rows (SpF K w mg f_kind_rows) :=
  okD (k := 0) F sc_kind_rows fun cdv A outer s H E hr => by
    have tk := takes_of (X := cxOf (L2.CX P w) P w K mg base N_kind_rows "kind_rows" (defScope s_kind_rows) f cdv A outer s H E) rfl rfl rfl rfl
    exact
 (rsone (rsret (se (rct call_tuple_of ok_tuple m_tuple (racons (rfz (rlc (Lc.mk (own := [("row", 2)]) (riseq (rv 0)) (blkOk_by (N := N_kind_rows) (sc := defScope s_kind_rows) (by decide +kernel)) (fun _ _ _ _ _ => (rgn 2 sc_kind_rows.nd)) (fun _ _ _ _ _ => (pts_if (rtcmp (okO_eq hr) ok_eq (rixs (rv 2) rint) (rv 1)))) (fun _ _ _ _ _ => (rv 2)) (by decide)) sc_kind_rows.nd)) ranil)))))
theorem ok_put_into (h_row_key : Cal P w K mg base 1 "row_key" f_row_key) (m_tuple : mg "tuple" = none) {f : Addr} {fd : FuncData} (F : FunD K "put_into" "put_into" (defArgs s_put_into) (defBody s_put_into) (defScope s_put_into) [] [] f fd) :
    FnOk P w K mg base (L2.CX P w) 2 f fd P_put_into (SpF K w mg f_put_into) :=
  okD (k := 1) F sc_put_into fun cdv A outer s H E hr => by
    have tk := takes_of (X := cxOf (L2.CX P w) P w K mg base N_put_into "put_into" (defScope s_put_into) f cdv A outer s H E) rfl rfl rfl rfl
    exact
 (rscons (rslaylc (i := 2) (Lc.mk (own := [("old", 4)]) (riseq (rv 0)) (blkOk_by (N := N_put_into) (sc := defScope s_put_into) (by decide +kernel)) (fun _ _ _ _ _ => (rgn 4 sc_put_into.nd)) (fun _ _ _ _ _ => (pts_if (rtcmp (okO_lt hr) ok_lt (rc h_row_key hr tk0 (racons (rv 4) ranil)) (rc h_row_key hr tk0 (racons (rv 1) ranil))))) (fun _ _ _ _ _ => (rv 4)) (by decide)) sc_put_into.nd)
 (rscons (rslaylc (i := 3) (Lc.mk (own := [("old", 4)]) (riseq (rv 0)) (blkOk_by (N := N_put_into) (sc := defScope s_put_into) (by decide +kernel)) (fun _ _ _ _ _ => (rgn 4 sc_put_into.nd)) (fun _ _ _ _ _ => (pts_if (rtcmp (okO_lt hr) ok_lt (rc h_row_key hr tk0 (racons (rv 1) ranil)) (rc h_row_key hr tk0 (racons (rv 4) ranil))))) (fun _ _ _ _ _ => (rv 4)) (by decide)) sc_put_into.nd)
 (rsone (rsret (se (rct call_tuple_of ok_tuple m_tuple (racons (radd (radd (rv 2) (rlst (racons (rv 1) ranil))) (rv 3)) ranil)))))))
theorem ok_apply_edit (h_edit_key : Cal P w K mg base 2 "edit_key" f_edit_key) (h_find_row : Cal P w K mg base 1 "find_row" f_find_row) (h_has_row : Cal P w K mg base 1 "has_row" f_has_row) (h_kind_rows : Cal P w K mg base 1 "kind_rows" f_kind_rows) (h_put_into : Cal P w K mg base 2 "put_into" f_put_into) (h_row_key : Cal P w K mg base 1 "row_key" f_row_key) (m_len : mg "len" = none) (m_tuple : mg "tuple" = none) (c_MOST_ROWS : Cst K w mg "MOST_ROWS" k_MOST_ROWS) {f : Addr} {fd : FuncData} (F : FunD K "apply_edit" "apply_edit" (defArgs s_apply_edit) (defBody s_apply_edit) (defScope s_apply_edit) [] [] f fd) :
    FnOk P w K mg base (L2.CX P w) 3 f fd P_apply_edit (SpF K w mg f_apply_edit) :=
  okD (k := 2) F sc_apply_edit fun cdv A outer s H E hr => by
    have tk := takes_of (X := cxOf (L2.CX P w) P w K mg base N_apply_edit "apply_edit" (defScope s_apply_edit) f cdv A outer s H E) rfl rfl rfl rfl
    exact
 (rscons (rssett (se (rc h_edit_key hr tk (racons (rv 1) ranil))) (rgtup rfl (rgcons (rgn 2 sc_apply_edit.nd) (rgcons (rgn 3 sc_apply_edit.nd) rgnil))))
 (rscons (rsif (st (rtcmp (okO_eq hr) ok_eq (rixs (rv 1) rint) rstr))
 (rscons (rsdrop (se (rc h_find_row hr tk (racons (rv 0) (racons (rv 2) (racons (rv 3) ranil))))))
 (rsone (rsret (se (rct call_tuple_of ok_tuple m_tuple (racons (rfz (rlc (Lc.mk (own := [("row", 4)]) (riseq (rv 0)) (blkOk_by (N := N_apply_edit) (sc := defScope s_apply_edit) (by decide +kernel)) (fun _ _ _ _ _ => (rgn 4 sc_apply_edit.nd)) (fun _ _ _ _ _ => (pts_if (rtcmp (okO_ne hr) ok_ne (rc h_row_key hr tk0 (racons (rv 4) ranil)) (rtup (racons (rv 2) (racons (rv 3) ranil)))))) (fun _ _ _ _ _ => (rv 4)) (by decide)) sc_apply_edit.nd)) ranil))))))
 rsnil)
 (rscons (rsif (st (rtw (rwand (rtnot (rt (rc h_has_row hr tk (racons (rv 0) (racons (rv 2) (racons (rv 3) ranil)))))) (rw1 (rtcmp (op_ge) (ok_cmp _) (rcb okO_len ok_len m_len (racons (rc h_kind_rows hr tk (racons (rv 0) (racons (rv 2) ranil))) ranil)) (rcst c_MOST_ROWS))))))
 (rsone rsno)
 rsnil)
 (rsone (rsret (se (rc h_put_into hr tk (racons (rv 0) (racons (rixs (rv 1) rint) ranil)))))))))
theorem ok_apply_edits (h_apply_edit : Cal P w K mg base 3 "apply_edit" f_apply_edit) {f : Addr} {fd : FuncData} (F : FunD K "apply_edits" "apply_edits" (defArgs s_apply_edits) (defBody s_apply_edits) (defScope s_apply_edits) [] [] f fd) :
    FnOk P w K mg base (L2.CX P w) 4 f fd P_apply_edits (SpF K w mg f_apply_edits) :=
  okD (k := 3) F sc_apply_edits fun cdv A outer s H E hr => by
    have tk := takes_of (X := cxOf (L2.CX P w) P w K mg base N_apply_edits "apply_edits" (defScope s_apply_edits) f cdv A outer s H E) rfl rfl rfl rfl
    exact
 (rscons (rsfor (riseq (rv 1)) (rgn 2 sc_apply_edits.nd)
 (rsone (rsset (i := 0) sc_apply_edits.nd (se (rc h_apply_edit hr tk (racons (rv 0) (racons (rv 2) ranil)))))) (passes_of rfl))
 (rsone (rsret (se (rv 0)))))
theorem ok_book_difference (h_has_row : Cal P w K mg base 1 "has_row" f_has_row) (m_tuple : mg "tuple" = none) {f : Addr} {fd : FuncData} (F : FunD K "book_difference" "book_difference" (defArgs s_book_difference) (defBody s_book_difference) (defScope s_book_difference) [] [] f fd) :
    FnOk P w K mg base (L2.CX P w) 2 f fd P_book_difference (SpF K w mg f_book_difference) :=
  okD (k := 1) F sc_book_difference fun cdv A outer s H E hr => by
    have tk := takes_of (X := cxOf (L2.CX P w) P w K mg base N_book_difference "book_difference" (defScope s_book_difference) f cdv A outer s H E) rfl rfl rfl rfl
    exact
 (rscons (rslaylc (i := 2) (Lc.mk (own := [("row", 4)]) (riseq (rv 0)) (blkOk_by (N := N_book_difference) (sc := defScope s_book_difference) (by decide +kernel)) (fun _ _ _ _ _ => (rgn 4 sc_book_difference.nd)) (fun _ _ _ _ _ => (pts_if (rtnot (rt (rc h_has_row hr tk0 (racons (rv 1) (racons (rixs (rv 4) rint) (racons (rixs (rv 4) rint) ranil)))))))) (fun _ _ _ _ _ => (rtup (racons rstr (racons (rixs (rv 4) rint) (racons (rixs (rv 4) rint) ranil))))) (by decide)) sc_book_difference.nd)
 (rscons (rslaylc (i := 3) (Lc.mk (own := [("row", 4)]) (riseq (rv 1)) (blkOk_by (N := N_book_difference) (sc := defScope s_book_difference) (by decide +kernel)) (fun _ _ _ _ _ => (rgn 4 sc_book_difference.nd)) (fun _ _ _ _ _ => (pts_if (rtcmp (opo_notin hr) ok_notin (rv 4) (rv 0)))) (fun _ _ _ _ _ => (rtup (racons rstr (racons (rv 4) ranil)))) (by decide)) sc_book_difference.nd)
 (rsone (rsret (se (rct call_tuple_of ok_tuple m_tuple (racons (radd (rv 2) (rv 3)) ranil)))))))
theorem ok_undo_edit (h_apply_edit : Cal P w K mg base 3 "apply_edit" f_apply_edit) (h_edit_key : Cal P w K mg base 2 "edit_key" f_edit_key) (h_find_row : Cal P w K mg base 1 "find_row" f_find_row) (h_has_row : Cal P w K mg base 1 "has_row" f_has_row) {f : Addr} {fd : FuncData} (F : FunD K "undo_edit" "undo_edit" (defArgs s_undo_edit) (defBody s_undo_edit) (defScope s_undo_edit) [] [] f fd) :
    FnOk P w K mg base (L2.CX P w) 4 f fd P_undo_edit (SpF K w mg f_undo_edit) :=
  okD (k := 3) F sc_undo_edit fun cdv A outer s H E hr => by
    have tk := takes_of (X := cxOf (L2.CX P w) P w K mg base N_undo_edit "undo_edit" (defScope s_undo_edit) f cdv A outer s H E) rfl rfl rfl rfl
    exact
 (rscons (rsdrop (se (rc h_apply_edit hr tk (racons (rv 0) (racons (rv 1) ranil)))))
 (rscons (rssett (se (rc h_edit_key hr tk (racons (rv 1) ranil))) (rgtup rfl (rgcons (rgn 2 sc_undo_edit.nd) (rgcons (rgn 3 sc_undo_edit.nd) rgnil))))
 (rscons (rsif (st (rt (rc h_has_row hr tk (racons (rv 0) (racons (rv 2) (racons (rv 3) ranil))))))
 (rsone (rsret (se (rtup (racons rstr (racons (rc h_find_row hr tk (racons (rv 0) (racons (rv 2) (racons (rv 3) ranil)))) ranil))))))
 rsnil)
 (rsone (rsret (se (rtup (racons rstr (racons (rv 2) (racons (rv 3) ranil))))))))))
theorem ok__law_both (h__law_difference : Cal P w K mg base 13 "_law_difference" f__law_difference) (h__law_same : Cal P w K mg base 12 "_law_same" f__law_same) (h_apply_edit : Cal P w K mg base 3 "apply_edit" f_apply_edit) (h_apply_edits : Cal P w K mg base 4 "apply_edits" f_apply_edits) (h_book_difference : Cal P w K mg base 2 "book_difference" f_book_difference) (h_undo_edit : Cal P w K mg base 4 "undo_edit" f_undo_edit) (m_tuple : mg "tuple" = none) {f : Addr} {fd : FuncData} (F : FunD K "_law_both" "_law_both" (defArgs s__law_both) (defBody s__law_both) (defScope s__law_both) [] [] f fd) :
    FnOk P w K mg base (L2.CX P w) 14 f fd P__law_both (SpF K w mg f__law_both) :=
  okD (k := 13) F sc__law_both fun cdv A outer s H E hr => by
    have tk := takes_of (X := cxOf (L2.CX P w) P w K mg base N__law_both "_law_both" (defScope s__law_both) f cdv A outer s H E) rfl rfl rfl rfl
    exact
 (rscons (rsset (i := 2) sc__law_both.nd (se (rc h__law_difference hr tk (racons (rv 0) (racons (rv 1) ranil)))))
 (rscons (rsset (i := 3) sc__law_both.nd (se (rc h_book_difference hr tk (racons (rct call_tuple_of ok_tuple m_tuple (racons (rv 0) ranil)) (racons (rct call_tuple_of ok_tuple m_tuple (racons (rv 1) ranil)) ranil)))))
 (rscons (rsif (st (rtnot (rt (rc h__law_same hr tk (racons (rv 3) (racons (rv 2) ranil))))))
 (rsone (rsret (se rbl)))
 rsnil)
 (rscons (rsif (st (rtnot (rt (rc h__law_same hr tk (racons (rc h_apply_edits hr tk (racons (rct call_tuple_of ok_tuple m_tuple (racons (rv 0) ranil)) (racons (rv 3) ranil))) (racons (rct call_tuple_of ok_tuple m_tuple (racons (rv 1) ranil)) ranil))))))
 (rsone (rsret (se rbl)))
 rsnil)
 (rscons (rsset (i := 4) sc__law_both.nd (se (rct call_tuple_of ok_tuple m_tuple (racons (rv 0) ranil))))
 (rscons (rsown (i := 5) sc__law_both.nd (sf (rflst ranil)))
 (rscons (rsfor (riseq (rv 2)) (rgn 6 sc__law_both.nd)
 (rscons (rsapp (i := 5) (se (rc h_undo_edit hr tk (racons (rv 4) (racons (rv 6) ranil)))))
 (rsone (rsset (i := 4) sc__law_both.nd (se (rc h_apply_edit hr tk (racons (rv 4) (racons (rv 6) ranil))))))) (passes_of rfl))
 (rscons (rsif (st (rtnot (rt (rc h__law_same hr tk (racons (rv 4) (racons (rct call_tuple_of ok_tuple m_tuple (racons (rv 1) ranil)) ranil))))))
 (rsone (rsret (se rbl)))
 rsnil)
 (rsone (rsfrz 5 (rsret (se (rc h__law_same hr tk (racons (rc h_apply_edits hr tk (racons (rv 4) (racons (rct call_tuple_of ok_tuple m_tuple (racons (rrev (rv 5)) ranil)) ranil))) (racons (rct call_tuple_of ok_tuple m_tuple (racons (rv 0) ranil)) ranil)))))))))))))))
theorem ok__law_name  {f : Addr} {fd : FuncData} (F : FunD K "_law_name" "_law_name" (defArgs s__law_name) (defBody s__law_name) (defScope s__law_name) [] [] f fd) :
    FnOk P w K mg base (L2.CX P w) 1 f fd P__law_name (SpF K w mg f__law_name) :=
  okD (k := 0) F sc__law_name fun cdv A outer s H E hr => by
    have tk := takes_of (X := cxOf (L2.CX P w) P w K mg base N__law_name "_law_name" (defScope s__law_name) f cdv A outer s H E) rfl rfl rfl rfl
    exact
 (rscons (rsset (i := 1) sc__law_name.nd (se rstr))
 (rsone (rsret (se (radd (rixs (rv 1) (rmod (rv 0) rint)) (rixs (rlst (racons rstr (racons rstr (racons rstr (racons rstr ranil))))) (rmod (rdiv (rv 0) rint) rint)))))))
theorem ok__law_names (h__law_name : Cal P w K mg base 1 "_law_name" f__law_name) (m_range : mg "range" = none) {f : Addr} {fd : FuncData} (F : FunD K "_law_names" "_law_names" (defArgs s__law_names) (defBody s__law_names) (defScope s__law_names) [] [] f fd) :
    FnOk P w K mg base (L2.CX P w) 2 f fd P__law_names (SpF K w mg f__law_names) :=
  okD (k := 1) F sc__law_names fun cdv A outer s H E hr => by
    have tk := takes_of (X := cxOf (L2.CX P w) P w K mg base N__law_names "_law_names" (defScope s__law_names) f cdv A outer s H E) rfl rfl rfl rfl
    exact
 (rsone (rsret (se (rfz (rlc (Lc.mk (own := [("k", 1)]) (rirange1 m_range rint) (blkOk_by (N := N__law_names) (sc := defScope s__law_names) (by decide +kernel)) (fun _ _ _ _ _ => (rgn 1 sc__law_names.nd)) (fun _ _ _ _ _ => pts_yes) (fun _ _ _ _ _ => (radd (rc h__law_name hr tk0 (racons (rixs (rv 0) (rv 1)) ranil)) (rixs rstr (rv 1)))) (by decide)) sc__law_names.nd)))))
theorem ok__law_near (h__law_row : Cal P w K mg base 4 "_law_row" f__law_row) (m_len : mg "len" = none) (m_range : mg "range" = none) {f : Addr} {fd : FuncData} (F : FunD K "_law_near" "_law_near" (defArgs s__law_near) (defBody s__law_near) (defScope s__law_near) [] [] f fd) :
    FnOk P w K mg base (L2.CX P w) 5 f fd P__law_near (SpF K w mg f__law_near) :=
  okD (k := 4) F sc__law_near fun cdv A outer s H E hr => by
    have tk := takes_of (X := cxOf (L2.CX P w) P w K mg base N__law_near "_law_near" (defScope s__law_near) f cdv A outer s H E) rfl rfl rfl rfl
    exact
 (rscons (rsown (i := 3) sc__law_near.nd (sf (rflst ranil)))
 (rscons (rsfor (rirange1 m_range (rcb okO_len ok_len m_len (racons (rv 0) ranil))) (rgn 4 sc__law_near.nd)
 (rscons (rsset (i := 5) sc__law_near.nd (se (rixs (rv 2) (rmod (radd rint (rmul rint (rv 4))) (rcb okO_len ok_len m_len (racons (rv 2) ranil))))))
 (rscons (rslaylc (i := 6) (Lc.mk (own := [("j", 7)]) (rirange1 m_range rint) (blkOk_by (N := N__law_near) (sc := defScope s__law_near) (by decide +kernel)) (fun _ _ _ _ _ => (rgn 7 sc__law_near.nd)) (fun _ _ _ _ _ => pts_yes) (fun _ _ _ _ _ => (rixs (rv 2) (rmod (radd (radd rint (rmul rint (rv 4))) (rv 7)) (rcb okO_len ok_len m_len (racons (rv 2) ranil))))) (by decide)) sc__law_near.nd)
 (rsone (rsif (st (rtcmp (okO_eq hr) ok_eq (rmod (rv 5) rint) rint))
 (rsone (rsapp (i := 3) (se (rc h__law_row hr tk (racons (rixs (rixs (rv 0) (rv 4)) rint) (racons (rixs (rixs (rv 0) (rv 4)) rint) (racons (rv 1) (racons (rv 6) ranil))))))))
 (rsone (rsif (st (rtcmp (op_gt) (ok_cmp _) (rmod (rv 5) rint) rint))
 (rsone (rsapp (i := 3) (se (rixs (rv 0) (rv 4)))))
 rsnil)))))) (passes_of rfl))
 (rsone (rsfrz 3 (rsret (se (rv 3)))))))
theorem ok__law_numbers (m_int : mg "int" = none) (m_len : mg "len" = none) (m_range : mg "range" = none) {f : Addr} {fd : FuncData} (F : FunD K "_law_numbers" "_law_numbers" (defArgs s__law_numbers) (defBody s__law_numbers) (defScope s__law_numbers) [] [] f fd) :
    FnOk P w K mg base (L2.CX P w) 1 f fd P__law_numbers (SpF K w mg f__law_numbers) :=
  okD (k := 0) F sc__law_numbers fun cdv A outer s H E hr => by
    have tk := takes_of (X := cxOf (L2.CX P w) P w K mg base N__law_numbers "_law_numbers" (defScope s__law_numbers) f cdv A outer s H E) rfl rfl rfl rfl
    exact
 (rscons (rsownlc (i := 2) (Lc.mk (own := [("cell", 9)]) (riseq (rsl (rv 0) rpnone (rpsome rint))) (blkOk_by (N := N__law_numbers) (sc := defScope s__law_numbers) (by decide +kernel)) (fun _ _ _ _ _ => (rgn 9 sc__law_numbers.nd)) (fun _ _ _ _ _ => pts_yes) (fun _ _ _ _ _ => (rct call_int1 ok_int m_int (racons (rv 9) ranil))) (by decide)) sc__law_numbers.nd)
 (rscons (rsif (stb (rtcmp (okO_eq hr) ok_eq (rcb okO_len ok_len m_len (racons (rv 2) ranil)) rint))
 (rsone (rsown (i := 2) sc__law_numbers.nd (sf (rflst (racons rint ranil)))))
 rsnil)
 (rscons (rsset (i := 3) sc__law_numbers.nd (seb (rcb okO_len ok_len m_len (racons (rv 2) ranil))))
 (rscons (rslaylcb (i := 4) (Lc.mk (own := [("cell", 9)]) (riseq (rv 2)) (blkOk_by (N := N__law_numbers) (sc := defScope s__law_numbers) (by decide +kernel)) (fun _ _ _ _ _ => (rgn 9 sc__law_numbers.nd)) (fun _ _ _ _ _ => pts_yes) (fun _ _ _ _ _ => (rcmp (op_ge) (ok_cmp _) (rv 9) (rpow rint rint))) (by decide)) sc__law_numbers.nd)
 (rscons (rsown (i := 5) sc__law_numbers.nd (sf (rflst ranil)))
 (rscons (rsfor (rirange1 m_range (rv 1)) (rgn 6 sc__law_numbers.nd)
 (rscons (rsset (i := 7) sc__law_numbers.nd (se (rmod (rv 6) (rv 3))))
 (rsone (rsif (stb (rtw (rwand (rt (rixs (rv 4) (rv 7))) (rw1 (rtcmp (op_gt) (ok_cmp _) (rixs (rv 2) (rv 7)) rint)))))
 (rscons (rsapp (i := 5) (seb (rmod (rct call_int1 ok_int m_int (racons (rixs (rv 2) (rv 7)) ranil)) rint)))
 (rsone (rsseti (i := 2) (seb (rdiv (rixs (rv 2) (rv 7)) rint)) (se (rv 7)))))
 (rscons (rsset (i := 8) sc__law_numbers.nd (seb (rmod (rmul (radd (radd (rmod (rct call_int1 ok_int m_int (racons (rixs (rv 2) (rv 7)) ranil)) rint) (rmul rint (rv 6))) rint) rint) rint)))
 (rscons (rsset (i := 8) sc__law_numbers.nd (se (rmod (rmul (rct call_int1 ok_int m_int (racons (radd (radd (rv 8) (rmul (rmul (rv 6) (rv 6)) rint)) rint) ranil)) rint) rint)))
 (rsone (rsapp (i := 5) (se (rmod (rdiv (rv 8) rint) rint))))))))) (passes_of rfl))
 (rsone (rsfrz 5 (rsret (se (rv 5)))))))))))
theorem ok_law (h__law_book : Cal P w K mg base 5 "_law_book" f__law_book) (h__law_both : Cal P w K mg base 14 "_law_both" f__law_both) (h__law_names : Cal P w K mg base 2 "_law_names" f__law_names) (h__law_near : Cal P w K mg base 5 "_law_near" f__law_near) (h__law_numbers : Cal P w K mg base 1 "_law_numbers" f__law_numbers) (h__law_placed : Cal P w K mg base 2 "_law_placed" f__law_placed) (h_book_difference : Cal P w K mg base 2 "book_difference" f_book_difference) (m_len : mg "len" = none) (m_tuple : mg "tuple" = none) {f : Addr} {fd : FuncData} (F : FunD K "law" "law" (defArgs s_law) (defBody s_law) (defScope s_law) [] [] f fd) :
    FnOk P w K mg base (L2.CX P w) 15 f fd P_law (SpF K w mg f_law) :=
  okD (k := 14) F sc_law fun cdv A outer s H E hr => by
    have tk := takes_of (X := cxOf (L2.CX P w) P w K mg base N_law "law" (defScope s_law) f cdv A outer s H E) rfl rfl rfl rfl
    exact
 (rscons (rsset (i := 1) sc_law.nd (se (rc h__law_numbers hr tk (racons (rv 0) (racons rint ranil)))))
 (rscons (rsset (i := 2) sc_law.nd (se (rc h__law_names hr tk (racons (rv 1) ranil))))
 (rscons (rsset (i := 3) sc_law.nd (se (rlst (racons rint (racons rint (racons rint (racons rint (racons (rmod (rixs (rv 1) rint) rint) ranil))))))))
 (rscons (rsset (i := 4) sc_law.nd (se (rc h__law_book hr tk (racons (rv 1) (racons rint (racons (rmod (rixs (rv 1) rint) rint) (racons (rv 2) (racons (rv 3) ranil))))))))
 (rscons (rsset (i := 5) sc_law.nd (se (rc h__law_book hr tk (racons (rv 1) (racons rint (racons (rmod (rixs (rv 1) rint) rint) (racons (rv 2) (racons (rv 3) ranil))))))))
 (rscons (rsif (st (rtcmp (okO_eq hr) ok_eq (rmod (rixs (rv 1) rint) rint) rint))
 (rscons (rsset (i := 5) sc_law.nd (se (rc h__law_near hr tk (racons (rv 4) (racons (rv 2) (racons (rv 1) ranil))))))
 (rsone (rsfor (riseq (rc h__law_book hr tk (racons (rv 1) (racons rint (racons (rmod (rixs (rv 1) rint) rint) (racons (rv 2) (racons (rv 3) ranil))))))) (rgn 6 sc_law.nd)
 (rsone (rsset (i := 5) sc_law.nd (se (rc h__law_placed hr tk (racons (rv 5) (racons (rv 6) ranil)))))) (passes_of rfl))))
 rsnil)
 (rscons (rsif (st (rtcmp (okO_ne hr) ok_ne (rcb okO_len ok_len m_len (racons (rc h_book_difference hr tk (racons (rct call_tuple_of ok_tuple m_tuple (racons (rv 5) ranil)) (racons (rct call_tuple_of ok_tuple m_tuple (racons (rv 5) ranil)) ranil))) ranil)) rint))
 (rsone (rsret (se rbl)))
 rsnil)
 (rscons (rsfor (riseq (rlst (racons (rv 4) (racons (rv 5) (racons (rlst ranil) ranil))))) (rgn 7 sc_law.nd)
 (rsone (rsfor (riseq (rlst (racons (rv 4) (racons (rv 5) (racons (rlst ranil) ranil))))) (rgn 8 sc_law.nd)
 (rsone (rsif (st (rtnot (rt (rc h__law_both hr tk (racons (rv 7) (racons (rv 8) ranil))))))
 (rsone (rsret (se rbl)))
 rsnil)) (passes_of rfl))) (passes_of rfl))
 (rsone (rsret (se rbl)))))))))))
end
end K69

namespace K69
open PySem PySem.Spec PyProof.Rows L2 DL Cm
def d__law_kinds : He.DefD := ⟨("_law_kinds", none), "_law_kinds", "_law_kinds", defArgs s__law_kinds, defBody s__law_kinds, defScope s__law_kinds, [], []⟩
def d__law_before : He.DefD := ⟨("_law_before", none), "_law_before", "_law_before", defArgs s__law_before, defBody s__law_before, defScope s__law_before, [], []⟩
def d__law_placed : He.DefD := ⟨("_law_placed", none), "_law_placed", "_law_placed", defArgs s__law_placed, defBody s__law_placed, defScope s__law_placed, [], []⟩
def d__law_lowest : He.DefD := ⟨("_law_lowest", none), "_law_lowest", "_law_lowest", defArgs s__law_lowest, defBody s__law_lowest, defScope s__law_lowest, [], []⟩
def d__law_grain : He.DefD := ⟨("_law_grain", none), "_law_grain", "_law_grain", defArgs s__law_grain, defBody s__law_grain, defScope s__law_grain, [], []⟩
def d__law_line : He.DefD := ⟨("_law_line", none), "_law_line", "_law_line", defArgs s__law_line, defBody s__law_line, defScope s__law_line, [], []⟩
def d__law_piece : He.DefD := ⟨("_law_piece", none), "_law_piece", "_law_piece", defArgs s__law_piece, defBody s__law_piece, defScope s__law_piece, [], []⟩
def d__law_shape_row : He.DefD := ⟨("_law_shape_row", none), "_law_shape_row", "_law_shape_row", defArgs s__law_shape_row, defBody s__law_shape_row, defScope s__law_shape_row, [], []⟩
def d__law_row : He.DefD := ⟨("_law_row", none), "_law_row", "_law_row", defArgs s__law_row, defBody s__law_row, defScope s__law_row, [], []⟩
def d__law_book : He.DefD := ⟨("_law_book", none), "_law_book", "_law_book", defArgs s__law_book, defBody s__law_book, defScope s__law_book, [], []⟩
def d__law_find : He.DefD := ⟨("_law_find", none), "_law_find", "_law_find", defArgs s__law_find, defBody s__law_find, defScope s__law_find, [], []⟩
def d__law_same : He.DefD := ⟨("_law_same", none), "_law_same", "_law_same", defArgs s__law_same, defBody s__law_same, defScope s__law_same, [], []⟩
def d__law_difference : He.DefD := ⟨("_law_difference", none), "_law_difference", "_law_difference", defArgs s__law_difference, defBody s__law_difference, defScope s__law_difference, [], []⟩
def d_row_key : He.DefD := ⟨("row_key", none), "row_key", "row_key", defArgs s_row_key, defBody s_row_key, defScope s_row_key, [], []⟩
def d_edit_key : He.DefD := ⟨("edit_key", none), "edit_key", "edit_key", defArgs s_edit_key, defBody s_edit_key, defScope s_edit_key, [], []⟩
def d_find_row : He.DefD := ⟨("find_row", none), "find_row", "find_row", defArgs s_find_row, defBody s_find_row, defScope s_find_row, [], []⟩
def d_has_row : He.DefD := ⟨("has_row", none), "has_row", "has_row", defArgs s_has_row, defBody s_has_row, defScope s_has_row, [], []⟩
def d_kind_rows : He.DefD := ⟨("kind_rows", none), "kind_rows", "kind_rows", defArgs s_kind_rows, defBody s_kind_rows, defScope s_kind_rows, [], []⟩
def d_put_into : He.DefD := ⟨("put_into", none), "put_into", "put_into", defArgs s_put_into, defBody s_put_into, defScope s_put_into, [], []⟩
def d_apply_edit : He.DefD := ⟨("apply_edit", none), "apply_edit", "apply_edit", defArgs s_apply_edit, defBody s_apply_edit, defScope s_apply_edit, [], []⟩
def d_apply_edits : He.DefD := ⟨("apply_edits", none), "apply_edits", "apply_edits", defArgs s_apply_edits, defBody s_apply_edits, defScope s_apply_edits, [], []⟩
def d_book_difference : He.DefD := ⟨("book_difference", none), "book_difference", "book_difference", defArgs s_book_difference, defBody s_book_difference, defScope s_book_difference, [], []⟩
def d_undo_edit : He.DefD := ⟨("undo_edit", none), "undo_edit", "undo_edit", defArgs s_undo_edit, defBody s_undo_edit, defScope s_undo_edit, [], []⟩
def d__law_both : He.DefD := ⟨("_law_both", none), "_law_both", "_law_both", defArgs s__law_both, defBody s__law_both, defScope s__law_both, [], []⟩
def d__law_name : He.DefD := ⟨("_law_name", none), "_law_name", "_law_name", defArgs s__law_name, defBody s__law_name, defScope s__law_name, [], []⟩
def d__law_names : He.DefD := ⟨("_law_names", none), "_law_names", "_law_names", defArgs s__law_names, defBody s__law_names, defScope s__law_names, [], []⟩
def d__law_near : He.DefD := ⟨("_law_near", none), "_law_near", "_law_near", defArgs s__law_near, defBody s__law_near, defScope s__law_near, [], []⟩
def d__law_numbers : He.DefD := ⟨("_law_numbers", none), "_law_numbers", "_law_numbers", defArgs s__law_numbers, defBody s__law_numbers, defScope s__law_numbers, [], []⟩
def d_law : He.DefD := ⟨("law", none), "law", "law", defArgs s_law, defBody s_law, defScope s_law, [], []⟩
def fn : List He.DefD := [d__law_kinds, d__law_before, d__law_placed, d__law_lowest, d__law_grain, d__law_line, d__law_piece, d__law_shape_row, d__law_row, d__law_book, d__law_find, d__law_same, d__law_difference, d_row_key, d_edit_key, d_find_row, d_has_row, d_kind_rows, d_put_into, d_apply_edit, d_apply_edits, d_book_difference, d_undo_edit, d__law_both, d__law_name, d__law_names, d__law_near, d__law_numbers, d_law]
def fa : List He.Fa := [.glo "_law_kinds", .glo "_law_before", .glo "_law_placed", .glo "_law_lowest", .glo "_law_grain", .glo "_law_line", .glo "_law_piece", .glo "_law_shape_row", .glo "_law_row", .glo "_law_book", .glo "_law_find", .glo "_law_same", .glo "_law_difference", .glo "row_key", .glo "edit_key", .glo "find_row", .glo "has_row", .glo "kind_rows", .glo "put_into", .glo "apply_edit", .glo "apply_edits", .glo "book_difference", .glo "undo_edit", .glo "_law_both", .glo "_law_name", .glo "_law_names", .glo "_law_near", .glo "_law_numbers", .glo "law", .free "abs", .free "bool", .free "int", .free "isinstance", .free "len", .free "min", .free "range", .free "sorted", .free "str", .free "tuple", .int "MOST_ROWS" (12)]
def loose0 : List Str := ["LoftError", "OutOfRange", "Unknown", "MOST_ROWS", "row_key", "kind_rows", "has_row", "find_row", "edit_key", "put_into", "apply_edit", "apply_edits", "book_difference", "undo_edit", "_law_numbers", "_law_name", "_law_lowest", "_law_grain", "_law_piece", "_law_line", "_law_names", "_law_row", "_law_shape_row", "_law_kinds", "_law_same", "_law_before", "_law_placed", "_law_book", "_law_find", "_law_difference"]
def loose1 : List Str := ["_law_near", "_law_both"]
def loose : List Str := loose0 ++ loose1
abbrev R : PySem.W.OpenRow := PySem.W.OpenLaw.row PySem.Challenge.rw_sailloft_k69_differences
abbrev hk : PySem.W.Hook := He.hookD 4 fa fn
def ob (s : PySem.W.SharedT) : He.AlD := He.obsDG 4 fa fn (HandSHeadRun.getT s)
theorem ob_eq (s : PySem.W.SharedT) : ob s = hk.obs s.abs := He.obsDG_eq (HandSHeadRun.getT_eq s)
theorem run (w : World) : HandSHeadRun.RunEq R (PySem.W.view R.prog [36]) hk ob 2000 loose w := by
  intro os
  kernel_rfl
theorem facts {P : Program} {w : World} {K : PySem.W.Frag} {h : Heap} {mg : Str → Option Value} {f : Addr} (X : K.In h) (G : h.Ns mainGlobals mg) (hfa : mg ("law" : Str) = some (.ref f)) (c : He.SaysD fa fn K) :
    ∃ fd : FuncData, (∀ (s : Shared) (v : Value), BindsTo s fd ⟨[v], []⟩ [("script", v)]) ∧ ∀ base : Heap, K.In base → base.Ns mainGlobals mg → FnOk P w K mg base CXa 15 f fd ["script"] (SpF K w mg f_law) := by
  have m_abs := He.free_ok X G (c.fact 29 (f := .free "abs") rfl)
  have m_bool := He.free_ok X G (c.fact 30 (f := .free "bool") rfl)
  have m_int := He.free_ok X G (c.fact 31 (f := .free "int") rfl)
  have m_isinstance := He.free_ok X G (c.fact 32 (f := .free "isinstance") rfl)
  have m_len := He.free_ok X G (c.fact 33 (f := .free "len") rfl)
  have m_min := He.free_ok X G (c.fact 34 (f := .free "min") rfl)
  have m_range := He.free_ok X G (c.fact 35 (f := .free "range") rfl)
  have m_sorted := He.free_ok X G (c.fact 36 (f := .free "sorted") rfl)
  have m_str := He.free_ok X G (c.fact 37 (f := .free "str") rfl)
  have m_tuple := He.free_ok X G (c.fact 38 (f := .free "tuple") rfl)
  have c_MOST_ROWS : Cst K w mg "MOST_ROWS" k_MOST_ROWS := cstI (He.int_ok X G (c.fact 39 (f := .int "MOST_ROWS" (12)) rfl))
  have g__law_kinds := He.glo_ok X G (c.fact 0 (f := .glo "_law_kinds") rfl)
  obtain ⟨fd__law_kinds, F__law_kinds⟩ := c.def_ 0 (d := d__law_kinds) rfl
  have b__law_kinds : Binds K fd__law_kinds P__law_kinds [] := F__law_kinds.bindsN fun _ _ _ _ _ _ us hl => match us, hl with | [], _ => rfl
  have g__law_before := He.glo_ok X G (c.fact 1 (f := .glo "_law_before") rfl)
  obtain ⟨fd__law_before, F__law_before⟩ := c.def_ 1 (d := d__law_before) rfl
  have b__law_before : Binds K fd__law_before P__law_before [] := F__law_before.bindsN fun _ _ _ _ _ _ us hl => match us, hl with | [_, _], _ => rfl
  have g__law_placed := He.glo_ok X G (c.fact 2 (f := .glo "_law_placed") rfl)
  obtain ⟨fd__law_placed, F__law_placed⟩ := c.def_ 2 (d := d__law_placed) rfl
  have b__law_placed : Binds K fd__law_placed P__law_placed [] := F__law_placed.bindsN fun _ _ _ _ _ _ us hl => match us, hl with | [_, _], _ => rfl
  have g__law_lowest := He.glo_ok X G (c.fact 3 (f := .glo "_law_lowest") rfl)
  obtain ⟨fd__law_lowest, F__law_lowest⟩ := c.def_ 3 (d := d__law_lowest) rfl
  have b__law_lowest : Binds K fd__law_lowest P__law_lowest [] := F__law_lowest.bindsN fun _ _ _ _ _ _ us hl => match us, hl with | [_, _], _ => rfl
  have g__law_grain := He.glo_ok X G (c.fact 4 (f := .glo "_law_grain") rfl)
  obtain ⟨fd__law_grain, F__law_grain⟩ := c.def_ 4 (d := d__law_grain) rfl
  have b__law_grain : Binds K fd__law_grain P__law_grain [] := F__law_grain.bindsN fun _ _ _ _ _ _ us hl => match us, hl with | [_, _], _ => rfl
  have g__law_line := He.glo_ok X G (c.fact 5 (f := .glo "_law_line") rfl)
  obtain ⟨fd__law_line, F__law_line⟩ := c.def_ 5 (d := d__law_line) rfl
  have b__law_line : Binds K fd__law_line P__law_line [] := F__law_line.bindsN fun _ _ _ _ _ _ us hl => match us, hl with | [_, _], _ => rfl
  have g__law_piece := He.glo_ok X G (c.fact 6 (f := .glo "_law_piece") rfl)
  obtain ⟨fd__law_piece, F__law_piece⟩ := c.def_ 6 (d := d__law_piece) rfl
  have b__law_piece : Binds K fd__law_piece P__law_piece [] := F__law_piece.bindsN fun _ _ _ _ _ _ us hl => match us, hl with | [_, _], _ => rfl
  have g__law_shape_row := He.glo_ok X G (c.fact 7 (f := .glo "_law_shape_row") rfl)
  obtain ⟨fd__law_shape_row, F__law_shape_row⟩ := c.def_ 7 (d := d__law_shape_row) rfl
  have b__law_shape_row : Binds K fd__law_shape_row P__law_shape_row [] := F__law_shape_row.bindsN fun _ _ _ _ _ _ us hl => match us, hl with | [_, _, _, _], _ => rfl
  have g__law_row := He.glo_ok X G (c.fact 8 (f := .glo "_law_row") rfl)
  obtain ⟨fd__law_row, F__law_row⟩ := c.def_ 8 (d := d__law_row) rfl
  have b__law_row : Binds K fd__law_row P__law_row [] := F__law_row.bindsN fun _ _ _ _ _ _ us hl => match us, hl with | [_, _, _, _], _ => rfl
  have g__law_book := He.glo_ok X G (c.fact 9 (f := .glo "_law_book") rfl)
  obtain ⟨fd__law_book, F__law_book⟩ := c.def_ 9 (d := d__law_book) rfl
  have b__law_book : Binds K fd__law_book P__law_book [] := F__law_book.bindsN fun _ _ _ _ _ _ us hl => match us, hl with | [_, _, _, _, _], _ => rfl
  have g__law_find := He.glo_ok X G (c.fact 10 (f := .glo "_law_find") rfl)
  obtain ⟨fd__law_find, F__law_find⟩ := c.def_ 10 (d := d__law_find) rfl
  have b__law_find : Binds K fd__law_find P__law_find [] := F__law_find.bindsN fun _ _ _ _ _ _ us hl => match us, hl with | [_, _], _ => rfl
  have g__law_same := He.glo_ok X G (c.fact 11 (f := .glo "_law_same") rfl)
  obtain ⟨fd__law_same, F__law_same⟩ := c.def_ 11 (d := d__law_same) rfl
  have b__law_same : Binds K fd__law_same P__law_same [] := F__law_same.bindsN fun _ _ _ _ _ _ us hl => match us, hl with | [_, _], _ => rfl
  have g__law_difference := He.glo_ok X G (c.fact 12 (f := .glo "_law_difference") rfl)
  obtain ⟨fd__law_difference, F__law_difference⟩ := c.def_ 12 (d := d__law_difference) rfl
  have b__law_difference : Binds K fd__law_difference P__law_difference [] := F__law_difference.bindsN fun _ _ _ _ _ _ us hl => match us, hl with | [_, _], _ => rfl
  have g_row_key := He.glo_ok X G (c.fact 13 (f := .glo "row_key") rfl)
  obtain ⟨fd_row_key, F_row_key⟩ := c.def_ 13 (d := d_row_key) rfl
  have b_row_key : Binds K fd_row_key P_row_key [] := F_row_key.bindsN fun _ _ _ _ _ _ us hl => match us, hl with | [_], _ => rfl
  have g_edit_key := He.glo_ok X G (c.fact 14 (f := .glo "edit_key") rfl)
  obtain ⟨fd_edit_key, F_edit_key⟩ := c.def_ 14 (d := d_edit_key) rfl
  have b_edit_key : Binds K fd_edit_key P_edit_key [] := F_edit_key.bindsN fun _ _ _ _ _ _ us hl => match us, hl with | [_], _ => rfl
  have g_find_row := He.glo_ok X G (c.fact 15 (f := .glo "find_row") rfl)
  obtain ⟨fd_find_row, F_find_row⟩ := c.def_ 15 (d := d_find_row) rfl
  have b_find_row : Binds K fd_find_row P_find_row [] := F_find_row.bindsN fun _ _ _ _ _ _ us hl => match us, hl with | [_, _, _], _ => rfl
  have g_has_row := He.glo_ok X G (c.fact 16 (f := .glo "has_row") rfl)
  obtain ⟨fd_has_row, F_has_row⟩ := c.def_ 16 (d := d_has_row) rfl
  have b_has_row : Binds K fd_has_row P_has_row [] := F_has_row.bindsN fun _ _ _ _ _ _ us hl => match us, hl with | [_, _, _], _ => rfl
  have g_kind_rows := He.glo_ok X G (c.fact 17 (f := .glo "kind_rows") rfl)
  obtain ⟨fd_kind_rows, F_kind_rows⟩ := c.def_ 17 (d := d_kind_rows) rfl
  have b_kind_rows : Binds K fd_kind_rows P_kind_rows [] := F_kind_rows.bindsN fun _ _ _ _ _ _ us hl => match us, hl with | [_, _], _ => rfl
  have g_put_into := He.glo_ok X G (c.fact 18 (f := .glo "put_into") rfl)
  obtain ⟨fd_put_into, F_put_into⟩ := c.def_ 18 (d := d_put_into) rfl
  have b_put_into : Binds K fd_put_into P_put_into [] := F_put_into.bindsN fun _ _ _ _ _ _ us hl => match us, hl with | [_, _], _ => rfl
  have g_apply_edit := He.glo_ok X G (c.fact 19 (f := .glo "apply_edit") rfl)
  obtain ⟨fd_apply_edit, F_apply_edit⟩ := c.def_ 19 (d := d_apply_edit) rfl
  have b_apply_edit : Binds K fd_apply_edit P_apply_edit [] := F_apply_edit.bindsN fun _ _ _ _ _ _ us hl => match us, hl with | [_, _], _ => rfl
  have g_apply_edits := He.glo_ok X G (c.fact 20 (f := .glo "apply_edits") rfl)
  obtain ⟨fd_apply_edits, F_apply_edits⟩ := c.def_ 20 (d := d_apply_edits) rfl
  have b_apply_edits : Binds K fd_apply_edits P_apply_edits [] := F_apply_edits.bindsN fun _ _ _ _ _ _ us hl => match us, hl with | [_, _], _ => rfl
  have g_book_difference := He.glo_ok X G (c.fact 21 (f := .glo "book_difference") rfl)
  obtain ⟨fd_book_difference, F_book_difference⟩ := c.def_ 21 (d := d_book_difference) rfl
  have b_book_difference : Binds K fd_book_difference P_book_difference [] := F_book_difference.bindsN fun _ _ _ _ _ _ us hl => match us, hl with | [_, _], _ => rfl
  have g_undo_edit := He.glo_ok X G (c.fact 22 (f := .glo "undo_edit") rfl)
  obtain ⟨fd_undo_edit, F_undo_edit⟩ := c.def_ 22 (d := d_undo_edit) rfl
  have b_undo_edit : Binds K fd_undo_edit P_undo_edit [] := F_undo_edit.bindsN fun _ _ _ _ _ _ us hl => match us, hl with | [_, _], _ => rfl
  have g__law_both := He.glo_ok X G (c.fact 23 (f := .glo "_law_both") rfl)
  obtain ⟨fd__law_both, F__law_both⟩ := c.def_ 23 (d := d__law_both) rfl
  have b__law_both : Binds K fd__law_both P__law_both [] := F__law_both.bindsN fun _ _ _ _ _ _ us hl => match us, hl with | [_, _], _ => rfl
  have g__law_name := He.glo_ok X G (c.fact 24 (f := .glo "_law_name") rfl)
  obtain ⟨fd__law_name, F__law_name⟩ := c.def_ 24 (d := d__law_name) rfl
  have b__law_name : Binds K fd__law_name P__law_name [] := F__law_name.bindsN fun _ _ _ _ _ _ us hl => match us, hl with | [_], _ => rfl
  have g__law_names := He.glo_ok X G (c.fact 25 (f := .glo "_law_names") rfl)
  obtain ⟨fd__law_names, F__law_names⟩ := c.def_ 25 (d := d__law_names) rfl
  have b__law_names : Binds K fd__law_names P__law_names [] := F__law_names.bindsN fun _ _ _ _ _ _ us hl => match us, hl with | [_], _ => rfl
  have g__law_near := He.glo_ok X G (c.fact 26 (f := .glo "_law_near") rfl)
  obtain ⟨fd__law_near, F__law_near⟩ := c.def_ 26 (d := d__law_near) rfl
  have b__law_near : Binds K fd__law_near P__law_near [] := F__law_near.bindsN fun _ _ _ _ _ _ us hl => match us, hl with | [_, _, _], _ => rfl
  have g__law_numbers := He.glo_ok X G (c.fact 27 (f := .glo "_law_numbers") rfl)
  obtain ⟨fd__law_numbers, F__law_numbers⟩ := c.def_ 27 (d := d__law_numbers) rfl
  have b__law_numbers : Binds K fd__law_numbers P__law_numbers [] := F__law_numbers.bindsN fun _ _ _ _ _ _ us hl => match us, hl with | [_, _], _ => rfl
  obtain ⟨fd, F⟩ := c.def_ 28 (d := d_law) rfl
  have e := hfa.symm.trans (He.glo_ok X G (c.fact 28 (f := .glo "law") rfl))
  cases e
  have b := FunD.bindsA (ps := ["script"]) F fun _ _ _ _ _ _ us hl => match us, hl with | [_], _ => rfl
  refine ⟨fd, fun s v => b s [v] rfl, fun base _ _ => toAny ?_⟩
  have h__law_kinds : Cal P w K mg base 1 "_law_kinds" f__law_kinds := ⟨_, _, _, ok__law_kinds  F__law_kinds, g__law_kinds, F__law_kinds.kp, b__law_kinds⟩
  have h__law_before : Cal P w K mg base 1 "_law_before" f__law_before := ⟨_, _, _, ok__law_before  F__law_before, g__law_before, F__law_before.kp, b__law_before⟩
  have h__law_placed : Cal P w K mg base 2 "_law_placed" f__law_placed := ⟨_, _, _, ok__law_placed h__law_before F__law_placed, g__law_placed, F__law_placed.kp, b__law_placed⟩
  have h__law_lowest : Cal P w K mg base 1 "_law_lowest" f__law_lowest := ⟨_, _, _, ok__law_lowest m_abs m_int m_range F__law_lowest, g__law_lowest, F__law_lowest.kp, b__law_lowest⟩
  have h__law_grain : Cal P w K mg base 2 "_law_grain" f__law_grain := ⟨_, _, _, ok__law_grain h__law_lowest F__law_grain, g__law_grain, F__law_grain.kp, b__law_grain⟩
  have h__law_line : Cal P w K mg base 1 "_law_line" f__law_line := ⟨_, _, _, ok__law_line  F__law_line, g__law_line, F__law_line.kp, b__law_line⟩
  have h__law_piece : Cal P w K mg base 2 "_law_piece" f__law_piece := ⟨_, _, _, ok__law_piece h__law_lowest F__law_piece, g__law_piece, F__law_piece.kp, b__law_piece⟩
  have h__law_shape_row : Cal P w K mg base 3 "_law_shape_row" f__law_shape_row := ⟨_, _, _, ok__law_shape_row h__law_grain h__law_line h__law_lowest h__law_piece m_range m_sorted m_tuple F__law_shape_row, g__law_shape_row, F__law_shape_row.kp, b__law_shape_row⟩
  have h__law_row : Cal P w K mg base 4 "_law_row" f__law_row := ⟨_, _, _, ok__law_row h__law_lowest h__law_shape_row m_min m_sorted m_tuple F__law_row, g__law_row, F__law_row.kp, b__law_row⟩
  have h__law_book : Cal P w K mg base 5 "_law_book" f__law_book := ⟨_, _, _, ok__law_book h__law_kinds h__law_placed h__law_row m_len m_range F__law_book, g__law_book, F__law_book.kp, b__law_book⟩
  have h__law_find : Cal P w K mg base 1 "_law_find" f__law_find := ⟨_, _, _, ok__law_find m_len F__law_find, g__law_find, F__law_find.kp, b__law_find⟩
  have h__law_same : Cal P w K mg base 12 "_law_same" f__law_same := ⟨_, _, _, ok__law_same m_bool m_int m_isinstance m_len m_range m_str m_tuple F__law_same g__law_same b__law_same 12, g__law_same, F__law_same.kp, b__law_same⟩
  have h__law_difference : Cal P w K mg base 13 "_law_difference" f__law_difference := ⟨_, _, _, ok__law_difference h__law_find h__law_same m_len m_tuple F__law_difference, g__law_difference, F__law_difference.kp, b__law_difference⟩
  have h_row_key : Cal P w K mg base 1 "row_key" f_row_key := ⟨_, _, _, ok_row_key  F_row_key, g_row_key, F_row_key.kp, b_row_key⟩
  have h_edit_key : Cal P w K mg base 2 "edit_key" f_edit_key := ⟨_, _, _, ok_edit_key h_row_key F_edit_key, g_edit_key, F_edit_key.kp, b_edit_key⟩
  have h_find_row : Cal P w K mg base 1 "find_row" f_find_row := ⟨_, _, _, ok_find_row  F_find_row, g_find_row, F_find_row.kp, b_find_row⟩
  have h_has_row : Cal P w K mg base 1 "has_row" f_has_row := ⟨_, _, _, ok_has_row  F_has_row, g_has_row, F_has_row.kp, b_has_row⟩
  have h_kind_rows : Cal P w K mg base 1 "kind_rows" f_kind_rows := ⟨_, _, _, ok_kind_rows m_tuple F_kind_rows, g_kind_rows, F_kind_rows.kp, b_kind_rows⟩
  have h_put_into : Cal P w K mg base 2 "put_into" f_put_into := ⟨_, _, _, ok_put_into h_row_key m_tuple F_put_into, g_put_into, F_put_into.kp, b_put_into⟩
  have h_apply_edit : Cal P w K mg base 3 "apply_edit" f_apply_edit := ⟨_, _, _, ok_apply_edit h_edit_key h_find_row h_has_row h_kind_rows h_put_into h_row_key m_len m_tuple c_MOST_ROWS F_apply_edit, g_apply_edit, F_apply_edit.kp, b_apply_edit⟩
  have h_apply_edits : Cal P w K mg base 4 "apply_edits" f_apply_edits := ⟨_, _, _, ok_apply_edits h_apply_edit F_apply_edits, g_apply_edits, F_apply_edits.kp, b_apply_edits⟩
  have h_book_difference : Cal P w K mg base 2 "book_difference" f_book_difference := ⟨_, _, _, ok_book_difference h_has_row m_tuple F_book_difference, g_book_difference, F_book_difference.kp, b_book_difference⟩
  have h_undo_edit : Cal P w K mg base 4 "undo_edit" f_undo_edit := ⟨_, _, _, ok_undo_edit h_apply_edit h_edit_key h_find_row h_has_row F_undo_edit, g_undo_edit, F_undo_edit.kp, b_undo_edit⟩
  have h__law_both : Cal P w K mg base 14 "_law_both" f__law_both := ⟨_, _, _, ok__law_both h__law_difference h__law_same h_apply_edit h_apply_edits h_book_difference h_undo_edit m_tuple F__law_both, g__law_both, F__law_both.kp, b__law_both⟩
  have h__law_name : Cal P w K mg base 1 "_law_name" f__law_name := ⟨_, _, _, ok__law_name  F__law_name, g__law_name, F__law_name.kp, b__law_name⟩
  have h__law_names : Cal P w K mg base 2 "_law_names" f__law_names := ⟨_, _, _, ok__law_names h__law_name m_range F__law_names, g__law_names, F__law_names.kp, b__law_names⟩
  have h__law_near : Cal P w K mg base 5 "_law_near" f__law_near := ⟨_, _, _, ok__law_near h__law_row m_len m_range F__law_near, g__law_near, F__law_near.kp, b__law_near⟩
  have h__law_numbers : Cal P w K mg base 1 "_law_numbers" f__law_numbers := ⟨_, _, _, ok__law_numbers m_int m_len m_range F__law_numbers, g__law_numbers, F__law_numbers.kp, b__law_numbers⟩
  exact ok_law h__law_book h__law_both h__law_names h__law_near h__law_numbers h__law_placed h_book_difference m_len m_tuple F
end K69
open PySem PySem.W PySem.Calls PyProof.Rows
theorem PySem.Challenge.cw_sailloft_k69_differences_holds : PySem.Challenge.rw_sailloft_k69_differences.Holds := by
  w_on; o_law
  refine HandSHeadRun.head_any (r := OpenLaw.row PySem.Challenge.rw_sailloft_k69_differences) (q := view (OpenLaw.row PySem.Challenge.rw_sailloft_k69_differences).prog [36]) (H := K69.hk) (ob := K69.ob) (M := 2000) (loose := K69.loose) (d := HandSHeadRun.topDef (OpenLaw.row PySem.Challenge.rw_sailloft_k69_differences).prog 36) (kwd := []) K69.ob_eq
    (by kernel_rfl) (fun s => by kernel_rfl) K69.run (by kernel_rfl) (by kernel_rfl) (by kernel_rfl) (by rfl) (by first | assumption | decide +kernel) (by decide +kernel) ⟨rfl, rfl, rfl, rfl, rfl, by decide +kernel⟩ ?hw ?hc
  case hw => w_witness2
  case hc =>
    refine L2.walk_ofE (l := PySem.Challenge.rw_sailloft_k69_differences) (n := 63) (k := 15) (x := "script") (CX := DL.CXa) rfl (by decide) (by kernel_rfl) ⟨rfl, by decide, by decide⟩ ?F DL.CXa_no
    intro w mg fa h Y G hmg0
    obtain ⟨K, KX, c⟩ := Y
    have hmg : mg ("law" : PySem.Str) = some (.ref fa) := by
      have e : (HandSHeadRun.topDef (OpenLaw.row PySem.Challenge.rw_sailloft_k69_differences).prog 36).name = ("law" : PySem.Str) := by kernel_rfl
      rw [← e]
      exact hmg0
    obtain ⟨fd, hb, hF⟩ := K69.facts (P := (PySem.Challenge.rw_sailloft_k69_differences).prog) (w := w) KX G hmg c
    exact ⟨K, fd, _, KX, hb, fun H a ns hl _ hS => DL.spTrue (K69.plain ns hl) hS, hF⟩
